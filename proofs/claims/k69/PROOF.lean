import PyProof.Rows.All
import PySem.Builtin.Int.W1All
import HandS.ForMost
import HandS.ForExc
import HandS.ExcCtx
import HandS.CallSlots
import HandS.Wide
import HandS.Gcd
import HandS.IsInst
import HandS.TupAny
import HandS.Rev
import HandS.Zip
import HandS.OwnEq
import HandS.ExcInit
import PyProof.InstNe
import KE.KRevSl
import HandS.RevTup
import PyProof.ListRange
import HandS.NoneIn
import KE.GoesEnum
import HandS.Small
import HandS.More
import HandS.Flow
import HandS.Style
import HandS.Defaults
import HandS.Head0
import HandS.Head1
import HandS.Head2
import HandS.HeadEnd
import HandS.HeadHook1
import HandS.HeadHook2
import HandS.Head3
import PySem.Challenge.RW_nextprices_k69_whole_half_of_the_seer
set_option Elab.async false
set_option linter.all false
section
set_option Elab.async false
set_option linter.all false
/-! RfA: data, owned trees, a small syntax, its meaning. No machine here. -/
namespace RF

/-- a value that never changes any more -/
inductive D where
  | non | bl (b : Bool) | int (i : Int) | str (x : PySem.Str)
  | tup (xs : List D) | lst (xs : List D) | scr (xs : List D)
  | obj (c : Nat) (fs : List D)
  | dic (ks vs : List D)
  deriving Inhabited

/-- what one name alone holds and may change -/
inductive O where
  | lf (x : D)
  | lst (os : List O)
  | dic (ks : List D) (os : List O)
  | obj (c : Nat) (os : List O)
  deriving Inhabited

mutual
def O.frz : O → D
  | .lf x => x
  | .lst os => .lst (O.frzs os)
  | .dic ks os => .dic ks (O.frzs os)
  | .obj c os => .obj c (O.frzs os)
def O.frzs : List O → List D
  | [] => []
  | o :: os => o.frz :: O.frzs os
end

/-- a slot: nothing known, a frozen value, an owned tree (k: 0, or one more than the parameter's number that it came by) -/
inductive S where
  | un | sh (d : D) | ow (k : Nat) (o : O)
  deriving Inhabited
abbrev Env := List S
def Env.at (ρ : Env) (i : Nat) : S := ρ.getD i .un

inductive R (α : Type) where
  | ok (a : α) | exc (c : Nat) (es : List D) (ρ : Env) | bad
  deriving Inhabited
def R.bind {α β : Type} : R α → (α → R β) → R β
  | .ok a, f => f a
  | .exc c es ρ, _ => .exc c es ρ
  | .bad, _ => .bad

/-- an argument, as it is handed in and as it comes back -/
inductive A where
  | sh (d : D) | ow (o : O) | un
  deriving Inhabited
inductive FR where
  | ok (d : D) (outs : List A) | okN (o : O) (outs : List A) | exc (c : Nat) (es : List D) (outs : List A) | bad
  deriving Inhabited

inductive Bop where | add | sub | mul | fdiv | mod | pow | shl | shr | band | bor | bxor
  deriving DecidableEq, Inhabited
inductive Cop where | eq | ne | lt | le | gt | ge | is | isnot
  deriving DecidableEq, Inhabited
/-- a class: a built-in one by its number (0 int, 1 bool, 2 str, 3 list, 4 tuple, 5 dict), or an own one -/
inductive Cl where | ty (n : Nat) | own (c : Nat)
  deriving DecidableEq, Inhabited
inductive Bi where | len | int | abs | sum | max | min | all | any | tuple | sorted | str | gcd
  deriving DecidableEq, Inhabited
inductive Tg where | nm (i : Nat) | tp (is : List Nat)
  deriving DecidableEq, Inhabited

mutual
inductive Px where
  | pk (i : Nat) | sub (p : Px) (i : Ex) | fld (p : Px) (f : Nat) | ex (e : Ex)
inductive Ex where
  | var (i : Nat) | cst (d : D) | glb (g : Nat)
  | bin (op : Bop) (a b : Ex) | neg (a : Ex) | cmp (op : Cop) (a b : Ex) | isin (ng : Bool) (a : Ex) (b : Px) | chn (o1 o2 : Cop) (a b c : Ex)
  | tst (t : Te) | ite (t : Te) (a b : Ex)
  | tup (as : Exs) | new (n : Nx) | rd (p : Px) | slc (p : Px) (lo hi : Ox) | srev (p : Px) (st : Ox) | idx (a i : Ex)
  | call (f n : Nat) (as : As) | make (c n : Nat) (as : As) | meth (o : Ex) (m n : Nat) (as : As)
  | bi (b : Bi) (as : Pxs) | isi (a : Ex) (cs : List Cl) | nope | andE (a b : Ex) | orE (a b : Ex) | notE (p : Px)
inductive Nx where
  | lst (as : Exs) | dsp (ks : List D) (vs : Exs) | comp (elt : Ex) (tg : Tg) (it : It) (cs : Tes) (own : List Nat)
  | comN (elt : Nx) (tg : Tg) (it : It) (cs : Tes) (own : List Nat) | lof (p : Px) | rep (e : Ex) (n : Ex) | lrev (p : Px) | call (f n : Nat) (as : As) | mv (i : Nat)
inductive Te where
  | val (p : Px) | not (t : Te) | and (a b : Te) | or (a b : Te)
inductive Tes where | nil | cons (t : Te) (r : Tes)
inductive Exs where | nil | cons (e : Ex) (r : Exs)
inductive Pxs where | nil | cons (e : Px) (r : Pxs)
inductive As where | nil | sh (e : Ex) (r : As) | io (i : Nat) (r : As)
inductive Ox where | none | some (e : Ex)
inductive It where
  | seq (p : Px) | rng1 (a : Ex) | rng2 (a b : Ex) | rng3 (a b c : Ex) | enum (p : Px) | zip (p q : Px) | rev (p : Px)
end

mutual
inductive Sm where
  | set (i : Nat) (e : Ex) | own (i : Nat) (n : Nx) | unp (is : List Nat) (e : Ex) | aug (i : Nat) (op : Bop) (e : Ex)
  | put (p : Px) (i : Ex) (e : Ex) | sfl (x : Nat) (f : Nat) (e : Ex) | app (p : Px) (e : Ex) | ins (p : Px) (i e : Ex)
  | exp (e : Ex) | ret (e : Ex) | pass | brk | cnt
  | ite (t : Te) (a b : Sms) | for_ (tg : Tg) (it : It) (b : Sms) | whl (t : Te) (b : Sms)
  | rais (c : Nat) (as : Exs) | try_ (b : Sms) (hs : Hds) | nope | retN (n : Nx)
inductive Sms where | nil | cons (s : Sm) (r : Sms)
/-- except clauses: the classes, the name's slot, the suite -/
inductive Hds where | nil | cons (cs : List Nat) (i : Option Nat) (b : Sms) (r : Hds)
end

/-! ### small parts of the meaning -/
def lim : Nat := 16777216
structure Tb where
  meth : Nat → Nat → Option Nat
  init : Nat → Option Nat
  fld : Nat → List Nat
  dfl : Nat → List D
  glb : Nat → Option D
  sub : Nat → Nat → Bool
abbrev Fn := Nat → List A → FR
abbrev mEq : Nat := 0
abbrev mAdd : Nat := 1
abbrev mSub : Nat := 2
abbrev mMul : Nat := 3
abbrev mLen : Nat := 4
abbrev mCon : Nat := 5

def O.leafs : List O → Option (List D)
  | [] => some []
  | .lf x :: r => (O.leafs r).map (x :: ·)
  | _ :: _ => none
/-- the items of a list that holds leaves -/
def O.list? : O → Option (List D)
  | .lst os => O.leafs os
  | .lf (.lst ds) => some ds
  | .lf (.scr ds) => some ds
  | _ => none
def O.tup? : O → Option (List D)
  | .lf (.tup ds) => some ds
  | _ => none
def intL : List D → Option (List Int)
  | [] => some []
  | .int i :: r => (intL r).map (i :: ·)
  | _ :: _ => none
def boolL : List D → Option (List Bool)
  | [] => some []
  | .bl i :: r => (boolL r).map (i :: ·)
  | _ :: _ => none
def ix (n : Nat) (i : Int) : Option Nat := if 0 ≤ i then (if i < n then some i.toNat else none) else if -(n : Int) ≤ i then some (i + n).toNat else none
def getAt {α : Type} (xs : List α) (i : Int) : Option α := (ix xs.length i).bind fun j => xs[j]?
/-- keys of a dict -/
def keyEq : D → D → Bool
  | .int a, .int b => decide (a = b)
  | .str a, .str b => decide (a = b)
  | _, _ => false
def isKey : D → Bool
  | .int _ => true
  | .str _ => true
  | _ => false
def look {α : Type} : List D → List α → D → Option α
  | k :: ks, v :: vs, x => if keyEq k x then some v else look ks vs x
  | _, _, _ => none
def store : List D → List O → D → O → List D × List O
  | k :: ks, v :: vs, x, y => if keyEq k x then (k :: ks, y :: vs) else ((k :: (store ks vs x y).1), (v :: (store ks vs x y).2))
  | _, _, x, y => ([x], [y])
def idxO : O → D → Option O
  | .lst os, .int i => getAt os i
  | .lf (.lst ds), .int i => (getAt ds i).map .lf
  | .lf (.scr ds), .int i => (getAt ds i).map .lf
  | .lf (.tup ds), .int i => (getAt ds i).map .lf
  | .lf (.str x), .int i => if x.length ≤ lim then (getAt x.cps.toList i).map fun c => .lf (.str ⟨#[c]⟩) else none
  | .dic ks os, k => look ks os k
  | .lf (.dic ks ds), k => (look ks ds k).map .lf
  | _, _ => none
def place : List Nat → Nat → Option Nat
  | [], _ => none
  | g :: r, f => if g = f then some 0 else (place r f).map (· + 1)
def fldO (T : Tb) : O → Nat → Option O
  | .obj c os, f => (place (T.fld c) f).bind fun j => os[j]?
  | .lf (.obj c ds), f => (place (T.fld c) f).bind fun j => (ds[j]?).map .lf
  | _, _ => none
def sIx (n d : Nat) : Option Int → Nat
  | none => d
  | some v => if v < 0 then (v + (n : Int)).toNat else min v.toNat n
def cut {α : Type} (xs : List α) (lo hi : Option Int) : List α := (xs.drop (sIx xs.length 0 lo)).take (sIx xs.length xs.length hi - sIx xs.length 0 lo)
def slcO (o : O) (lo hi : Option Int) : Option D :=
  match o.list? with
  | some ds => some (.lst (cut ds lo hi))
  | none => match o with
    | .lf (.tup ds) => some (.tup (cut ds lo hi))
    | .lf (.str x) => if x.length ≤ lim then some (.str ⟨(cut x.cps.toList lo hi).toArray⟩) else none
    | _ => none
mutual
def D.beq : D → D → Bool
  | .non, .non => true
  | .bl a, .bl b => a == b
  | .int a, .int b => decide (a = b)
  | .str a, .str b => decide (a = b)
  | .tup a, .tup b => D.beqs a b
  | .lst a, .lst b => D.beqs a b
  | .scr a, .scr b => D.beqs a b
  | .obj c a, .obj d b => decide (c = d) && D.beqs a b
  | .dic a x, .dic b y => D.beqs a b && D.beqs x y
  | _, _ => false
def D.beqs : List D → List D → Bool
  | [], [] => true
  | a :: x, b :: y => a.beq b && D.beqs x y
  | _, _ => false
end
mutual
/-- how deep lists and tuples lie within one another -/
def D.dep : D → Nat
  | .tup xs => D.deps xs + 1
  | .lst xs => D.deps xs + 1
  | _ => 0
def D.deps : List D → Nat
  | [] => 0
  | x :: xs => max x.dep (D.deps xs)
end
/-- == of scalars -/
def eqS : D → D → Option Bool
  | .non, .non => some true | .non, .int _ => some false | .int _, .non => some false | .non, .bl _ => some false | .bl _, .non => some false
  | .non, .str _ => some false | .str _, .non => some false
  | .int a, .int b => some (decide (a = b)) | .bl a, .bl b => some (decide (a = b)) | .str a, .str b => some (decide (a = b))
  | .int _, .str _ => some false | .str _, .int _ => some false | .bl _, .str _ => some false | .str _, .bl _ => some false
  | _, _ => none
mutual
/-- == inside a container: the same object is equal to itself -/
def eqD (T : Tb) (Φ : Fn) : D → D → Option Bool
  | .tup xs, .tup ys => eqDs T Φ xs ys
  | .lst xs, .lst ys => if xs.length = ys.length then eqDs T Φ xs ys else some false
  | .obj c fs, y => match T.meth c mEq with
    | some f => match Φ f [.sh (.obj c fs), .sh y] with
      | .ok (.bl b) _ => if b || !(D.beq (.obj c fs) y) then some b else none
      | _ => none
    | none => none
  | x, y => eqS x y
def eqDs (T : Tb) (Φ : Fn) : List D → List D → Option Bool
  | [], [] => some true
  | x :: xs, y :: ys => match eqD T Φ x y with
    | some true => eqDs T Φ xs ys
    | some false => some false
    | none => none
  | _, _ => some false
end
def eqT (T : Tb) (Φ : Fn) (x y : D) : Option Bool := if x.dep ≤ 8 then eqD T Φ x y else none
def binI : Bop → Int → Int → Option D
  | .add, a, b => some (.int (a + b))
  | .sub, a, b => some (.int (a - b))
  | .mul, a, b => if a.natAbs.log2 + b.natAbs.log2 < 100000000 then some (.int (a * b)) else none
  | .fdiv, a, b => if b ≠ 0 ∧ b.natAbs.log2 < 9000 then some (.int (a.fdiv b)) else none
  | .mod, a, b => if b ≠ 0 then some (.int (a.fmod b)) else none
  | .pow, a, b => if 0 ≤ b ∧ b ≤ 1000000 ∧ a.natAbs < 2 ^ 64 then some (.int (a ^ b.toNat)) else none
  | .shl, a, b => if 0 ≤ b ∧ b ≤ 1000000 ∧ a.natAbs < 2 ^ 64 then some (.int (a * 2 ^ b.toNat)) else none
  | .shr, a, b => if 0 ≤ b then some (.int (a / 2 ^ b.toNat)) else none
  | .band, a, b => some (.int (PySem.Builtin.bitAnd a b))
  | .bor, a, b => some (.int (PySem.Builtin.bitOr a b))
  | .bxor, a, b => some (.int (PySem.Builtin.bitXor a b))
def mOf : Bop → Option Nat
  | .add => some mAdd | .sub => some mSub | .mul => some mMul | _ => none
/-- the outs of a call of frozen arguments are of no use -/
def callS (Φ : Fn) (f : Nat) (xs : List D) (ρ : Env) : R (D × Env) :=
  match Φ f (xs.map .sh) with
  | .ok d _ => .ok (d, ρ)
  | .okN _ _ => .bad
  | .exc c es _ => .exc c es ρ
  | .bad => .bad
def binD (T : Tb) (Φ : Fn) (op : Bop) (x y : D) (ρ : Env) : R (D × Env) :=
  match x, y with
  | .int a, .int b => match binI op a b with
    | some d => .ok (d, ρ)
    | none => .bad
  | .str a, .str b => if op = .add ∧ a.length + b.length ≤ lim then .ok (.str (a ++ b), ρ) else .bad
  | .tup a, .tup b => if op = .add ∧ a.length + b.length ≤ lim then .ok (.tup (a ++ b), ρ) else .bad
  | .lst a, .lst b => if op = .add ∧ a.length + b.length ≤ lim then .ok (.lst (a ++ b), ρ) else .bad
  | .obj c fs, .obj c' gs => if c = c' then match (mOf op).bind (T.meth c) with
    | some f => callS Φ f [.obj c fs, .obj c' gs] ρ
    | none => .bad else .bad
  | _, _ => .bad
def ltI : List Int → List Int → Bool
  | [], [] => false
  | [], _ :: _ => true
  | _ :: _, [] => false
  | a :: x, b :: y => if a = b then ltI x y else decide (a < b)
def cmpI : Cop → Int → Int → Option Bool
  | .eq, a, b => some (decide (a = b)) | .ne, a, b => some (!decide (a = b))
  | .lt, a, b => some (decide (a < b)) | .le, a, b => some (decide (a ≤ b)) | .gt, a, b => some (decide (b < a)) | .ge, a, b => some (decide (b ≤ a))
  | _, _, _ => none
def cmpN (op : Cop) (x y : D) (ρ : Env) : R (D × Env) :=
  match x, y with
  | .int a, .int b => match cmpI op a b with
    | some r => .ok (.bl r, ρ)
    | none => .bad
  | _, _ => .bad
def isNon : D → Bool | .non => true | _ => false
def cmpD (T : Tb) (Φ : Fn) (op : Cop) (x y : D) (ρ : Env) : R (D × Env) :=
  match op with
  | .is => match y with
    | .non => .ok (.bl (isNon x), ρ)
    | _ => .bad
  | .isnot => match y with
    | .non => .ok (.bl (!isNon x), ρ)
    | _ => .bad
  | .eq => match x with
    | .obj c fs => match T.meth c mEq with
      | some f => callS Φ f [.obj c fs, y] ρ
      | none => .bad
    | _ => match eqT T Φ x y with
      | some b => .ok (.bl b, ρ)
      | none => .bad
  | .ne => match x with
    | .obj c fs => match T.meth c mEq with
      | some f => (callS Φ f [.obj c fs, y] ρ).bind fun r => match r.1 with
        | .bl b => .ok (.bl (!b), r.2)
        | _ => .bad
      | none => .bad
    | _ => match eqS x y with
      | some b => .ok (.bl (!b), ρ)
      | none => .bad
  | _ => cmpN op x y ρ
def flatD : D → Bool
  | .non => true | .bl _ => true | .int _ => true | .str _ => true | _ => false
def eqF : D → D → Bool
  | .non, .non => true
  | .bl a, .bl b => a == b
  | .bl a, .int b => (if a then 1 else 0) == b
  | .int a, .bl b => a == (if b then 1 else 0)
  | .int a, .int b => a == b
  | .str a, .str b => a == b
  | _, _ => false
/-- flat, or a list or tuple (which no flat thing equals) -/
def semiD : D → Bool
  | .tup _ => true | .lst _ => true | d => flatD d
/-- x in a list or tuple of flat things -/
def inD (x : D) (ys : List D) : Option Bool := if flatD x && ys.all semiD then some (ys.any fun y => eqF y x) else none
def truO : O → Option Bool
  | .lf .non => some false
  | .lf (.bl b) => some b
  | .lf (.int i) => some (i != 0)
  | .lf (.str x) => if x.length ≤ lim then some (x.length != 0) else none
  | .lf (.tup ds) => some (!ds.isEmpty)
  | .lf (.lst ds) => some (!ds.isEmpty)
  | .lf (.scr ds) => some (!ds.isEmpty)
  | .lst os => some (!os.isEmpty)
  | _ => none
def lenO : O → Option Nat
  | .lst os => some os.length
  | .dic ks _ => some ks.length
  | .lf (.lst ds) => some ds.length
  | .lf (.scr ds) => some ds.length
  | .lf (.tup ds) => some ds.length
  | .lf (.dic ks _) => some ks.length
  | .lf (.str x) => if x.length ≤ lim then some x.length else none
  | _ => none
def maxOf : Int → List Int → Int
  | m, [] => m
  | m, x :: r => maxOf (if x > m then x else m) r
def minOf : Int → List Int → Int
  | m, [] => m
  | m, x :: r => minOf (if x < m then x else m) r
def isSorted : List Int → Bool
  | a :: b :: r => decide (a ≤ b) && isSorted (b :: r)
  | _ => true
/-- the kind of a value, and which built-in classes it belongs to -/
def kindD : D → Nat
  | .non => 0 | .int _ => 1 | .bl _ => 2 | .str _ => 3 | .lst _ => 4 | .scr _ => 4 | .tup _ => 5 | .dic _ _ => 6 | .obj _ _ => 7
def instT : Nat → Nat → Bool
  | 1, 0 => true | 2, 0 => true | 2, 1 => true | 3, 2 => true | 4, 3 => true | 5, 4 => true | 6, _ + 5 => true
  | _, _ => false
def inst (T : Tb) (x : D) : Cl → Bool
  | .own c => match x with
    | .obj c' _ => T.sub c' c
    | _ => false
  | .ty n => instT (kindD x) n
def intLO (o : O) : Option (List Int) := o.list?.bind intL
def biD (b : Bi) (os : List O) : Option D :=
  match b, os with
  | .len, [o] => (lenO o).map fun n => .int (n : Nat)
  | .int, [.lf (.int i)] => some (.int i)
  | .int, [.lf (.bl k)] => some (.int (if k then 1 else 0))
  | .abs, [.lf (.int i)] => some (.int (if i < 0 then -i else i))
  | .sum, [o] => (intLO o).map fun ns => .int ns.sum
  | .max, [o] => match intLO o with
    | some (n :: ns) => some (.int (maxOf n ns))
    | _ => none
  | .min, [o] => match intLO o with
    | some (n :: ns) => some (.int (minOf n ns))
    | _ => none
  | .max, [.lf (.int i), .lf (.int j)] => some (.int (if j > i then j else i))
  | .min, [.lf (.int i), .lf (.int j)] => some (.int (if j < i then j else i))
  | .all, [o] => (o.list?.bind boolL).map fun bs => .bl (bs.all id)
  | .any, [o] => (o.list?.bind boolL).map fun bs => .bl (bs.any id)
  | .tuple, [o] => match o.list? with
    | some ds => some (.tup ds)
    | none => o.tup?.map .tup
  | .gcd, [.lf (.int i), .lf (.int j)] => some (.int ((Nat.gcd i.natAbs j.natAbs : Nat) : Int))
  | _, _ => none
/-- the length of an own object by its __len__ -/
def biE (T : Tb) (Φ : Fn) (b : Bi) (os : List O) (ρ : Env) : R (D × Env) :=
  match b, os with
  | .len, [.lf (.obj c fs)] => match T.meth c mLen with
    | some f => (callS Φ f [.obj c fs] ρ).bind fun r => match r.1 with
      | .int n => if 0 ≤ n ∧ n < 2 ^ 63 then .ok r else .bad
      | _ => .bad
    | none => .bad
  | _, _ => match biD b os with
    | some d => .ok (d, ρ)
    | none => .bad

/-! ### arguments -/
/-- an argument with its slot and tag, if the slot lends it -/
inductive V1 where
  | sh (d : D) | io (i k : Nat) (o : O)
def V1.a : V1 → A
  | .sh d => .sh d
  | .io _ _ o => .ow o
def back : List V1 → List A → Env → Env
  | .io i k _ :: r, .ow o :: s, ρ => back r s (ρ.set i (.ow k o))
  | _ :: r, _ :: s, ρ => back r s ρ
  | _, _, ρ => ρ
def pad (T : Tb) (f n : Nat) (xs : List A) : List A := xs ++ ((T.dfl f).drop ((T.dfl f).length + xs.length - n)).map .sh
/-- n: the number of the parameters -/
def callE (T : Tb) (Φ : Fn) (f n : Nat) (xs : List V1) (ρ : Env) : R (D × Env) :=
  if (pad T f n (xs.map V1.a)).length = n then
    match Φ f (pad T f n (xs.map V1.a)) with
    | .ok d outs => .ok (d, back xs outs ρ)
    | .okN _ _ => .bad
    | .exc c es outs => .exc c es (back xs outs ρ)
    | .bad => .bad
  else .bad
/-- the same where the result is the caller's own -/
def callNE (T : Tb) (Φ : Fn) (f n : Nat) (xs : List V1) (ρ : Env) : R (O × Env) :=
  if (pad T f n (xs.map V1.a)).length = n then
    match Φ f (pad T f n (xs.map V1.a)) with
    | .ok d outs => .ok (.lf d, back xs outs ρ)
    | .okN o outs => .ok (o, back xs outs ρ)
    | .exc c es outs => .exc c es (back xs outs ρ)
    | .bad => .bad
  else .bad
def makeE (T : Tb) (Φ : Fn) (c n : Nat) (xs : List V1) (ρ : Env) : R (D × Env) :=
  match T.init c with
  | none => .bad
  | some f => if (pad T f n (.ow (.obj c []) :: xs.map V1.a)).length = n then
      match Φ f (pad T f n (.ow (.obj c []) :: xs.map V1.a)) with
      | .ok .non (.ow o :: outs) => .ok (o.frz, back xs outs ρ)
      | .exc c es (_ :: outs) => .exc c es (back xs outs ρ)
      | _ => .bad
    else .bad

/-! ### targets -/
def setAll : List Nat → List D → Env → Option Env
  | [], [], ρ => some ρ
  | i :: is, d :: ds, ρ => setAll is ds (ρ.set i (.sh d))
  | _, _, _ => none
def bindT (tg : Tg) (d : D) (ρ : Env) : R Env :=
  match tg with
  | .nm i => .ok (ρ.set i (.sh d))
  | .tp is => match d with
    | .tup ds => match setAll is ds ρ with
      | some ρ' => .ok ρ'
      | none => .bad
    | .lst ds => match setAll is ds ρ with
      | some ρ' => .ok ρ'
      | none => .bad
    | _ => .bad
/-- forget slots -/
def wipe (ρ : Env) : List Nat → Env
  | [] => ρ
  | i :: is => (wipe ρ is).set i .un
/-- put slots back as they were -/
def unwipe (ρ ρ0 : Env) : List Nat → Env
  | [] => ρ
  | i :: is => (unwipe ρ ρ0 is).set i (ρ0.at i)
def O.seq? (o : O) : Option (List D) := match o.list? with
  | some ds => some ds
  | none => o.tup?
def rngI (lo c : Int) (n : Nat) : List D := (List.range n).map fun k => .int (lo + (k : Nat) * c)
def zipD : List D → List D → List D
  | a :: x, b :: y => .tup [a, b] :: zipD x y
  | _, _ => []
def enumD : Nat → List D → List D
  | _, [] => []
  | k, a :: x => .tup [.int (k : Nat), a] :: enumD (k + 1) x
def loopC (turn : D → Env → R (Option O × Env)) : List D → List O → Env → R (List O × Env)
  | [], acc, ρ => .ok (acc, ρ)
  | d :: ds, acc, ρ => (turn d ρ).bind fun r => match r.1 with
    | some o => if acc.length < lim then loopC turn ds (acc ++ [o]) r.2 else .bad
    | none => loopC turn ds acc r.2
def small (i : Int) : Bool := decide (-(2 ^ 62) ≤ i ∧ i < 2 ^ 62)
/-- the slots out of reach while o, found at p, is walked -/
def lockOf (o : O) (p : Px) : Option (List Nat) :=
  match o with
  | .lf _ => some []
  | _ => match p with
    | .pk i => some [i]
    | _ => none
end RF
end

section
set_option Elab.async false
set_option linter.all false
/-! RfB: the meaning of expressions, statements, defs. -/
namespace RF
def R.calm {α : Type} : R α → R α
  | .ok a => .ok a
  | _ => .bad
def freeze (ρ : Env) (i : Nat) : R (D × Env) :=
  match ρ.at i with
  | .sh d => .ok (d, ρ)
  | .ow _ o => .ok (o.frz, ρ.set i (.sh o.frz))
  | .un => .bad
def two (x : D) (y : D) : Option (Int × Int) := match x, y with
  | .int a, .int b => if small a && small b then some (a, b) else none
  | _, _ => none

def zip2 (o u : O) : Option (List D) :=
  match o.list?, u.list? with
  | some ds, some es => some (zipD ds es)
  | _, _ => match o.tup?, u.tup? with
    | some ds, some es => some (zipD ds es)
    | _, _ => none

mutual
def evX (T : Tb) (Φ : Fn) : Px → Env → R (O × Env)
  | .pk i, ρ => match ρ.at i with
    | .sh d => .ok (.lf d, ρ)
    | .ow _ o => .ok (o, ρ)
    | .un => .bad
  | .sub p e, ρ => (evX T Φ p ρ).bind fun r => (evE T Φ e r.2).bind fun s => match idxO r.1 s.1 with
    | some o => .ok (o, s.2)
    | none => .bad
  | .fld p f, ρ => (evX T Φ p ρ).bind fun r => match fldO T r.1 f with
    | some o => .ok (o, r.2)
    | none => .bad
  | .ex e, ρ => (evE T Φ e ρ).bind fun r => .ok (.lf r.1, r.2)
def evE (T : Tb) (Φ : Fn) : Ex → Env → R (D × Env)
  | .var i, ρ => freeze ρ i
  | .cst d, ρ => .ok (d, ρ)
  | .glb g, ρ => match T.glb g with
    | some d => .ok (d, ρ)
    | none => .bad
  | .bin op a b, ρ => (evE T Φ a ρ).bind fun r => (evE T Φ b r.2).bind fun s => binD T Φ op r.1 s.1 s.2
  | .neg a, ρ => (evE T Φ a ρ).bind fun r => match r.1 with
    | .int i => .ok (.int (-i), r.2)
    | _ => .bad
  | .cmp op a b, ρ => (evE T Φ a ρ).bind fun r => (evE T Φ b r.2).bind fun s => cmpD T Φ op r.1 s.1 s.2
  | .isin ng a b, ρ => (evE T Φ a ρ).bind fun r => (evX T Φ b r.2).bind fun s => match s.1.seq?.bind (inD r.1) with
    | some k => .ok (.bl (if ng then !k else k), s.2)
    | none => .bad
  | .chn o1 o2 a b c, ρ => (evE T Φ a ρ).bind fun r => (evE T Φ b r.2).bind fun s => (cmpD T Φ o1 r.1 s.1 s.2).bind fun t => match t.1 with
    | .bl true => (evE T Φ c t.2).bind fun u => cmpD T Φ o2 s.1 u.1 u.2
    | .bl false => .ok (.bl false, t.2)
    | _ => .bad
  | .tst t, ρ => (evT T Φ t ρ).bind fun r => .ok (.bl r.1, r.2)
  | .ite t a b, ρ => (evT T Φ t ρ).bind fun r => if r.1 then evE T Φ a r.2 else evE T Φ b r.2
  | .tup as, ρ => (evEs T Φ as ρ).bind fun r => if r.1.length ≤ lim then .ok (.tup r.1, r.2) else .bad
  | .new n, ρ => (evN T Φ n ρ).bind fun r => .ok (r.1.frz, r.2)
  | .rd p, ρ => (evX T Φ p ρ).bind fun r => match r.1 with
    | .lf d => .ok (d, r.2)
    | _ => .bad
  | .slc p lo hi, ρ => (evX T Φ p ρ).bind fun r => (evO T Φ lo r.2).bind fun s => (evO T Φ hi s.2).bind fun t => match slcO r.1 s.1 t.1 with
    | some d => .ok (d, t.2)
    | none => .bad
  | .idx a i, ρ => (evE T Φ a ρ).bind fun r => (evE T Φ i r.2).bind fun s => match idxO (.lf r.1) s.1 with
    | some (.lf d) => .ok (d, s.2)
    | _ => .bad
  | .srev p st, ρ => (evX T Φ p ρ).bind fun r => (evO T Φ st r.2).bind fun s => if s.1 = some (-1) then match r.1.list? with
    | some ds => .ok (.lst ds.reverse, s.2)
    | none => .bad else .bad
  | .call f n as, ρ => (evAs T Φ as ρ).bind fun r => callE T Φ f n r.1 r.2
  | .make c n as, ρ => (evAs T Φ as ρ).bind fun r => makeE T Φ c n r.1 r.2
  | .meth o m n as, ρ => (evE T Φ o ρ).bind fun r => match r.1 with
    | .obj c fs => match T.meth c m with
      | some f => (evAs T Φ as r.2).bind fun s => callE T Φ f n (.sh (.obj c fs) :: s.1) s.2
      | none => .bad
    | _ => .bad
  | .bi b as, ρ => (evPs T Φ as ρ).bind fun r => biE T Φ b r.1 r.2
  | .nope, _ => .bad
  | .andE a b, ρ => (evE T Φ a ρ).bind fun r => match truO (.lf r.1) with
    | some true => evE T Φ b r.2
    | some false => .ok r
    | none => .bad
  | .orE a b, ρ => (evE T Φ a ρ).bind fun r => match truO (.lf r.1) with
    | some true => .ok r
    | some false => evE T Φ b r.2
    | none => .bad
  | .notE p, ρ => (evX T Φ p ρ).bind fun r => match truO r.1 with
    | some k => .ok (.bl (!k), r.2)
    | none => .bad
  | .isi a cs, ρ => (evE T Φ a ρ).bind fun r => .ok (.bl (cs.any (inst T r.1)), r.2)
def evN (T : Tb) (Φ : Fn) : Nx → Env → R (O × Env)
  | .lst as, ρ => (evEs T Φ as ρ).bind fun r => if r.1.length ≤ lim then .ok (.lst (r.1.map .lf), r.2) else .bad
  | .dsp ks vs, ρ => (evEs T Φ vs ρ).bind fun r => if r.1.length = ks.length ∧ ks.length ≤ 15 then .ok (.dic ks (r.1.map .lf), r.2) else .bad
  | .comp elt tg it cs own, ρ => (evI T Φ it ρ).bind fun r =>
      (loopC (fun d ρ1 => (bindT tg d ρ1).bind fun ρ2 => (evTs T Φ cs ρ2).bind fun q => if q.1 then (evE T Φ elt q.2).bind fun z => .ok (some (.lf z.1), wipe z.2 own) else .ok (none, wipe q.2 own)) r.1 [] (wipe r.2.2 (r.2.1 ++ own))).calm.bind
        fun q => .ok (.lst q.1, unwipe q.2 r.2.2 (r.2.1 ++ own))
  | .comN elt tg it cs own, ρ => (evI T Φ it ρ).bind fun r =>
      (loopC (fun d ρ1 => (bindT tg d ρ1).bind fun ρ2 => (evTs T Φ cs ρ2).bind fun q => if q.1 then (evN T Φ elt q.2).bind fun z => .ok (some z.1, wipe z.2 own) else .ok (none, wipe q.2 own)) r.1 [] (wipe r.2.2 (r.2.1 ++ own))).calm.bind
        fun q => .ok (.lst q.1, unwipe q.2 r.2.2 (r.2.1 ++ own))
  | .lof p, ρ => (evX T Φ p ρ).bind fun r => match r.1.seq? with
    | some ds => .ok (.lst (ds.map .lf), r.2)
    | none => .bad
  | .lrev p, ρ => (evX T Φ p ρ).bind fun r => match r.1.list? with
    | some ds => .ok (.lst (ds.reverse.map .lf), r.2)
    | none => .bad
  | .rep e n, ρ => (evE T Φ e ρ).bind fun r => (evE T Φ n r.2).bind fun s => match s.1 with
    | .int k => if 0 ≤ k ∧ k ≤ lim then .ok (.lst (List.replicate k.toNat (.lf r.1)), s.2) else .bad
    | _ => .bad
  | .call f n as, ρ => (evAs T Φ as ρ).bind fun r => callNE T Φ f n r.1 r.2
  | .mv i, ρ => match ρ.at i with
    | .ow 0 o => .ok (o, ρ.set i .un)
    | _ => .bad
def evT (T : Tb) (Φ : Fn) : Te → Env → R (Bool × Env)
  | .val p, ρ => (evX T Φ p ρ).bind fun r => match truO r.1 with
    | some b => .ok (b, r.2)
    | none => .bad
  | .not t, ρ => (evT T Φ t ρ).bind fun r => .ok (!r.1, r.2)
  | .and a b, ρ => (evT T Φ a ρ).bind fun r => if r.1 then evT T Φ b r.2 else .ok (false, r.2)
  | .or a b, ρ => (evT T Φ a ρ).bind fun r => if r.1 then .ok (true, r.2) else evT T Φ b r.2
def evTs (T : Tb) (Φ : Fn) : Tes → Env → R (Bool × Env)
  | .nil, ρ => .ok (true, ρ)
  | .cons t r, ρ => (evT T Φ t ρ).bind fun q => if q.1 then evTs T Φ r q.2 else .ok (false, q.2)
def evEs (T : Tb) (Φ : Fn) : Exs → Env → R (List D × Env)
  | .nil, ρ => .ok ([], ρ)
  | .cons e r, ρ => (evE T Φ e ρ).bind fun q => (evEs T Φ r q.2).bind fun s => .ok (q.1 :: s.1, s.2)
def evPs (T : Tb) (Φ : Fn) : Pxs → Env → R (List O × Env)
  | .nil, ρ => .ok ([], ρ)
  | .cons e r, ρ => (evX T Φ e ρ).bind fun q => (evPs T Φ r q.2).bind fun s => .ok (q.1 :: s.1, s.2)
def evAs (T : Tb) (Φ : Fn) : As → Env → R (List V1 × Env)
  | .nil, ρ => .ok ([], ρ)
  | .sh e r, ρ => (evE T Φ e ρ).bind fun q => (evAs T Φ r q.2).bind fun s => .ok (.sh q.1 :: s.1, s.2)
  | .io i r, ρ => match ρ.at i with
    | .ow k o => (evAs T Φ r (ρ.set i .un)).bind fun s => .ok (.io i k o :: s.1, s.2)
    | .sh d => (evAs T Φ r ρ).bind fun s => .ok (.sh d :: s.1, s.2)
    | .un => .bad
def evO (T : Tb) (Φ : Fn) : Ox → Env → R (Option Int × Env)
  | .none, ρ => .ok (none, ρ)
  | .some e, ρ => (evE T Φ e ρ).bind fun r => match r.1 with
    | .int i => .ok (some i, r.2)
    | _ => .bad
/-- the items, the slots to be locked, the environment -/
def evI (T : Tb) (Φ : Fn) : It → Env → R (List D × List Nat × Env)
  | .seq p, ρ => (evX T Φ p ρ).bind fun r => match r.1.seq?, lockOf r.1 p with
    | some ds, some l => .ok (ds, l, r.2)
    | _, _ => .bad
  | .rng1 a, ρ => (evE T Φ a ρ).bind fun r => match r.1 with
    | .int n => if small n then .ok (rngI 0 1 n.toNat, [], r.2) else .bad
    | _ => .bad
  | .rng2 a b, ρ => (evE T Φ a ρ).bind fun r => (evE T Φ b r.2).bind fun s => match two r.1 s.1 with
    | some (i, j) => .ok (rngI i 1 (j - i).toNat, [], s.2)
    | none => .bad
  | .rng3 a b c, ρ => (evE T Φ a ρ).bind fun r => (evE T Φ b r.2).bind fun s => (evE T Φ c s.2).bind fun t => match two r.1 s.1, t.1 with
    | some (i, j), .int c => if c = -1 then .ok (rngI i (-1) (i - j).toNat, [], t.2) else .bad
    | _, _ => .bad
  | .enum p, ρ => (evX T Φ p ρ).bind fun r => match r.1.seq?, lockOf r.1 p with
    | some ds, some l => .ok (enumD 0 ds, l, r.2)
    | _, _ => .bad
  | .zip p q, ρ => (evX T Φ p ρ).bind fun r => (evX T Φ q r.2).bind fun s => match r.1, s.1 with
    | .lf x, .lf y => match zip2 (.lf x) (.lf y) with
      | some ds => .ok (ds, [], s.2)
      | none => .bad
    | _, _ => .bad
  | .rev p, ρ => (evX T Φ p ρ).bind fun r => match r.1.seq?, lockOf r.1 p with
    | some ds, some l => .ok (ds.reverse, l, r.2)
    | _, _ => .bad
end

/-! ### places that one name owns -/
def O.at? : O → List Nat → Option O
  | o, [] => some o
  | .lst os, j :: p => (os[j]?).bind fun o => O.at? o p
  | .dic _ os, j :: p => (os[j]?).bind fun o => O.at? o p
  | .obj _ os, j :: p => (os[j]?).bind fun o => O.at? o p
  | .lf _, _ :: _ => none
def O.put : O → List Nat → O → Option O
  | _, [], n => some n
  | .lst os, j :: p, n => (os[j]?).bind fun o => (O.put o p n).map fun o' => .lst (os.set j o')
  | .dic ks os, j :: p, n => (os[j]?).bind fun o => (O.put o p n).map fun o' => .dic ks (os.set j o')
  | .obj c os, j :: p, n => (os[j]?).bind fun o => (O.put o p n).map fun o' => .obj c (os.set j o')
  | .lf _, _ :: _, _ => none
def keyAt : List D → D → Option Nat
  | [], _ => none
  | k :: ks, x => if keyEq k x then some 0 else (keyAt ks x).map (· + 1)
def kid : O → D → Option Nat
  | .lst os, .int i => ix os.length i
  | .dic ks _, k => keyAt ks k
  | _, _ => none
def owAt (ρ : Env) (x : Nat) (p : List Nat) : Option O := match ρ.at x with
  | .ow _ o => o.at? p
  | _ => none
def owPut (ρ : Env) (x : Nat) (p : List Nat) (n : O) : R Env := match ρ.at x with
  | .ow k o => match o.put p n with
    | some o' => .ok (ρ.set x (.ow k o'))
    | none => .bad
  | _ => .bad
/-- name and path of the owned node that a place tells -/
def evL (T : Tb) (Φ : Fn) : Px → Env → R ((Nat × List Nat) × Env)
  | .pk i, ρ => match ρ.at i with
    | .ow _ _ => .ok ((i, []), ρ)
    | _ => .bad
  | .sub p e, ρ => (evL T Φ p ρ).bind fun r => (evE T Φ e r.2).bind fun s => match (owAt s.2 r.1.1 r.1.2).bind fun o => kid o s.1 with
    | some j => .ok ((r.1.1, r.1.2 ++ [j]), s.2)
    | none => .bad
  | .fld p f, ρ => (evL T Φ p ρ).bind fun r => match (owAt r.2 r.1.1 r.1.2).bind fun o => match o with
      | .obj c os => (place (T.fld c) f).bind fun j => if j < os.length then some j else none
      | _ => none with
    | some j => .ok ((r.1.1, r.1.2 ++ [j]), r.2)
    | none => .bad
  | .ex _, _ => .bad
def setO : O → D → D → Option O
  | .lst os, .int i, y => (ix os.length i).map fun j => .lst (os.set j (.lf y))
  | .dic ks os, k, y => if isKey k ∧ ks.length < lim then some (.dic (store ks os k (.lf y)).1 (store ks os k (.lf y)).2) else none
  | _, _, _ => none

/-! ### statements -/
inductive SR where
  | nx (ρ : Env) | ret (d : D) (ρ : Env) | retN (o : O) (ρ : Env) | brk (ρ : Env) | cnt (ρ : Env) | exc (c : Nat) (es : List D) (ρ : Env) | bad
  deriving Inhabited
def R.to {α : Type} : R α → (α → SR) → SR
  | .ok a, f => f a
  | .exc c es ρ, _ => .exc c es ρ
  | .bad, _ => .bad
def SR.seq : SR → (Env → SR) → SR
  | .nx ρ, f => f ρ
  | r, _ => r
def loopF (turn : D → Env → SR) : List D → Env → SR
  | [], ρ => .nx ρ
  | d :: ds, ρ => match turn d ρ with
    | .nx ρ' => loopF turn ds ρ'
    | .cnt ρ' => loopF turn ds ρ'
    | .brk ρ' => .nx ρ'
    | r => r
def iterW (c : Env → R (Bool × Env)) (b : Env → SR) : Nat → Env → Option SR
  | 0, _ => none
  | n + 1, ρ => match c ρ with
    | .ok (true, ρ1) => match b ρ1 with
      | .nx ρ' => iterW c b n ρ'
      | .cnt ρ' => iterW c b n ρ'
      | .brk ρ' => some (.nx ρ')
      | r => some r
    | .ok (false, ρ1) => some (.nx ρ1)
    | .exc k es ρ1 => some (.exc k es ρ1)
    | .bad => some .bad
open Classical in
/-- a while: the end that some number of turns reaches; none: bad -/
noncomputable def whileS (c : Env → R (Bool × Env)) (b : Env → SR) (ρ : Env) : SR :=
  if h : ∃ r n, iterW c b n ρ = some r then h.choose else .bad
def augD (op : Bop) (x y : D) : Option D := match x, y with
  | .int a, .int b => binI op a b
  | _, _ => none

mutual
noncomputable def evS (T : Tb) (Φ : Fn) : Sm → Env → SR
  | .set i e, ρ => (evE T Φ e ρ).to fun r => .nx (r.2.set i (.sh r.1))
  | .own i n, ρ => (evN T Φ n ρ).to fun r => .nx (r.2.set i (.ow 0 r.1))
  | .unp is e, ρ => (evE T Φ e ρ).to fun r => (bindT (.tp is) r.1 r.2).to .nx
  | .aug i op e, ρ => match ρ.at i with
    | .sh x => (evE T Φ e ρ).to fun r => match augD op x r.1 with
      | some d => .nx (r.2.set i (.sh d))
      | none => .bad
    | _ => .bad
  | .put p i e, ρ => (evE T Φ e ρ).to fun r => (evL T Φ p r.2).to fun s => (evE T Φ i s.2).to fun t =>
      match (owAt t.2 s.1.1 s.1.2).bind fun o => setO o t.1 r.1 with
      | some n => (owPut t.2 s.1.1 s.1.2 n).to .nx
      | none => .bad
  | .sfl x f e, ρ => (evE T Φ e ρ).to fun r => match r.2.at x with
    | .ow k (.obj c os) => match place (T.fld c) f with
      | some j => if j < os.length then .nx (r.2.set x (.ow k (.obj c (os.set j (.lf r.1)))))
        else if j = os.length ∧ j < 900 then .nx (r.2.set x (.ow k (.obj c (os ++ [.lf r.1])))) else .bad
      | none => .bad
    | _ => .bad
  | .app p e, ρ => (evL T Φ p ρ).to fun s => match owAt s.2 s.1.1 s.1.2 with
    | some (.lst _) => (evE T Φ e s.2).to fun r => match owAt r.2 s.1.1 s.1.2 with
      | some (.lst os) => if os.length < lim then (owPut r.2 s.1.1 s.1.2 (.lst (os ++ [.lf r.1]))).to .nx else .bad
      | _ => .bad
    | _ => .bad
  | .ins p i e, ρ => (evL T Φ p ρ).to fun s => match owAt s.2 s.1.1 s.1.2 with
    | some (.lst _) => (evE T Φ i s.2).to fun q => (evE T Φ e q.2).to fun r => match owAt r.2 s.1.1 s.1.2, q.1 with
      | some (.lst os), .int k => if os.length < lim ∧ 0 ≤ k ∧ k < 2 ^ 63 then (owPut r.2 s.1.1 s.1.2 (.lst (os.take k.toNat ++ [.lf r.1] ++ os.drop k.toNat))).to .nx else .bad
      | _, _ => .bad
    | _ => .bad
  | .exp e, ρ => (evE T Φ e ρ).to fun r => .nx r.2
  | .ret e, ρ => (evE T Φ e ρ).to fun r => .ret r.1 r.2
  | .pass, ρ => .nx ρ
  | .brk, ρ => .brk ρ
  | .cnt, ρ => .cnt ρ
  | .ite t a b, ρ => (evT T Φ t ρ).to fun r => if r.1 then evB T Φ a r.2 else evB T Φ b r.2
  | .for_ tg it b, ρ => (evI T Φ it ρ).to fun r => if r.2.1.isEmpty then loopF (fun d ρ1 => (bindT tg d ρ1).to fun ρ2 => evB T Φ b ρ2) r.1 r.2.2 else .bad
  | .whl t b, ρ => whileS (evT T Φ t) (evB T Φ b) ρ
  | .rais c as, ρ => (evEs T Φ as ρ).to fun r => .exc c r.1 r.2
  | .try_ _ _, _ => .bad
  | .nope, _ => .bad
  | .retN n, ρ => (evN T Φ n ρ).to fun r => .retN r.1 r.2
noncomputable def evB (T : Tb) (Φ : Fn) : Sms → Env → SR
  | .nil, ρ => .nx ρ
  | .cons s r, ρ => (evS T Φ s ρ).seq fun ρ' => evB T Φ r ρ'
end

/-! ### defs -/
structure Fd where
  slots : Nat
  pars : Nat
  body : Sms
def A.s : Nat → A → S
  | _, .sh d => .sh d
  | k, .ow o => .ow (k + 1) o
  | _, .un => .un
def parS : Nat → List A → Env
  | _, [] => []
  | k, a :: r => a.s k :: parS (k + 1) r
def outA : Nat → List A → Env → List A
  | _, [], _ => []
  | k, .sh d :: r, ρ => .sh d :: outA (k + 1) r ρ
  | k, .ow _ :: r, ρ => (match ρ.at k with
    | .ow j o => if j = k + 1 then .ow o else .un
    | _ => .un) :: outA (k + 1) r ρ
  | k, .un :: r, ρ => .un :: outA (k + 1) r ρ
def start (fd : Fd) (xs : List A) : Env := parS 0 xs ++ List.replicate (fd.slots - fd.pars) .un
noncomputable def runF (T : Tb) (Φ : Fn) (fd : Fd) (xs : List A) : FR :=
  match evB T Φ fd.body (start fd xs) with
  | .nx ρ => .ok .non (outA 0 xs ρ)
  | .ret d ρ => .ok d (outA 0 xs ρ)
  | .retN o ρ => .okN o (outA 0 xs ρ)
  | .exc c es ρ => .exc c es (outA 0 xs ρ)
  | _ => .bad
noncomputable def callN (T : Tb) (fs : Nat → Option Fd) : Nat → Fn
  | 0 => fun _ _ => .bad
  | n + 1 => fun f xs => match fs f with
    | none => .bad
    | some fd => if xs.length = fd.pars then runF T (callN T fs n) fd xs else .bad
end RF
end

section
set_option Elab.async false
set_option linter.all false
set_option autoImplicit false
set_option maxRecDepth 100000
/-! RfC: what stands for what in the layer's abstract heap; growth; readings. -/
namespace RF
open PySem L2

/-- the machine's side of the tables: the written part, classes and names by number -/
structure FI where
  adr : Addr
  fd : FuncData
  ps : List PySem.Str
  dv : List V := []
structure Mach where
  K : PySem.W.Frag
  T : Tb
  cls : Nat → Option Addr
  nm : Nat → PySem.Str
  mn : Nat → PySem.Str
  mg : PySem.Str → Option Value
  fi : Nat → Option FI
def kD : Key → D
  | .inl i => .int i
  | .inr x => .str x
/-- a list that is read alone: the script, a list of the top -/
def SqS (K : PySem.W.Frag) (F : Hp) (a : Addr) (vs : List V) : Prop :=
  (∃ o, F a = some (.frz o (.lst vs))) ∨
    ∃ (o : Obj) (its : Array Value) (n : Nat), K.lookup a = some o ∧ o.cls = .type "list" ∧ o.dict = none ∧ o.data = .seq its n ∧ its.size ≤ sizeLine ∧ Vals vs its.toList
theorem SqS.sqL {K : PySem.W.Frag} {F : Hp} {a : Addr} {vs : List V} (h : SqS K F a vs) : SqL K F a vs := h.elim (fun h => .inl (.inr h)) .inr
mutual
inductive Rep (M : Mach) (F : Hp) : V → D → Prop where
  | non : Rep M F .non .non
  | bl {b : Bool} : Rep M F (.bl b) (.bl b)
  | int {i : Int} : Rep M F (.int i) (.int i)
  | str {x : PySem.Str} : Rep M F (.str x) (.str x)
  | tup {a : Addr} {vs : List V} {ds : List D} (h : SqT M.K F a vs) (r : Reps M F vs ds) : Rep M F (.ref a) (.tup ds)
  | lst {a : Addr} {vs : List V} {ds : List D} (h : F a = some (.lst vs)) (r : Reps M F vs ds) : Rep M F (.ref a) (.lst ds)
  | scr {a : Addr} {vs : List V} {ds : List D} (h : SqS M.K F a vs) (r : Reps M F vs ds) : Rep M F (.ref a) (.scr ds)
  | obj {a C dx : Addr} {c : Nat} {fs : List (PySem.Str × V)} {ds : List D} (h : F a = some (.ins C dx fs)) (hc : M.cls c = some C)
      (hl : ds.length ≤ (M.T.fld c).length) (hn : fs.map (·.1) = ((M.T.fld c).take ds.length).map M.nm) (r : Reps M F (fs.map (·.2)) ds) : Rep M F (.ref a) (.obj c ds)
  | dic {a : Addr} {kvs : List (Key × V)} {ks ds : List D} (h : F a = some (.dK kvs)) (hk : ks = kvs.map fun kv => kD kv.1) (hn : (kvs.map (·.1)).Nodup) (r : Reps M F (kvs.map (·.2)) ds) : Rep M F (.ref a) (.dic ks ds)
inductive Reps (M : Mach) (F : Hp) : List V → List D → Prop where
  | nil : Reps M F [] []
  | cons {v : V} {d : D} {vs : List V} {ds : List D} (h : Rep M F v d) (r : Reps M F vs ds) : Reps M F (v :: vs) (d :: ds)
end
def Sb (F F' : Hp) : Prop := ∀ a o, F a = some o → F' a = some o
theorem Sb.rfl' {F : Hp} : Sb F F := fun _ _ h => h
theorem Sb.trans {F G H : Hp} (a : Sb F G) (b : Sb G H) : Sb F H := fun x o h => b x o (a x o h)
theorem Sb.rd {F F' : Hp} (s : Sb F F') {a : Addr} {u : HO} (h : Rd F a u) : Rd F' a u := h.elim (fun h => .inl (s _ _ h)) fun ⟨o, h⟩ => .inr ⟨o, s _ _ h⟩
theorem Sb.sqT {K : PySem.W.Frag} {F F' : Hp} (s : Sb F F') {a : Addr} {xs : List V} (h : SqT K F a xs) : SqT K F' a xs := h.elim (fun h => .inl (s.rd h)) .inr
theorem Sb.sqL {K : PySem.W.Frag} {F F' : Hp} (s : Sb F F') {a : Addr} {xs : List V} (h : SqL K F a xs) : SqL K F' a xs := h.elim (fun h => .inl (s.rd h)) .inr
theorem Sb.sqS {K : PySem.W.Frag} {F F' : Hp} (s : Sb F F') {a : Addr} {xs : List V} (h : SqS K F a xs) : SqS K F' a xs := h.elim (fun ⟨o, h⟩ => .inl ⟨o, s _ _ h⟩) .inr
mutual
theorem Rep.mono {M : Mach} {F F' : Hp} (s : Sb F F') : ∀ {v : V} {d : D}, Rep M F v d → Rep M F' v d
  | _, _, .non => .non
  | _, _, .bl => .bl
  | _, _, .int => .int
  | _, _, .str => .str
  | _, _, .tup h r => .tup (s.sqT h) (r.mono s)
  | _, _, .lst h r => .lst (s _ _ h) (r.mono s)
  | _, _, .scr h r => .scr (s.sqS h) (r.mono s)
  | _, _, .obj h hc hl hn r => .obj (s _ _ h) hc hl hn (r.mono s)
  | _, _, .dic h hk hn r => .dic (s _ _ h) hk hn (r.mono s)
theorem Reps.mono {M : Mach} {F F' : Hp} (s : Sb F F') : ∀ {vs : List V} {ds : List D}, Reps M F vs ds → Reps M F' vs ds
  | _, _, .nil => .nil
  | _, _, .cons h r => .cons (h.mono s) (r.mono s)
end
section
variable {M : Mach} {F : Hp}
theorem Reps.length {vs : List V} {ds : List D} (r : Reps M F vs ds) : vs.length = ds.length := by
  induction ds generalizing vs with
  | nil => cases r; rfl
  | cons d ds ih => cases r with | cons h r => rw [List.length_cons, List.length_cons, ih r]
theorem Reps.get : ∀ {vs : List V} {ds : List D} {i : Nat} {d : D}, Reps M F vs ds → ds[i]? = some d → ∃ v, vs[i]? = some v ∧ Rep M F v d
  | _, _, _, _, .nil, e => by simp at e
  | _, _, 0, _, .cons h _, e => by simp at e; subst e; exact ⟨_, rfl, h⟩
  | _, _, i + 1, _, .cons _ r, e => by
    obtain ⟨v, h1, h2⟩ := Reps.get (i := i) r (by simpa using e)
    exact ⟨v, by simpa using h1, h2⟩
theorem Reps.getV : ∀ {vs : List V} {ds : List D} {i : Nat} {v : V}, Reps M F vs ds → vs[i]? = some v → ∃ d, ds[i]? = some d ∧ Rep M F v d
  | _, _, _, _, .nil, e => by simp at e
  | _, _, 0, _, .cons h _, e => by simp at e; subst e; exact ⟨_, rfl, h⟩
  | _, _, i + 1, _, .cons _ r, e => by
    obtain ⟨v, h1, h2⟩ := Reps.getV (i := i) r (by simpa using e)
    exact ⟨v, by simpa using h1, h2⟩
theorem Reps.append : ∀ {vs ws : List V} {ds es : List D}, Reps M F vs ds → Reps M F ws es → Reps M F (vs ++ ws) (ds ++ es)
  | _, _, _, _, .nil, s => s
  | _, _, _, _, .cons h r, s => .cons h (r.append s)
theorem Reps.take : ∀ {vs : List V} {ds : List D} (n : Nat), Reps M F vs ds → Reps M F (vs.take n) (ds.take n)
  | _, _, 0, _ => .nil
  | _, _, _ + 1, .nil => .nil
  | _, _, n + 1, .cons h r => .cons h (r.take n)
theorem Reps.drop : ∀ {vs : List V} {ds : List D} (n : Nat), Reps M F vs ds → Reps M F (vs.drop n) (ds.drop n)
  | _, _, 0, r => r
  | _, _, _ + 1, .nil => .nil
  | _, _, n + 1, .cons _ r => r.drop n
theorem Reps.reverse {vs : List V} {ds : List D} (r : Reps M F vs ds) : Reps M F vs.reverse ds.reverse := by
  induction ds generalizing vs with
  | nil => cases r; exact .nil
  | cons d ds ih =>
    cases r with
    | cons h r =>
      rw [List.reverse_cons, List.reverse_cons]
      exact (ih r).append (.cons h .nil)
end

mutual
/-- v is the owned tree o, whose own addresses are as -/
inductive OwR (M : Mach) (F H : Hp) : V → O → List Addr → Prop where
  | lf {v : V} {d : D} (h : Rep M F v d) : OwR M F H v (.lf d) []
  | lst {a : Addr} {vs : List V} {os : List O} {as : List Addr} (h : H a = some (.lst vs)) (r : OwRs M F H vs os as) : OwR M F H (.ref a) (.lst os) (a :: as)
  | dic {a : Addr} {kvs : List (Key × V)} {ks : List D} {os : List O} {as : List Addr} (h : H a = some (.dK kvs)) (hk : ks = kvs.map fun kv => kD kv.1) (hn : (kvs.map (·.1)).Nodup)
      (r : OwRs M F H (kvs.map (·.2)) os as) : OwR M F H (.ref a) (.dic ks os) (a :: as)
  | obj {a C dx : Addr} {c : Nat} {fs : List (PySem.Str × V)} {os : List O} {as : List Addr} (h : H a = some (.ins C dx fs)) (hc : M.cls c = some C)
      (hl : os.length ≤ (M.T.fld c).length) (hn : fs.map (·.1) = ((M.T.fld c).take os.length).map M.nm) (r : OwRs M F H (fs.map (·.2)) os as) : OwR M F H (.ref a) (.obj c os) (a :: as)
inductive OwRs (M : Mach) (F H : Hp) : List V → List O → List Addr → Prop where
  | nil : OwRs M F H [] [] []
  | cons {v : V} {o : O} {vs : List V} {os : List O} {as bs : List Addr} (h : OwR M F H v o as) (r : OwRs M F H vs os bs) : OwRs M F H (v :: vs) (o :: os) (as ++ bs)
end
mutual
theorem OwR.mono {M : Mach} {F F' H H' : Hp} (s : Sb F F') : ∀ {v : V} {o : O} {as : List Addr}, OwR M F H v o as → (∀ a ∈ as, ∀ u, H a = some u → H' a = some u) → OwR M F' H' v o as
  | _, _, _, .lf h, _ => .lf (h.mono s)
  | _, _, _, .lst h r, k => .lst (k _ List.mem_cons_self _ h) (r.mono s fun a m => k a (List.mem_cons_of_mem _ m))
  | _, _, _, .dic h hk hn r, k => .dic (k _ List.mem_cons_self _ h) hk hn (r.mono s fun a m => k a (List.mem_cons_of_mem _ m))
  | _, _, _, .obj h hc hl hn r, k => .obj (k _ List.mem_cons_self _ h) hc hl hn (r.mono s fun a m => k a (List.mem_cons_of_mem _ m))
theorem OwRs.mono {M : Mach} {F F' H H' : Hp} (s : Sb F F') : ∀ {vs : List V} {os : List O} {as : List Addr}, OwRs M F H vs os as → (∀ a ∈ as, ∀ u, H a = some u → H' a = some u) → OwRs M F' H' vs os as
  | _, _, _, .nil, _ => .nil
  | _, _, _, .cons h r, k => .cons (h.mono s fun a m => k a (List.mem_append_left _ m)) (r.mono s fun a m => k a (List.mem_append_right _ m))
end
mutual
/-- what is owned is frozen as it stands -/
theorem OwR.frz {M : Mach} {F H F' : Hp} (s : Sb F F') : ∀ {v : V} {o : O} {as : List Addr}, OwR M F H v o as → (∀ a ∈ as, ∀ u, H a = some u → F' a = some u) → Rep M F' v o.frz
  | _, _, _, .lf h, _ => by rw [O.frz]; exact h.mono s
  | _, _, _, .lst h r, k => by rw [O.frz]; exact .lst (k _ List.mem_cons_self _ h) (r.frz s fun a m => k a (List.mem_cons_of_mem _ m))
  | _, _, _, .dic h hk hn r, k => by rw [O.frz]; exact .dic (k _ List.mem_cons_self _ h) hk hn (r.frz s fun a m => k a (List.mem_cons_of_mem _ m))
  | _, _, _, .obj h hc hl hn r, k => by
    have q := r.frz s fun a m => k a (List.mem_cons_of_mem _ m)
    have e := q.length
    have e2 := r.len2
    rw [O.frz]
    exact .obj (k _ List.mem_cons_self _ h) hc (by omega) (by rw [← e, e2]; exact hn) q
theorem OwRs.frz {M : Mach} {F H F' : Hp} (s : Sb F F') : ∀ {vs : List V} {os : List O} {as : List Addr}, OwRs M F H vs os as → (∀ a ∈ as, ∀ u, H a = some u → F' a = some u) → Reps M F' vs (O.frzs os)
  | _, _, _, .nil, _ => by rw [O.frzs]; exact .nil
  | _, _, _, .cons h r, k => by rw [O.frzs]; exact .cons (h.frz s fun a m => k a (List.mem_append_left _ m)) (r.frz s fun a m => k a (List.mem_append_right _ m))
theorem OwRs.len2 {M : Mach} {F H : Hp} : ∀ {vs : List V} {os : List O} {as : List Addr}, OwRs M F H vs os as → vs.length = os.length
  | _, _, _, .nil => rfl
  | _, _, _, .cons _ r => by rw [List.length_cons, List.length_cons, r.len2]
end
section
variable {M : Mach} {F H : Hp}
theorem OwR.there {v : V} {o : O} {as : List Addr} (h : OwR M F H v o as) : ∀ a ∈ as, H a ≠ none := by
  have key : ∀ n, (∀ (v : V) (o : O) (as : List Addr), sizeOf o ≤ n → OwR M F H v o as → ∀ a ∈ as, H a ≠ none) ∧ ∀ (vs : List V) (os : List O) (as : List Addr), sizeOf os ≤ n → OwRs M F H vs os as → ∀ a ∈ as, H a ≠ none := by
    intro n
    induction n with
    | zero =>
      refine ⟨fun v o as hs => ?_, fun vs os as hs => ?_⟩
      · cases o <;> simp at hs
      · cases os <;> simp at hs
    | succ n ih =>
      refine ⟨fun v o as hs h a m => ?_, fun vs os as hs h a m => ?_⟩
      · cases h with
        | lf h => cases m
        | lst h r =>
          rcases List.mem_cons.mp m with e | m
          · subst e; rw [h]; exact fun z => nomatch z
          · exact ih.2 _ _ _ (by simp at hs; omega) r a m
        | dic h hk hn r =>
          rcases List.mem_cons.mp m with e | m
          · subst e; rw [h]; exact fun z => nomatch z
          · exact ih.2 _ _ _ (by simp at hs; omega) r a m
        | obj h hc hl hn r =>
          rcases List.mem_cons.mp m with e | m
          · subst e; rw [h]; exact fun z => nomatch z
          · exact ih.2 _ _ _ (by simp at hs; omega) r a m
      · cases h with
        | nil => cases m
        | cons h r =>
          rcases List.mem_append.mp m with m | m
          · exact ih.1 _ _ _ (by simp at hs; omega) h a m
          · exact ih.2 _ _ _ (by simp at hs; omega) r a m
  exact (key _).1 v o as (Nat.le_refl _) h
theorem OwRs.get : ∀ {vs : List V} {os : List O} {as : List Addr} {i : Nat} {o : O}, OwRs M F H vs os as → os[i]? = some o → ∃ v bs, vs[i]? = some v ∧ OwR M F H v o bs ∧ bs.Sublist as
  | _, _, _, _, _, .nil, e => by simp at e
  | _, _, _, 0, _, .cons h _, e => by simp at e; subst e; exact ⟨_, _, rfl, h, List.sublist_append_left ..⟩
  | _, _, _, i + 1, _, .cons _ r, e => by
    obtain ⟨v, bs, h1, h2, h3⟩ := OwRs.get (i := i) r (by simpa using e)
    exact ⟨v, bs, by simpa using h1, h2, h3.trans (List.sublist_append_right ..)⟩
theorem Reps.ow : ∀ {vs : List V} {ds : List D}, Reps M F vs ds → OwRs M F H vs (ds.map .lf) []
  | _, _, .nil => .nil
  | _, _, .cons h r => OwRs.cons (as := []) (.lf h) r.ow
/-- leaves alone -/
theorem OwRs.leafs : ∀ {vs : List V} {os : List O} {as : List Addr} {ds : List D}, OwRs M F H vs os as → O.leafs os = some ds → Reps M F vs ds
  | _, _, _, _, .nil, e => by simp [O.leafs] at e; subst e; exact .nil
  | _, _, _, _, .cons h r, e => by
    cases h with
    | lf h =>
      rw [O.leafs] at e
      cases q : O.leafs _ with
      | none => rw [q] at e; cases e
      | some ds =>
        rw [q] at e
        cases e
        exact .cons h (r.leafs q)
    | _ => rw [O.leafs] at e <;> first | cases e | (intro x z; cases z)
end
end RF
end

section
set_option Elab.async false
set_option linter.all false
set_option autoImplicit false
set_option maxRecDepth 100000
/-! RfD: points (frozen heap, heap, slots), growth, readings of the meaning. -/
namespace RF
open PySem L2

/-- what a slot's state says of its value -/
def SlR (M : Mach) (F H : Hp) (av : List V) (x : Option V) (s : S) (as : List Addr) : Prop :=
  match s with
  | .un => as = []
  | .sh d => as = [] ∧ ∃ v, x = some v ∧ Rep M F v d
  | .ow k o => ∃ v, x = some v ∧ OwR M F H v o as ∧ (k = 0 ∨ av[k - 1]? = some v)
abbrev Ow := Nat → List Addr
/-- the frozen part F of H; the slots σ as ρ says, own i: what slot i owns -/
structure Pt (M : Mach) (av : List V) (F H : Hp) (σ : St) (ρ : Env) (own : Ow) : Prop where
  sub : Sb F H
  len : σ.length = ρ.length
  sl : ∀ i, SlR M F H av (σ[i]?.join) (ρ.at i) (own i)
  nd : ∀ i, (own i).Nodup
  dj : ∀ i j a, a ∈ own i → a ∈ own j → i = j
  fr : ∀ i a, a ∈ own i → F a = none
def In (own : Ow) (a : Addr) : Prop := ∃ i, a ∈ own i
/-- b: nothing that stands is changed (but what is owned may be frozen) -/
structure Gr (b : Bool) (F H : Hp) (P : Addr → Prop) (F' H' : Hp) (P' : Addr → Prop) : Prop where
  ff : Sb F F'
  hh : ∀ a o, H a = some o → (b = true ∨ ¬ P a) → H' a = some o
  nf : ∀ a, F' a ≠ none → F a ≠ none ∨ H a = none ∨ P a
  lv : ∀ a, H a ≠ none → H' a ≠ none
  ow : ∀ a, P' a → P a ∨ H a = none
theorem Gr.rfl' {b : Bool} {F H : Hp} {P : Addr → Prop} : Gr b F H P F H P := ⟨Sb.rfl', fun _ _ h _ => h, fun _ h => .inl h, fun _ h => h, fun _ h => .inl h⟩
theorem Gr.trans {b : Bool} {F H F1 H1 F2 H2 : Hp} {P P1 P2 : Addr → Prop} (g : Gr b F H P F1 H1 P1) (k : Gr b F1 H1 P1 F2 H2 P2) : Gr b F H P F2 H2 P2 where
  ff := g.ff.trans k.ff
  hh := fun x o h n => k.hh x o (g.hh x o h n) (n.imp id fun n p => (g.ow x p).elim n fun z => by rw [z] at h; cases h)
  nf := fun x h => by
    rcases k.nf x h with q | q | q
    · exact g.nf x q
    · refine .inr (.inl ?_)
      cases e : H x with
      | none => rfl
      | some o => exact absurd q (g.lv x (by rw [e]; exact fun z => nomatch z))
    · exact (g.ow x q).elim (fun z => .inr (.inr z)) fun z => .inr (.inl z)
  lv := fun x h => k.lv x (g.lv x h)
  ow := fun x h => by
    rcases k.ow x h with q | q
    · exact g.ow x q
    · refine .inr ?_
      cases e : H x with
      | none => rfl
      | some o => exact absurd q (g.lv x (by rw [e]; exact fun z => nomatch z))
/-- more owned at the start, less at the end -/
theorem Gr.weak {b : Bool} {F H F' H' : Hp} {P P' Q Q' : Addr → Prop} (g : Gr b F H P F' H' P') (h : ∀ a, P a → Q a) (h' : ∀ a, Q' a → P' a ∨ Q a ∨ H a = none) : Gr b F H Q F' H' Q' where
  ff := g.ff
  hh := fun a o e n => g.hh a o e (n.imp id fun n p => n (h a p))
  nf := fun a e => (g.nf a e).imp id fun q => q.imp id (h a)
  lv := g.lv
  ow := fun a e => (h' a e).elim (fun z => (g.ow a z).imp (h a) id) fun z => z
theorem Gr.lax {b : Bool} {F H F' H' : Hp} {P P' : Addr → Prop} (g : Gr b F H P F' H' P') : Gr false F H P F' H' P' :=
  ⟨g.ff, fun a o e n => g.hh a o e (n.elim (fun z => nomatch z) .inr), g.nf, g.lv, g.ow⟩
theorem Gr.strict {b : Bool} {F H F' H' : Hp} {P P' : Addr → Prop} (g : Gr true F H P F' H' P') : Gr b F H P F' H' P' :=
  ⟨g.ff, fun a o e _ => g.hh a o e (.inl rfl), g.nf, g.lv, g.ow⟩
/-- a new object that nobody owns, not frozen -/
theorem Gr.new {b : Bool} {F H : Hp} {P : Addr → Prop} {p : Addr} {o : HO} (hp : H p = none) : Gr b F H P F (upd H p o) P where
  ff := Sb.rfl'
  hh := fun a u e _ => by rw [upd_ne (ne_of_none e hp)]; exact e
  nf := fun a e => .inl e
  lv := fun a e => by
    by_cases z : a = p
    · subst z; exact absurd hp e
    · rw [upd_ne z]; exact e
  ow := fun a e => .inl e
theorem Sb.upd {F : Hp} {p : Addr} {o : HO} (h : F p = none) : Sb F (upd F p o) := fun a u e => by rw [upd_ne (ne_of_none e h)]; exact e
theorem Sb.none {F H : Hp} (s : Sb F H) {p : Addr} (h : H p = none) : F p = none := by
  cases e : F p with
  | none => rfl
  | some o => rw [s _ _ e] at h; cases h
/-- a new frozen object -/
theorem Gr.newF {b : Bool} {F H : Hp} {P : Addr → Prop} {p : Addr} {o : HO} (s : Sb F H) (hp : H p = none) : Gr b F H P (upd F p o) (upd H p o) P where
  ff := Sb.upd (s.none hp)
  hh := fun a u e _ => by rw [upd_ne (ne_of_none e hp)]; exact e
  nf := fun a e => by
    by_cases z : a = p
    · subst z; exact .inr (.inl hp)
    · rw [upd_ne z] at e; exact .inl e
  lv := fun a e => by
    by_cases z : a = p
    · subst z; exact absurd hp e
    · rw [upd_ne z]; exact e
  ow := fun a e => .inl e

section
variable {M : Mach} {av : List V} {F H F' H' : Hp} {σ : St} {ρ : Env} {own own' : Ow}
theorem SlR.mono {x : Option V} {s : S} {as : List Addr} (h : SlR M F H av x s as) (f : Sb F F') (k : ∀ a ∈ as, ∀ u, H a = some u → H' a = some u) : SlR M F' H' av x s as := by
  cases s with
  | un => exact h
  | sh d => obtain ⟨e, v, e2, r⟩ := h; exact ⟨e, v, e2, r.mono f⟩
  | ow j o => obtain ⟨v, e, r, t⟩ := h; exact ⟨v, e, r.mono f k, t⟩
theorem SlR.there {x : Option V} {s : S} {as : List Addr} (h : SlR M F H av x s as) : ∀ a ∈ as, H a ≠ none := by
  cases s with
  | un => have e : as = [] := h; subst e; exact fun a m => nomatch m
  | sh d => obtain ⟨e, _⟩ := h; subst e; exact fun a m => nomatch m
  | ow j o => obtain ⟨v, e, r, t⟩ := h; exact r.there
theorem Pt.there (p : Pt M av F H σ ρ own) {a : Addr} (h : In own a) : H a ≠ none := let ⟨i, m⟩ := h; (p.sl i).there a m
/-- heaps that grew without a change of what the slots own -/
theorem Pt.grown (p : Pt M av F H σ ρ own) (f : Sb F F') (k : ∀ a, In own a → ∀ u, H a = some u → H' a = some u) (s : Sb F' H') (n : ∀ a, In own a → F' a = none) : Pt M av F' H' σ ρ own :=
  ⟨s, p.len, fun i => (p.sl i).mono f fun a m u => k a ⟨i, m⟩ u, p.nd, p.dj, fun i a m => n a ⟨i, m⟩⟩
theorem Pt.newF (p : Pt M av F H σ ρ own) {q : Addr} {o : HO} (hq : H q = none) : Pt M av (upd F q o) (upd H q o) σ ρ own := by
  refine p.grown (Sb.upd (p.sub.none hq)) (fun a m u e => by rw [upd_ne (ne_of_none e hq)]; exact e) (fun a u e => ?_) fun a ⟨i, m⟩ => ?_
  · by_cases z : a = q
    · subst z; rw [upd_same] at e ⊢; exact e
    · rw [upd_ne z] at e ⊢; exact p.sub _ _ e
  · have z : a ≠ q := fun z => p.there ⟨i, m⟩ (by rw [z]; exact hq)
    rw [upd_ne z]; exact p.fr i a m
theorem Pt.new (p : Pt M av F H σ ρ own) {q : Addr} {o : HO} (hq : H q = none) : Pt M av F (upd H q o) σ ρ own := by
  refine p.grown Sb.rfl' (fun a m u e => by rw [upd_ne (ne_of_none e hq)]; exact e) (fun a u e => ?_) fun a ⟨i, m⟩ => p.fr i a m
  have z : a ≠ q := ne_of_none e (p.sub.none hq)
  rw [upd_ne z]; exact p.sub _ _ e
theorem Env.at_set {ρ : Env} {i j : Nat} {s : S} : Env.at (ρ.set i s) j = if i = j ∧ i < ρ.length then s else ρ.at j := by
  unfold Env.at
  rw [List.getD_eq_getElem?_getD, List.getD_eq_getElem?_getD, List.getElem?_set]
  by_cases h : i = j
  · subst h
    by_cases h2 : i < ρ.length
    · simp [h2]
    · simp [h2]
  · simp [h]
theorem join_set {σ : St} {i j : Nat} {v : V} : (σ.set i (some v))[j]?.join = if i = j ∧ i < σ.length then some v else σ[j]?.join := by
  rw [List.getElem?_set]
  by_cases h : i = j
  · subst h
    by_cases h2 : i < σ.length
    · simp [h2]
    · simp [h2]
  · simp [h]
theorem join_set_none {σ : St} {i j : Nat} : (σ.set i none)[j]?.join = if i = j ∧ i < σ.length then none else σ[j]?.join := by
  rw [List.getElem?_set]
  by_cases h : i = j
  · subst h
    by_cases h2 : i < σ.length
    · simp [h2]
    · simp [h2]
  · simp [h]
theorem slot_of {i : Nat} {v : V} (e : σ[i]?.join = some v) : σ[i]? = some (some v) := by
  cases q : σ[i]? with
  | none => rw [q] at e; cases e
  | some x => rw [q] at e; cases x with
    | none => cases e
    | some w => cases e; rfl
theorem at_lt {i : Nat} (h : ρ.at i ≠ .un) : i < ρ.length := by
  by_cases z : i < ρ.length
  · exact z
  · exfalso
    apply h
    unfold Env.at
    rw [List.getD_eq_getElem?_getD, List.getElem?_eq_none (by omega)]
    rfl
/-- slot i is given another state; what it owned is let go -/
theorem Pt.put (p : Pt M av F H σ ρ own) {i : Nat} {x : Option V} {s : S} {as : List Addr} (hi : i < ρ.length) (hs : SlR M F H av x s as) (nd : as.Nodup)
    (dj : ∀ a ∈ as, ∀ j, j ≠ i → a ∉ own j) (fr : ∀ a ∈ as, F a = none) : Pt M av F H (σ.set i x) (ρ.set i s) (fun j => if j = i then as else own j) := by
  have hi' : i < σ.length := by rw [p.len]; exact hi
  refine ⟨p.sub, by rw [List.length_set, List.length_set, p.len], fun j => ?_, fun j => ?_, fun j k a h1 h2 => ?_, fun j a h => ?_⟩
  · rw [Env.at_set]
    have e : (σ.set i x)[j]?.join = if i = j ∧ i < σ.length then x else σ[j]?.join := by
      cases x with
      | none => exact join_set_none
      | some v => exact join_set
    rw [e]
    by_cases h : i = j
    · subst h
      rw [if_pos ⟨rfl, hi'⟩, if_pos ⟨rfl, hi⟩, if_pos rfl]
      exact hs
    · rw [if_neg (fun z => h z.1), if_neg (fun z => h z.1), if_neg (fun z => h z.symm)]
      exact p.sl j
  · show (if j = i then as else own j).Nodup
    by_cases h : j = i
    · rw [if_pos h]; exact nd
    · rw [if_neg h]; exact p.nd j
  · have h1 : a ∈ (if j = i then as else own j) := h1
    have h2 : a ∈ (if k = i then as else own k) := h2
    by_cases e1 : j = i
    · by_cases e2 : k = i
      · rw [e1, e2]
      · rw [if_pos e1] at h1; rw [if_neg e2] at h2; exact absurd h2 (dj a h1 k e2)
    · by_cases e2 : k = i
      · rw [if_neg e1] at h1; rw [if_pos e2] at h2; exact absurd h1 (dj a h2 j e1)
      · rw [if_neg e1] at h1; rw [if_neg e2] at h2; exact p.dj j k a h1 h2
  · have h : a ∈ (if j = i then as else own j) := h
    by_cases e1 : j = i
    · rw [if_pos e1] at h; exact fr a h
    · rw [if_neg e1] at h; exact p.fr j a h
theorem In.put {i : Nat} {as : List Addr} {a : Addr} (h : In (fun j => if j = i then as else own j) a) : a ∈ as ∨ In own a := by
  obtain ⟨j, h⟩ := h
  have h : a ∈ (if j = i then as else own j) := h
  by_cases e : j = i
  · rw [if_pos e] at h; exact .inl h
  · rw [if_neg e] at h; exact .inr ⟨j, h⟩
theorem set_self {σ : St} {i : Nat} {v : V} (e : σ[i]? = some (some v)) : σ.set i (some v) = σ := by
  apply List.ext_getElem?
  intro j
  rw [List.getElem?_set]
  by_cases h : i = j
  · subst h
    have hl : i < σ.length := (List.getElem?_eq_some_iff.mp e).1
    rw [if_pos rfl, if_pos hl, e]
  · rw [if_neg h]
/-- .. the slot's value as it is -/
theorem Pt.put' (p : Pt M av F H σ ρ own) {i : Nat} {v : V} {s : S} {as : List Addr} (e : σ[i]? = some (some v)) (hs : SlR M F H av (some v) s as) (nd : as.Nodup)
    (dj : ∀ a ∈ as, ∀ j, j ≠ i → a ∉ own j) (fr : ∀ a ∈ as, F a = none) : Pt M av F H σ (ρ.set i s) (fun j => if j = i then as else own j) := by
  have q := p.put (i := i) (x := some v) (by rw [← p.len]; exact (List.getElem?_eq_some_iff.mp e).1) hs nd dj fr
  rw [set_self e] at q
  exact q
/-- a slot is forgotten -/
theorem Pt.un (p : Pt M av F H σ ρ own) {i : Nat} : Pt M av F H σ (ρ.set i .un) (fun j => if j = i then [] else own j) := by
  refine ⟨p.sub, by rw [List.length_set, p.len], fun j => ?_, fun j => ?_, fun j k a h1 h2 => ?_, fun j a h => ?_⟩
  · rw [Env.at_set]
    show SlR M F H av _ _ (if j = i then [] else own j)
    by_cases h : i = j
    · subst h
      rw [if_pos rfl]
      by_cases hl : i < ρ.length
      · rw [if_pos ⟨rfl, hl⟩]; exact rfl
      · rw [if_neg fun z => hl z.2]
        have e : ρ.at i = .un := by
          by_cases z : ρ.at i = .un
          · exact z
          · exact absurd (at_lt z) hl
        rw [e]; exact rfl
    · rw [if_neg (fun z => h z.1), if_neg (fun z => h z.symm)]
      exact p.sl j
  · show (if j = i then [] else own j).Nodup
    by_cases h : j = i
    · rw [if_pos h]; exact List.nodup_nil
    · rw [if_neg h]; exact p.nd j
  · have h1 : a ∈ (if j = i then [] else own j) := h1
    have h2 : a ∈ (if k = i then [] else own k) := h2
    by_cases e1 : j = i
    · rw [if_pos e1] at h1; cases h1
    · by_cases e2 : k = i
      · rw [if_pos e2] at h2; cases h2
      · rw [if_neg e1] at h1; rw [if_neg e2] at h2; exact p.dj j k a h1 h2
  · have h : a ∈ (if j = i then [] else own j) := h
    by_cases e1 : j = i
    · rw [if_pos e1] at h; cases h
    · rw [if_neg e1] at h; exact p.fr j a h
theorem In.un {i : Nat} {a : Addr} (h : In (fun j => if j = i then [] else own j) a) : In own a := h.put.elim (fun z => nomatch z) id
end

/-! ### readings -/
/-- a result r of the meaning at the point (F, H, P): whatever the machine comes to, Q; an exception: W -/
def QR (b : Bool) (M : Mach) (av : List V) (W : WX) (σ : St) {α β : Type} (Rl : Hp → Hp → Ow → α → β → Prop) (F H : Hp) (P : Addr → Prop) (r : R α) (Q : β → Hp → Prop) : Prop :=
  match r with
  | .ok a => ∀ y F' H' own', Gr b F H P F' H' (In own') → Rl F' H' own' a y → Q y H'
  | .exc c es ρ' => ∀ F' H' own' C dx vs, Gr b F H P F' H' (In own') → Pt M av F' H' σ ρ' own' → M.cls c = some C →
      H' dx = some (.xd (((M.T.fld c).map M.nm).zip vs)) → F' dx = none → ¬ In own' dx → Reps M F' vs es → W (.ref C) (some dx) σ H'
  | .bad => False
section
variable {b : Bool} {M : Mach} {av : List V} {W : WX} {σ : St} {α β γ δ : Type} {Rl : Hp → Hp → Ow → α → β → Prop} {Rl' : Hp → Hp → Ow → γ → δ → Prop} {F H F1 H1 : Hp} {P P1 : Addr → Prop}
theorem QR.step {r : R α} {Q : β → Hp → Prop} (g : Gr b F H P F1 H1 P1) (h : QR b M av W σ Rl F H P r Q) : QR b M av W σ Rl F1 H1 P1 r Q := by
  cases r with
  | ok a => exact fun y F' H' own' g' => h y F' H' own' (g.trans g')
  | exc c es ρ' => exact fun F' H' own' C dx vs g' => h F' H' own' C dx vs (g.trans g')
  | bad => exact h
theorem QR.mono {r : R α} {Q Q' : β → Hp → Prop} (h : QR b M av W σ Rl F H P r Q) (k : ∀ b H', Q b H' → Q' b H') : QR b M av W σ Rl F H P r Q' := by
  cases r with
  | ok a => exact fun y F' H' own' g r => k _ _ (h y F' H' own' g r)
  | exc c es ρ' => exact h
  | bad => exact h
theorem QR.bind {r : R α} {f : α → R γ} {Q : β → Hp → Prop} {Q' : δ → Hp → Prop} (h : QR b M av W σ Rl' F H P (r.bind f) Q')
    (k : ∀ a y F1 H1 own1, Gr b F H P F1 H1 (In own1) → Rl F1 H1 own1 a y → QR b M av W σ Rl' F1 H1 (In own1) (f a) Q' → Q y H1) : QR b M av W σ Rl F H P r Q := by
  cases r with
  | ok a => exact fun y F1 H1 own1 g rl => k a y F1 H1 own1 g rl (QR.step g h)
  | exc c es ρ' => exact h
  | bad => exact h
theorem QR.bad {Q : β → Hp → Prop} (h : QR b M av W σ Rl F H P (.bad : R α) Q) : False := h
end
abbrev rE (M : Mach) (av : List V) (σ : St) : Hp → Hp → Ow → D × Env → V → Prop := fun F H own a v => Pt M av F H σ a.2 own ∧ Rep M F v a.1
abbrev rX (M : Mach) (av : List V) (σ : St) : Hp → Hp → Ow → O × Env → V → Prop := fun F H own a v => Pt M av F H σ a.2 own ∧ ∃ as, OwR M F H v a.1 as
abbrev rT (M : Mach) (av : List V) (σ : St) : Hp → Hp → Ow → Bool × Env → Bool → Prop := fun F H own a v => Pt M av F H σ a.2 own ∧ v = a.1
abbrev rEs (M : Mach) (av : List V) (σ : St) : Hp → Hp → Ow → List D × Env → List V → Prop := fun F H own a vs => Pt M av F H σ a.2 own ∧ Reps M F vs a.1
/-- a reading by the meaning f -/
def tR (b : Bool) (M : Mach) (av : List V) (W : WX) {α β : Type} (Rl : St → Hp → Hp → Ow → α → β → Prop) (f : Env → R α) : St → Hp → (β → Hp → Prop) → Prop :=
  fun σ H Q => ∃ ρ F own, Pt M av F H σ ρ own ∧ QR b M av W σ (Rl σ) F H (In own) (f ρ) Q
abbrev tE (b : Bool) (M : Mach) (av : List V) (W : WX) (f : Env → R (D × Env)) : TE := tR b M av W (rE M av) f
abbrev tX (b : Bool) (M : Mach) (av : List V) (W : WX) (f : Env → R (O × Env)) : TE := tR b M av W (rX M av) f
abbrev tT (b : Bool) (M : Mach) (av : List V) (W : WX) (f : Env → R (Bool × Env)) : TT := tR b M av W (rT M av) f
abbrev tEs (b : Bool) (M : Mach) (av : List V) (W : WX) (f : Env → R (List D × Env)) : TA := tR b M av W (rEs M av) f
end RF
end

section
set_option Elab.async false
set_option linter.all false
set_option autoImplicit false
set_option maxRecDepth 100000
set_option maxHeartbeats 1000000
/-! RfE: names, constants, operators, tests: the machine keeps the meaning. -/
namespace RF
open PySem L2

theorem imE {X : Cx} {e : Expr} {t t' : TE} (h : PE X e t) (k : ∀ σ H Q, t' σ H Q → t σ H Q) : PE X e t' := ⟨fun pins s σ H Q I q => h.run pins s σ H Q I (k σ H Q q)⟩
theorem imT {X : Cx} {e : Expr} {t t' : TT} (h : PT X e t) (k : ∀ σ H Q, t' σ H Q → t σ H Q) : PT X e t' := ⟨fun pins s σ H Q I q => h.run pins s σ H Q I (k σ H Q q)⟩
theorem imA {X : Cx} {e : List Expr} {t t' : TA} (h : PA X e t) (k : ∀ σ H Q, t' σ H Q → t σ H Q) : PA X e t' := ⟨fun pos pins s σ H Q I q => h.run pos pins s σ H Q I (k σ H Q q)⟩
section
variable {b : Bool} {M : Mach} {av : List V} {W : WX} {α β : Type} {Rl : St → Hp → Hp → Ow → α → β → Prop}
theorem QR.lax {σ : St} {F H : Hp} {P : Addr → Prop} {r : R α} {Q : β → Hp → Prop} (h : QR false M av W σ (Rl σ) F H P r Q) : QR b M av W σ (Rl σ) F H P r Q := by
  cases r with
  | ok a => exact fun y F' H' own' g => h y F' H' own' g.lax
  | exc c es ρ' => exact fun F' H' own' C dx vs g => h F' H' own' C dx vs g.lax
  | bad => exact h
/-- nothing else is owned than said: growth from fewer owned ones -/
theorem QR.less {σ : St} {F H : Hp} {P P1 : Addr → Prop} {r : R α} {Q : β → Hp → Prop} (h : QR b M av W σ (Rl σ) F H P r Q) (k : ∀ a, P1 a → P a) : QR b M av W σ (Rl σ) F H P1 r Q := by
  have w : ∀ {F' H' : Hp} {P' : Addr → Prop}, Gr b F H P1 F' H' P' → Gr b F H P F' H' P' := fun g => g.weak k fun a q => .inl q
  cases r with
  | ok a => exact fun y F' H' own' g => h y F' H' own' (w g)
  | exc c es ρ' => exact fun F' H' own' C dx vs g => h F' H' own' C dx vs (w g)
  | bad => exact h
theorem QR.bindT {γ δ : Type} {Rl' : St → Hp → Hp → Ow → γ → δ → Prop} {σ : St} {F H : Hp} {P : Addr → Prop} {r : R α} {f : α → R γ} {Q : β → Hp → Prop} {Q' : δ → Hp → Prop} (h : QR b M av W σ (Rl' σ) F H P (r.bind f) Q')
    (k : ∀ a y F1 H1 own1, Gr true F H P F1 H1 (In own1) → Rl σ F1 H1 own1 a y → QR b M av W σ (Rl' σ) F1 H1 (In own1) (f a) Q' → Q y H1) : QR true M av W σ (Rl σ) F H P r Q := by
  cases r with
  | ok a => exact fun y F1 H1 own1 g rl => k a y F1 H1 own1 g rl (QR.step g.strict h)
  | exc c es ρ' => exact fun F' H' own' C dx vs g => h F' H' own' C dx vs g.strict
  | bad => exact h
theorem tR.lax {f : Env → R α} {σ : St} {H : Hp} {Q : β → Hp → Prop} (h : tR false M av W Rl f σ H Q) : tR b M av W Rl f σ H Q := by
  obtain ⟨ρ, F, own, pt, h⟩ := h
  exact ⟨ρ, F, own, pt, h.lax⟩
end
theorem laxE {b : Bool} {M : Mach} {av : List V} {W : WX} {α : Type} {Rl : St → Hp → Hp → Ow → α → V → Prop} {X : Cx} {e : Expr} {f : Env → R α} (h : PE X e (tR true M av W Rl f)) : PE X e (tR b M av W Rl f) :=
  imE h fun σ H Q q => by
    cases b with
    | true => exact q
    | false => exact tR.lax q

section
variable {b : Bool} {M : Mach} {av : List V} {W : WX} {X : Cx} {e a1 a2 a3 : Expr} {pos : Pos}
/-- the point a slot's freezing leads to -/
theorem freeze_ok {F H : Hp} {σ : St} {ρ : Env} {own : Ow} {i : Nat} (pt : Pt M av F H σ ρ own) {Q : VK} (q : QR b M av W σ (rE M av σ) F H (In own) (freeze ρ i) Q) : ∃ v, σ[i]? = some (some v) ∧ Q v H := by
  have h := pt.sl i
  unfold freeze at q
  cases e : ρ.at i with
  | un => rw [e] at q; exact q.elim
  | sh d =>
    rw [e] at q h
    obtain ⟨_, v, e1, r⟩ := h
    exact ⟨v, slot_of e1, q v F H own Gr.rfl' ⟨pt, r⟩⟩
  | ow k o =>
    rw [e] at q h
    obtain ⟨v, e1, r, _⟩ := h
    have hs := slot_of e1
    refine ⟨v, hs, ?_⟩
    have ff : Sb F (fun a => if a ∈ own i then H a else F a) := fun a u ea => by
      have hn : a ∉ own i := fun m => by rw [pt.fr i a m] at ea; cases ea
      show (if a ∈ own i then H a else F a) = some u
      rw [if_neg hn]; exact ea
    have rf : Rep M (fun a => if a ∈ own i then H a else F a) v o.frz := r.frz ff fun a m u ea => by
      show (if a ∈ own i then H a else F a) = some u
      rw [if_pos m]; exact ea
    have p1 : Pt M av (fun a => if a ∈ own i then H a else F a) H σ (ρ.set i .un) (fun j => if j = i then [] else own j) := by
      refine pt.un.grown ff (fun _ _ _ z => z) (fun a u ea => ?_) fun a m => ?_
      · have ea : (if a ∈ own i then H a else F a) = some u := ea
        by_cases m : a ∈ own i
        · rw [if_pos m] at ea; exact ea
        · rw [if_neg m] at ea; exact pt.sub _ _ ea
      · obtain ⟨j, m⟩ := m
        have m : a ∈ (if j = i then [] else own j) := m
        by_cases ej : j = i
        · rw [if_pos ej] at m; cases m
        · rw [if_neg ej] at m
          show (if a ∈ own i then H a else F a) = none
          rw [if_neg fun z => ej (pt.dj j i a m z)]
          exact pt.fr j a m
    have p2 := p1.put' (i := i) (s := .sh o.frz) (as := []) hs ⟨rfl, v, rfl, rf⟩ List.nodup_nil (fun _ z => nomatch z) (fun _ z => nomatch z)
    rw [List.set_set] at p2
    refine q v _ H _ ⟨ff, fun _ _ z _ => z, fun a ea => ?_, fun _ z => z, fun a m => ?_⟩ ⟨p2, rf⟩
    · have ea : (if a ∈ own i then H a else F a) ≠ none := ea
      by_cases m : a ∈ own i
      · exact .inr (.inr ⟨i, m⟩)
      · rw [if_neg m] at ea; exact .inl ea
    · rcases m.put with z | z
      · cases z
      · exact .inl z.un
theorem sE_var {i : Nat} {x : PySem.Str} (hN : X.N[i]? = some x) (hv : Vis X.env.scope x) (hd : (x == ("__debug__" : PySem.Str)) = false) (hcd : (x == ("__classdict__" : PySem.Str)) = false) :
    PE X (.Name x pos) (tE b M av W fun ρ => freeze ρ i) :=
  imE (pe_var hN hv hd hcd) fun σ H Q ⟨ρ, F, own, pt, q⟩ => freeze_ok pt q
theorem sX_pk {i : Nat} {x : PySem.Str} {T : Tb} {Φ : Fn} (hN : X.N[i]? = some x) (hv : Vis X.env.scope x) (hd : (x == ("__debug__" : PySem.Str)) = false) (hcd : (x == ("__classdict__" : PySem.Str)) = false) :
    PE X (.Name x pos) (tX b M av W (evX T Φ (.pk i))) := by
  refine imE (pe_var hN hv hd hcd) fun σ H Q ⟨ρ, F, own, pt, q⟩ => ?_
  have h := pt.sl i
  unfold evX at q
  cases e : ρ.at i with
  | un => rw [e] at q; exact q.elim
  | sh d =>
    rw [e] at q h
    obtain ⟨_, v, e1, r⟩ := h
    exact ⟨v, slot_of e1, q v F H own Gr.rfl' ⟨pt, _, .lf r⟩⟩
  | ow k o =>
    rw [e] at q h
    obtain ⟨v, e1, r, _⟩ := h
    exact ⟨v, slot_of e1, q v F H own Gr.rfl' ⟨pt, _, r⟩⟩
theorem sX_ex {T : Tb} {Φ : Fn} {x : Ex} (h : PE X e (tE b M av W (evE T Φ x))) : PE X e (tX b M av W (evX T Φ (.ex x))) := by
  refine imE h fun σ H Q ⟨ρ, F, own, pt, q⟩ => ⟨ρ, F, own, pt, ?_⟩
  unfold evX at q
  refine q.bind fun a v F1 H1 own1 g ⟨p1, r⟩ q1 => ?_
  exact q1 v F1 H1 own1 Gr.rfl' ⟨p1, _, .lf r⟩
/-- a constant -/
def isCst : D → Bool
  | .non => true | .bl _ => true | .int _ => true | .str _ => true | _ => false
theorem sE_cst {d : D} {v : V} {T : Tb} {Φ : Fn} (h : PE X e (tC v)) (r : ∀ F, Rep M F v d) : PE X e (tE b M av W (evE T Φ (.cst d))) := by
  refine imE h fun σ H Q ⟨ρ, F, own, pt, q⟩ => ?_
  unfold evE at q
  exact q v F H own Gr.rfl' ⟨pt, r F⟩

/-! ### two operands -/
theorem two_run {T : Tb} {Φ : Fn} {x y : Ex} {g : D → D → Env → R (D × Env)} (ha : PE X a1 (tE b M av W (evE T Φ x))) (hb : PE X a2 (tE b M av W (evE T Φ y)))
    {pins : List (Addr × Obj)} {s : Shared} {σ : St} {H : Hp} {Q : VK} {f : Value → Value → Sem Value} (I : Inv X pins σ H s)
    (h : tE b M av W (fun ρ => (evE T Φ x ρ).bind fun r => (evE T Φ y r.2).bind fun t => g r.1 t.1 t.2) σ H Q)
    (hf : ∀ v u s2 p q d1 d2 ρ F H2 own, Inv X pins σ H2 s2 → RelV p v → RelV q u → Pt M av F H2 σ ρ own → Rep M F p d1 → Rep M F q d2 → QR b M av W σ (rE M av σ) F H2 (In own) (g d1 d2 ρ) Q →
      wpAny (model X.prog X.w) X.A (f v u) (EP X pins σ Q) X.xe s2) :
    wpAny (model X.prog X.w) X.A (eval a1 X.env) (fun v s₁ => wpAny (model X.prog X.w) X.A (eval a2 X.env) (fun u s₂ => wpAny (model X.prog X.w) X.A (f v u) (EP X pins σ Q) X.xe s₂) X.xe s₁) X.xe s := by
  obtain ⟨ρ, F, own, pt, q⟩ := h
  refine binT ha hb (R := fun p u H2 => ∃ d1 d2 ρ F own, Pt M av F H2 σ ρ own ∧ Rep M F p d1 ∧ Rep M F u d2 ∧ QR b M av W σ (rE M av σ) F H2 (In own) (g d1 d2 ρ) Q) I ⟨ρ, F, own, pt, ?_⟩
    fun v u s2 p q' H2 I2 rp rq ⟨d1, d2, ρ, F, own, pt, r1, r2, q⟩ => hf v u s2 p q' d1 d2 ρ F H2 own I2 rp rq pt r1 r2 q
  refine q.bind fun r v F1 H1 own1 g1 ⟨p1, r1⟩ q1 => ⟨r.2, F1, own1, p1, ?_⟩
  refine q1.bind fun t u F2 H2 own2 g2 ⟨p2, r2⟩ q2 => ⟨r.1, t.1, t.2, F2, own2, p2, r1.mono g2.ff, r2, q2⟩

/-- a value back, nothing changed -/
theorem back_ok {pins : List (Addr × Obj)} {s : Shared} {σ : St} {H F : Hp} {own : Ow} {ρ : Env} {Q : VK} {d : D} {v : V} {u : Value} (I : Inv X pins σ H s) (pt : Pt M av F H σ ρ own) (r : RelV v u) (rd : Rep M F v d)
    (q : QR b M av W σ (rE M av σ) F H (In own) (.ok (d, ρ)) Q) : EP X pins σ Q u s := ⟨v, H, I, r, q v F H own Gr.rfl' ⟨pt, rd⟩⟩
/-- a new frozen object back -/
theorem new_q {σ : St} {H F : Hp} {own : Ow} {ρ : Env} {Q : VK} {d : D} {o : HO} {p : Addr} (pt : Pt M av F H σ ρ own) (hp : H p = none) (rd : Rep M (upd F p o) (.ref p) d)
    (q : QR b M av W σ (rE M av σ) F H (In own) (.ok (d, ρ)) Q) : Q (.ref p) (upd H p o) := q _ _ _ own (Gr.newF pt.sub hp) ⟨pt.newF hp, rd⟩
theorem lim_eq : lim = sizeLine := sizeLine_eq.symm
theorem Rep.intv {F : Hp} {v : V} {i : Int} (r : Rep M F v (.int i)) : v = .int i := by cases r; rfl
theorem Rep.strv {F : Hp} {v : V} {x : PySem.Str} (r : Rep M F v (.str x)) : v = .str x := by cases r; rfl
theorem Rep.blv {F : Hp} {v : V} {x : Bool} (r : Rep M F v (.bl x)) : v = .bl x := by cases r; rfl
theorem Rep.nonv {F : Hp} {v : V} (r : Rep M F v .non) : v = .non := by cases r; rfl
theorem Rep.tupv {F : Hp} {v : V} {ds : List D} (r : Rep M F v (.tup ds)) : ∃ a vs, v = .ref a ∧ SqT M.K F a vs ∧ Reps M F vs ds := by cases r with | tup h r => exact ⟨_, _, rfl, h, r⟩
theorem Rep.lstv {F : Hp} {v : V} {ds : List D} (r : Rep M F v (.lst ds)) : ∃ a vs, v = .ref a ∧ F a = some (.lst vs) ∧ Reps M F vs ds := by cases r with | lst h r => exact ⟨_, _, rfl, h, r⟩

theorem fdivW {i j : Int} {t u : Tok} {s : Shared} {Q E : Value → Shared → Prop} (h0 : j ≠ 0) (h : j.natAbs.log2 < 9000) (q : Q (.int (i.fdiv j) s.toks) { s with toks := s.toks + 1 }) :
    wpAny (model X.prog X.w) X.A (binaryOp .FloorDiv (.int i t) (.int j u)) Q E s := by
  exact PyProof.Rows.floordiv_int h0 q (.inl (PyProof.noPylong_of_log2 h))
end
end RF
end

section
set_option Elab.async false
set_option linter.all false
set_option autoImplicit false
set_option maxRecDepth 100000
set_option maxHeartbeats 1000000
/-! RfF: what a def promises; a call with frozen arguments; operators. -/
namespace RF
open PySem L2

/-- the promise of the def f, by the meaning Φ -/
def spF (M : Mach) (Φ : Fn) (f n : Nat) : Sp := fun vs H Q E => vs.length = n ∧ ∃ (xs : List A) (F : Hp) (own : Ow), Pt M vs F H (vs.map some) (parS 0 xs) own ∧
  match Φ f xs with
  | .ok d outs => ∀ v F' H' own', Gr false F H (In own) F' H' (In own') → Pt M vs F' H' (vs.map some) (parS 0 outs) own' → Rep M F' v d → Q v H'
  | .okN o outs => ∀ v F' H' own' own1 as, Gr false F H (In own) F' H' (In own') → Pt M vs F' H' (vs.map some) (parS 0 outs) own1 → OwR M F' H' v o as → as.Nodup → (∀ x ∈ as, ¬ In own1 x ∧ F' x = none) → (∀ x, In own' x ↔ In own1 x ∨ x ∈ as) → Q v H'
  | .exc c es outs => ∀ F' H' own' C dx ws, Gr false F H (In own) F' H' (In own') → Pt M vs F' H' (vs.map some) (parS 0 outs) own' → M.cls c = some C →
      H' dx = some (.xd (((M.T.fld c).map M.nm).zip ws)) → F' dx = none → ¬ In own' dx → Reps M F' ws es → E (.ref C) (some dx) H'
  | .bad => False
/-- every def keeps its promise, at level k -/
def Fns (M : Mach) (Φ : Fn) (k : Nat) (P : Program) (w : World) (base : Heap) : Prop :=
  ∀ f i, M.fi f = some i → FnOk P w M.K M.mg base (L2N.CX P w) k i.adr i.fd i.ps (spF M Φ f i.ps.length)
def tyN : Nat → String
  | 0 => "int" | 1 => "bool" | 2 => "str" | 3 => "list" | 4 => "tuple" | _ => "dict"
/-- the built-in classes that values of the layer have -/
def isKn (T : String) : Bool := ["NoneType", "int", "bool", "str", "list", "tuple", "dict"].contains T
/-- what isinstance asks of a class -/
structure ClsI (K : PySem.W.Frag) (C : Addr) : Prop where
  ha : PySem.W.findIn K (.ref C) "__class__" = some (some (.builtin "object.__class__"))
  hn : PySem.W.specialIn K (.builtin "object.__class__") "__get__" = some (some (.builtin "getset_descriptor.__get__"))
  ht : PySem.W.takesIn K (.builtin "object.__class__") = some true
  hm : PySem.W.mroIn K C (.type "object") = some true
/-- what of the text a law's tables must keep -/
structure MOk (M : Mach) : Prop where
  bd : ∀ f i, M.fi f = some i → M.T.dfl f = [] → Binds M.K i.fd i.ps []
  bdD : ∀ f i, M.fi f = some i → ∀ j, ∃ ds, Vals (i.dv.drop j) ds ∧ Binds M.K i.fd i.ps ds
  dvr : ∀ f i, M.fi f = some i → ∀ F, Reps M F i.dv (M.T.dfl f)
  mkr : ∀ c f, M.T.init c = some f → ∃ C i, M.cls c = some C ∧ M.fi f = some i ∧ Mk M.K C i.adr
  kp : ∀ f i, M.fi f = some i → PySem.W.keepIn M.K (.ref i.adr) = true
  cl : ∀ c C, M.cls c = some C → Cls M.K C
  mt : ∀ c m f, M.T.meth c m = some f → ∃ C i, M.cls c = some C ∧ M.fi f = some i ∧ Meth M.K C (M.mn m) i.adr
  fn : ∀ c C f, M.cls c = some C → f ∈ M.T.fld c → NoAttr M.K C (M.nm f)
  inj : ∀ c f g, f ∈ M.T.fld c → g ∈ M.T.fld c → M.nm f = M.nm g → f = g
  fnd : ∀ c, (M.T.fld c).Nodup
  fl : ∀ c, (M.T.fld c).length ≤ 900
  nf : ∀ c m f, M.T.meth c m = some f → ∀ g ∈ M.T.fld c, M.nm g ≠ M.mn m
  md : ∀ f i, M.fi f = some i → ∀ c m, M.T.meth c m = some f → M.T.dfl f = [] ∨ 5 < m
  ar : ∀ c m f i, M.T.meth c m = some f → M.fi f = some i → m ≤ 5 → i.ps.length = (if m = mLen then 1 else 2)
  ci : ∀ c c' C, M.cls c = some C → M.cls c' = some C → c = c'
  nt : ∀ c C, M.cls c = some C → ∀ T : String, isKn T = true → PySem.W.notFirst M.K C (.type T) = true
  nc : ∀ c C c' C', M.cls c = some C → M.cls c' = some C' → PySem.W.notFirst M.K C (.ref C') = true
  ci2 : ∀ c C, M.cls c = some C → ClsI M.K C
  ne : ∀ c C f, M.T.meth c mEq = some f → M.cls c = some C → PySem.W.findIn M.K (.ref C) "__ne__" = some (some (.builtin "object.__ne__"))
  io : ∀ c C c' C', M.cls c = some C → M.cls c' = some C' → PySem.W.kitOne M.K (.ref C') (.ref C) = some (M.T.sub c' c)
  ib : ∀ c C n, M.cls c = some C → PySem.W.kitOne M.K (.ref C) (.type (tyN n)) = some false
  iv : ∀ c C (t : String), M.cls c = some C → isKn t = true → PySem.W.kitOne M.K (.type t) (.ref C) = some false
  first : ∀ c C, M.cls c = some C → PySem.W.selfFirst M.K C = true
  nEq : M.mn mEq = "__eq__"
  nAdd : M.mn mAdd = "__add__"
  nSub : M.mn mSub = "__sub__"
  nMul : M.mn mMul = "__mul__"
  nLen : M.mn mLen = "__len__"
  nCon : M.mn mCon = "__contains__"
structure Ok (M : Mach) (X : Cx) : Prop where
  K : X.K = M.K
  mg : X.mg = M.mg
  nd : X.N.Nodup
  hd : X.A.handled = none

section
variable {b : Bool} {M : Mach} {av : List V} {W : WX} {X : Cx} {F H : Hp} {σ : St} {ρ : Env} {own : Ow} {Φ : Fn}
theorem parS_at : ∀ (xs : List A) (k i : Nat), Env.at (parS k xs) i = match xs[i]? with
    | some a => a.s (k + i)
    | none => .un
  | [], k, i => by simp [parS, Env.at]
  | a :: r, k, 0 => by simp [parS, Env.at]
  | a :: r, k, i + 1 => by
    have h := parS_at r (k + 1) i
    have e : Env.at (parS k (a :: r)) (i + 1) = Env.at (parS (k + 1) r) i := by simp [parS, Env.at]
    rw [e, h, show k + 1 + i = k + (i + 1) from by omega]
    simp
theorem parS_len : ∀ (xs : List A) (k : Nat), (parS k xs).length = xs.length
  | [], _ => rfl
  | _ :: r, k => by rw [parS, List.length_cons, List.length_cons, parS_len r]
/-- frozen arguments -/
theorem Pt.args {vs : List V} {ds : List D} (sub : Sb F H) (r : Reps M F vs ds) : Pt M vs F H (vs.map some) (parS 0 (ds.map .sh)) (fun _ => []) := by
  refine ⟨sub, by rw [List.length_map, parS_len, List.length_map, r.length], fun i => ?_, fun _ => List.nodup_nil, (fun _ _ _ h => nomatch h), (fun _ _ h => nomatch h)⟩
  rw [parS_at, List.getElem?_map, List.getElem?_map]
  cases e : ds[i]? with
  | none => exact rfl
  | some d =>
    obtain ⟨v, e2, rv⟩ := r.get e
    rw [e2]
    exact ⟨rfl, v, rfl, rv⟩
/-- behind a call that was lent nothing -/
theorem Gr.of_none {F' H' : Hp} {own' : Ow} (g : Gr false F H (In fun _ => []) F' H' (In own')) : Gr b F H (In own) F' H' (In own) :=
  ⟨g.ff, (fun a o e _ => g.hh a o e (.inr (fun ⟨_, z⟩ => nomatch z))), (fun a e => (g.nf a e).imp id (fun q => q.elim .inl (fun ⟨_, z⟩ => nomatch z))), g.lv, fun a e => .inl e⟩
theorem Pt.of_none {F' H' : Hp} {own' : Ow} (pt : Pt M av F H σ ρ own) (g : Gr false F H (In fun _ => []) F' H' (In own')) (s : Sb F' H') : Pt M av F' H' σ ρ own := by
  refine pt.grown g.ff (fun a m u e => g.hh a u e (.inr (fun ⟨_, z⟩ => nomatch z))) s fun a m => ?_
  cases e : F' a with
  | none => rfl
  | some o =>
    rcases g.nf a (by rw [e]; exact fun z => nomatch z) with q | q | ⟨_, q⟩
    · obtain ⟨i, m⟩ := m
      exact absurd (pt.fr i a m) q
    · exact absurd q (pt.there m)
    · cases q
theorem owr {M : Mach} {F H : Hp} : ∀ {v : V} {o : O} {as : List Addr} {a : Addr} {fs : List (PySem.Str × V)}, OwR M F H v o as → a ∈ as → H a = some (.xd fs) → False := by
  have key : ∀ n, (∀ (v : V) (o : O) (as : List Addr), sizeOf o ≤ n → OwR M F H v o as → ∀ a fs, a ∈ as → H a = some (.xd fs) → False) ∧ ∀ (vs : List V) (os : List O) (as : List Addr), sizeOf os ≤ n → OwRs M F H vs os as → ∀ a fs, a ∈ as → H a = some (.xd fs) → False := by
    intro n
    induction n with
    | zero =>
      refine ⟨fun v o as hs => ?_, fun vs os as hs => ?_⟩
      · cases o <;> simp at hs
      · cases os <;> simp at hs
    | succ n ih =>
      refine ⟨fun v o as hs h a fs m e => ?_, fun vs os as hs h a fs m e => ?_⟩
      · cases h with
        | lf h => cases m
        | lst h r =>
          rcases List.mem_cons.mp m with q | m
          · subst q; rw [h] at e; cases e
          · exact ih.2 _ _ _ (by simp at hs; omega) r a fs m e
        | dic h hk hn r =>
          rcases List.mem_cons.mp m with q | m
          · subst q; rw [h] at e; cases e
          · exact ih.2 _ _ _ (by simp at hs; omega) r a fs m e
        | obj h hc hl hn r =>
          rcases List.mem_cons.mp m with q | m
          · subst q; rw [h] at e; cases e
          · exact ih.2 _ _ _ (by simp at hs; omega) r a fs m e
      · cases h with
        | nil => cases m
        | cons h r =>
          rcases List.mem_append.mp m with m | m
          · exact ih.1 _ _ _ (by simp at hs; omega) h a fs m e
          · exact ih.2 _ _ _ (by simp at hs; omega) r a fs m e
  intro v o as a fs h m e
  exact (key _).1 v o as (Nat.le_refl _) h a fs m e
theorem owned_xd {M : Mach} {F H : Hp} {av : List V} {x : Option V} {s : S} {as : List Addr} {a : Addr} {fs : List (PySem.Str × V)} (h : SlR M F H av x s as) (m : a ∈ as) (e : H a = some (.xd fs)) : False := by
  cases s with
  | un => have q : as = [] := h; subst q; cases m
  | sh d => obtain ⟨q, _⟩ := h; subst q; cases m
  | ow k o => obtain ⟨v, _, r, _⟩ := h; exact owr r m e
/-- a def called with frozen values -/
theorem callS_run {k f : Nat} {i : FI} {pins : List (Addr × Obj)} {s : Shared} {Q : VK} {us : List Value} {vs : List V} {ds : List D} {A' : Around} (ok : Ok M X) (G : FnOk X.prog X.w M.K M.mg X.base (L2N.CX X.prog X.w) k i.adr i.fd i.ps (spF M Φ f i.ps.length))
    (hr : Room k A') (hfr : A'.frames = X.A.frames) (hb : Binds M.K i.fd i.ps []) (tk : L2N.Takes X W) (I : Inv X pins σ H s) (r : Vals vs us) (hl : vs.length = i.ps.length) (pt : Pt M av F H σ ρ own) (rd : Reps M F vs ds)
    (q : QR b M av W σ (rE M av σ) F H (In own) (callS Φ f ds ρ) Q) : wpAny (model X.prog X.w) A' (call (.ref i.adr) us) (EP X pins σ Q) X.xe s := by
  have hsp : spF M Φ f i.ps.length vs H Q (WE W σ) := by
    refine ⟨hl, ds.map .sh, F, fun _ => [], Pt.args pt.sub rd, ?_⟩
    unfold callS at q
    cases e : Φ f (ds.map .sh) with
    | ok d outs =>
      rw [e] at q
      intro v F' H' own' g p' rv
      exact q v F' H' own g.of_none ⟨pt.of_none g p'.sub, rv⟩
    | exc c es outs =>
      rw [e] at q
      intro F' H' own' C dx ws g p' hc hx hf hn rw'
      refine q F' H' own C dx ws g.of_none (pt.of_none g p'.sub) hc hx hf (fun m => ?_) rw'
      have h1 := pt.there m
      cases e1 : H dx with
      | none => exact h1 e1
      | some o =>
        have e2 := g.hh dx o e1 (.inr (fun ⟨_, z⟩ => nomatch z))
        rw [hx] at e2
        cases e2
        obtain ⟨j, mj⟩ := m
        have := (pt.sl j)
        exact owned_xd this mj e1
    | okN o outs => rw [e] at q; exact q.elim
    | bad => rw [e] at q; exact q
  have e0 : Env0 X.prog X.w X.K X.mg X.base A' X.stack s H := by
    have e := I.env0
    exact ⟨by rw [hfr]; exact e.frames, e.mod, e.bs, e.bsz, e.funs, e.frf, e.hok, e.bare⟩
  rw [ok.K, ok.mg] at e0
  have kin : M.K.In s.heap := by have := I.kIn; rw [ok.K] at this; exact this
  refine wpAny_call (codeAny_mono (G.run A' X.stack s H ⟨us, []⟩ us vs Q (WE W σ) hr e0 (by
    have := hb s us kin (by rw [List.append_nil, ← r.length]; exact hl)
    rw [List.append_nil] at this; exact this) r hsp) fun r s' hq => ?_)
  cases r with
  | error e => exact L2N.passAt tk σ pins H s e s' I hq
  | ok fl =>
    cases fl with
    | ret u => exact I.after hq
    | next => exact False.elim hq
    | brk => exact False.elim hq
    | cont => exact False.elim hq
end
end RF
end

section
set_option Elab.async false
set_option linter.all false
set_option autoImplicit false
set_option maxRecDepth 100000
set_option maxHeartbeats 1000000
/-! RfG: operators: numbers, texts, sequences, own classes. -/
namespace RF
open PySem L2
section
variable {b : Bool} {M : Mach} {av : List V} {W : WX} {X : Cx} {F H : Hp} {σ : St} {ρ : Env} {own : Ow} {Φ : Fn} {k : Nat}
theorem Rep.objv {v : V} {c : Nat} {ds : List D} (r : Rep M F v (.obj c ds)) : ∃ a C dx fs, v = .ref a ∧ F a = some (.ins C dx fs) ∧ M.cls c = some C ∧ ds.length ≤ (M.T.fld c).length ∧
    fs.map (·.1) = ((M.T.fld c).take ds.length).map M.nm ∧ Reps M F (fs.map (·.2)) ds := by
  cases r with | obj h hc hl hn r => exact ⟨_, _, _, _, rfl, h, hc, hl, hn, r⟩
/-- the promise of a method, where the tables tell one -/
theorem meth_ok (mk : MOk M) {c m f : Nat} (h : M.T.meth c m = some f) {C : Addr} (hc : M.cls c = some C) : ∃ i, M.fi f = some i ∧ Meth M.K C (M.mn m) i.adr := by
  obtain ⟨C', i, h1, h2, h3⟩ := mk.mt c m f h
  rw [hc] at h1; cases h1
  exact ⟨i, h2, h3⟩
theorem no_lookup {fs : List (PySem.Str × V)} {f : PySem.Str} (h : f ∉ fs.map (·.1)) : fs.lookup f = none := by
  induction fs with
  | nil => rfl
  | cons p r ih =>
    obtain ⟨g, x⟩ := p
    rw [List.map_cons, List.mem_cons, not_or] at h
    have hb : (f == g) = false := beq_eq_false_iff_ne.mpr h.1
    simp only [List.lookup, hb]
    exact ih h.2
/-- binary own operator of two of one class -/
theorem own_bin {op : PySem.Operator} {m f c : Nat} {pins : List (Addr × Obj)} {s : Shared} {Q : VK} {p q : V} {u v : Value} {fs gs : List D} (ok : Ok M X) (mk : MOk M) (hΦ : Fns M Φ k X.prog X.w X.base) (hr : Room k X.A) (tk : L2N.Takes X W)
    (hm : M.T.meth c m = some f) (hn : M.mn m = PySem.dunder op.info.2) (h5 : m ≤ 5) (h4 : m ≠ mLen) (I : Inv X pins σ H s) (rp : RelV p u) (rq : RelV q v) (pt : Pt M av F H σ ρ own) (d1 : Rep M F p (.obj c fs)) (d2 : Rep M F q (.obj c gs))
    (hq : QR b M av W σ (rE M av σ) F H (In own) (callS Φ f [.obj c fs, .obj c gs] ρ) Q) : wpAny (model X.prog X.w) X.A (binaryOp op u v) (EP X pins σ Q) X.xe s := by
  obtain ⟨a, C, dx, fa, e1, h1, hc, _⟩ := d1.objv
  obtain ⟨a2, C2, dy, ga, e2, h2, hc2, _⟩ := d2.objv
  rw [hc] at hc2; cases hc2
  subst e1; subst e2
  cases rp; cases rq
  obtain ⟨i, hi, me⟩ := meth_ok mk hm hc
  obtain ⟨mA, J, _⟩ := ins_get I.hok (pt.sub _ _ h1)
  obtain ⟨mB, J', _⟩ := ins_get I.hok (pt.sub _ _ h2)
  obtain ⟨od, J, _⟩ := J.look
  obtain ⟨od', J', _⟩ := J'.look
  obtain ⟨mm, hF⟩ := I.fr
  have kin : M.K.In X.base := by have := I.ok.mod.kin; rw [ok.K] at this; exact this
  have hd : M.T.dfl f = [] := (mk.md f i hi c m hm).elim id fun z => by omega
  have two : i.ps.length = 2 := by
    have e := mk.ar c m f i hm hi h5
    rw [if_neg h4] at e; exact e
  refine PySem.W.binop_K (K := M.K) hF kin J J'.type (mk.first c C hc) (by rw [← hn]; exact me.at_) me.fn ?_
  have rr : Vals [V.ref a, V.ref a2] [Value.ref a, Value.ref a2] := .cons rfl (.cons rfl .nil)
  refine wpAny_mono (callS_run (k := k) ok (hΦ f i hi) hr rfl (mk.bd f i hi hd) tk I rr two.symm pt (.cons d1 (.cons d2 .nil)) hq) (fun r s' h => ?_) fun _ _ z => z
  obtain ⟨w, H', I', rw', q⟩ := h
  cases r <;> first
    | exact ⟨w, H', I', rw', q⟩
    | (exfalso; cases w <;> first
        | (cases rw'; done)
        | (obtain ⟨_, z⟩ := rw'; cases z))
theorem dun (op : Bop) {m : Nat} (mk : MOk M) (h : mOf op = some m) (o : PySem.Operator) (ho : (op = .add → o = .Add) ∧ (op = .sub → o = .Sub) ∧ (op = .mul → o = .Mult)) : M.mn m = PySem.dunder o.info.2 ∧ m ≤ 5 ∧ m ≠ mLen := by
  cases op <;> simp only [mOf, Option.some.injEq] at h <;> first
    | (cases h; done)
    | (subst h
       first
        | (rw [ho.1 rfl, mk.nAdd]; exact ⟨by decide +kernel, by decide, by decide⟩)
        | (rw [ho.2.1 rfl, mk.nSub]; exact ⟨by decide +kernel, by decide, by decide⟩)
        | (rw [ho.2.2 rfl, mk.nMul]; exact ⟨by decide +kernel, by decide, by decide⟩))
/-- the operator's sign -/
def opOf : Bop → PySem.Operator
  | .add => .Add | .sub => .Sub | .mul => .Mult | .fdiv => .FloorDiv | .mod => .Mod | .pow => .Pow | .shl => .LShift | .shr => .RShift | .band => .BitAnd | .bor => .BitOr | .bxor => .BitXor
theorem mul_fits {i j : Int} (h : i.natAbs.log2 + j.natAbs.log2 < 100000000) : IntMulOk i j := by
  have le : ∀ x : Int, Builtin.Int.intBits x ≤ x.natAbs.log2 + 1 := by
    intro x
    unfold Builtin.Int.intBits
    split
    · omega
    · omega
  have l1 := le i
  have l2 := le j
  have e : bitsLine = 134217728 := by decide
  unfold IntMulOk
  intro c
  have c2 := (Bool.and_eq_true _ _ ▸ c : _ ∧ _).2
  unfold Builtin.Int.intTooBig at c2
  have c3 := of_decide_eq_true c2
  rw [e] at c3
  omega
def MulFits (i j : Int) : Prop := i.natAbs.log2 + j.natAbs.log2 < 100000000
theorem op_mulF : OpR X (binaryOp .Mult) (rI MulFits fun i j => .int (i * j)) := opI fun _ _ _ _ _ _ _ hc q => PyProof.Rows.mul_int q (RF.mul_fits hc)
theorem int_ok {op : Bop} {i j : Int} {d : D} {pins : List (Addr × Obj)} {s : Shared} {Q : VK} {u v : Value} (I : Inv X pins σ H s) (ru : RelV (.int i) u) (rv : RelV (.int j) v) (e : binI op i j = some d)
    (q : ∀ w, Rep M F w d → Q w H) : wpAny (model X.prog X.w) X.A (binaryOp (opOf op) u v) (EP X pins σ Q) X.xe s := by
  cases op <;> simp only [binI, opOf] at e ⊢
  · cases e; exact op_add pins s σ H _ _ u v Q I ru rv ⟨i, j, rfl, rfl, q _ .int⟩
  · cases e; exact op_sub pins s σ H _ _ u v Q I ru rv ⟨i, j, rfl, rfl, q _ .int⟩
  · split at e
    · rename_i h; cases e; exact op_mulF pins s σ H _ _ u v Q I ru rv ⟨i, j, rfl, rfl, h, q _ .int⟩
    · cases e
  · split at e
    · rename_i h
      cases e
      obtain ⟨t, rfl⟩ := ru
      obtain ⟨t', rfl⟩ := rv
      exact fdivW h.1 h.2 ⟨.int _, H, I.tok _, ⟨_, rfl⟩, q _ .int⟩
    · cases e
  · split at e
    · rename_i h; cases e; exact op_modN pins s σ H _ _ u v Q I ru rv ⟨i, j, rfl, rfl, h, q _ .int⟩
    · cases e
  · split at e
    · rename_i h; cases e; exact op_pow pins s σ H _ _ u v Q I ru rv ⟨i, j, rfl, rfl, h, q _ .int⟩
    · cases e
  · split at e
    · rename_i h; cases e; exact op_shl pins s σ H _ _ u v Q I ru rv ⟨i, j, rfl, rfl, h, q _ .int⟩
    · cases e
  · split at e
    · rename_i h; cases e; exact op_shr pins s σ H _ _ u v Q I ru rv ⟨i, j, rfl, rfl, h, q _ .int⟩
    · cases e
  · cases e; exact op_and pins s σ H _ _ u v Q I ru rv ⟨i, j, rfl, rfl, q _ .int⟩
  · cases e; exact op_or pins s σ H _ _ u v Q I ru rv ⟨i, j, rfl, rfl, q _ .int⟩
  · cases e; exact op_xor pins s σ H _ _ u v Q I ru rv ⟨i, j, rfl, rfl, q _ .int⟩
theorem here_q {d : D} {Q : VK} (pt : Pt M av F H σ ρ own) (q : QR b M av W σ (rE M av σ) F H (In own) (.ok (d, ρ)) Q) : ∀ w, Rep M F w d → Q w H := fun w r => q w F H own Gr.rfl' ⟨pt, r⟩
theorem bin_ok {op : Bop} {pins : List (Addr × Obj)} {s : Shared} {Q : VK} {p q : V} {u v : Value} {d1 d2 : D} (ok : Ok M X) (mk : MOk M) (hΦ : Fns M Φ k X.prog X.w X.base) (hr : Room k X.A) (tk : L2N.Takes X W)
    (I : Inv X pins σ H s) (rp : RelV p u) (rq : RelV q v) (pt : Pt M av F H σ ρ own) (r1 : Rep M F p d1) (r2 : Rep M F q d2)
    (hq : QR b M av W σ (rE M av σ) F H (In own) (binD M.T Φ op d1 d2 ρ) Q) : wpAny (model X.prog X.w) X.A (binaryOp (opOf op) u v) (EP X pins σ Q) X.xe s := by
  unfold binD at hq
  split at hq
  · rename_i i j
    cases r1.intv; cases r2.intv
    split at hq
    · rename_i d e
      exact int_ok I rp rq e (here_q pt hq)
    · exact hq.elim
  · cases r1.strv; cases r2.strv
    split at hq
    · rename_i h
      obtain ⟨rfl, h⟩ := h
      rw [lim_eq] at h
      exact op_add_str pins s σ H _ _ u v Q I rp rq ⟨_, _, rfl, rfl, h, here_q pt hq _ .str⟩
    · exact hq.elim
  · obtain ⟨a, xs, rfl, h1, q1⟩ := r1.tupv
    obtain ⟨a2, ys, rfl, h2, q2⟩ := r2.tupv
    split at hq
    · rename_i h
      obtain ⟨rfl, h⟩ := h
      rw [lim_eq, ← q1.length, ← q2.length] at h
      refine op_catA pins s σ H _ _ u v Q I rp rq ⟨a, a2, xs, ys, rfl, rfl, by rw [ok.K]; exact pt.sub.sqT h1, by rw [ok.K]; exact pt.sub.sqT h2, h, fun e => ?_, fun _ e => ?_, fun _ _ p hp => ?_⟩
      · subst e
        cases q1
        exact here_q pt hq _ (.tup h2 q2)
      · subst e
        cases q2
        rw [List.append_nil] at hq
        exact here_q pt hq _ (.tup h1 q1)
      · exact new_q pt hp (.tup (SqT.of upd_same) ((q1.append q2).mono (Sb.upd (pt.sub.none hp)))) hq
    · exact hq.elim
  · obtain ⟨a, xs, rfl, h1, q1⟩ := r1.lstv
    obtain ⟨a2, ys, rfl, h2, q2⟩ := r2.lstv
    split at hq
    · rename_i h
      obtain ⟨rfl, h⟩ := h
      rw [lim_eq, ← q1.length, ← q2.length] at h
      exact op_cat pins s σ H _ _ u v Q I rp rq ⟨a, a2, xs, ys, rfl, rfl, pt.sub _ _ h1, pt.sub _ _ h2, h, fun p hp => new_q pt hp (.lst upd_same ((q1.append q2).mono (Sb.upd (pt.sub.none hp)))) hq⟩
    · exact hq.elim
  · rename_i c fs c' gs
    split at hq
    · rename_i hc
      subst hc
      split at hq
      · rename_i f hf
        cases hm : mOf op with
        | none => rw [hm] at hf; cases hf
        | some m =>
          rw [hm] at hf
          obtain ⟨hn, h5, h4⟩ := dun op mk hm (opOf op) ⟨fun z => by subst z; rfl, fun z => by subst z; rfl, fun z => by subst z; rfl⟩
          exact own_bin ok mk hΦ hr tk hf hn h5 h4 I rp rq pt r1 r2 hq
      · exact hq.elim
    · exact hq.elim
  · exact hq.elim
theorem sE_bin {op : Bop} {x y : Ex} {a1 a2 : Expr} {pos : Pos} (ok : Ok M X) (mk : MOk M) (hΦ : Fns M Φ k X.prog X.w X.base) (hr : Room k X.A) (tk : L2N.Takes X W) (ha : PE X a1 (tE b M av W (evE M.T Φ x))) (hb : PE X a2 (tE b M av W (evE M.T Φ y))) :
    PE X (.BinOp a1 (opOf op) a2 pos) (tE b M av W (evE M.T Φ (.bin op x y))) := by
  refine ⟨fun pins s σ H Q I h => wpAny_BinOp (two_run ha hb I (g := fun d1 d2 ρ => binD M.T Φ op d1 d2 ρ) ?_ fun v u s2 p q d1 d2 ρ F H2 own I2 rp rq pt r1 r2 hq => bin_ok ok mk hΦ hr tk I2 rp rq pt r1 r2 hq)⟩
  unfold evE at h
  exact h
theorem sE_neg {x : Ex} {a1 : Expr} {pos : Pos} (ha : PE X a1 (tE b M av W (evE M.T Φ x))) : PE X (.UnaryOp .USub a1 pos) (tE b M av W (evE M.T Φ (.neg x))) := by
  refine imE (pe_un un_neg ha) fun σ H Q ⟨ρ, F, own, pt, q⟩ => ⟨ρ, F, own, pt, ?_⟩
  unfold evE at q
  refine q.bind fun r v F1 H1 own1 g ⟨p1, r1⟩ q1 => ?_
  split at q1
  · rename_i i e
    rw [e] at r1
    cases r1.intv
    exact ⟨i, rfl, q1 _ F1 H1 own1 Gr.rfl' ⟨p1, .int⟩⟩
  · exact q1.elim
end
end RF
end

section
set_option Elab.async false
set_option linter.all false
set_option autoImplicit false
set_option maxRecDepth 100000
set_option maxHeartbeats 1000000
/-! RfH: == of data with own classes within: any outcome. -/
namespace RFq
open PySem PySem.SeqAt
open AutoSeq1 (wpAny_loadPart')
open MeetsSeq MeetsSeq2 MeetsSeq3 SeqRoads2
section
variable {prog : Program} {w : World} {A : Around} {R : Result → Shared → Prop}
/-- all of e from i on, k of them -/
def alls (e : Nat → Bool) : Nat → Nat → Bool
  | _, 0 => true
  | i, k + 1 => e i && alls e (i + 1) k
/-- two lists of N items that stand through all turns; the i-th two compare as e i tells -/
def Turns (prog : Program) (w : World) (A : Around) (E : Value → Shared → Prop) (l c : Addr) (N : Nat) (e : Nat → Bool) (J : Nat → Shared → Prop) : Prop :=
  ∀ i s, J i s → ∃ (xs ys : Array Value) (n m : Nat), s.heap.get? l = some { cls := .type "list", data := .seq xs n } ∧ s.heap.get? c = some { cls := .type "list", data := .seq ys m } ∧ xs.size = N ∧ ys.size = N ∧
    ∀ (h1 : i < xs.size) (h2 : i < ys.size), wpAny (model prog w) A.in1 (eqBool xs[i] ys[i]) (fun r s' => r = e i ∧ J i s') E s
theorem list_loop (l c : Addr) (N : Nat) (e : Nat → Bool) (J : Nat → Shared → Prop) (hl : Turns prog w A (fun x s' => R (.error x) s') l c N e J) (up : ∀ i s, e i = true → J i s → J (i + 1) s) (z : Bool)
    (fin : ∀ i s, J i s → R (.ok (.ret (.bool z))) s) (k : Nat) :
    ∀ i : Nat, N - i = k → i ≤ N → alls e i k = z → ∀ s, J i s →
      wpAny (model prog w) A.in1 (Builtin.«list.__eq__.loop» ⟨[.ref l, .ref c, rawInt i, rawInt 2], []⟩) (GQ.FinOf prog w A R) (fun x s' => R (.error x) s') s := by
  induction k with
  | zero =>
    intro i hk hi hz s h
    have hz : true = z := hz
    subst hz
    obtain ⟨xs, ys, n, m, a1, a2, s1, s2, _⟩ := hl _ _ h
    have hR := fin i s h
    obtain ⟨hp, g, d, tk, os⟩ := s
    wp_walk using wpAny_loadPart' a1, wpAny_loadPart' a2
    have q1 : xs[((i : Nat) : Int).toNat]? = none := by simp; omega
    have q2 : ys[((i : Nat) : Int).toNat]? = none := by simp; omega
    rw [q1, q2]
    wp_walk using wpAny_loadPart' a1, wpAny_loadPart' a2
    show R (.ok (.ret (.bool (xs.size == ys.size)))) _
    rw [s1, s2]
    simpa using hR
  | succ k ih =>
    intro i hk hi hz s h
    have hz : (e i && alls e (i + 1) k) = z := hz
    obtain ⟨xs, ys, n, m, a1, a2, s1, s2, turn⟩ := hl _ _ h
    have l1 : i < xs.size := by omega
    have l2 : i < ys.size := by omega
    have ht := turn l1 l2
    obtain ⟨hp, g, d, tk, os⟩ := s
    wp_walk using wpAny_loadPart' a1, wpAny_loadPart' a2
    have q1 : xs[((i : Nat) : Int).toNat]? = some xs[i] := by simp [l1]
    have q2 : ys[((i : Nat) : Int).toNat]? = some ys[i] := by simp [l2]
    have hc : ((i : Int) + 1) = ((i + 1 : Nat) : Int) := by omega
    rw [q1, q2]
    refine wpAny_bind (wpAny_mono ht (fun r s2 h2 => ?_) fun _ _ x => x)
    obtain ⟨hr, h2⟩ := h2
    cases he : e i with
    | true =>
      rw [he] at hr hz
      subst hr
      have hrec := ih (i + 1) (by omega) (by omega) (by simpa using hz) s2 (up _ _ he h2)
      obtain ⟨hp2, g2, d2, tk2, os2⟩ := s2
      wp_walk
      rw [hc]
      exact ⟨plainId_quiet plain_eq_loop _, codeAny_builtin entry_eq_loop (by
        rw [Around.under_plainId plain_eq_loop _]
        exact hrec)⟩
    | false =>
      rw [he] at hr hz
      have hz : false = z := hz
      subst hz
      subst hr
      obtain ⟨xs', ys', n', m', b1, b2, t1, t2, _⟩ := hl _ _ h2
      have hR := fin i s2 h2
      have r1 : xs'[((i : Nat) : Int).toNat]? = some (xs'[i]'(by omega)) := by first | (simp; done) | (simp; omega)
      have r2 : ys'[((i : Nat) : Int).toNat]? = some (ys'[i]'(by omega)) := by first | (simp; done) | (simp; omega)
      obtain ⟨hp2, g2, d2, tk2, os2⟩ := s2
      wp_walk using wpAny_loadPart' b1, wpAny_loadPart' b2
      rw [r1, r2]
      wp_walk
      simpa using hR
theorem list_eqB (l c : Addr) (N : Nat) (e : Nat → Bool) (J : Nat → Shared → Prop) (hl : Turns prog w A (fun x s' => R (.error x) s') l c N e J) (up : ∀ i s, e i = true → J i s → J (i + 1) s)
    (fin : ∀ i s, J i s → R (.ok (.ret (.bool (alls e 0 N)))) s) {s : Shared} (h : J 0 s) :
    wpAny (model prog w) A.in1 (Builtin.«list.__eq__» ⟨[.ref l, .ref c], []⟩) (GQ.FinOf prog w A R) (fun x s' => R (.error x) s') s := by
  obtain ⟨xs, ys, n, m, a1, a2, s1, s2, _⟩ := hl _ _ h
  have hrec := list_loop (A := A) (R := R) l c N e J hl up _ fin _ 0 rfl (Nat.zero_le _) rfl s h
  obtain ⟨hp, g, d, tk, os⟩ := s
  have f3 := AutoSeq1.sub_list_list
  have hne : ¬ (xs.size != ys.size) = true := by simp [s1, s2]
  wp_walk using wpAny_loadPart' a1, wpAny_loadPart' a2
  exact ⟨plainId_quiet plain_eq_loop _, codeAny_builtin entry_eq_loop (by
    rw [Around.under_plainId plain_eq_loop _]
    exact hrec)⟩
theorem tuple_eqB (l c : Addr) (xs ys : Array Value) (n m : Nat) (dd dd2 : Option Addr) (sl sl2 : Array (Option Value)) (e : Nat → Bool) (J : Nat → Shared → Prop) (up : ∀ i s, e i = true → J i s → J (i + 1) s)
    (turn : ∀ i (h1 : i < xs.size) (h2 : i < ys.size) s, J i s → wpAny (model prog w) A.in1 (eqBool xs[i] ys[i]) (fun r s' => r = e i ∧ J i s') (fun x s' => R (.error x) s') s)
    (fin : ∀ i s, J i s → R (.ok (.ret (.bool (((List.range (min xs.size ys.size)).all e) && xs.size == ys.size)))) s) {s : Shared} (hl1 : s.heap.get? l = some { cls := .type "tuple", dict := dd, data := .seq xs n, slots := sl }) (hb1 : s.heap.get? c = some { cls := .type "tuple", dict := dd2, data := .seq ys m, slots := sl2 }) (h : J 0 s) :
    wpAny (model prog w) A.in1 (Builtin.«tuple.__eq__» ⟨[.ref l, .ref c], []⟩) (GQ.FinOf prog w A R) (fun x s' => R (.error x) s') s := by
  have f2 := AutoSeq1.sub_tuple_tuple
  have hZ : (xs.toList.zip ys.toList).length = min xs.size ys.size := by simp
  have h0 := h
  obtain ⟨hp, g, d, tk, os⟩ := s
  wp_walk using wpAny_loadPart' hl1, wpAny_loadPart' hb1, wpAny_forIn_list _ (fun rest b s' => b.1 = none ∧ ∃ i, J i s' ∧ rest = (xs.toList.zip ys.toList).drop i ∧ i ≤ min xs.size ys.size ∧ ((List.range (min xs.size ys.size)).take i).all e = true) _
  case turn =>
    rintro ⟨y, x⟩ rest b s' ⟨hb', i, hJ, hz, hi, hpre⟩
    have hlt : i < (xs.toList.zip ys.toList).length := by
      rcases Nat.lt_or_ge i (xs.toList.zip ys.toList).length with h' | h'
      · exact h'
      · rw [List.drop_of_length_le h'] at hz; cases hz
    have hm : i < min xs.size ys.size := hZ ▸ hlt
    have h1 : i < xs.size := Nat.lt_of_lt_of_le hm (Nat.min_le_left _ _)
    have h2 : i < ys.size := Nat.lt_of_lt_of_le hm (Nat.min_le_right _ _)
    rw [List.drop_eq_getElem_cons hlt] at hz
    injection hz with hyx hrest
    have hy : y = xs[i] := by have := congrArg Prod.fst hyx; simpa using this
    have hx : x = ys[i] := by have := congrArg Prod.snd hyx; simpa using this
    subst hy hx
    refine wpAny_bind (wpAny_mono (turn i h1 h2 s' hJ) (fun r s2 q2 => ?_) fun _ _ x => x)
    obtain ⟨hr, q2⟩ := q2
    cases he : e i with
    | true =>
      rw [he] at hr
      subst hr
      wp_walk
      refine ⟨rfl, i + 1, up _ _ he q2, hrest, hm, ?_⟩
      rw [List.take_add_one, List.all_append, hpre, List.getElem?_range hm]
      simp [he]
    | false =>
      rw [he] at hr
      subst hr
      have hR := fin _ s2 q2
      have hall : (List.range (min xs.size ys.size)).all e = false := by
        rw [List.all_eq_false]
        exact ⟨i, List.mem_range.mpr hm, by simp [he]⟩
      rw [hall] at hR
      wp_walk
      simpa using hR
  case fin =>
    rintro ⟨b1, b2⟩ s' ⟨hb', i, hJ, hz, hi, hpre⟩
    simp only at hb'
    subst hb'
    have hge : min xs.size ys.size ≤ i := by
      rcases Nat.lt_or_ge i (xs.toList.zip ys.toList).length with h' | h'
      · rw [List.drop_eq_getElem_cons h'] at hz; cases hz
      · exact hZ ▸ h'
    have hR := fin _ s' hJ
    have hall : (List.range (min xs.size ys.size)).all e = true := by
      rw [List.take_of_length_le (by simpa using hge)] at hpre
      exact hpre
    rw [hall] at hR
    wp_walk
    simpa [Builtin.Tuple.tupleCompareSizes] using hR
  case h =>
    exact ⟨rfl, 0, h0, rfl, Nat.zero_le _, by simp⟩
end
section
variable {prog : Program} {w : World} {A : Around} {E : Value → Shared → Prop} {s : Shared}
theorem rc_listB {l c : Addr} {N : Nat} {Q : Value → Shared → Prop} (hu : A.units < cLine) (e : Nat → Bool) (J : Nat → Shared → Prop) (hl : Turns prog w A E l c N e J) (up : ∀ i s, e i = true → J i s → J (i + 1) s)
    (fin : ∀ i s, J i s → Q (.bool (alls e 0 N)) s) (h : J 0 s) : wpAny (model prog w) A (richCompare .Eq (.ref l) (.ref c)) Q E s := by
  obtain ⟨xs, ys, n, m, a1, a2, _, _, _⟩ := hl _ _ h
  refine wpAny_richCompare_same_room (op := .Eq) ⟨_, a1, rfl⟩ ⟨_, a2, rfl⟩ F.slot_list_eq (GQ.call_here F.slot_list_eq ⟨_, a1, rfl⟩ F.entry_list_eq (F.args_list_eq_2 _ _) ?_) hu
  exact list_eqB (R := wants (fun v s' => v ≠ .notImplemented ∧ Q v s') E) l c N e J hl up (fun i s' q => ⟨(fun x => nomatch x), fin i s' q⟩) h
theorem rc_listL {l c : Addr} {xs ys : Array Value} {n m : Nat} {Q : Value → Shared → Prop} (hu : A.units < cLine) (hne : xs.size ≠ ys.size)
    (h1 : s.heap.get? l = some { cls := .type "list", data := .seq xs n }) (h2 : s.heap.get? c = some { cls := .type "list", data := .seq ys m }) (q : Q (.bool false) s) : wpAny (model prog w) A (richCompare .Eq (.ref l) (.ref c)) Q E s := by
  refine wpAny_richCompare_same_room (op := .Eq) ⟨_, h1, rfl⟩ ⟨_, h2, rfl⟩ F.slot_list_eq (GQ.call_here F.slot_list_eq ⟨_, h1, rfl⟩ F.entry_list_eq (F.args_list_eq_2 _ _) ?_) hu
  have f3 := AutoSeq1.sub_list_list
  have hc : (xs.size != ys.size) = true := by simp [hne]
  obtain ⟨hp, g, d, tk, os⟩ := s
  wp_walk using wpAny_loadPart' h1, wpAny_loadPart' h2
  exact ⟨(fun x => nomatch x), q⟩
theorem rc_tupB {l c : Addr} {xs ys : Array Value} {Q : Value → Shared → Prop} (hu : A.units < cLine) (e : Nat → Bool) (J : Nat → Shared → Prop) (up : ∀ i s, e i = true → J i s → J (i + 1) s)
    (hl : s.heap.IsTuple l xs) (hb : s.heap.IsTuple c ys)
    (turn : ∀ i (h1 : i < xs.size) (h2 : i < ys.size) s, J i s → wpAny (model prog w) A.in1 (eqBool xs[i] ys[i]) (fun r s' => r = e i ∧ J i s') E s)
    (fin : ∀ i s, J i s → Q (.bool (((List.range (min xs.size ys.size)).all e) && xs.size == ys.size)) s) (h : J 0 s) : wpAny (model prog w) A (richCompare .Eq (.ref l) (.ref c)) Q E s := by
  obtain ⟨⟨cls, dd, data, sl⟩, ho, hc, n, hd⟩ := id hl
  obtain ⟨⟨cls2, dd2, data2, sl2⟩, ho2, hc2, n2, hd2⟩ := id hb
  simp only at hc hd hc2 hd2
  subst hc hd hc2 hd2
  refine wpAny_richCompare_same_room (op := .Eq) ⟨_, ho, rfl⟩ ⟨_, ho2, rfl⟩ F.slot_tuple_eq (GQ.call_here F.slot_tuple_eq ⟨_, ho, rfl⟩ F.entry_tuple_eq (F.args_tuple_eq_2 _ _) ?_) hu
  exact tuple_eqB (R := wants (fun v s' => v ≠ .notImplemented ∧ Q v s') E) l c xs ys n n2 dd dd2 sl sl2 e J up turn (fun i s' q => ⟨(fun x => nomatch x), fin i s' q⟩) ho ho2 h
end
end RFq
end

section
set_option Elab.async false
set_option linter.all false
set_option autoImplicit false
set_option maxRecDepth 100000
set_option maxHeartbeats 1000000
/-! RfI: == by the meaning. -/
namespace RF
open PySem L2
theorem beq_refl (n : Nat) : (∀ d : D, sizeOf d ≤ n → d.beq d = true) ∧ ∀ ds : List D, sizeOf ds ≤ n → D.beqs ds ds = true := by
  induction n with
  | zero =>
    refine ⟨fun d h => ?_, fun ds h => ?_⟩
    · cases d <;> simp at h
    · cases ds <;> simp at h
  | succ n ih =>
    refine ⟨fun d h => ?_, fun ds h => ?_⟩
    · cases d with
      | non => rfl
      | bl b => simp [D.beq]
      | int i => simp [D.beq]
      | str x => simp [D.beq]
      | tup xs => rw [D.beq]; exact ih.2 xs (by simp at h; omega)
      | lst xs => rw [D.beq]; exact ih.2 xs (by simp at h; omega)
      | scr xs => rw [D.beq]; exact ih.2 xs (by simp at h; omega)
      | obj c fs => rw [D.beq, ih.2 fs (by simp at h; omega)]; simp
      | dic ks vs => rw [D.beq, ih.2 ks (by simp at h; omega), ih.2 vs (by simp at h; omega)]; rfl
    · cases ds with
      | nil => rfl
      | cons d ds => rw [D.beqs, ih.1 d (by simp at h; omega), ih.2 ds (by simp at h; omega)]; rfl
theorem D.beq_self (d : D) : d.beq d = true := (beq_refl _).1 d (Nat.le_refl _)
theorem kD_inj {a b : Key} (h : kD a = kD b) : a = b := by
  cases a <;> cases b <;> simp [kD] at h <;> rw [h]

section
variable {b : Bool} {M : Mach} {av : List V} {W : WX} {X : Cx} {F H : Hp} {σ : St} {ρ : Env} {own : Ow} {Φ : Fn} {k : Nat}
theorem kno (ok : Ok M X) {pins : List (Addr × Obj)} {s : Shared} (I : Inv X pins σ H s) (sub : Sb F H) {a : Addr} {o : Obj} (h : M.K.lookup a = some o) : F a = none := by
  have kin : M.K.In X.base := by have := I.ok.mod.kin; rw [ok.K] at this; exact this
  exact sub.none (I.bs a o (kin a o h)).2
theorem rep_inj (ok : Ok M X) (mk : MOk M) {pins : List (Addr × Obj)} {s : Shared} (I : Inv X pins σ H s) (sub : Sb F H) (n : Nat) :
    (∀ d, sizeOf d ≤ n → ∀ v d', Rep M F v d → Rep M F v d' → d = d') ∧ ∀ ds, sizeOf ds ≤ n → ∀ vs ds', Reps M F vs ds → Reps M F vs ds' → ds = ds' := by
  induction n with
  | zero =>
    refine ⟨fun d h => ?_, fun ds h => ?_⟩
    · cases d <;> simp at h
    · cases ds <;> simp at h
  | succ n ih =>
    have tupF : ∀ {a vs}, SqT M.K F a vs → ∀ o, F a = some o → o = .tup vs ∨ ∃ ob, o = .frz ob (.tup vs) := fun {a vs} h o e => by
      rcases h with (h | ⟨ob, h⟩) | ⟨ob, _, _, h, _⟩
      · rw [h] at e; cases e; exact .inl rfl
      · rw [h] at e; cases e; exact .inr ⟨_, rfl⟩
      · rw [kno ok I sub h] at e; cases e
    have scrF : ∀ {a vs}, SqS M.K F a vs → ∀ o, F a = some o → ∃ ob, o = .frz ob (.lst vs) := fun {a vs} h o e => by
      rcases h with ⟨ob, h⟩ | ⟨ob, _, _, h, _⟩
      · rw [h] at e; cases e; exact ⟨_, rfl⟩
      · rw [kno ok I sub h] at e; cases e
    have tupscr : ∀ {a vs ws}, SqT M.K F a vs → SqS M.K F a ws → False := fun {a vs ws} h h' => by
      rcases h' with ⟨ob, h'⟩ | ⟨ob, its, n, h', c, _⟩
      · rcases tupF h _ h' with z | ⟨ob, z⟩ <;> cases z
      · rcases h with (h | ⟨ob', h⟩) | ⟨ob', _, _, h, c', _⟩
        · rw [kno ok I sub h'] at h; cases h
        · rw [kno ok I sub h'] at h; cases h
        · rw [h'] at h; cases h; rw [c] at c'; exact absurd c' (by decide +kernel)
    refine ⟨fun d hs v d' r r' => ?_, fun ds hs vs ds' r r' => ?_⟩
    · cases r with
      | non => cases r'; rfl
      | bl => cases r'; rfl
      | int => cases r'; rfl
      | str => cases r'; rfl
      | tup h r =>
        cases r' with
        | tup h' r' =>
          have e := I.tuple_inj (by rw [ok.K]; exact sub.sqT h) (by rw [ok.K]; exact sub.sqT h')
          subst e
          rw [ih.2 _ (by simp at hs; omega) _ _ r r']
        | lst h' r' => rcases tupF h _ h' with z | ⟨_, z⟩ <;> cases z
        | scr h' r' => exact (tupscr h h').elim
        | obj h' => rcases tupF h _ h' with z | ⟨_, z⟩ <;> cases z
        | dic h' => rcases tupF h _ h' with z | ⟨_, z⟩ <;> cases z
      | lst h r =>
        cases r' with
        | tup h' r' => rcases tupF h' _ h with z | ⟨_, z⟩ <;> cases z
        | lst h' r' => rw [h] at h'; cases h'; rw [ih.2 _ (by simp at hs; omega) _ _ r r']
        | scr h' r' => obtain ⟨_, z⟩ := scrF h' _ h; cases z
        | obj h' => rw [h] at h'; cases h'
        | dic h' => rw [h] at h'; cases h'
      | scr h r =>
        cases r' with
        | tup h' r' => exact (tupscr h' h).elim
        | lst h' r' => obtain ⟨_, z⟩ := scrF h _ h'; cases z
        | scr h' r' =>
          have e := I.list_inj (by rw [ok.K]; exact sub.sqL h.sqL) (by rw [ok.K]; exact sub.sqL h'.sqL)
          subst e
          rw [ih.2 _ (by simp at hs; omega) _ _ r r']
        | obj h' => obtain ⟨_, z⟩ := scrF h _ h'; cases z
        | dic h' => obtain ⟨_, z⟩ := scrF h _ h'; cases z
      | @obj a C dx c fs ds h hc hl hn r =>
        cases r' with
        | tup h' r' => rcases tupF h' _ h with z | ⟨_, z⟩ <;> cases z
        | lst h' r' => rw [h] at h'; cases h'
        | scr h' r' => obtain ⟨_, z⟩ := scrF h' _ h; cases z
        | @obj _ C' dx' c' fs' ds' h' hc' hl' hn' r' =>
          rw [h] at h'; cases h'
          have e := ih.2 _ (by simp at hs; omega) _ _ r r'
          subst e
          rw [mk.ci _ _ _ hc hc']
        | dic h' => rw [h] at h'; cases h'
      | dic h hk hn r =>
        cases r' with
        | tup h' r' => rcases tupF h' _ h with z | ⟨_, z⟩ <;> cases z
        | lst h' r' => rw [h] at h'; cases h'
        | scr h' r' => obtain ⟨_, z⟩ := scrF h' _ h; cases z
        | obj h' => rw [h] at h'; cases h'
        | dic h' hk' hn' r' =>
          rw [h] at h'; cases h'
          have e := ih.2 _ (by simp at hs; omega) _ _ r r'
          subst e
          rw [hk, hk']
    · cases r with
      | nil => cases r'; rfl
      | cons h r =>
        cases r' with
        | cons h' r' => rw [ih.1 _ (by simp at hs; omega) _ _ h h', ih.2 _ (by simp at hs; omega) _ _ r r']
theorem Rep.inj (ok : Ok M X) (mk : MOk M) {pins : List (Addr × Obj)} {s : Shared} (I : Inv X pins σ H s) (sub : Sb F H) {v : V} {d d' : D} (r : Rep M F v d) (r' : Rep M F v d') : d = d' := (rep_inj ok mk I sub _).1 d (Nat.le_refl _) v d' r r'

/-- the world behind a comparison -/
def EqI (M : Mach) (av : List V) (X : Cx) (pins : List (Addr × Obj)) (σ : St) (ρ : Env) (own : Ow) (F H : Hp) (s' : Shared) : Prop :=
  ∃ F' H' own', Inv X pins σ H' s' ∧ Gr true F H (In own) F' H' (In own') ∧ Pt M av F' H' σ ρ own'
theorem eqS_some {x y : D} {r : Bool} (h : eqS x y = some r) : (∀ F, ∀ v w, Rep M F v x → Rep M F w y → scal v w = true ∧ r = decide (v = w)) := by
  intro F v w rx ry
  cases x <;> cases y <;> simp only [eqS] at h <;> first
    | (cases h; done)
    | (cases rx; cases ry; cases h; exact ⟨rfl, by simp⟩)
/-- the answer of an own == as the meaning tells it -/
theorem own_eq {c f : Nat} {fs : List D} {y : D} {n : Nat} {A' : Around} {pins : List (Addr × Obj)} {s : Shared} {p q : V} {u v : Value} (ok : Ok M X) (mk : MOk M) (hΦ : Fns M Φ k X.prog X.w X.base) (hn : k ≤ n) (sb : Sub X n A') (tk : L2N.Takes X W)
    (hm : M.T.meth c mEq = some f) (I : Inv X pins σ H s) (rp : RelV p u) (rq : RelV q v) (pt : Pt M av F H σ ρ own) (r1 : Rep M F p (.obj c fs)) (r2 : Rep M F q y) {Q : VK}
    (hq : QR b M av W σ (rE M av σ) F H (In own) (callS Φ f [.obj c fs, y] ρ) Q) (hcl : ∃ tb, PySem.W.Looks (model X.prog X.w) s.heap (typeOf v) tb ∧ ((∃ T : String, isKn T = true ∧ tb = .type T) ∨ ∃ c' C', M.cls c' = some C' ∧ tb = .ref C')) :
    wpAny (model X.prog X.w) A' (richCompare .Eq u v) (EP X pins σ Q) X.xe s := by
  obtain ⟨a, C, dx, fa, e1, h1, hc, _⟩ := r1.objv
  subst e1
  cases rp
  obtain ⟨i, hi, me⟩ := meth_ok mk hm hc
  obtain ⟨mA, J, _⟩ := ins_get I.hok (pt.sub _ _ h1)
  obtain ⟨od, J, _⟩ := J.look
  obtain ⟨mm, hF⟩ := I.fr
  have kin : M.K.In X.base := by have := I.ok.mod.kin; rw [ok.K] at this; exact this
  have hd : M.T.dfl f = [] := (mk.md f i hi c mEq hm).elim id fun z => absurd z (by decide)
  have two : i.ps.length = 2 := mk.ar c mEq f i hm hi (by decide)
  obtain ⟨tb, lk, htb⟩ := hcl
  have hnf : PySem.W.notFirst M.K C tb = true := by
    rcases htb with ⟨T, hT, rfl⟩ | ⟨c', C', hc', rfl⟩
    · exact mk.nt c C hc T hT
    · exact mk.nc c C c' C' hc hc'
  refine PySem.W.cmp_K (K := M.K) (op := .Eq) (tb := tb) sb.room.units0 hF kin J lk hnf (by have e := me.at_; rw [mk.nEq] at e; exact e) me.fn ?_
  have rr : Vals [V.ref a, q] [Value.ref a, v] := .cons rfl (.cons rq .nil)
  refine wpAny_mono (callS_run (k := k) ok (hΦ f i hi) (sb.room.mono hn) sb.fr (mk.bd f i hi hd) tk I rr two.symm pt (.cons r1 (.cons r2 .nil)) hq) (fun r s' h => ?_) fun _ _ z => z
  obtain ⟨w, H', I', rw', q⟩ := h
  cases r <;> first
    | exact ⟨w, H', I', rw', q⟩
    | (exfalso; cases w <;> first
        | (cases rw'; done)
        | (obtain ⟨_, z⟩ := rw'; cases z))
/-- the class of a value -/
theorem looks_of (ok : Ok M X) {pins : List (Addr × Obj)} {s : Shared} {q : V} {v : Value} {y : D} (I : Inv X pins σ H s) (sub : Sb F H) (rq : RelV q v) (r : Rep M F q y) :
    ∃ tb, PySem.W.Looks (model X.prog X.w) s.heap (typeOf v) tb ∧ ((∃ T : String, isKn T = true ∧ tb = .type T) ∨ ∃ c' C', M.cls c' = some C' ∧ tb = .ref C') := by
  have ofo : ∀ {a : Addr} {o : Obj} {T : String}, s.heap.get? a = some o → o.cls = .type T → isKn T = true → ∃ tb, PySem.W.Looks (model X.prog X.w) s.heap (typeOf (.ref a)) tb ∧ ((∃ T : String, isKn T = true ∧ tb = .type T) ∨ ∃ c' C', M.cls c' = some C' ∧ tb = .ref C') :=
    fun {a o T} h e hT => ⟨.type T, PySem.W.kitAt_ty _ _ ⟨o, h, e⟩, .inl ⟨T, hT, rfl⟩⟩
  cases r with
  | non => cases rq; exact ⟨_, PySem.W.Looks.of_pure rfl, .inl ⟨_, by decide, rfl⟩⟩
  | bl => cases rq; exact ⟨_, PySem.W.Looks.of_pure rfl, .inl ⟨_, by decide, rfl⟩⟩
  | int => obtain ⟨t, rfl⟩ := rq; exact ⟨_, PySem.W.Looks.of_pure rfl, .inl ⟨_, by decide, rfl⟩⟩
  | str => obtain ⟨t, rfl⟩ := rq; exact ⟨_, PySem.W.Looks.of_pure rfl, .inl ⟨_, by decide, rfl⟩⟩
  | tup h r =>
    cases rq
    obtain ⟨its, _, ⟨o, e, c, _⟩, _⟩ := I.tuple (by rw [ok.K]; exact sub.sqT h)
    exact ofo e c (by decide)
  | lst h r =>
    cases rq
    obtain ⟨its, _, ⟨o, n, e, c, _⟩, _⟩ := I.list (by rw [ok.K]; exact SqL.of (sub _ _ h))
    exact ofo e c (by decide)
  | scr h r =>
    cases rq
    obtain ⟨its, _, ⟨o, n, e, c, _⟩, _⟩ := I.list (by rw [ok.K]; exact sub.sqL h.sqL)
    exact ofo e c (by decide)
  | obj h hc =>
    cases rq
    obtain ⟨mA, J, _⟩ := ins_get I.hok (sub _ _ h)
    obtain ⟨od, J, _⟩ := J.look
    exact ⟨_, J.type, .inr ⟨_, _, hc, rfl⟩⟩
  | dic h =>
    cases rq
    obtain ⟨_, _, vs, _, p⟩ := (show ObjOk X.prog X.w H s.heap _ (.dK _) from I.hok _ _ (sub _ _ h))
    obtain ⟨o, es, ep, h1, h2, _⟩ := p
    exact ofo h1 h2.1 (by decide)

theorem truth_bl {prog : Program} {w : World} {A' : Around} {E : Value → Shared → Prop} {l c : Addr} {Q : Bool → Shared → Prop} {s : Shared} (hne : l ≠ c) (h : wpAny (model prog w) A' (richCompare .Eq (.ref l) (.ref c)) (fun v s' => ∃ r, v = .bool r ∧ Q r s') E s) :
    wpAny (model prog w) A' (eqBool (.ref l) (.ref c)) Q E s := GQ.eqBool_refG hne h
/-- == of an object and a plain value inside a container -/
theorem eqBool_rc {prog : Program} {w : World} {A' : Around} {E : Value → Shared → Prop} {l : Addr} {v : Value} {Q : Bool → Shared → Prop} {s : Shared} (hne : (Value.ref l == v) = false) (h : wpAny (model prog w) A' (richCompare .Eq (.ref l) v) (fun v s' => ∃ r, v = .bool r ∧ Q r s') E s) :
    wpAny (model prog w) A' (eqBool (.ref l) v) Q E s := by
  unfold eqBool
  refine wpAny_holding ?_
  refine wpAny_ite_split (fun hab => absurd hab (by rw [hne]; exact Bool.false_ne_true)) (fun _ => ?_)
  refine wpAny_bind (wpAny_mono h (fun v s' hv => ?_) fun _ _ x => x)
  obtain ⟨r, rfl, q⟩ := hv
  exact wpAny_truthy_bool q
theorem eqI_trans {pins : List (Addr × Obj)} {F' H' : Hp} {s' : Shared} {own' : Ow} (g : Gr true F H (In own) F' H' (In own')) (h : EqI M av X pins σ ρ own' F' H' s') : EqI M av X pins σ ρ own F H s' := by
  obtain ⟨F2, H2, own2, I, g2, p⟩ := h
  exact ⟨F2, H2, own2, I, g.trans g2, p⟩
theorem eq_self (n : Nat) {T : Tb} : (∀ d : D, sizeOf d ≤ n → ∀ r, eqD T Φ d d = some r → r = true) ∧ ∀ ds : List D, sizeOf ds ≤ n → ∀ r, eqDs T Φ ds ds = some r → r = true := by
  induction n with
  | zero =>
    refine ⟨fun d h => ?_, fun ds h => ?_⟩
    · cases d <;> simp at h
    · cases ds <;> simp at h
  | succ n ih =>
    refine ⟨fun d h r e => ?_, fun ds h r e => ?_⟩
    · cases d with
      | tup xs => rw [eqD] at e; exact ih.2 xs (by simp at h; omega) r e
      | lst xs => rw [eqD, if_pos rfl] at e; exact ih.2 xs (by simp at h; omega) r e
      | obj c fs =>
        rw [eqD] at e
        rw [D.beq_self] at e
        split at e
        · split at e
          · split at e
            · rename_i z
              cases e
              simpa using z
            · cases e
          · cases e
        · cases e
      | _ => simp [eqD, eqS] at e <;> simp [e]
    · cases ds with
      | nil => simp [eqDs] at e; exact e
      | cons d ds =>
        rw [eqDs] at e
        cases q : eqD T Φ d d with
        | none => rw [q] at e; cases e
        | some z =>
          rw [q] at e
          have := ih.1 d (by simp at h; omega) z q
          subst this
          exact ih.2 ds (by simp at h; omega) r e
theorem eqDs_self {T : Tb} {xs : List D} {r : Bool} (h : eqDs T Φ xs xs = some r) : r = true := (eq_self (Φ := Φ) _).2 xs (Nat.le_refl _) r h
/-- the answer at place j -/
def eqAtD (T : Tb) (Φ : Fn) (xs ys : List D) (j : Nat) : Bool := match xs[j]?, ys[j]? with
  | some x, some y => (eqD T Φ x y).getD false
  | _, _ => false
theorem eqAtD_at {T : Tb} {xs ys : List D} {j : Nat} {x y : D} {z : Bool} (hx : xs[j]? = some x) (hy : ys[j]? = some y) (h : eqD T Φ x y = some z) : eqAtD T Φ xs ys j = z := by
  unfold eqAtD
  rw [hx, hy]
  show (eqD T Φ x y).getD false = z
  rw [h]; rfl
theorem alls_eqDs {T : Tb} (X0 Y0 : List D) : ∀ {xs ys : List D} {r : Bool} (i : Nat), xs = X0.drop i → ys = Y0.drop i → xs.length = ys.length → eqDs T Φ xs ys = some r → RFq.alls (eqAtD T Φ X0 Y0) i xs.length = r
  | [], [], r, _, _, _, _, h => by simp [eqDs] at h; subst h; rfl
  | [], _ :: _, _, _, _, _, hl, _ => by simp at hl
  | _ :: _, [], _, _, _, _, hl, _ => by simp at hl
  | x :: xs, y :: ys, r, i, hx, hy, hl, h => by
    rw [eqDs] at h
    show (eqAtD T Φ X0 Y0 i && RFq.alls (eqAtD T Φ X0 Y0) (i + 1) xs.length) = r
    have gx : X0[i]? = some x := by
      have := congrArg (fun l => l[0]?) hx
      simpa using this.symm
    have gy : Y0[i]? = some y := by
      have := congrArg (fun l => l[0]?) hy
      simpa using this.symm
    have hx' : xs = X0.drop (i + 1) := by
      have := congrArg List.tail hx
      simpa using this
    have hy' : ys = Y0.drop (i + 1) := by
      have := congrArg List.tail hy
      simpa using this
    cases q : eqD T Φ x y with
    | none => rw [q] at h; cases h
    | some z =>
      rw [q] at h
      rw [eqAtD_at gx gy q]
      cases z with
      | true =>
        have e := alls_eqDs X0 Y0 (i + 1) hx' hy' (by simpa using hl) h
        rw [e]; simp
      | false => cases h; rfl
/-- at turn i the rest is answered -/
theorem eqDs_turn {T : Tb} {xs ys : List D} {i : Nat} {x y : D} (hx : xs[i]? = some x) (hy : ys[i]? = some y) (h : eqDs T Φ (xs.drop i) (ys.drop i) ≠ none) :
    ∃ z, eqD T Φ x y = some z ∧ eqAtD T Φ xs ys i = z ∧ (z = true → eqDs T Φ (xs.drop (i + 1)) (ys.drop (i + 1)) ≠ none) := by
  have lx := (List.getElem?_eq_some_iff.mp hx).1
  have ly := (List.getElem?_eq_some_iff.mp hy).1
  have ex : xs.drop i = x :: xs.drop (i + 1) := by rw [List.drop_eq_getElem_cons lx, (List.getElem?_eq_some_iff.mp hx).2]
  have ey : ys.drop i = y :: ys.drop (i + 1) := by rw [List.drop_eq_getElem_cons ly, (List.getElem?_eq_some_iff.mp hy).2]
  rw [ex, ey, eqDs] at h
  cases q : eqD T Φ x y with
  | none => rw [q] at h; exact absurd rfl h
  | some z =>
    refine ⟨z, rfl, eqAtD_at hx hy q, fun e => ?_⟩
    subst e
    rw [q] at h
    exact h
theorem eqDs_min {T : Tb} : ∀ {xs ys : List D} {r : Bool}, eqDs T Φ xs ys = some r → r = (((List.range (min xs.length ys.length)).all (eqAtD T Φ xs ys)) && xs.length == ys.length)
  | [], [], r, h => by simp [eqDs] at h; subst h; rfl
  | [], _ :: _, r, h => by simp [eqDs] at h; subst h; simp
  | _ :: _, [], r, h => by simp [eqDs] at h; subst h; simp
  | x :: xs, y :: ys, r, h => by
    rw [eqDs] at h
    have e0 : eqAtD T Φ (x :: xs) (y :: ys) 0 = (eqD T Φ x y).getD false := rfl
    have es : ∀ j, eqAtD T Φ (x :: xs) (y :: ys) (j + 1) = eqAtD T Φ xs ys j := fun j => by unfold eqAtD; simp
    have hm : min (x :: xs).length (y :: ys).length = min xs.length ys.length + 1 := by simp only [List.length_cons]; omega
    rw [hm, List.range_succ_eq_map, List.all_cons, List.all_map, e0]
    have ef : (eqAtD T Φ (x :: xs) (y :: ys) ∘ Nat.succ) = eqAtD T Φ xs ys := funext fun j => es j
    rw [ef]
    cases q : eqD T Φ x y with
    | none => rw [q] at h; cases h
    | some z =>
      rw [q] at h
      cases z with
      | true => rw [eqDs_min h]; simp
      | false => cases h; simp

theorem eqS_flat {x y : D} {r : Bool} (h : eqS x y = some r) {v w : V} (rx : Rep M F v x) (ry : Rep M F w y) : flatV v = true ∧ flatV w = true ∧ eqV v w = r := by
  cases x <;> cases y <;> simp only [eqS] at h <;> first
    | (cases h; done)
    | (cases rx; cases ry; cases h; refine ⟨rfl, rfl, ?_⟩; first | rfl | (simp only [eqV]; rw [Bool.beq_eq_decide_eq]))
theorem eqD_scal {x y : D} {r : Bool} (h : eqD M.T Φ x y = some r) (h1 : ∀ xs, x ≠ .tup xs) (h2 : ∀ xs, x ≠ .lst xs) (h3 : ∀ c fs, x ≠ .obj c fs) : eqS x y = some r := by
  cases x with
  | tup xs => exact absurd rfl (h1 xs)
  | lst xs => exact absurd rfl (h2 xs)
  | obj c fs => exact absurd rfl (h3 c fs)
  | _ => simpa only [eqD] using h
theorem deps_get : ∀ {xs : List D} {i : Nat} {x : D}, xs[i]? = some x → x.dep ≤ D.deps xs
  | [], _, _, h => by simp at h
  | y :: ys, 0, x, h => by simp at h; subst h; rw [D.deps]; exact Nat.le_max_left _ _
  | y :: ys, i + 1, x, h => by
    have q := deps_get (xs := ys) (i := i) (by simpa using h)
    rw [D.deps]
    exact Nat.le_trans q (Nat.le_max_right _ _)
theorem size_get : ∀ {xs : List D} {i : Nat} {x : D}, xs[i]? = some x → sizeOf x < sizeOf xs
  | [], _, _, h => by simp at h
  | y :: ys, 0, x, h => by simp at h; subst h; simp; omega
  | y :: ys, i + 1, x, h => by
    have q := size_get (xs := ys) (i := i) (by simpa using h)
    simp; omega
/-- == of all values up to a size, as it is asked within containers -/
def EqAll (M : Mach) (av : List V) (X : Cx) (σ : St) (ρ : Env) (Φ : Fn) (k m : Nat) : Prop :=
  ∀ (d1 d2 : D), sizeOf d1 ≤ m → ∀ (n : Nat) (A' : Around) (pins : List (Addr × Obj)) (s : Shared) (F H : Hp) (own : Ow) (p q : V) (u v : Value) (r : Bool),
    k + d1.dep ≤ n → Sub X n A' → Inv X pins σ H s → RelV p u → RelV q v → Pt M av F H σ ρ own → Rep M F p d1 → Rep M F q d2 → eqD M.T Φ d1 d2 = some r →
    wpAny (model X.prog X.w) A' (eqBool u v) (fun r' s' => r' = r ∧ EqI M av X pins σ ρ own F H s') X.xe s
theorem eq_one {m : Nat} (ih : EqAll M av X σ ρ Φ k m) {pins : List (Addr × Obj)} :
    ∀ {A2 : Around} {n2 : Nat} {xs ys : List D} {i : Nat} {x y : D} {p2 q2 : V} {u2 v2 : Value} {s2 : Shared} {F H : Hp} {own : Ow}, Sub X n2 A2 → k + D.deps xs ≤ n2 → sizeOf xs ≤ m → xs[i]? = some x → ys[i]? = some y →
        eqDs M.T Φ (xs.drop i) (ys.drop i) ≠ none → RelV p2 u2 → RelV q2 v2 → Rep M F p2 x → Rep M F q2 y → EqI M av X pins σ ρ own F H s2 →
        wpAny (model X.prog X.w) A2 (eqBool u2 v2) (fun r' s' => r' = eqAtD M.T Φ xs ys i ∧ EqI M av X pins σ ρ own F H s' ∧ (eqDs M.T Φ (xs.drop i) (ys.drop i) ≠ none)) X.xe s2 :=
      fun {A2 n2 xs ys i x y p2 q2 u2 v2 s2 F H own} sb2 hd hz hx hy hne ru rv rx ry ⟨F1, H1, own1, I1, g1, pt1⟩ => by
        obtain ⟨z, e1, e2, _⟩ := eqDs_turn hx hy hne
        refine wpAny_mono (ih x y (by have := size_get hx; omega) n2 A2 pins s2 F1 H1 own1 p2 q2 u2 v2 z (by have := deps_get hx; omega) sb2 I1 ru rv pt1 (rx.mono g1.ff) (ry.mono g1.ff) e1) (fun r' s' ⟨h1, h2⟩ => ?_) fun _ _ z => z
        exact ⟨by rw [h1, e2], eqI_trans g1 h2, hne⟩
theorem rc_tup {m : Nat} (ok : Ok M X) (ih : EqAll M av X σ ρ Φ k m) {xs ys : List D} (hs : sizeOf xs ≤ m) {n : Nat} {A' : Around} {pins : List (Addr × Obj)} {s : Shared} {a a2 : Addr} {r : Bool} (hn : k + D.dep (.tup xs) ≤ n) (sb : Sub X n A') (I : Inv X pins σ H s) (pt : Pt M av F H σ ρ own)
    (r1 : Rep M F (.ref a) (.tup xs)) (r2 : Rep M F (.ref a2) (.tup ys)) (he : eqDs M.T Φ xs ys = some r) :
    wpAny (model X.prog X.w) A' (richCompare .Eq (.ref a) (.ref a2)) (fun w s' => ∃ z, w = .bool z ∧ z = r ∧ EqI M av X pins σ ρ own F H s') X.xe s := by
  have start : EqI M av X pins σ ρ own F H s := ⟨F, H, own, I, Gr.rfl', pt⟩
  obtain ⟨_, vs, e1, h1, q1⟩ := r1.tupv
  cases e1
  obtain ⟨_, ws, e2, h2, q2⟩ := r2.tupv
  cases e2
  obtain ⟨its, rv1, t1, _⟩ := I.tuple (by rw [ok.K]; exact pt.sub.sqT h1)
  obtain ⟨its2, rv2, t2, _⟩ := I.tuple (by rw [ok.K]; exact pt.sub.sqT h2)
  have l1 : its.length = xs.length := by rw [← rv1.length, q1.length]
  have l2 : its2.length = ys.length := by rw [← rv2.length, q2.length]
  have hd : D.dep (.tup xs) = D.deps xs + 1 := rfl
  obtain ⟨n', rfl⟩ : ∃ n', n = n' + 1 := ⟨n - 1, by omega⟩
  refine (RFq.rc_tupB sb.room.units0 (eqAtD M.T Φ xs ys) (fun i s' => EqI M av X pins σ ρ own F H s' ∧ ((i < xs.length ∧ i < ys.length) → eqDs M.T Φ (xs.drop i) (ys.drop i) ≠ none)) (fun i s' ei ⟨z1, z2⟩ => ⟨z1, fun ⟨hi, hj⟩ => ?_⟩) t1 t2
    (fun i g1 g2 s' ⟨z1, z2⟩ => ?_) (fun i s' ⟨z1, _⟩ => ?_) ⟨start, fun _ => by rw [List.drop_zero, List.drop_zero, he]; exact fun z => nomatch z⟩)
  · obtain ⟨z, e1, e2, e3⟩ := eqDs_turn (Φ := Φ) (T := M.T) (List.getElem?_eq_getElem (show i < xs.length by omega)) (List.getElem?_eq_getElem (show i < ys.length by omega)) (z2 ⟨by omega, by omega⟩)
    exact e3 (by rw [← e2]; exact ei)
  · have i1 : i < xs.length := by rw [← l1]; simpa using g1
    have i2 : i < ys.length := by rw [← l2]; simpa using g2
    obtain ⟨p2, hp2, rp2⟩ := q1.get (List.getElem?_eq_getElem i1)
    obtain ⟨q2', hq2, rq2⟩ := q2.get (List.getElem?_eq_getElem i2)
    obtain ⟨u2, hu2, ru2⟩ := rv1.get hp2
    obtain ⟨v2, hv2, rv2'⟩ := rv2.get hq2
    have eu : its.toArray[i] = u2 := by
      have := (List.getElem?_eq_some_iff.mp hu2).2
      simpa using this
    have ev : its2.toArray[i] = v2 := by
      have := (List.getElem?_eq_some_iff.mp hv2).2
      simpa using this
    rw [eu, ev]
    refine wpAny_mono (eq_one ih (n2 := n') sb.in1 (by omega) (by omega) (List.getElem?_eq_getElem i1) (List.getElem?_eq_getElem i2) (z2 ⟨i1, i2⟩) ru2 rv2' rp2 rq2 z1) (fun r' s' ⟨h1, h2, h3⟩ => ⟨h1, h2, fun _ => h3⟩) fun _ _ z => z
  · refine ⟨r, ?_, rfl, z1⟩
    have e := eqDs_min he
    have b1 : its.toArray.size = xs.length := by simpa using l1
    have b2 : its2.toArray.size = ys.length := by simpa using l2
    rw [b1, b2, ← e]
theorem rc_lst {m : Nat} (ok : Ok M X) (ih : EqAll M av X σ ρ Φ k m) {xs ys : List D} (hs : sizeOf xs ≤ m) {n : Nat} {A' : Around} {pins : List (Addr × Obj)} {s : Shared} {a a2 : Addr} {r : Bool} (hn : k + D.dep (.lst xs) ≤ n) (sb : Sub X n A') (I : Inv X pins σ H s) (pt : Pt M av F H σ ρ own)
    (r1 : Rep M F (.ref a) (.lst xs)) (r2 : Rep M F (.ref a2) (.lst ys)) (he : (if xs.length = ys.length then eqDs M.T Φ xs ys else some false) = some r) :
    wpAny (model X.prog X.w) A' (richCompare .Eq (.ref a) (.ref a2)) (fun w s' => ∃ z, w = .bool z ∧ z = r ∧ EqI M av X pins σ ρ own F H s') X.xe s := by
  have start : EqI M av X pins σ ρ own F H s := ⟨F, H, own, I, Gr.rfl', pt⟩
  obtain ⟨_, vs, e1, h1, q1⟩ := r1.lstv
  cases e1
  obtain ⟨_, ws, e2, h2, q2⟩ := r2.lstv
  cases e2
  have hd : D.dep (.lst xs) = D.deps xs + 1 := rfl
  obtain ⟨n', rfl⟩ : ∃ n', n = n' + 1 := ⟨n - 1, by omega⟩
  by_cases hlen : xs.length = ys.length
  · rw [if_pos hlen] at he
    refine (RFq.rc_listB (N := xs.length) sb.room.units0 (eqAtD M.T Φ xs ys) (fun i s' => EqI M av X pins σ ρ own F H s' ∧ ((i < xs.length) → eqDs M.T Φ (xs.drop i) (ys.drop i) ≠ none)) (fun i s' ⟨z1, z2⟩ => ?_) (fun i s' ei ⟨z1, z2⟩ => ⟨z1, fun hi => ?_⟩)
      (fun i s' ⟨z1, _⟩ => ?_) ⟨start, fun _ => by rw [List.drop_zero, List.drop_zero, he]; exact fun z => nomatch z⟩)
    · obtain ⟨F1, H1, own1, I1, g1, pt1⟩ := id z1
      obtain ⟨_, its, n1, rv1, t1⟩ := (show ObjOk X.prog X.w H1 s'.heap a (.lst vs) from I1.hok a _ (pt1.sub _ _ (g1.ff _ _ h1)))
      obtain ⟨_, its2, n2, rv2, t2⟩ := (show ObjOk X.prog X.w H1 s'.heap a2 (.lst ws) from I1.hok a2 _ (pt1.sub _ _ (g1.ff _ _ h2)))
      have l1 : its.length = xs.length := by rw [← rv1.length, q1.length]
      have l2 : its2.length = ys.length := by rw [← rv2.length, q2.length]
      refine ⟨its.toArray, its2.toArray, n1, n2, t1, t2, by simpa using l1, by simpa [hlen] using l2, fun g1 g2 => ?_⟩
      have i1 : i < xs.length := by rw [← l1]; simpa using g1
      have i2 : i < ys.length := by rw [← l2]; simpa using g2
      obtain ⟨p2, hp2, rp2⟩ := q1.get (List.getElem?_eq_getElem i1)
      obtain ⟨q2', hq2, rq2⟩ := q2.get (List.getElem?_eq_getElem i2)
      obtain ⟨u2, hu2, ru2⟩ := rv1.get hp2
      obtain ⟨v2, hv2, rv2'⟩ := rv2.get hq2
      have eu : its.toArray[i] = u2 := by
        have := (List.getElem?_eq_some_iff.mp hu2).2
        simpa using this
      have ev : its2.toArray[i] = v2 := by
        have := (List.getElem?_eq_some_iff.mp hv2).2
        simpa using this
      rw [eu, ev]
      refine wpAny_mono (eq_one ih (n2 := n') sb.in1 (by omega) (by omega) (List.getElem?_eq_getElem i1) (List.getElem?_eq_getElem i2) (z2 i1) ru2 rv2' rp2 rq2 z1) (fun r' s' ⟨h1, h2, h3⟩ => ⟨h1, h2, fun _ => h3⟩) fun _ _ z => z
    · obtain ⟨z, e1, e2, e3⟩ := eqDs_turn (Φ := Φ) (T := M.T) (List.getElem?_eq_getElem (show i < xs.length by omega)) (List.getElem?_eq_getElem (show i < ys.length by omega)) (z2 (by omega))
      exact e3 (by rw [← e2]; exact ei)
    · refine ⟨r, ?_, rfl, z1⟩
      have e := alls_eqDs xs ys (xs := xs) (ys := ys) 0 (by simp) (by simp) hlen he
      rw [e]
  · rw [if_neg hlen] at he
    cases he
    obtain ⟨_, its, n1, rv1, t1⟩ := (show ObjOk X.prog X.w H s.heap a (.lst vs) from I.hok a _ (pt.sub _ _ h1))
    obtain ⟨_, its2, n2, rv2, t2⟩ := (show ObjOk X.prog X.w H s.heap a2 (.lst ws) from I.hok a2 _ (pt.sub _ _ h2))
    refine (RFq.rc_listL sb.room.units0 ?_ t1 t2 ⟨false, rfl, rfl, start⟩)
    simp only [List.size_toArray]
    rw [← rv1.length, ← rv2.length, q1.length, q2.length]
    exact hlen
/-- == of two values as it is asked within containers -/
theorem eq_run (ok : Ok M X) (mk : MOk M) (hΦ : Fns M Φ k X.prog X.w X.base) (tk : L2N.Takes X W) : ∀ (m : Nat), EqAll M av X σ ρ Φ k m := by
  intro m
  induction m with
  | zero => intro d1 d2 h; cases d1 <;> simp at h
  | succ m ih =>
    intro d1 d2 hs n A' pins s F H own p q u v r hn sb I rp rq pt r1 r2 he
    have start : EqI M av X pins σ ρ own F H s := ⟨F, H, own, I, Gr.rfl', pt⟩
    have flat : eqS d1 d2 = some r → wpAny (model X.prog X.w) A' (eqBool u v) (fun r' s' => r' = r ∧ EqI M av X pins σ ρ own F H s') X.xe s := fun h => by
      obtain ⟨fp, fq, ee⟩ := eqS_flat h r1 r2
      have z := eqAt_V (A := A') (s := s) rp rq fp fq
      rw [ee] at z
      exact z X.prog X.w X.xe _ ⟨rfl, start⟩
    cases d1 with
    | tup xs =>
      cases d2 with
      | tup ys =>
        rw [eqD] at he
        obtain ⟨a, vs, rfl, h1, q1⟩ := r1.tupv
        obtain ⟨a2, ws, rfl, h2, q2⟩ := r2.tupv
        cases rp; cases rq
        by_cases haa : a = a2
        · subst haa
          have e := r1.inj ok mk I pt.sub r2
          cases e
          have er : r = true := eqDs_self he
          subst er
          exact SeqAt.EqAt.same (A := A') (s := s) (.ref a) X.prog X.w X.xe _ ⟨rfl, start⟩
        · exact GQ.eqBool_refG haa (rc_tup ok ih (by simp at hs; omega) hn sb I pt r1 r2 he)
      | _ => simp [eqD, eqS] at he
    | lst xs =>
      cases d2 with
      | lst ys =>
        rw [eqD] at he
        obtain ⟨a, vs, rfl, h1, q1⟩ := r1.lstv
        obtain ⟨a2, ws, rfl, h2, q2⟩ := r2.lstv
        cases rp; cases rq
        by_cases haa : a = a2
        · subst haa
          have e := r1.inj ok mk I pt.sub r2
          cases e
          have he' := he
          rw [if_pos rfl] at he'
          have er : r = true := eqDs_self he'
          subst er
          exact SeqAt.EqAt.same (A := A') (s := s) (.ref a) X.prog X.w X.xe _ ⟨rfl, start⟩
        · exact GQ.eqBool_refG haa (rc_lst ok ih (by simp at hs; omega) hn sb I pt r1 r2 he)
      | _ => simp [eqD, eqS] at he
    | obj c fs =>
      rw [eqD] at he
      · cases hm : M.T.meth c mEq with
        | none => rw [hm] at he; cases he
        | some f =>
          rw [hm] at he
          dsimp only at he
          cases hf : Φ f [.sh (.obj c fs), .sh d2] with
          | exc c es outs => rw [hf] at he; cases he
          | bad => rw [hf] at he; cases he
          | okN o outs => rw [hf] at he; cases he
          | ok dr outs =>
            cases dr with
            | bl z =>
              rw [hf] at he
              have he : (if (z || !(D.beq (.obj c fs) d2)) = true then some z else none) = some r := he
              split at he
              · rename_i hz
                cases he
                obtain ⟨a, C, dx, fa, e1, h1, hc, _⟩ := r1.objv
                subst e1
                cases rp
                by_cases hsame : (Value.ref a == v) = true
                · have ev : v = Value.ref a := (beq_iff_eq.mp hsame).symm
                  subst ev
                  have eq2 : q = .ref a := by
                    have := rq.abs
                    simp [absV] at this
                    exact this.symm
                  subst eq2
                  have e := r1.inj ok mk I pt.sub r2
                  rw [← e, D.beq_self] at hz
                  have er : r = true := by simpa using hz
                  subst er
                  exact SeqAt.EqAt.same (A := A') (s := s) (.ref a) X.prog X.w X.xe _ ⟨rfl, start⟩
                · have hsame : (Value.ref a == v) = false := by simpa using hsame
                  refine eqBool_rc hsame (wpAny_mono (own_eq (b := true) (av := av) (ρ := ρ) (own := own) (p := V.ref a) (u := Value.ref a) (q := q) (v := v) (Q := fun w H' => w = .bl r ∧ ∃ F' own', Gr true F H (In own) F' H' (In own') ∧ Pt M av F' H' σ ρ own') ok mk hΦ (by omega) sb tk hm I rfl rq pt r1 r2 ?_ (looks_of ok I pt.sub rq r2)) (fun w s' hw => ?_) fun _ _ z => z)
                  · unfold callS
                    show QR true M av W σ (rE M av σ) F H (In own) (match Φ f [.sh (.obj c fs), .sh d2] with
                      | .ok d _ => .ok (d, ρ)
                      | .okN _ _ => .bad
                      | .exc c es _ => .exc c es ρ
                      | .bad => .bad) _
                    rw [hf]
                    intro w F' H' own' g ⟨p', rw'⟩
                    cases rw'
                    exact ⟨rfl, F', own', g, p'⟩
                  · obtain ⟨w', H', I', rw', e, F', own', g, p'⟩ := hw
                    subst e
                    cases rw'
                    exact ⟨r, rfl, rfl, F', H', own', I', g, p'⟩
              · cases he
            | _ => rw [hf] at he; cases he
    | _ => exact flat (eqD_scal he (fun _ z => nomatch z) (fun _ z => nomatch z) (fun _ _ z => nomatch z))
end
end RF
end

section
set_option Elab.async false
set_option linter.all false
set_option autoImplicit false
set_option maxRecDepth 100000
set_option maxHeartbeats 1000000
/-! RfI2: != of an own object whose class has __eq__ alone. -/
namespace RF
open PySem PySem.Spec PyProof.Rows
section
variable {prog : Program} {w : World} {A A₀ : Around} {E : Value → Shared → Prop} {s : Shared} {K : PySem.W.Frag} {x C L f : Addr} {h₀ : Heap} {m : PySem.Str → Option Value} {ox : Obj} {od : Option Obj} {name : PySem.Str} {b tb : Value}
theorem ifBound_B {M : Model} {args : List Value} {id : String} {T : String} {Q : Option Value → Shared → Prop} (X : K.In s.heap) (I : PySem.W.InstAt s.heap x ox C od) (hs : PySem.W.findIn K (.ref C) name = some (some (.builtin id))) (S : Slot T name id)
    (h : wpAny M A (call (.builtin id) (.ref x :: args)) (fun v => Q (some v)) E s) : wpAny M A (callSpecialIfBound? (.ref x) name args) Q E s := by
  simp only [callSpecialIfBound?, bindSpecialIfBound?]
  refine wpAny_holding (wpAny_bind (wpAny_bind (wpAny_bind (I.type.here ((PySem.W.looks_findIn X hs).here ?_)))))
  simp only [S.bind]
  refine wpAny_bind (wpAny_askSetting (wpAny_ite ?_))
  have fin : wpAny M A (call (.builtin id) ([.ref x] ++ args) >>= fun v => pure (some v)) Q E s := wpAny_bind (wpAny_mono h (fun v s' h' => wpAny_pure h') fun _ _ h' => h')
  split
  · exact wpAny_bind (wpAny_pure (wpAny_pure fin))
  · exact wpAny_tryCatch (wpAny_bind (wpAny_pure (wpAny_pure fin)))
theorem check_ne_K {M : Model} {A : Around} {Q : Unit → Shared → Prop} (X : K.In s.heap) (I : PySem.W.InstAt s.heap x ox C od) (hm : PySem.W.mroIn K C (.type "object") = some true) (q : Q () s) :
    wpAny M A (checkBuiltinCall "object.__ne__" ⟨[.ref x, b], []⟩) Q E s := by
  simp only [checkBuiltinCall, F.cmpKind_ne, F.cmpSplit_ne]
  refine wpAny_bind ?_
  unfold isInstance
  refine wpAny_bind (I.type.here ?_)
  refine (PySem.W.looks_mroIn X hm).here ?_
  simp only [Bool.not_true, Bool.false_eq_true, if_false]
  have ha := F.cmpArgs_ne (.ref x) b
  cases hsig : Manifest.signature? "object.__ne__" with
  | none => exact wpAny_pure q
  | some sig =>
    simp only [argsOk, hsig] at ha
    have h2 : Bind.checkArgs "object.__ne__" sig ⟨[.ref x, b], []⟩ = pure () := ha
    show wpAny M A (Bind.checkArgs "object.__ne__" sig ⟨[.ref x, b], []⟩) Q E s
    rw [h2]; exact wpAny_pure q
theorem objNe_K (X : K.In s.heap) (I : PySem.W.InstAt s.heap x ox C od) (he : PySem.W.findIn K (.ref C) "__eq__" = some (some (.ref f))) (hf : PySem.W.isFn K (.ref f) = true) (hu : A.units < cLine) {Q : Fin → Shared → Prop}
    (hcall : wpAny (model prog w) A (call (.ref f) [.ref x, b]) (fun v s' => ∃ z, v = .bool z ∧ Q (.done (.ret (.bool (!z)))) s') E s) : wpAny (model prog w) A (Builtin.«object.__ne__» ⟨[.ref x, b], []⟩) Q E s := by
  unfold Builtin.«object.__ne__»
  repeat (first
    | with_reducible refine wpAny_cRoomFor hu ?_
    | (refine wpAny_bind (m := callSpecialIfBound? (.ref x) (Str.ofString "__eq__") [b])
        (PySem.W.ifBound_K X I he hf (wpAny_mono hcall (fun r s' hr => by
          obtain ⟨z, rfl, hq⟩ := hr
          repeat (first | exact hq | exact wpAny_pure hq | exact wpAny_truthy_bool hq | (refine wpAny_bind (m := truthy (.bool _)) (wpAny_truthy_bool ?_)) | wp_step)) fun _ _ e => e)))
    | wp_step)
theorem ne_K {Q : Value → Shared → Prop} (hu : A.units + 1 < cLine) (X : K.In s.heap) (I : PySem.W.InstAt s.heap x ox C od) (hb : PySem.W.Looks (model prog w) s.heap (typeOf b) tb) (hn : PySem.W.notFirst K C tb = true)
    (hs : PySem.W.findIn K (.ref C) "__ne__" = some (some (.builtin "object.__ne__"))) (he : PySem.W.findIn K (.ref C) "__eq__" = some (some (.ref f))) (hf : PySem.W.isFn K (.ref f) = true) (hm : PySem.W.mroIn K C (.type "object") = some true)
    (h : wpAny (model prog w) A.in1 (call (.ref f) [.ref x, b]) (fun v s' => ∃ z, v = .bool z ∧ Q (.bool (!z)) s') E s) : wpAny (model prog w) A (richCompare .NotEq (.ref x) b) Q E s := by
  have one : wpAny (model prog w) A (tryCompare (.ref x) "__ne__" b) (fun r s' => ∃ v, r = some v ∧ Q v s') E s := by
    simp only [tryCompare]
    refine wpAny_bind (ifBound_B X I hs PySem.F.slot_range_iterator_ne (wpAny_call (codeAny_call_builtin PySem.F.slot_range_iterator_ne.plain F.cmpEntry_ne
      (check_ne_K X I hm (objNe_K (A := A.in1) X I he hf (by show A.units + 1 < cLine; exact hu) (wpAny_mono h (fun v s' hv => ?_) fun _ _ e => e))))))
    obtain ⟨z, rfl, hq⟩ := hv
    first | exact ⟨z, rfl, wpAny_pure ⟨_, rfl, hq⟩⟩ | exact ⟨z, rfl, wpAny_pure (wpAny_pure ⟨_, rfl, hq⟩)⟩ | exact ⟨z, rfl, ⟨_, rfl, hq⟩⟩
  unfold richCompare
  simp only [oneThing_ref]
  refine wpAny_holding (wpAny_bind (wpAny_cRoomFor (Nat.lt_of_succ_lt hu) ?_))
  refine wpAny_bind (I.type.here (wpAny_bind (hb.here ?_)))
  split
  · rename_i q
    have e : PySem.W.subIn K tb (.ref C) = some false := by
      rcases Bool.or_eq_true_iff.mp hn with e | e
      · rw [beq_iff_eq.mp e] at q; simp at q
      · exact beq_iff_eq.mp e
    refine wpAny_bind ((PySem.W.looks_subIn X e).here ?_)
    simp only [Bool.false_eq_true, if_false]
    refine wpAny_bind (wpAny_mono one (fun r s' z => ?_) fun _ _ e => e)
    obtain ⟨v, rfl, hq⟩ := z
    exact wpAny_pure hq
  · refine wpAny_bind (wpAny_pure ?_)
    simp only [Bool.false_eq_true, if_false]
    refine wpAny_bind (wpAny_mono one (fun r s' z => ?_) fun _ _ e => e)
    obtain ⟨v, rfl, hq⟩ := z
    exact wpAny_pure hq
end
end RF
end

section
set_option Elab.async false
set_option linter.all false
set_option autoImplicit false
set_option maxRecDepth 100000
set_option maxHeartbeats 1000000
/-! RfJ: comparisons, tests, displays, fields, items. -/
namespace RF
open PySem L2
def copOf : Cop → CmpOp
  | .eq => .Eq | .ne => .NotEq | .lt => .Lt | .le => .LtE | .gt => .Gt | .ge => .GtE | .is => .Is | .isnot => .IsNot
section
variable {b : Bool} {M : Mach} {av : List V} {W : WX} {X : Cx} {F H : Hp} {σ : St} {ρ : Env} {own : Ow} {Φ : Fn} {k : Nat}
theorem isNon_ok {p : V} {d : D} (r : Rep M F p d) : decide (p = .non) = isNon d := by
  cases r <;> first | rfl | simp [isNon]
/-- behind a comparison -/
theorem eqI_q {pins : List (Addr × Obj)} {s' : Shared} {Q : VK} {d : D} {v : V} (h : EqI M av X pins σ ρ own F H s') (r : ∀ F, Rep M F v d) (q : QR b M av W σ (rE M av σ) F H (In own) (.ok (d, ρ)) Q) : ∃ H', Inv X pins σ H' s' ∧ Q v H' := by
  obtain ⟨F', H', own', I, g, p⟩ := h
  exact ⟨H', I, q v F' H' own' g.strict ⟨p, r F'⟩⟩
theorem own_ne {c f : Nat} {fs : List D} {y : D} {pins : List (Addr × Obj)} {s : Shared} {p q : V} {u v : Value} (ok : Ok M X) (mk : MOk M) (hΦ : Fns M Φ k X.prog X.w X.base) (hr : Room (k + 2) X.A) (tk : L2N.Takes X W)
    (hm : M.T.meth c mEq = some f) (I : Inv X pins σ H s) (rp : RelV p u) (rq : RelV q v) (pt : Pt M av F H σ ρ own) (r1 : Rep M F p (.obj c fs)) (r2 : Rep M F q y) {Q : VK}
    (hq : QR b M av W σ (rE M av σ) F H (In own) ((callS Φ f [.obj c fs, y] ρ).bind fun r => match r.1 with
        | .bl b => .ok (.bl (!b), r.2)
        | _ => .bad) Q) :
    wpAny (model X.prog X.w) X.A (richCompare .NotEq u v) (EP X pins σ Q) X.xe s := by
  obtain ⟨tb, lk, htb⟩ := looks_of ok I pt.sub rq r2
  obtain ⟨a, C, dx, fa, e1, h1, hc, _⟩ := r1.objv
  subst e1
  cases rp
  obtain ⟨i, hi, me⟩ := meth_ok mk hm hc
  obtain ⟨mA, J, _⟩ := ins_get I.hok (pt.sub _ _ h1)
  obtain ⟨od, J, _⟩ := J.look
  have kin : M.K.In s.heap := by have := I.kIn; rw [ok.K] at this; exact this
  have hd : M.T.dfl f = [] := (mk.md f i hi c mEq hm).elim id fun z => absurd z (by decide)
  have two : i.ps.length = 2 := mk.ar c mEq f i hm hi (by decide)
  have hnf : PySem.W.notFirst M.K C tb = true := by
    rcases htb with ⟨T, hT, rfl⟩ | ⟨c', C', hc', rfl⟩
    · exact mk.nt c C hc T hT
    · exact mk.nc c C c' C' hc hc'
  refine ne_K (K := M.K) (tb := tb) (by have := hr.units; omega) kin J lk hnf (mk.ne c C f hm hc) (by have e := me.at_; rw [mk.nEq] at e; exact e) me.fn (mk.ci2 c C hc).hm ?_
  have rr : Vals [V.ref a, q] [Value.ref a, v] := .cons rfl (.cons rq .nil)
  have q2 : QR b M av W σ (rE M av σ) F H (In own) (callS Φ f [.obj c fs, y] ρ) fun w H' => (∃ z, w = .bl z ∧ Q (.bl (!z)) H') := by
    refine hq.bind fun r w F1 H1 own1 g ⟨p1, e1⟩ q1 => ?_
    split at q1
    · rename_i z hz
      rw [hz] at e1
      cases e1.blv
      exact ⟨z, rfl, q1 _ F1 H1 own1 Gr.rfl' ⟨p1, .bl⟩⟩
    · exact q1.elim
  refine wpAny_mono (callS_run (k := k) ok (hΦ f i hi) ((hr.mono (Nat.le_succ (k + 1))).in1) rfl (mk.bd f i hi hd) tk I rr two.symm pt (.cons r1 (.cons r2 .nil)) q2) (fun r s' h => ?_) fun _ _ z => z
  obtain ⟨w, H', I', rw', z, e2, q⟩ := h
  subst e2
  cases rw'
  exact ⟨z, rfl, .bl (!z), H', I', rfl, q⟩
theorem cmp_ok {op : Cop} {pins : List (Addr × Obj)} {s : Shared} {Q : VK} {p q : V} {u v : Value} {d1 d2 : D} (ok : Ok M X) (mk : MOk M) (hΦ : Fns M Φ k X.prog X.w X.base) (hr : Room (k + 8) X.A) (tk : L2N.Takes X W)
    (I : Inv X pins σ H s) (rp : RelV p u) (rq : RelV q v) (pt : Pt M av F H σ ρ own) (r1 : Rep M F p d1) (r2 : Rep M F q d2)
    (hq : QR b M av W σ (rE M av σ) F H (In own) (cmpD M.T Φ op d1 d2 ρ) Q) : wpAny (model X.prog X.w) X.A (compareOp (copOf op) u v) (EP X pins σ Q) X.xe s := by
  have hints : ∀ {op' : Cop} {i j : Int} {z : Bool}, op' ≠ .eq → op' ≠ .ne → d1 = .int i → d2 = .int j → cmpI op' i j = some z → (∀ w, Rep M F w (.bl z) → Q w H) → wpAny (model X.prog X.w) X.A (compareOp (copOf op') u v) (EP X pins σ Q) X.xe s := by
    intro op' i j z n1 n2 e1 e2 e q'
    subst e1; subst e2
    cases r1.intv; cases r2.intv
    cases op' <;> simp only [cmpI] at e <;> first
      | exact absurd rfl n1
      | exact absurd rfl n2
      | (cases e; done)
      | (cases e; exact op_lt pins s σ H _ _ u v Q I rp rq ⟨i, j, rfl, rfl, q' _ .bl⟩)
      | (cases e; exact op_le pins s σ H _ _ u v Q I rp rq ⟨i, j, rfl, rfl, q' _ .bl⟩)
      | (cases e; exact op_gt pins s σ H _ _ u v Q I rp rq ⟨i, j, rfl, rfl, q' _ .bl⟩)
      | (cases e; exact op_ge pins s σ H _ _ u v Q I rp rq ⟨i, j, rfl, rfl, q' _ .bl⟩)
  have four : op ≠ .eq → op ≠ .ne → QR b M av W σ (rE M av σ) F H (In own) (cmpN op d1 d2 ρ) Q → wpAny (model X.prog X.w) X.A (compareOp (copOf op) u v) (EP X pins σ Q) X.xe s := by
    intro n1 n2 hq
    unfold cmpN at hq
    split at hq
    · rename_i i j
      split at hq
      · rename_i z ez
        exact hints n1 n2 rfl rfl ez (here_q pt hq)
      · exact hq.elim
    · exact hq.elim
  cases op with
  | is =>
    simp only [cmpD] at hq
    split at hq
    · cases r2.nonv
      exact op_isN pins s σ H _ _ u v Q I rp rq ⟨rfl, by rw [isNon_ok r1]; exact here_q pt hq _ .bl⟩
    · exact hq.elim
  | isnot =>
    simp only [cmpD] at hq
    split at hq
    · cases r2.nonv
      exact op_notN pins s σ H _ _ u v Q I rp rq ⟨rfl, by rw [isNon_ok r1]; exact here_q pt hq _ .bl⟩
    · exact hq.elim
  | eq =>
    have plain : (∀ c fs, d1 ≠ .obj c fs) → QR b M av W σ (rE M av σ) F H (In own) (match eqT M.T Φ d1 d2 with
        | some b => .ok (.bl b, ρ)
        | none => .bad) Q → wpAny (model X.prog X.w) X.A (compareOp .Eq u v) (EP X pins σ Q) X.xe s := fun hno hq => by
      cases hz0 : eqT M.T Φ d1 d2 with
      | none => rw [hz0] at hq; exact hq.elim
      | some z =>
        rw [hz0] at hq
        have hq : QR b M av W σ (rE M av σ) F H (In own) (.ok (.bl z, ρ)) Q := hq
        have hz := hz0
        unfold eqT at hz
        split at hz
        · rename_i hdep
          have fin : ∀ {A' : Around}, wpAny (model X.prog X.w) X.A (richCompare .Eq u v) (fun w s' => ∃ z', w = .bool z' ∧ z' = z ∧ EqI M av X pins σ ρ own F H s') X.xe s → wpAny (model X.prog X.w) X.A (compareOp .Eq u v) (EP X pins σ Q) X.xe s := fun {_} h => by
            show wpAny (model X.prog X.w) X.A (richCompare .Eq u v) (EP X pins σ Q) X.xe s
            refine wpAny_mono h (fun w s' hw => ?_) fun _ _ z => z
            obtain ⟨z', e1, e2, e⟩ := hw
            subst e1; subst e2
            obtain ⟨H', I', q'⟩ := eqI_q (v := .bl z') e (fun _ => .bl) hq
            exact ⟨.bl z', H', I', rfl, q'⟩
          have scl : eqS d1 d2 = some z → wpAny (model X.prog X.w) X.A (compareOp .Eq u v) (EP X pins σ Q) X.xe s := fun e => by
            obtain ⟨h1, h2⟩ := eqS_some e F p q r1 r2
            exact op_eq pins s σ H _ _ u v Q I rp rq ⟨h1, by rw [← h2]; exact here_q pt hq _ .bl⟩
          cases d1 with
          | tup xs =>
            cases d2 with
            | tup ys =>
              rw [eqD] at hz
              obtain ⟨a, _, rfl, _⟩ := r1.tupv
              obtain ⟨a2, _, rfl, _⟩ := r2.tupv
              cases rp; cases rq
              exact fin (A' := X.A) (rc_tup (n := k + 8) ok (eq_run ok mk hΦ tk (sizeOf xs)) (Nat.le_refl _) (by omega) ⟨hr, rfl⟩ I pt r1 r2 hz)
            | _ => simp [eqD, eqS] at hz
          | lst xs =>
            cases d2 with
            | lst ys =>
              rw [eqD] at hz
              obtain ⟨a, _, rfl, _⟩ := r1.lstv
              obtain ⟨a2, _, rfl, _⟩ := r2.lstv
              cases rp; cases rq
              exact fin (A' := X.A) (rc_lst (n := k + 8) ok (eq_run ok mk hΦ tk (sizeOf xs)) (Nat.le_refl _) (by omega) ⟨hr, rfl⟩ I pt r1 r2 hz)
            | _ => simp [eqD, eqS] at hz
          | obj c fs => exact absurd rfl (hno c fs)
          | _ => exact scl (eqD_scal hz (fun _ z => nomatch z) (fun _ z => nomatch z) (fun _ _ z => nomatch z))
        · cases hz
    cases d1 with
    | obj c fs =>
      simp only [cmpD] at hq
      cases hm : M.T.meth c mEq with
      | none => rw [hm] at hq; exact hq.elim
      | some f =>
        rw [hm] at hq
        exact own_eq ok mk hΦ (Nat.le_add_right k 8) ⟨hr, rfl⟩ tk hm I rp rq pt r1 r2 hq (looks_of ok I pt.sub rq r2)
    | _ => exact plain (fun _ _ z => nomatch z) hq
  | ne =>
    have plain : QR b M av W σ (rE M av σ) F H (In own) (match eqS d1 d2 with
        | some b => .ok (.bl (!b), ρ)
        | none => .bad) Q → wpAny (model X.prog X.w) X.A (compareOp .NotEq u v) (EP X pins σ Q) X.xe s := fun hq => by
      cases hz : eqS d1 d2 with
      | none => rw [hz] at hq; exact hq.elim
      | some z =>
        rw [hz] at hq
        obtain ⟨h1, h2⟩ := eqS_some hz F p q r1 r2
        exact op_ne pins s σ H _ _ u v Q I rp rq ⟨h1, by rw [← h2]; exact here_q pt hq _ .bl⟩
    cases d1 with
    | obj c fs =>
      simp only [cmpD] at hq
      cases hm : M.T.meth c mEq with
      | none => rw [hm] at hq; exact hq.elim
      | some f =>
        rw [hm] at hq
        exact own_ne ok mk hΦ (hr.mono (by omega)) tk hm I rp rq pt r1 r2 hq
    | _ => exact plain hq
  | lt => exact four (by decide) (by decide) hq
  | le => exact four (by decide) (by decide) hq
  | gt => exact four (by decide) (by decide) hq
  | ge => exact four (by decide) (by decide) hq
theorem notIn_cop (op : Cop) (e : Expr) : behindInMarks (copOf op) e = false := nomark e (by cases op <;> decide) (by cases op <;> decide)
theorem sE_cmp {op : Cop} {x y : Ex} {a1 a2 : Expr} {pos : Pos} (ok : Ok M X) (mk : MOk M) (hΦ : Fns M Φ k X.prog X.w X.base) (hr : Room (k + 8) X.A) (tk : L2N.Takes X W) (ha : PE X a1 (tE b M av W (evE M.T Φ x))) (hb : PE X a2 (tE b M av W (evE M.T Φ y))) :
    PE X (.Compare a1 [copOf op] [a2] pos) (tE b M av W (evE M.T Φ (.cmp op x y))) := by
  refine ⟨fun pins s σ H Q I h => wpAny_Compare1 (two_run ha hb I (g := fun d1 d2 ρ => cmpD M.T Φ op d1 d2 ρ) ?_ fun v u s2 p q d1 d2 ρ F H2 own I2 rp rq pt r1 r2 hq => cmp_ok ok mk hΦ hr tk I2 rp rq pt r1 r2 hq) (notIn_cop op a2)⟩
  unfold evE at h
  exact h
end
end RF
end

section
set_option Elab.async false
set_option linter.all false
set_option autoImplicit false
set_option maxRecDepth 100000
set_option maxHeartbeats 1000000
/-! RfK: tests, displays, fields, items, slices, in. -/
namespace RF
open PySem L2
section
variable {b : Bool} {M : Mach} {av : List V} {W : WX} {X : Cx} {F H : Hp} {σ : St} {ρ : Env} {own : Ow} {Φ : Fn} {k : Nat} {e a1 a2 a3 : Expr} {pos : Pos}
/-! ### shapes -/
theorem OwR.list? {v : V} {o : O} {as : List Addr} {ds : List D} (sub : Sb F H) (r : OwR M F H v o as) (h : o.list? = some ds) : ∃ a vs, v = .ref a ∧ SqL M.K H a vs ∧ Reps M F vs ds := by
  cases r with
  | lst h1 r => exact ⟨_, _, rfl, SqL.of h1, r.leafs h⟩
  | lf r =>
    cases r with
    | lst h1 r => simp [O.list?] at h; subst h; exact ⟨_, _, rfl, SqL.of (sub _ _ h1), r⟩
    | scr h1 r => simp [O.list?] at h; subst h; exact ⟨_, _, rfl, sub.sqL h1.sqL, r⟩
    | _ => simp [O.list?] at h
  | _ => simp [O.list?] at h
theorem OwR.tup? {v : V} {o : O} {as : List Addr} {ds : List D} (sub : Sb F H) (r : OwR M F H v o as) (h : o.tup? = some ds) : ∃ a vs, v = .ref a ∧ SqT M.K H a vs ∧ Reps M F vs ds := by
  cases r with
  | lf r =>
    cases r with
    | tup h1 r => simp [O.tup?] at h; subst h; exact ⟨_, _, rfl, sub.sqT h1, r⟩
    | _ => simp [O.tup?] at h
  | _ => simp [O.tup?] at h
theorem OwR.seq? {v : V} {o : O} {as : List Addr} {ds : List D} (sub : Sb F H) (r : OwR M F H v o as) (h : o.seq? = some ds) : ∃ a vs, v = .ref a ∧ (SqL M.K H a vs ∨ SqT M.K H a vs) ∧ Reps M F vs ds := by
  unfold O.seq? at h
  cases q : o.list? with
  | some es => rw [q] at h; cases h; obtain ⟨a, vs, e1, e2, e3⟩ := r.list? sub q; exact ⟨a, vs, e1, .inl e2, e3⟩
  | none => rw [q] at h; obtain ⟨a, vs, e1, e2, e3⟩ := r.tup? sub h; exact ⟨a, vs, e1, .inr e2, e3⟩

/-! ### truth -/
theorem tru_of (ok : Ok M X) {v : V} {o : O} {as : List Addr} {z : Bool} (sub : Sb F H) (r : OwR M F H v o as) (h : truO o = some z) : TruV X.K v H z := by
  rw [ok.K]
  have em : ∀ {vs : List V} {ds : List D}, Reps M F vs ds → (!ds.isEmpty) = !vs.isEmpty := fun {vs ds} r => by cases r <;> rfl
  cases r with
  | lst h1 r =>
    simp only [truO] at h
    cases h
    refine .inl ⟨_, SqL.of h1, ?_⟩
    cases r <;> rfl
  | lf r =>
    cases r with
    | non => simp only [truO] at h; cases h; exact rfl
    | bl => simp only [truO] at h; cases h; exact rfl
    | int => simp only [truO] at h; cases h; exact rfl
    | str =>
      simp only [truO] at h
      split at h
      · rename_i hl
        cases h
        refine ⟨by rw [← lim_eq]; exact hl, ?_⟩
        rename_i x
        show (x.length != 0) = ((x.length : Int) != 0)
        cases x.length <;> rfl
      · cases h
    | tup h1 r => simp only [truO] at h; cases h; exact .inr (.inl ⟨_, sub.sqT h1, em r⟩)
    | lst h1 r => simp only [truO] at h; cases h; exact .inl ⟨_, SqL.of (sub _ _ h1), em r⟩
    | scr h1 r => simp only [truO] at h; cases h; exact .inl ⟨_, sub.sqL h1.sqL, em r⟩
    | _ => simp only [truO] at h; cases h
  | _ => simp only [truO] at h; cases h
theorem val_q (ok : Ok M X) {x : Px} {σ : St} {H : Hp} {Q : Bool → Hp → Prop} (h : tT b M av W (evT M.T Φ (.val x)) σ H Q) : tX b M av W (evX M.T Φ x) σ H fun v H' => ∃ z, TruV X.K v H' z ∧ Q z H' := by
  obtain ⟨ρ, F, own, pt, q⟩ := h
  refine ⟨ρ, F, own, pt, ?_⟩
  unfold evT at q
  refine q.bind fun r v F1 H1 own1 g ⟨p1, as, r1⟩ q1 => ?_
  split at q1
  · rename_i z hz
    exact ⟨z, tru_of ok p1.sub r1 hz, q1 z F1 H1 own1 Gr.rfl' ⟨p1, rfl⟩⟩
  · exact q1.elim
theorem sT_val (ok : Ok M X) {x : Px} (ha : PE X e (tX b M av W (evX M.T Φ x))) (he : ∀ whole, isTrue e X.env whole = (do let v ← whole; standAt e.pos; holding [v] (truthy v))) : PT X e (tT b M av W (evT M.T Φ (.val x))) :=
  imT (pt_truth ha he) fun σ H Q h => val_q ok h
theorem sT_cmp (ok : Ok M X) (mk : MOk M) (hΦ : Fns M Φ k X.prog X.w X.base) (hr : Room (k + 8) X.A) (tk : L2N.Takes X W) {op : Cop} {x y : Ex} (ha : PE X a1 (tE b M av W (evE M.T Φ x))) (hb : PE X a2 (tE b M av W (evE M.T Φ y))) :
    PT X (.Compare a1 [copOf op] [a2] pos) (tT b M av W (evT M.T Φ (.val (.ex (.cmp op x y))))) := by
  refine ⟨fun pins s σ H Q I h => ?_⟩
  have h := val_q (X := X) ok h
  have h2 : tE b M av W (evE M.T Φ (.cmp op x y)) σ H fun v H' => ∃ z, TruV X.K v H' z ∧ Q z H' := by
    obtain ⟨ρ, F, own, pt, q⟩ := h
    refine ⟨ρ, F, own, pt, ?_⟩
    unfold evX at q
    exact q.bind fun r v F1 H1 own1 g ⟨p1, r1⟩ q1 => q1 v F1 H1 own1 Gr.rfl' ⟨p1, [], .lf r1⟩
  have h3 : tE b M av W (fun ρ => (evE M.T Φ x ρ).bind fun r => (evE M.T Φ y r.2).bind fun t => cmpD M.T Φ op r.1 t.1 t.2) σ H fun v H' => ∃ z, TruV X.K v H' z ∧ Q z H' := h2
  have run := two_run ha hb I (g := fun d1 d2 ρ => cmpD M.T Φ op d1 d2 ρ) h3 (f := compareOp (copOf op)) fun v u s2 p q d1 d2 ρ F H2 own I2 rp rq pt r1 r2 hq => cmp_ok ok mk hΦ hr tk I2 rp rq pt r1 r2 hq
  refine wpAny_isTrue_Compare1 (thn run fun v s1 h1 => thn h1 fun u s2 h2 => thn h2 fun c s3 h4 => ?_) (notIn_cop op a2)
  obtain ⟨x3, H3, I3, r3, z, tz, q3⟩ := h4
  exact tru_ok pins s3 σ H3 x3 c Q I3 r3 ⟨z, tz, q3⟩
theorem sT_not {t : Te} (ha : PT X a1 (tT b M av W (evT M.T Φ t))) : PT X (.UnaryOp .Not a1 pos) (tT b M av W (evT M.T Φ (.not t))) := by
  refine imT (pt_not ha) fun σ H Q ⟨ρ, F, own, pt, q⟩ => ⟨ρ, F, own, pt, ?_⟩
  unfold evT at q
  exact q.bind fun r v F1 H1 own1 g ⟨p1, e1⟩ q1 => by subst e1; exact q1 _ F1 H1 own1 Gr.rfl' ⟨p1, rfl⟩
theorem sT_and1 {t : Te} (ha : PT X a1 (tT b M av W (evT M.T Φ t))) : PW X (.BoolOp .And [a1] pos) (tT b M av W (evT M.T Φ t)) := pw_and1 ha
theorem sT_or1 {t : Te} (ha : PT X a1 (tT b M av W (evT M.T Φ t))) : PW X (.BoolOp .Or [a1] pos) (tT b M av W (evT M.T Φ t)) := pw_or1 ha
theorem imW {t t' : TT} (h : PW X e t) (k : ∀ σ H Q, t' σ H Q → t σ H Q) : PW X e t' := ⟨fun wh pins s σ H Q I q => h.run wh pins s σ H Q I (k σ H Q q)⟩
theorem sT_and {t u : Te} {r : List Expr} (ha : PT X a1 (tT b M av W (evT M.T Φ t))) (hb : PW X (.BoolOp .And (a2 :: r) pos) (tT b M av W (evT M.T Φ u))) : PW X (.BoolOp .And (a1 :: a2 :: r) pos) (tT b M av W (evT M.T Φ (.and t u))) := by
  refine imW (pw_and ha hb) fun σ H Q ⟨ρ, F, own, pt, q⟩ => ⟨ρ, F, own, pt, ?_⟩
  unfold evT at q
  refine q.bind fun r v F1 H1 own1 g ⟨p1, e1⟩ q1 => ?_
  subst e1
  by_cases z : r.1 = true
  · rw [if_pos z] at q1 ⊢
    exact ⟨r.2, F1, own1, p1, q1⟩
  · rw [if_neg z] at q1 ⊢
    exact q1 false F1 H1 own1 Gr.rfl' ⟨p1, rfl⟩
theorem sT_or {t u : Te} {r : List Expr} (ha : PT X a1 (tT b M av W (evT M.T Φ t))) (hb : PW X (.BoolOp .Or (a2 :: r) pos) (tT b M av W (evT M.T Φ u))) : PW X (.BoolOp .Or (a1 :: a2 :: r) pos) (tT b M av W (evT M.T Φ (.or t u))) := by
  refine imW (pw_or ha hb) fun σ H Q ⟨ρ, F, own, pt, q⟩ => ⟨ρ, F, own, pt, ?_⟩
  unfold evT at q
  refine q.bind fun r v F1 H1 own1 g ⟨p1, e1⟩ q1 => ?_
  subst e1
  by_cases z : r.1 = true
  · rw [if_pos z] at q1 ⊢
    exact q1 true F1 H1 own1 Gr.rfl' ⟨p1, rfl⟩
  · rw [if_neg z] at q1 ⊢
    exact ⟨r.2, F1, own1, p1, q1⟩
theorem sE_ite {t : Te} {x y : Ex} (hc : PT X a1 (tT b M av W (evT M.T Φ t))) (ha : PE X a2 (tE b M av W (evE M.T Φ x))) (hb : PE X a3 (tE b M av W (evE M.T Φ y))) : PE X (.IfExp a1 a2 a3 pos) (tE b M av W (evE M.T Φ (.ite t x y))) := by
  refine imE (pe_ifExp hc ha hb) fun σ H Q ⟨ρ, F, own, pt, q⟩ => ⟨ρ, F, own, pt, ?_⟩
  unfold evE at q
  refine q.bind fun r v F1 H1 own1 g ⟨p1, e1⟩ q1 => ?_
  subst e1
  by_cases z : r.1 = true
  · rw [if_pos z] at q1 ⊢
    exact ⟨r.2, F1, own1, p1, q1⟩
  · rw [if_neg z] at q1 ⊢
    exact ⟨r.2, F1, own1, p1, q1⟩

/-! ### argument lists, displays -/
theorem sEs_nil : PA X [] (tEs b M av W (evEs M.T Φ .nil)) :=
  imA pa_nil fun σ H Q ⟨ρ, F, own, pt, q⟩ => by unfold evEs at q; exact q [] F H own Gr.rfl' ⟨pt, .nil⟩
theorem sEs_cons {x : Ex} {r : Exs} {es : List Expr} (ha : PE X e (tE b M av W (evE M.T Φ x))) (hr : PA X es (tEs b M av W (evEs M.T Φ r))) (hs : starEach (e :: es) X.env = (false, eval e X.env) :: starEach es X.env) :
    PA X (e :: es) (tEs b M av W (evEs M.T Φ (.cons x r))) := by
  refine imA (pa_cons ha hr hs) fun σ H Q ⟨ρ, F, own, pt, q⟩ => ⟨ρ, F, own, pt, ?_⟩
  unfold evEs at q
  refine q.bind fun r1 v F1 H1 own1 g ⟨p1, e1⟩ q1 => ⟨r1.2, F1, own1, p1, ?_⟩
  refine q1.bind fun r2 vs F2 H2 own2 g2 ⟨p2, e2⟩ q2 => ?_
  exact q2 (v :: vs) F2 H2 own2 Gr.rfl' ⟨p2, .cons (e1.mono g2.ff) e2⟩
theorem sE_tup {x1} {as : Exs} {es : List Expr} (h : PA X es (tEs b M av W (evEs M.T Φ as))) : PE X (.Tuple es x1 pos) (tE b M av W (evE M.T Φ (.tup as))) := by
  refine imE (pe_tup h) fun σ H Q ⟨ρ, F, own, pt, q⟩ => ⟨ρ, F, own, pt, ?_⟩
  unfold evE at q
  refine q.bind fun r vs F1 H1 own1 g ⟨p1, r1⟩ q1 => ?_
  split at q1
  · rename_i hl
    refine ⟨by rw [r1.length, ← lim_eq]; exact hl, fun p hp => new_q p1 hp (.tup (SqT.of upd_same) (r1.mono (Sb.upd (p1.sub.none hp)))) q1⟩
  · exact q1.elim
end
end RF
end

section
set_option Elab.async false
set_option linter.all false
set_option autoImplicit false
set_option maxRecDepth 100000
set_option maxHeartbeats 1000000
/-! RfL: fields, items, slices, in, built-ins by name, isinstance. -/
namespace RF
open PySem L2
open PyProof.Rows hiding St
section
variable {b : Bool} {M : Mach} {av : List V} {W : WX} {X : Cx} {F H : Hp} {σ : L2.St} {ρ : Env} {own : Ow} {Φ : Fn} {k : Nat} {e a1 a2 a3 : Expr} {pos : Pos}
theorem lookup_place {nm : Nat → PySem.Str} {f : Nat} : ∀ (l : List Nat) (n : Nat) (fs : List (PySem.Str × V)) (j : Nat), fs.map (·.1) = (l.take n).map nm → place l f = some j → (∀ g ∈ l, nm g = nm f → g = f) → fs.lookup (nm f) = (fs.map (·.2))[j]?
  | [], _, _, _, _, h, _ => by simp [place] at h
  | g :: l, 0, fs, j, e, h, _ => by
    have : fs = [] := by simpa using e
    subst this; rfl
  | g :: l, n + 1, fs, j, e, h, inj => by
    cases fs with
    | nil => simp at e
    | cons p r =>
      obtain ⟨x, v⟩ := p
      simp only [List.take_succ_cons, List.map_cons, List.cons.injEq] at e
      obtain ⟨e1, e2⟩ := e
      have e1 : x = nm g := e1
      unfold place at h
      by_cases q : g = f
      · rw [if_pos q] at h
        cases h
        subst q
        have hb : (nm g == x) = true := beq_iff_eq.mpr e1.symm
        simp only [List.lookup, hb]
        rfl
      · rw [if_neg q] at h
        cases hp : place l f with
        | none => rw [hp] at h; cases h
        | some i =>
          rw [hp] at h
          cases h
          have hb : (nm f == x) = false := beq_eq_false_iff_ne.mpr fun z => q (inj g List.mem_cons_self (by rw [← e1, ← z]))
          simp only [List.lookup, hb]
          rw [lookup_place l n r i e2 hp fun g' m => inj g' (List.mem_cons_of_mem _ m)]
          rfl
theorem place_mem : ∀ {l : List Nat} {f j : Nat}, place l f = some j → f ∈ l
  | g :: l, f, j, h => by
    unfold place at h
    by_cases q : g = f
    · subst q; exact List.mem_cons_self
    · rw [if_neg q] at h
      cases hp : place l f with
      | none => rw [hp] at h; cases h
      | some i => exact List.mem_cons_of_mem _ (place_mem hp)
  | [], _, _, h => by simp [place] at h
theorem fldO_ok (mk : MOk M) {v : V} {o o' : O} {as : List Addr} {f : Nat} (sub : Sb F H) (r : OwR M F H v o as) (h : fldO M.T o f = some o') :
    ∃ a C dx fs w bs, v = .ref a ∧ H a = some (.ins C dx fs) ∧ Cls M.K C ∧ NoAttr M.K C (M.nm f) ∧ fs.lookup (M.nm f) = some w ∧ OwR M F H w o' bs := by
  have core : ∀ {c j : Nat} {n : Nat} {fs : List (PySem.Str × V)} {C : Addr}, M.cls c = some C → place (M.T.fld c) f = some j → fs.map (·.1) = ((M.T.fld c).take n).map M.nm → Cls M.K C ∧ NoAttr M.K C (M.nm f) ∧ fs.lookup (M.nm f) = (fs.map (·.2))[j]? :=
    fun {c j n fs C} hc hp hn => ⟨mk.cl c C hc, mk.fn c C f hc (place_mem hp), lookup_place _ _ _ _ hn hp fun g m e => mk.inj c g f m (place_mem hp) e⟩
  cases r with
  | obj h1 hc hl hn r =>
    simp only [fldO] at h
    cases hp : place (M.T.fld _) f with
    | none => rw [hp] at h; cases h
    | some j =>
      rw [hp] at h
      obtain ⟨c1, c2, c3⟩ := core hc hp hn
      obtain ⟨w, bs, hw, hr, _⟩ := r.get h
      exact ⟨_, _, _, _, w, bs, rfl, h1, c1, c2, by rw [c3]; exact hw, hr⟩
  | lf r =>
    cases r with
    | obj h1 hc hl hn r =>
      simp only [fldO] at h
      cases hp : place (M.T.fld _) f with
      | none => rw [hp] at h; cases h
      | some j =>
        rw [hp] at h
        obtain ⟨c1, c2, c3⟩ := core hc hp hn
        cases hd : (‹List D›)[j]? with
        | none => simp [hd] at h
        | some d =>
          simp [hd] at h
          subst h
          obtain ⟨w, hw, hr⟩ := r.get hd
          exact ⟨_, _, _, _, w, [], rfl, sub _ _ h1, c1, c2, by rw [c3]; exact hw, .lf hr⟩
    | _ => simp [fldO] at h
  | _ => simp [fldO] at h
theorem sX_fld (ok : Ok M X) (mk : MOk M) {p : Px} {f : Nat} {nmf : PySem.Str} (hnm : M.nm f = nmf) (ha : PE X e (tX b M av W (evX M.T Φ p))) (hb : attributeBase e nmf X.env (eval e X.env) = eval e X.env) :
    PE X (.Attribute e nmf pos) (tX b M av W (evX M.T Φ (.fld p f))) := by
  refine imE (pe_fld ha hb) fun σ H Q ⟨ρ, F, own, pt, q⟩ => ⟨ρ, F, own, pt, ?_⟩
  unfold evX at q
  refine q.bind fun r v F1 H1 own1 g ⟨p1, as, r1⟩ q1 => ?_
  split at q1
  · rename_i o ho
    obtain ⟨a, C, dx, fs, w, bs, e1, e2, e3, e4, e5, e6⟩ := fldO_ok mk p1.sub r1 ho
    subst hnm
    exact ⟨a, C, dx, fs, w, e1, e2, by rw [ok.K]; exact e3, by rw [ok.K]; exact e4, e5, q1 w F1 H1 own1 Gr.rfl' ⟨p1, bs, e6⟩⟩
  · exact q1.elim
theorem sE_rd {p : Px} (ha : PE X e (tX b M av W (evX M.T Φ p))) : PE X e (tE b M av W (evE M.T Φ (.rd p))) := by
  refine imE ha fun σ H Q ⟨ρ, F, own, pt, q⟩ => ⟨ρ, F, own, pt, ?_⟩
  unfold evE at q
  refine q.bind fun r v F1 H1 own1 g ⟨p1, as, r1⟩ q1 => ?_
  split at q1
  · rename_i d hd
    rw [hd] at r1
    cases r1 with
    | lf r1 => exact q1 v F1 H1 own1 Gr.rfl' ⟨p1, r1⟩
  · exact q1.elim

/-! ### items -/
theorem ix_eq (n : Nat) (i : Int) : ix n i = ixN n i := rfl
theorem getAt_eq {α : Type} (xs : List α) (i : Int) : getAt xs i = atI xs i := rfl
theorem getAt_some {α : Type} {xs : List α} {i : Int} {x : α} (h : getAt xs i = some x) : ∃ j, ix xs.length i = some j ∧ xs[j]? = some x := by
  unfold getAt at h
  cases q : ix xs.length i with
  | none => rw [q] at h; cases h
  | some j => rw [q] at h; exact ⟨j, rfl, h⟩
theorem keyEq_iff {a c : Key} : keyEq (kD a) (kD c) = decide (a = c) := by
  cases a <;> cases c <;> simp [keyEq, kD]
theorem look_ok {α : Type} {Pr : V → α → Prop} : ∀ {kvs : List (Key × V)} {xs : List α} {kk : Key} {x : α}, kvs.length = xs.length → (∀ (i : Nat) (y : α), xs[i]? = some y → ∃ v, (kvs.map (·.2))[i]? = some v ∧ Pr v y) → look (kvs.map fun kv => kD kv.1) xs (kD kk) = some x → ∃ v, valV kvs kk = some v ∧ Pr v x
  | [], _, _, _, _, _, h => by simp [look] at h
  | (k0, v0) :: kvs, [], _, _, hl, _, _ => by simp at hl
  | (k0, v0) :: kvs, y :: xs, kk, x, hl, hr, h => by
    rw [List.map_cons, look, keyEq_iff] at h
    by_cases q : k0 = kk
    · rw [if_pos (decide_eq_true q)] at h
      cases h
      obtain ⟨v, e, p⟩ := hr 0 _ rfl
      simp at e
      subst e
      exact ⟨v0, valV_pos q, p⟩
    · rw [if_neg (by simpa using q)] at h
      obtain ⟨v, e, p⟩ := look_ok (kvs := kvs) (xs := xs) (by simpa using hl) (fun i y hy => by
        obtain ⟨v, e, p⟩ := hr (i + 1) y (by simpa using hy)
        exact ⟨v, by simpa using e, p⟩) h
      exact ⟨v, by rw [valV_neg q]; exact e, p⟩
theorem isKey_of {α : Type} {ks : List D} {xs : List α} {d : D} {x : α} (h : look ks xs d = some x) : ∃ kk : Key, d = kD kk := by
  induction ks generalizing xs with
  | nil => simp [look] at h
  | cons c ks ih =>
    cases xs with
    | nil => simp [look] at h
    | cons y xs =>
      rw [look] at h
      by_cases q : keyEq c d = true
      · cases d with
        | int i => exact ⟨.inl i, rfl⟩
        | str z => exact ⟨.inr z, rfl⟩
        | _ => cases c <;> simp [keyEq] at q
      · rw [if_neg q] at h; exact ih h
theorem Rep.key {v : V} {kk : Key} (r : Rep M F v (kD kk)) : v = kV kk := by
  cases kk <;> cases r <;> rfl
/-- an item, by values -/
theorem idx_run (ok : Ok M X) (hu : X.A.units + 1 < cLine) {value slice : Expr} {pins : List (Addr × Obj)} {s : Shared} {Q : VK} {p q : V} {u v : Value} {o o' : O} {d : D} {as : List Addr} (I : Inv X pins σ H s) (rp : RelV p u) (rq : RelV q v) (sub : Sb F H) (r1 : OwR M F H p o as) (r2 : Rep M F q d)
    (h : idxO o d = some o') (hq : ∀ w bs, OwR M F H w o' bs → Q w H) (hs : subscripted slice false u v = operate [u, v] (getItem u v)) : wpAny (model X.prog X.w) X.A (subscriptTail value slice u v) (EP X pins σ Q) X.xe s := by
  have lst : ∀ {a : Addr} {vs : List V} {i : Int} {w : V}, p = .ref a → q = .int i → SqL M.K H a vs → atI vs i = some w → Q w H → wpAny (model X.prog X.w) X.A (subscriptTail value slice u v) (EP X pins σ Q) X.xe s :=
    fun {a vs i w} e1 e2 e3 e4 e5 => ix_list value slice pins s σ H p q u v Q I rp rq ⟨a, vs, i, w, e1, e2, by rw [ok.K]; exact e3, e4, e5⟩ hs
  have tup : ∀ {a : Addr} {vs : List V} {i : Int} {w : V}, p = .ref a → q = .int i → SqT M.K H a vs → atI vs i = some w → Q w H → wpAny (model X.prog X.w) X.A (subscriptTail value slice u v) (EP X pins σ Q) X.xe s :=
    fun {a vs i w} e1 e2 e3 e4 e5 => ix_tup value slice pins s σ H p q u v Q I rp rq ⟨a, vs, i, w, e1, e2, by rw [ok.K]; exact e3, e4, e5⟩ hs
  have dic : ∀ {a : Addr} {kvs : List (Key × V)} {kk : Key} {w : V}, p = .ref a → q = kV kk → H a = some (.dK kvs) → valV kvs kk = some w → Q w H → wpAny (model X.prog X.w) X.A (subscriptTail value slice u v) (EP X pins σ Q) X.xe s := by
    intro a kvs kk w e1 e2 e3 e4 e5
    subst e1; subst e2
    obtain rfl : u = Value.ref a := rp
    have g : DGet H a (kV kk) (some w) := .inl ⟨kvs, kk, .inl e3, rfl, e4.symm⟩
    exact tail_any (dict_typeIs I g) PySem.F.slot_dict_getitem.lookup (d_getItem hu I g rq fun w' s3 I3 rw' => ⟨w, H, I3, rw', e5⟩) hs
  have gets : ∀ {ds : List D} {vs : List V} {i : Int} {dd : D}, Reps M F vs ds → getAt ds i = some dd → ∃ w, atI vs i = some w ∧ Rep M F w dd := fun {ds vs i dd} r h => by
    obtain ⟨j, h1, h2⟩ := getAt_some h
    obtain ⟨w, h3, h4⟩ := r.get h2
    exact ⟨w, by unfold atI; rw [r.length, ← ix_eq, h1]; exact h3, h4⟩
  cases r1 with
  | lst h1 r =>
    cases d with
    | int i =>
      simp only [idxO] at h
      cases r2.intv
      obtain ⟨j, h2, h3⟩ := getAt_some h
      obtain ⟨w, bs, h4, h5, _⟩ := r.get h3
      exact lst rfl rfl (SqL.of h1) (by unfold atI; rw [r.len2, ← ix_eq, h2]; exact h4) (hq w bs h5)
    | _ => simp [idxO] at h
  | @dic a kvs ks os as h1 hk hn r =>
    have h : look ks os d = some o' := by cases d <;> exact h
    obtain ⟨kk, rfl⟩ := isKey_of h
    rw [hk] at h
    obtain ⟨w, e1, bs, e2⟩ := look_ok (Pr := fun w o => ∃ bs, OwR M F H w o bs) (by have := r.len2; simpa using this) (fun i y hy => by
      obtain ⟨w, bs, g1, g2, _⟩ := r.get hy
      exact ⟨w, g1, bs, g2⟩) h
    exact dic rfl r2.key h1 e1 (hq w bs e2)
  | obj => cases d <;> simp [idxO] at h
  | lf r =>
    cases r with
    | tup h1 r =>
      cases d with
      | int i =>
        simp only [idxO] at h
        cases r2.intv
        cases hg : getAt _ i with
        | none => rw [hg] at h; cases h
        | some dd =>
          rw [hg] at h; cases h
          obtain ⟨w, e1, e2⟩ := gets r hg
          exact tup rfl rfl (sub.sqT h1) e1 (hq w [] (.lf e2))
      | _ => simp [idxO] at h
    | lst h1 r =>
      cases d with
      | int i =>
        simp only [idxO] at h
        cases r2.intv
        cases hg : getAt _ i with
        | none => rw [hg] at h; cases h
        | some dd =>
          rw [hg] at h; cases h
          obtain ⟨w, e1, e2⟩ := gets r hg
          exact lst rfl rfl (SqL.of (sub _ _ h1)) e1 (hq w [] (.lf e2))
      | _ => simp [idxO] at h
    | scr h1 r =>
      cases d with
      | int i =>
        simp only [idxO] at h
        cases r2.intv
        cases hg : getAt _ i with
        | none => rw [hg] at h; cases h
        | some dd =>
          rw [hg] at h; cases h
          obtain ⟨w, e1, e2⟩ := gets r hg
          exact lst rfl rfl (sub.sqL h1.sqL) e1 (hq w [] (.lf e2))
      | _ => simp [idxO] at h
    | @dic a kvs ks ds h1 hk hn r =>
      have h : (look ks ds d).map .lf = some o' := by cases d <;> exact h
      cases hg : look ks ds d with
      | none => rw [hg] at h; cases h
      | some dd =>
        rw [hg] at h; cases h
        obtain ⟨kk, rfl⟩ := isKey_of hg
        rw [hk] at hg
        obtain ⟨w, e1, e2⟩ := look_ok (Pr := fun w o => Rep M F w o) (by have := r.length; simpa using this) (fun i y hy => r.get hy) hg
        exact dic rfl r2.key (sub _ _ h1) e1 (hq w [] (.lf e2))
    | @str x =>
      cases d with
      | int i =>
        simp only [idxO] at h
        cases r2.intv
        split at h
        · rename_i hl
          cases hg : getAt x.cps.toList i with
          | none => rw [hg] at h; cases h
          | some c =>
            rw [hg] at h; cases h
            exact ix_str value slice pins s σ H _ _ u v Q I rp rq ⟨x, i, c, rfl, rfl, by rw [← lim_eq]; exact hl, hg, hq _ [] (.lf .str)⟩ hs
        · cases h
      | _ => simp [idxO] at h
    | _ => cases d <;> simp [idxO] at h
theorem sX_sub (ok : Ok M X) (hu : X.A.units + 1 < cLine) {p : Px} {x : Ex} (ha : PE X a1 (tX b M av W (evX M.T Φ p))) (hb : PE X a2 (tE true M av W (evE M.T Φ x))) (hs : PlainIx a2) :
    PE X (.Subscript a1 a2 pos) (tX b M av W (evX M.T Φ (.sub p x))) := by
  refine ⟨fun pins s σ H Q I h => ?_⟩
  obtain ⟨ρ, F, own, pt, q⟩ := h
  unfold evX at q
  refine Subscript_ (binT ha hb (R := fun p u H2 => ∃ (o o' : O) (d : D) (F : Hp) (as : List Addr), Sb F H2 ∧ OwR M F H2 p o as ∧ Rep M F u d ∧ idxO o d = some o' ∧ ∀ w bs, OwR M F H2 w o' bs → Q w H2) I ⟨ρ, F, own, pt, ?_⟩
    fun v u s2 p q' H2 I2 rp rq ⟨o, o', d, F, as, sub, r1, r2, h, hq⟩ => idx_run ok hu I2 rp rq sub r1 r2 h hq (hs _ _))
  refine q.bind fun r v F1 H1 own1 g1 ⟨p1, as, r1⟩ q1 => ⟨r.2, F1, own1, p1, ?_⟩
  refine q1.bindT (Rl := rE M av) fun t u F2 H2 own2 g2 ⟨p2, r2⟩ q2 => ?_
  split at q2
  · rename_i o' ho
    exact ⟨r.1, o', t.1, F2, as, p2.sub, r1.mono g2.ff (fun a m u e => g2.hh a u e (.inl rfl)), r2, ho, fun w bs rw' => q2 w F2 H2 own2 Gr.rfl' ⟨p2, bs, rw'⟩⟩
  · exact q2.elim
theorem sE_idx (ok : Ok M X) (hu : X.A.units + 1 < cLine) {x y : Ex} (ha : PE X a1 (tE b M av W (evE M.T Φ x))) (hb : PE X a2 (tE b M av W (evE M.T Φ y))) (hs : PlainIx a2) :
    PE X (.Subscript a1 a2 pos) (tE b M av W (evE M.T Φ (.idx x y))) := by
  refine ⟨fun pins s σ H Q I h => ?_⟩
  obtain ⟨ρ, F, own, pt, q⟩ := h
  unfold evE at q
  refine Subscript_ (binT ha hb (R := fun p u H2 => ∃ (dd d d' : D) (F : Hp), Sb F H2 ∧ Rep M F p dd ∧ Rep M F u d ∧ idxO (.lf dd) d = some (.lf d') ∧ ∀ w, Rep M F w d' → Q w H2) I ⟨ρ, F, own, pt, ?_⟩
    fun v u s2 p q' H2 I2 rp rq ⟨dd, d, d', F, sub, r1, r2, h, hq⟩ => idx_run ok hu I2 rp rq sub (.lf r1) r2 h (fun w bs rw' => by cases rw' with | lf r => exact hq w r) (hs _ _))
  refine q.bind fun r v F1 H1 own1 g1 ⟨p1, r1⟩ q1 => ⟨r.2, F1, own1, p1, ?_⟩
  refine q1.bind fun t u F2 H2 own2 g2 ⟨p2, r2⟩ q2 => ?_
  split at q2
  · rename_i d' ho
    exact ⟨r.1, t.1, d', F2, p2.sub, r1.mono g2.ff, r2, ho, fun w rw' => q2 w F2 H2 own2 Gr.rfl' ⟨p2, rw'⟩⟩
  · exact q2.elim
end
end RF
end

section
set_option Elab.async false
set_option linter.all false
set_option autoImplicit false
set_option maxRecDepth 100000
set_option maxHeartbeats 1000000
/-! RfM: slices, in, built-ins by name, isinstance. -/
namespace RF
open PySem L2
open PyProof.Rows hiding St
section
variable {b : Bool} {M : Mach} {av : List V} {W : WX} {X : Cx} {F H : Hp} {σ : L2.St} {ρ : Env} {own : Ow} {Φ : Fn} {k : Nat} {e a1 a2 a3 : Expr} {pos p2 : Pos}
theorem sIx_eq (n d : Nat) (o : Option Int) : sIx n d o = HT.sIx n d o := by cases o <;> rfl
theorem Reps.cut {vs : List V} {ds : List D} (r : Reps M F vs ds) (lo hi : Option Int) : Reps M F (cutV vs lo hi) (RF.cut ds lo hi) := by
  unfold cutV RF.cut
  rw [← sIx_eq, ← sIx_eq, r.length]
  exact (r.drop _).take _
abbrev rO (M : Mach) (av : List V) (σ : L2.St) : Hp → Hp → Ow → Option Int × Env → Option Int → Prop := fun F H own a v => Pt M av F H σ a.2 own ∧ v = a.1
abbrev tO (b : Bool) (M : Mach) (av : List V) (W : WX) (f : Env → R (Option Int × Env)) : TO := tR b M av W (rO M av) f
theorem imO {o : Option Expr} {t t' : TO} (h : PO X o t) (k : ∀ σ H Q, t' σ H Q → t σ H Q) : PO X o t' := ⟨fun pins s σ H Q I q => h.run pins s σ H Q I (k σ H Q q)⟩
theorem sO_none : PO X none (tO b M av W (evO M.T Φ .none)) := imO po_none fun σ H Q ⟨ρ, F, own, pt, q⟩ => by unfold evO at q; exact q none F H own Gr.rfl' ⟨pt, rfl⟩
theorem sO_some {x : Ex} (ha : PE X e (tE b M av W (evE M.T Φ x))) : PO X (some e) (tO b M av W (evO M.T Φ (.some x))) := by
  refine imO (po_some ha) fun σ H Q ⟨ρ, F, own, pt, q⟩ => ⟨ρ, F, own, pt, ?_⟩
  unfold evO at q
  refine q.bind fun r v F1 H1 own1 g ⟨p1, r1⟩ q1 => ?_
  split at q1
  · rename_i i ei
    rw [ei] at r1
    exact ⟨i, r1.intv, q1 _ F1 H1 own1 Gr.rfl' ⟨p1, rfl⟩⟩
  · exact q1.elim
theorem sE_slc (ok : Ok M X) {p : Px} {lo hi : Ox} {l h : Option Expr} (ha : PE X a1 (tX b M av W (evX M.T Φ p))) (hl : PO X l (tO true M av W (evO M.T Φ lo))) (hh : PO X h (tO true M av W (evO M.T Φ hi))) :
    PE X (.Subscript a1 (.Slice l h none p2) pos) (tE b M av W (evE M.T Φ (.slc p lo hi))) := by
  refine imE (pe_slice ((sl_list.or sl_tupA).or sl_str) ha hl hh) fun σ H Q ⟨ρ, F, own, pt, q⟩ => ⟨ρ, F, own, pt, ?_⟩
  unfold evE at q
  refine q.bind fun r v F1 H1 own1 g ⟨p1, as, r1⟩ q1 => ⟨r.2, F1, own1, p1, ?_⟩
  refine q1.bindT (Rl := rO M av) fun s lo F2 H2 own2 g2 ⟨p2, e2⟩ q2 => ⟨s.2, F2, own2, p2, ?_⟩
  refine q2.bindT (Rl := rO M av) fun t hi F3 H3 own3 g3 ⟨p3, e3⟩ q3 => ?_
  subst e2; subst e3
  have r3 : OwR M F3 H3 v r.1 as := (r1.mono g2.ff (fun a m u e => g2.hh a u e (.inl rfl))).mono g3.ff (fun a m u e => g3.hh a u e (.inl rfl))
  split at q3
  · rename_i d hd
    unfold slcO at hd
    split at hd
    · rename_i ds hl
      cases hd
      obtain ⟨a, vs, rfl, h1, h2⟩ := r3.list? p3.sub hl
      exact .inl (.inl ⟨a, vs, rfl, by rw [ok.K]; exact h1, fun p hp => new_q p3 hp (.lst upd_same ((h2.cut _ _).mono (Sb.upd (p3.sub.none hp)))) q3⟩)
    · split at hd
      · rename_i ds hr
        cases hd
        rw [hr] at r3
        cases r3 with
        | lf r3 =>
          obtain ⟨a, vs, rfl, h1, h2⟩ := r3.tupv
          refine .inl (.inr ⟨a, vs, rfl, by rw [ok.K]; exact p3.sub.sqT h1, fun ⟨z1, z2⟩ => ?_, fun _ p hp => new_q p3 hp (.tup (SqT.of upd_same) ((h2.cut _ _).mono (Sb.upd (p3.sub.none hp)))) q3⟩)
          refine q3 _ F3 H3 own3 Gr.rfl' ⟨p3, .tup h1 ?_⟩
          have e : RF.cut ds s.1 t.1 = ds := by
            unfold RF.cut
            rw [sIx_eq, sIx_eq, ← h2.length, z1, z2]
            simp [h2.length]
          rw [e]; exact h2
      · rename_i x hr
        split at hd
        · rename_i hl
          cases hd
          rw [hr] at r3
          cases r3 with
          | lf r3 =>
            cases r3.strv
            refine .inr ⟨x, rfl, by rw [← lim_eq]; exact hl, ?_⟩
            have e : cutS x s.1 t.1 = ⟨(RF.cut x.cps.toList s.1 t.1).toArray⟩ := by
              unfold cutS RF.cut
              rw [sIx_eq, sIx_eq]
              rfl
            rw [e]
            exact q3 _ F3 H3 own3 Gr.rfl' ⟨p3, .str⟩
        · cases hd
      · cases hd
  · exact q3.elim

/-! ### x[::-1] -/
def rRev (K : PySem.W.Frag) : V → Hp → VK → Prop := fun x H Q => ∃ a xs, x = .ref a ∧ SqL K H a xs ∧ ∀ p, H p = none → Q (.ref p) (upd H p (.lst xs.reverse))
theorem pe_srev {te : TE} {ts : TO} {st : Expr} (he : PE X e te) (hu : PO X (some st) ts) : PE X (.Subscript e (.Slice none none (some st) p2) pos) (fun σ H Q => te σ H fun x H1 => ts σ H1 fun u H2 => u = some (-1) ∧ rRev X.K x H2 Q) := by
  refine ⟨fun pins s σ H Q I h => ?_⟩
  refine Subscript_ (thn (he.run pins s σ H _ I h) fun v s1 ⟨x, H1, I1, r1, q1⟩ => ?_)
  refine wpAny_Slice ?_
  rw [evalPart_none]
  refine wpAny_pure (wpAny_pure (thn (hu.run pins s1 σ H1 _ I1 q1) fun vk s3 ⟨u, H3, I3, pk, q3⟩ => ?_))
  obtain ⟨rfl, a, xs, rfl, hx, q⟩ := q3
  cases r1
  have I4 : Inv X pins σ H3 { s3 with heap := s3.heap.push { cls := .type "slice", data := .fields #[.none, .none, vk] } } := I3.kept (t' := s3.toks) fun b ob q => Heap.get?_push_of_some _ q
  show wpAny (model X.prog X.w) X.A (subscriptTail e (.Slice none none (some st) p2) (.ref a) (.ref s3.heap.objs.size)) (EP X pins σ Q) X.xe { s3 with heap := s3.heap.push { cls := .type "slice", data := .fields #[.none, .none, vk] } }
  obtain ⟨its, r, ht, hz⟩ := I4.list hx
  have hlen := r.length
  refine tail_any (ops := [.ref a, .ref s3.heap.objs.size]) ht.isList.typeIs slot_list_getitem.lookup ?_ (by with_unfolding_all rfl)
  refine wpAny_getItem_list_slice ht.isList (Heap.IsSliceOf.new ..) .none .none pk (by decide) ?_ (by rw [List.size_toArray] <;> omega)
  rw [PySem.W.krv_pick]
  refine ⟨.ref _, _, I4.laid (t' := s3.toks) (o := .lst xs.reverse) (fun b ob q => Heap.get?_push_of_some _ q) (Nat.le_refl _) ?_, rfl, q _ (I4.hok.fresh (Nat.le_refl _))⟩
  exact ⟨by rw [List.length_reverse]; exact hz, _, 0, r.reverse, Heap.get?_push_size _ rfl⟩
theorem sE_srev (ok : Ok M X) {p : Px} {o : Ox} {st : Expr} (ha : PE X a1 (tX b M av W (evX M.T Φ p))) (hl : PO X (some st) (tO true M av W (evO M.T Φ o))) :
    PE X (.Subscript a1 (.Slice none none (some st) p2) pos) (tE b M av W (evE M.T Φ (.srev p o))) := by
  refine imE (pe_srev ha hl) fun σ H Q ⟨ρ, F, own, pt, q⟩ => ⟨ρ, F, own, pt, ?_⟩
  unfold evE at q
  refine q.bind fun r v F1 H1 own1 g ⟨p1, as, r1⟩ q1 => ⟨r.2, F1, own1, p1, ?_⟩
  refine q1.bindT (Rl := rO M av) fun s lo F2 H2 own2 g2 ⟨p2, e2⟩ q2 => ?_
  subst e2
  have r3 : OwR M F2 H2 v r.1 as := r1.mono g2.ff (fun a m u e => g2.hh a u e (.inl rfl))
  split at q2
  · rename_i hs
    split at q2
    · rename_i ds hl
      obtain ⟨a, vs, rfl, h1, h2⟩ := r3.list? p2.sub hl
      exact ⟨hs, a, vs, rfl, by rw [ok.K]; exact h1, fun p hp => new_q p2 hp (.lst upd_same (h2.reverse.mono (Sb.upd (p2.sub.none hp)))) q2⟩
    · exact q2.elim
  · exact q2.elim

/-! ### in -/
theorem flat_ok {v : V} {d : D} (r : Rep M F v d) (h : flatD d = true) : flatV v = true := by
  cases r <;> first | rfl | (simp [flatD] at h)
def SemiV (K : PySem.W.Frag) (H : Hp) (y : V) : Prop := flatV y = true ∨ ∃ a xs, y = .ref a ∧ (SqL K H a xs ∨ SqT K H a xs)
theorem semi_ok {v : V} {d : D} (s : Sb F H) (r : Rep M F v d) (h : semiD d = true) : SemiV M.K H v := by
  cases r with
  | tup h1 r1 => exact .inr ⟨_, _, rfl, .inr (s.sqT h1)⟩
  | lst h1 r1 => exact .inr ⟨_, _, rfl, .inl (s.sqL (.inl (.inl h1)))⟩
  | scr h r => cases h
  | obj h hc hl hn r => cases h
  | dic h hk hn r => cases h
  | _ => exact .inl rfl
theorem eqF_ok {v w : V} {d c : D} (r : Rep M F v d) (q : Rep M F w c) (h : semiD d = true) (h' : flatD c = true) : eqV v w = eqF d c := by
  cases r <;> cases q <;> first | rfl | (simp [flatD] at h'; done) | (simp [semiD, flatD] at h; done)
theorem in_ok {x : V} {vs : List V} {d : D} {ds : List D} {z : Bool} (s : Sb F H) (r : Rep M F x d) (rs : Reps M F vs ds) (h : inD d ds = some z) : flatV x = true ∧ (∀ y ∈ vs, SemiV M.K H y) ∧ inV x vs = z := by
  unfold inD at h
  split at h
  · rename_i hf
    rw [Bool.and_eq_true] at hf
    cases h
    have key : ∀ {vs : List V} {ds : List D}, Reps M F vs ds → ds.all semiD = true → (∀ y ∈ vs, SemiV M.K H y) ∧ inV x vs = ds.any fun y => eqF y d := by
      intro vs ds rs
      induction ds generalizing vs with
      | nil => cases rs; intro _; exact ⟨(fun y m => nomatch m), rfl⟩
      | cons c ds ih =>
        cases rs with
        | cons h1 h2 =>
          intro hall
          rw [List.all_cons, Bool.and_eq_true] at hall
          obtain ⟨i1, i2⟩ := ih h2 hall.2
          refine ⟨fun y m => ?_, ?_⟩
          · rcases List.mem_cons.mp m with e | m
            · rw [e]; exact semi_ok s h1 hall.1
            · exact i1 y m
          show (eqV _ x || inV x _) = (eqF c d || _)
          rw [i2, eqF_ok h1 r hall.1 hf.1]
    obtain ⟨k1, k2⟩ := key rs hf.2
    exact ⟨flat_ok r hf.1, k1, k2⟩
  · cases h
/-- a flat thing in a row of flat things, lists and tuples -/
def rInS (K : PySem.W.Frag) (neg : Bool) : R2 := fun x y H Q => ∃ p xs, y = .ref p ∧ (SqL K H p xs ∨ SqT K H p xs) ∧ flatV x = true ∧ (∀ z ∈ xs, SemiV K H z) ∧ Q (.bl (if neg then !inV x xs else inV x xs)) H
theorem semi_at {A : Around} {pins : List (Addr × Obj)} {s : Shared} (I : Inv X pins σ H s) (hu : A.units < cLine) {x y : V} {u v : Value} (rx : RelV x v) (fx : flatV x = true) (ry : RelV y u) (fy : SemiV X.K H y) : SeqAt.EqAt A s u v (eqU x u) ∧ eqU x u = eqV y x := by
  rcases fy with fy | ⟨a, xs, rfl, hq⟩
  · rw [eqU_of ry fy]; exact ⟨eqAt_V ry rx fy fx, rfl⟩
  · cases ry
    have e : eqV (.ref a) x = false := by cases x <;> rfl
    refine ⟨?_, e.symm⟩
    rcases hq with hq | hq
    · obtain ⟨its, rr, pl, hz⟩ := I.list hq
      cases x with
      | non => cases rx; exact SeqAt.EqAt.list_none pl.isList hu
      | bl b => cases rx; exact SeqAt.EqAt.list_bool b pl.isList hu
      | int b => obtain ⟨t, rfl⟩ := rx; exact SeqAt.EqAt.list_int b t pl.isList hu
      | str b => obtain ⟨t, rfl⟩ := rx; exact SeqAt.EqAt.list_str b t pl.isList hu
      | _ => cases fx
    · obtain ⟨its, rr, pl, hz⟩ := I.tuple hq
      cases x with
      | non => cases rx; exact SeqAt.EqAt.tuple_none pl hu
      | bl b => cases rx; exact SeqAt.EqAt.tuple_bool b pl hu
      | int b => obtain ⟨t, rfl⟩ := rx; exact SeqAt.EqAt.tuple_int b t pl hu
      | str b => obtain ⟨t, rfl⟩ := rx; exact SeqAt.EqAt.tuple_str b t pl hu
      | _ => cases fx
theorem semi_any {A : Around} {pins : List (Addr × Obj)} {s : Shared} (I : Inv X pins σ H s) (hu : A.units < cLine) {x : V} {v : Value} (rx : RelV x v) (fx : flatV x = true) : ∀ {xs : List V} {us : List Value}, Vals xs us → (∀ z ∈ xs, SemiV X.K H z) →
    (∀ u ∈ us, SeqAt.EqAt A s u v (eqU x u)) ∧ us.any (eqU x) = inV x xs
  | _, _, .nil, _ => ⟨(fun u m => nomatch m), rfl⟩
  | y :: xs, u :: us, .cons r t, f => by
    obtain ⟨e1, e2⟩ := semi_at I hu rx fx r (f y List.mem_cons_self)
    obtain ⟨i1, i2⟩ := semi_any I hu rx fx t fun z m => f z (List.mem_cons_of_mem _ m)
    refine ⟨fun w m => ?_, ?_⟩
    · rcases List.mem_cons.mp m with q | m
      · rw [q]; exact e1
      · exact i1 w m
    · rw [List.any_cons, i2, e2]; rfl
theorem op_inS (hu : X.A.units + 1 < cLine) : OpR X (compareOp .In) (rInS X.K false) := by
  intro pins z τ H x y v u Q I rx ry ⟨p, xs, e, hq, fx, fs, q⟩
  subst e
  cases ry
  have hu1 : X.A.in1.units < cLine := hu
  rcases hq with hq | hq
  · obtain ⟨its, r, pl, _⟩ := I.list hq
    obtain ⟨k1, k2⟩ := semi_any I hu1 rx fx r fs
    refine SeqAt.in_listAt (eqU x) pl.isList (fun w m => k1 w (by simpa using m)) ⟨.bl _, H, I, rfl, ?_⟩
    have e : its.toArray.any (eqU x) = inV x xs := by rw [← k2]; simp
    rw [e]; exact q
  · obtain ⟨its, r, pl, _⟩ := I.tuple hq
    obtain ⟨k1, k2⟩ := semi_any I hu1 rx fx r fs
    refine SeqAt.in_tupleAt (eqU x) pl (fun w m => k1 w (by simpa using m)) ⟨.bl _, H, I, rfl, ?_⟩
    have e : its.toArray.any (eqU x) = inV x xs := by rw [← k2]; simp
    rw [e]; exact q
theorem op_notInS (hu : X.A.units + 1 < cLine) : OpR X (compareOp .NotIn) (rInS X.K true) := by
  intro pins z τ H x y v u Q I rx ry ⟨p, xs, e, hq, fx, fs, q⟩
  subst e
  cases ry
  have hu1 : X.A.in1.units < cLine := hu
  rcases hq with hq | hq
  · obtain ⟨its, r, pl, _⟩ := I.list hq
    obtain ⟨k1, k2⟩ := semi_any I hu1 rx fx r fs
    refine SeqAt.notIn_listAt (eqU x) pl.isList (fun w m => k1 w (by simpa using m)) ⟨.bl _, H, I, rfl, ?_⟩
    have e : its.toArray.any (eqU x) = inV x xs := by rw [← k2]; simp
    rw [e]; exact q
  · obtain ⟨its, r, pl, _⟩ := I.tuple hq
    obtain ⟨k1, k2⟩ := semi_any I hu1 rx fx r fs
    refine SeqAt.notIn_tupleAt (eqU x) pl (fun w m => k1 w (by simpa using m)) ⟨.bl _, H, I, rfl, ?_⟩
    have e : its.toArray.any (eqU x) = inV x xs := by rw [← k2]; simp
    rw [e]; exact q
def inOf (ng : Bool) : CmpOp := if ng then .NotIn else .In
theorem sE_in (ok : Ok M X) (hr : Room k X.A) {ng : Bool} {x : Ex} {p : Px} (ha : PE X a1 (tE b M av W (evE M.T Φ x))) (hb : PE X a2 (tX b M av W (evX M.T Φ p))) (hm : behindInMarks (inOf ng) a2 = false) :
    PE X (.Compare a1 [inOf ng] [a2] pos) (tE b M av W (evE M.T Φ (.isin ng x p))) := by
  have go : ∀ σ H Q, tE b M av W (evE M.T Φ (.isin ng x p)) σ H Q → tOp (rInS X.K ng) (tE b M av W (evE M.T Φ x)) (tX b M av W (evX M.T Φ p)) σ H Q := fun σ H Q ⟨ρ, F, own, pt, q⟩ => by
    refine ⟨ρ, F, own, pt, ?_⟩
    unfold evE at q
    refine q.bind fun r v F1 H1 own1 g ⟨p1, r1⟩ q1 => ⟨r.2, F1, own1, p1, ?_⟩
    refine q1.bind fun s w F2 H2 own2 g2 ⟨p2, as, r2⟩ q2 => ?_
    split at q2
    · rename_i z hz
      cases hs : s.1.seq? with
      | none => rw [hs] at hz; cases hz
      | some ds =>
        rw [hs] at hz
        obtain ⟨a, vs, rfl, h1, h2⟩ := r2.seq? p2.sub hs
        obtain ⟨k1, k2, k3⟩ := in_ok p2.sub (r1.mono g2.ff) h2 hz
        refine ⟨a, vs, rfl, by rw [ok.K]; exact h1, k1, by rw [ok.K]; exact k2, ?_⟩
        rw [k3]
        cases ng with
        | true => exact q2 _ F2 H2 own2 Gr.rfl' ⟨p2, .bl⟩
        | false => exact q2 _ F2 H2 own2 Gr.rfl' ⟨p2, .bl⟩
    · exact q2.elim
  cases ng with
  | true => exact imE (pe_cmpR (op_notInS (hu_of hr)) ha hb hm) go
  | false => exact imE (pe_cmpR (op_inS (hu_of hr)) ha hb hm) go
end
end RF
end

section
set_option Elab.async false
set_option linter.all false
set_option autoImplicit false
set_option maxRecDepth 100000
set_option maxHeartbeats 1000000
/-! RfN: built-ins called by name, isinstance. -/
namespace RF
open PySem L2
open PyProof.Rows hiding St
/-- values and the trees they are, one by one -/
inductive Los (M : Mach) (F H : Hp) : List V → List O → Prop where
  | nil : Los M F H [] []
  | cons {v : V} {o : O} {as : List Addr} {vs : List V} {os : List O} (h : OwR M F H v o as) (r : Los M F H vs os) : Los M F H (v :: vs) (o :: os)
section
variable {b : Bool} {M : Mach} {av : List V} {W : WX} {X : Cx} {F H : Hp} {σ : L2.St} {ρ : Env} {own : Ow} {Φ : Fn} {k : Nat} {e a1 a2 a3 : Expr} {es : List Expr} {pos p2 : Pos}
abbrev rPs (M : Mach) (av : List V) (σ : L2.St) : Hp → Hp → Ow → List O × Env → List V → Prop := fun F H own a vs => Pt M av F H σ a.2 own ∧ Los M F H vs a.1
abbrev tPs (b : Bool) (M : Mach) (av : List V) (W : WX) (f : Env → R (List O × Env)) : TA := tR b M av W (rPs M av) f
theorem sPs_nil : PA X [] (tPs b M av W (evPs M.T Φ .nil)) :=
  imA pa_nil fun σ H Q ⟨ρ, F, own, pt, q⟩ => by unfold evPs at q; exact q [] F H own Gr.rfl' ⟨pt, .nil⟩
/-- the later arguments change nothing that is owned -/
theorem sPs_cons {x : Px} {r : Pxs} (ha : PE X e (tX b M av W (evX M.T Φ x))) (hr : PA X es (tPs true M av W (evPs M.T Φ r))) (hs : starEach (e :: es) X.env = (false, eval e X.env) :: starEach es X.env) :
    PA X (e :: es) (tPs b M av W (evPs M.T Φ (.cons x r))) := by
  refine imA (pa_cons ha hr hs) fun σ H Q ⟨ρ, F, own, pt, q⟩ => ⟨ρ, F, own, pt, ?_⟩
  unfold evPs at q
  refine q.bind fun r1 v F1 H1 own1 g ⟨p1, as, e1⟩ q1 => ⟨r1.2, F1, own1, p1, ?_⟩
  refine q1.bindT (Rl := rPs M av) fun r2 vs F2 H2 own2 g2 ⟨p2, e2⟩ q2 => ?_
  exact q2 (v :: vs) F2 H2 own2 Gr.rfl' ⟨p2, .cons (e1.mono g2.ff fun a m u ea => g2.hh a u ea (.inl rfl)) e2⟩
/-- a frozen argument: whatever the later ones do -/
theorem sPs_consE {x : Ex} {r : Pxs} (ha : PE X e (tE b M av W (evE M.T Φ x))) (hr : PA X es (tPs b M av W (evPs M.T Φ r))) (hs : starEach (e :: es) X.env = (false, eval e X.env) :: starEach es X.env) :
    PA X (e :: es) (tPs b M av W (evPs M.T Φ (.cons (.ex x) r))) := by
  refine imA (pa_cons ha hr hs) fun σ H Q ⟨ρ, F, own, pt, q⟩ => ⟨ρ, F, own, pt, ?_⟩
  unfold evPs evX at q
  have q : QR b M av W σ (rPs M av σ) F H (In own) ((evE M.T Φ x ρ).bind fun r0 => (evPs M.T Φ r r0.2).bind fun s => .ok (.lf r0.1 :: s.1, s.2)) Q := by
    cases h : evE M.T Φ x ρ with
    | ok a => rw [h] at q; exact q
    | exc c es ρ' => rw [h] at q; exact q
    | bad => rw [h] at q; exact q
  refine q.bind fun r1 v F1 H1 own1 g ⟨p1, e1⟩ q1 => ⟨r1.2, F1, own1, p1, ?_⟩
  refine q1.bind fun r2 vs F2 H2 own2 g2 ⟨p2, e2⟩ q2 => ?_
  exact q2 (v :: vs) F2 H2 own2 Gr.rfl' ⟨p2, .cons (.lf (e1.mono g2.ff)) e2⟩

/-! ### built-ins -/
def biV : Bi → Value
  | .len => .builtin "len" | .int => .type "int" | .abs => .builtin "abs" | .sum => .builtin "sum" | .max => .builtin "max" | .min => .builtin "min" | .all => .builtin "all" | .any => .builtin "any"
  | .tuple => .type "tuple" | .sorted => .builtin "sorted" | .str => .type "str" | .gcd => .builtin "math.gcd"
theorem intL_ok : ∀ {vs : List V} {ds : List D} {ns : List Int}, Reps M F vs ds → intL ds = some ns → vs = ns.map V.int
  | _, [], ns, r, h => by cases r; simp [intL] at h; subst h; rfl
  | _, d :: ds, ns, r, h => by
    cases r with
    | cons h1 h2 =>
      cases d with
      | int i =>
        rw [intL] at h
        cases q : intL ds with
        | none => rw [q] at h; cases h
        | some ms =>
          rw [q] at h; cases h
          rw [h1.intv, intL_ok h2 q]; rfl
      | _ => simp [intL] at h
theorem boolL_ok : ∀ {vs : List V} {ds : List D} {ns : List Bool}, Reps M F vs ds → boolL ds = some ns → vs = ns.map V.bl
  | _, [], ns, r, h => by cases r; simp [boolL] at h; subst h; rfl
  | _, d :: ds, ns, r, h => by
    cases r with
    | cons h1 h2 =>
      cases d with
      | bl i =>
        rw [boolL] at h
        cases q : boolL ds with
        | none => rw [q] at h; cases h
        | some ms =>
          rw [q] at h; cases h
          rw [h1.blv, boolL_ok h2 q]; rfl
      | _ => simp [boolL] at h
theorem maxOf_mem (m : Int) (ns : List Int) : maxOf m ns ∈ m :: ns ∧ ∀ y ∈ m :: ns, y ≤ maxOf m ns := by
  induction ns generalizing m with
  | nil => exact ⟨List.mem_cons_self, fun y h => by simp at h; subst h; exact Int.le_refl _⟩
  | cons x r ih =>
    obtain ⟨h1, h2⟩ := ih (if x > m then x else m)
    rw [maxOf]
    refine ⟨?_, fun y hy => ?_⟩
    · rcases List.mem_cons.mp h1 with e | e
      · rw [e]
        by_cases z : x > m
        · rw [if_pos z]; exact List.mem_cons_of_mem _ List.mem_cons_self
        · rw [if_neg z]; exact List.mem_cons_self
      · exact List.mem_cons_of_mem _ (List.mem_cons_of_mem _ e)
    · have h0 := h2 _ List.mem_cons_self
      rcases List.mem_cons.mp hy with e | e
      · subst e
        by_cases z : x > y
        · rw [if_pos z] at h0 ⊢; omega
        · rw [if_neg z] at h0 ⊢; omega
      · rcases List.mem_cons.mp e with e | e
        · subst e
          by_cases z : y > m
          · rw [if_pos z] at h0 ⊢; omega
          · rw [if_neg z] at h0 ⊢; omega
        · exact h2 y (List.mem_cons_of_mem _ e)
theorem minOf_mem (m : Int) (ns : List Int) : minOf m ns ∈ m :: ns ∧ ∀ y ∈ m :: ns, minOf m ns ≤ y := by
  induction ns generalizing m with
  | nil => exact ⟨List.mem_cons_self, fun y h => by simp at h; subst h; exact Int.le_refl _⟩
  | cons x r ih =>
    obtain ⟨h1, h2⟩ := ih (if x < m then x else m)
    rw [minOf]
    refine ⟨?_, fun y hy => ?_⟩
    · rcases List.mem_cons.mp h1 with e | e
      · rw [e]
        by_cases z : x < m
        · rw [if_pos z]; exact List.mem_cons_of_mem _ List.mem_cons_self
        · rw [if_neg z]; exact List.mem_cons_self
      · exact List.mem_cons_of_mem _ (List.mem_cons_of_mem _ e)
    · have h0 := h2 _ List.mem_cons_self
      rcases List.mem_cons.mp hy with e | e
      · subst e
        by_cases z : x < y
        · rw [if_pos z] at h0 ⊢; omega
        · rw [if_neg z] at h0 ⊢; omega
      · rcases List.mem_cons.mp e with e | e
        · subst e
          by_cases z : y < m
          · rw [if_pos z] at h0 ⊢; omega
          · rw [if_neg z] at h0 ⊢; omega
        · exact h2 y (List.mem_cons_of_mem _ e)
theorem intLO_ok {v : V} {o : O} {as : List Addr} {ns : List Int} (sub : Sb F H) (r : OwR M F H v o as) (h : intLO o = some ns) : ∃ a, v = .ref a ∧ SqL M.K H a (ns.map V.int) := by
  unfold intLO at h
  cases q : o.list? with
  | none => rw [q] at h; cases h
  | some ds =>
    rw [q] at h
    obtain ⟨a, vs, e, h1, h2⟩ := r.list? sub q
    exact ⟨a, e, by rw [← intL_ok h2 h]; exact h1⟩
theorem boolLO_ok {v : V} {o : O} {as : List Addr} {ns : List Bool} (sub : Sb F H) (r : OwR M F H v o as) (h : o.list?.bind boolL = some ns) : ∃ a, v = .ref a ∧ SqL M.K H a (ns.map V.bl) := by
  cases q : o.list? with
  | none => rw [q] at h; cases h
  | some ds =>
    rw [q] at h
    obtain ⟨a, vs, e, h1, h2⟩ := r.list? sub q
    exact ⟨a, e, by rw [← boolL_ok h2 h]; exact h1⟩
theorem bi_run (ok : Ok M X) (hc : X.calm = true) {bi : Bi} {os : List O} {d : D} {pins : List (Addr × Obj)} {s : Shared} {Q : VK} {us : List Value} {vs : List V} (I : Inv X pins σ H s) (r : Vals vs us) (pt : Pt M av F H σ ρ own) (l : Los M F H vs os)
    (h : biD bi os = some d) (q : QR b M av W σ (rE M av σ) F H (In own) (.ok (d, ρ)) Q) : wpAny (model X.prog X.w) X.A (call (biV bi) us) (EP X pins σ Q) X.xe s := by
  have hq := here_q pt q
  have sub := pt.sub
  unfold biD at h
  split at h
  · rename_i o
    cases l with
    | cons h1 l =>
      cases l
      cases hl : lenO o with
      | none => rw [hl] at h; cases h
      | some n =>
        rw [hl] at h; cases h
        cases h1 with
        | lst e1 r1 =>
          simp only [lenO] at hl; cases hl
          exact call_len pins s σ H _ us Q I r ⟨_, _, rfl, .inl ⟨_, by rw [ok.K]; exact SqL.of e1, rfl⟩, by rw [r1.len2]; exact hq _ .int⟩
        | dic e1 hk hn r1 =>
          simp only [lenO] at hl; cases hl
          refine call_lenD pins s σ H _ us Q I r ⟨_, _, rfl, e1, ?_⟩
          rw [hk, List.length_map] at hq
          exact hq _ .int
        | obj e1 => simp [lenO] at hl
        | lf r1 =>
          cases r1 with
          | str =>
            simp only [lenO] at hl
            split at hl
            · rename_i hz
              cases hl
              exact call_len pins s σ H _ us Q I r ⟨_, _, rfl, ⟨by rw [← lim_eq]; exact hz, rfl⟩, hq _ .int⟩
            · cases hl
          | tup e1 r1 => simp only [lenO] at hl; cases hl; exact call_len pins s σ H _ us Q I r ⟨_, _, rfl, .inr ⟨_, by rw [ok.K]; exact sub.sqT e1, rfl⟩, by rw [r1.length]; exact hq _ .int⟩
          | lst e1 r1 => simp only [lenO] at hl; cases hl; exact call_len pins s σ H _ us Q I r ⟨_, _, rfl, .inl ⟨_, by rw [ok.K]; exact SqL.of (sub _ _ e1), rfl⟩, by rw [r1.length]; exact hq _ .int⟩
          | scr e1 r1 => simp only [lenO] at hl; cases hl; exact call_len pins s σ H _ us Q I r ⟨_, _, rfl, .inl ⟨_, by rw [ok.K]; exact sub.sqL e1.sqL, rfl⟩, by rw [r1.length]; exact hq _ .int⟩
          | dic e1 hk hn r1 =>
            simp only [lenO] at hl; cases hl
            refine call_lenD pins s σ H _ us Q I r ⟨_, _, rfl, sub _ _ e1, ?_⟩
            rw [hk, List.length_map] at hq
            exact hq _ .int
          | _ => simp [lenO] at hl
  · cases h
    cases l with
    | cons h1 l => cases l; cases h1 with | lf h1 => cases h1; exact call_int1 pins s σ H _ us Q I r (.inl ⟨_, rfl, hq _ .int⟩)
  · cases h
    cases l with
    | cons h1 l => cases l; cases h1 with | lf h1 => cases h1; exact call_int1 pins s σ H _ us Q I r (.inr ⟨_, rfl, hq _ .int⟩)
  · cases h
    cases l with
    | cons h1 l => cases l; cases h1 with | lf h1 => cases h1; exact call_abs pins s σ H _ us Q I r ⟨_, rfl, hq _ .int⟩
  · rename_i o
    cases l with
    | cons h1 l =>
      cases l
      cases hl : intLO o with
      | none => rw [hl] at h; cases h
      | some ns =>
        rw [hl] at h; cases h
        obtain ⟨a, e, h2⟩ := intLO_ok sub h1 hl
        subst e
        exact cr_sum hc pins s σ H _ us Q I r ⟨a, ns, rfl, by rw [ok.K]; exact h2, hq _ .int⟩
  · rename_i o
    cases l with
    | cons h1 l =>
      cases l
      split at h
      · rename_i n ns hl
        cases h
        obtain ⟨a, e, h2⟩ := intLO_ok sub h1 hl
        subst e
        refine cr_max hc pins s σ H _ us Q I r ⟨a, n :: ns, rfl, by rw [ok.K]; exact h2, by simp, fun m hm hle => ?_⟩
        obtain ⟨k1, k2⟩ := maxOf_mem n ns
        have e : m = maxOf n ns := Int.le_antisymm (k2 m hm) (hle _ k1)
        subst e
        exact hq _ .int
      · cases h
  · rename_i o
    cases l with
    | cons h1 l =>
      cases l
      split at h
      · rename_i n ns hl
        cases h
        obtain ⟨a, e, h2⟩ := intLO_ok sub h1 hl
        subst e
        refine cr_min hc pins s σ H _ us Q I r ⟨a, n :: ns, rfl, by rw [ok.K]; exact h2, by simp, fun m hm hle => ?_⟩
        obtain ⟨k1, k2⟩ := minOf_mem n ns
        have e : m = minOf n ns := Int.le_antisymm (hle _ k1) (k2 m hm)
        subst e
        exact hq _ .int
      · cases h
  · cases h
    cases l with
    | cons h1 l => cases l with | cons h2 l => cases l; cases h1 with | lf h1 => cases h1; cases h2 with | lf h2 => cases h2; exact call_max2 hc pins s σ H _ us Q I r ⟨_, _, rfl, hq _ .int⟩
  · cases h
    cases l with
    | cons h1 l => cases l with | cons h2 l => cases l; cases h1 with | lf h1 => cases h1; cases h2 with | lf h2 => cases h2; exact call_min2 hc pins s σ H _ us Q I r ⟨_, _, rfl, hq _ .int⟩
  · rename_i o
    cases l with
    | cons h1 l =>
      cases l
      cases hl : o.list?.bind boolL with
      | none => rw [hl] at h; cases h
      | some ns =>
        rw [hl] at h; cases h
        obtain ⟨a, e, h2⟩ := boolLO_ok sub h1 hl
        subst e
        exact cr_all hc pins s σ H _ us Q I r ⟨a, ns, rfl, by rw [ok.K]; exact h2, hq _ .bl⟩
  · rename_i o
    cases l with
    | cons h1 l =>
      cases l
      cases hl : o.list?.bind boolL with
      | none => rw [hl] at h; cases h
      | some ns =>
        rw [hl] at h; cases h
        obtain ⟨a, e, h2⟩ := boolLO_ok sub h1 hl
        subst e
        exact cr_any hc pins s σ H _ us Q I r ⟨a, ns, rfl, by rw [ok.K]; exact h2, hq _ .bl⟩
  · rename_i o
    cases l with
    | cons h1 l =>
      cases l
      cases hl : o.list? with
      | some ds =>
        rw [hl] at h; cases h
        obtain ⟨a, vs, e, h2, h3⟩ := h1.list? sub hl
        subst e
        exact call_tuple_of pins s σ H _ us Q I r ⟨a, vs, rfl, .inl ⟨by rw [ok.K]; exact h2, fun p hp => new_q pt hp (.tup (SqT.of upd_same) (h3.mono (Sb.upd (sub.none hp)))) q⟩⟩
      | none =>
        rw [hl] at h
        cases ht : o.tup? with
        | none => rw [ht] at h; cases h
        | some ds =>
          rw [ht] at h; cases h
          cases h1 with
          | lf h1 =>
            cases h1 with
            | tup e1 r1 =>
              simp only [O.tup?] at ht
              cases ht
              exact call_tuple_of pins s σ H _ us Q I r ⟨_, _, rfl, .inr ⟨by rw [ok.K]; exact sub.sqT e1, hq _ (.tup e1 r1)⟩⟩
            | _ => simp [O.tup?] at ht
          | _ => simp [O.tup?] at ht
  · cases h
    cases l with
    | cons h1 l => cases l with | cons h2 l => cases l; cases h1 with | lf h1 => cases h1; cases h2 with | lf h2 => cases h2; exact cr_gcd pins s σ H _ us Q I r ⟨_, _, rfl, hq _ .int⟩
  · cases h
end
end RF
end

section
set_option Elab.async false
set_option linter.all false
set_option autoImplicit false
set_option maxRecDepth 100000
set_option maxHeartbeats 1000000
/-! RfO: calls of built-ins, isinstance, fresh lists. -/
namespace RF
open PySem L2
open PyProof.Rows hiding St
/-- the name x of the def's is the built-in -/
structure BiAt (M : Mach) (X : Cx) (bi : Bi) (x : PySem.Str) : Prop where
  gl : Gl X x
  db : (x == ("__debug__" : PySem.Str)) = false
  nn : x ≠ "__name__"
  at_ : (M.mg x = none ∧ bootBuiltins x = some (biV bi)) ∨ M.mg x = some (biV bi)
section
variable {b : Bool} {M : Mach} {av : List V} {W : WX} {X : Cx} {F H : Hp} {σ : L2.St} {ρ : Env} {own : Ow} {Φ : Fn} {k : Nat} {e a1 a2 a3 : Expr} {es : List Expr} {pos p2 : Pos}
theorem biV_kind (bi : Bi) : (∃ id, biV bi = .builtin id) ∨ ∃ T, biV bi = .type T := by
  cases bi <;> first | exact .inl ⟨_, rfl⟩ | exact .inr ⟨_, rfl⟩
/-- a name whose value is a built-in, called -/
theorem bi_call (ok : Ok M X) {bi : Bi} {x : PySem.Str} (h : BiAt M X bi x) {pins : List (Addr × Obj)} {s : Shared} {σ : L2.St} {H : Hp} {Q : VK} {R : List V → Hp → Prop} (I : Inv X pins σ H s) {t : TA} (ha : PA X (e :: es) t) (ht : t σ H R)
    (hR : ∀ vs us H1 s1, Inv X pins σ H1 s1 → Vals vs us → R vs H1 → wpAny (model X.prog X.w) X.A (call (biV bi) us) (EP X pins σ Q) X.xe s1)
    (he : starEach (e :: es) X.env = (false, eval e X.env) :: starEach es X.env) (hpl : (backTo pos (starEach es X.env)).any (·.1) = false) :
    wpAny (model X.prog X.w) X.A (eval (.Call (.Name x p2) (e :: es) [] pos) X.env) (EP X pins σ Q) X.xe s := by
  have ld : ∀ {Q' : Value → Shared → Prop}, Q' (biV bi) s → wpAny (model X.prog X.w) X.A (eval (.Name x p2) X.env) Q' X.xe s := fun {Q'} hq => by
    rcases h.at_ with ⟨h1, h2⟩ | h1
    · exact ld_blt I h.gl (by rw [ok.mg]; exact h1) h2 hq h.nn h.db
    · exact ld_glob I h.gl (by rw [ok.mg]; exact h1) hq h.db
  refine wpAny_Call_Name_kw (ld ?_)
  have args := thn (ha.run pos pins s σ H _ I ht) fun us s1 ⟨vs, H1, I1, r1, q1⟩ => hR vs us H1 s1 I1 r1 q1
  rcases biV_kind bi with ⟨id, e1⟩ | ⟨T, e1⟩
  · rw [e1] at args ⊢
    exact PyProof.Rows.callWith_builtin1 args he hpl
  · rw [e1] at args ⊢
    exact PyProof.Rows.callWith_type1 args he hpl
theorem biE_other {T : Tb} {bi : Bi} {os : List O} (h : ¬ ∃ c fs, bi = .len ∧ os = [.lf (.obj c fs)]) : biE T Φ bi os ρ = match biD bi os with
    | some d => .ok (d, ρ)
    | none => .bad := by
  unfold biE
  split
  · exact absurd ⟨_, _, rfl, rfl⟩ h
  · rfl
theorem sE_bi (ok : Ok M X) (mk : MOk M) (hΦ : Fns M Φ k X.prog X.w X.base) (hr : Room (k + 1) X.A) (hc : X.calm = true) (tk : L2N.Takes X W) {bi : Bi} {x : PySem.Str} {ps : Pxs} (h : BiAt M X bi x) (ha : PA X (e :: es) (tPs b M av W (evPs M.T Φ ps)))
    (he : starEach (e :: es) X.env = (false, eval e X.env) :: starEach es X.env) (hpl : (backTo pos (starEach es X.env)).any (·.1) = false) :
    PE X (.Call (.Name x p2) (e :: es) [] pos) (tE b M av W (evE M.T Φ (.bi bi ps))) := by
  refine ⟨fun pins s σ H Q I ⟨ρ, F, own, pt, q⟩ => ?_⟩
  unfold evE at q
  refine bi_call ok h I ha (R := fun vs H1 => ∃ os ρ F own, Pt M av F H1 σ ρ own ∧ Los M F H1 vs os ∧ QR b M av W σ (rE M av σ) F H1 (In own) (biE M.T Φ bi os ρ) Q) ⟨ρ, F, own, pt, q.bind fun r vs F1 H1 own1 g ⟨p1, l⟩ q1 => ⟨r.1, r.2, F1, own1, p1, l, q1⟩⟩ (fun vs us H1 s1 I1 r1 ⟨os, ρ1, F1, own1, p1, l, q1⟩ => ?_) he hpl
  by_cases hb : ∃ c fs, bi = .len ∧ os = [.lf (.obj c fs)]
  · obtain ⟨c, fs, rfl, rfl⟩ := hb
    cases l with
    | cons h1 l =>
      cases l
      cases h1 with
      | lf h1 =>
        obtain ⟨u, e1, ru⟩ := vals1 r1
        subst e1
        have q1 : QR b M av W σ (rE M av σ) F1 H1 (In own1) (match M.T.meth c mLen with
            | some f => (callS Φ f [.obj c fs] ρ1).bind fun r => match r.1 with
              | .int n => if 0 ≤ n ∧ n < 2 ^ 63 then .ok r else .bad
              | _ => .bad
            | none => .bad) Q := q1
        cases hm : M.T.meth c mLen with
        | none => rw [hm] at q1; exact q1.elim
        | some f =>
          rw [hm] at q1
          have q1 : QR b M av W σ (rE M av σ) F1 H1 (In own1) ((callS Φ f [.obj c fs] ρ1).bind fun r => match r.1 with
              | .int n => if 0 ≤ n ∧ n < 2 ^ 63 then .ok r else .bad
              | _ => .bad) Q := q1
          obtain ⟨a, C, dx, fa, e1, h2, hC, _⟩ := h1.objv
          subst e1
          cases ru
          obtain ⟨i, hi, me⟩ := meth_ok mk hm hC
          obtain ⟨mA, J, _⟩ := ins_get I1.hok (p1.sub _ _ h2)
          obtain ⟨od, J, _⟩ := J.look
          obtain ⟨mm, hF⟩ := I1.fr
          have kin : M.K.In X.base := by have := I1.ok.mod.kin; rw [ok.K] at this; exact this
          have hd : M.T.dfl f = [] := (mk.md f i hi c mLen hm).elim id fun z => absurd z (by decide)
          have one : i.ps.length = 1 := mk.ar c mLen f i hm hi (by decide)
          refine PySem.W.len_K (K := M.K) hF kin J (by have e := me.at_; rw [mk.nLen] at e; exact e) me.fn ?_
          have rr : Vals [V.ref a] [Value.ref a] := .cons rfl .nil
          have q2 : QR b M av W σ (rE M av σ) F1 H1 (In own1) (callS Φ f [.obj c fs] ρ1) fun w H' => (∃ n : Int, w = .int n ∧ 0 ≤ n ∧ n < 2 ^ 63) ∧ Q w H' := by
            refine q1.bind fun r v F2 H2 own2 g2 ⟨p2, e2⟩ q2 => ?_
            split at q2
            · rename_i n hn
              rw [hn] at e2
              cases e2.intv
              split at q2
              · rename_i hb
                exact ⟨⟨n, rfl, hb.1, hb.2⟩, q2 _ F2 H2 own2 Gr.rfl' ⟨p2, by rw [hn]; exact .int⟩⟩
              · exact q2.elim
            · exact q2.elim
          refine wpAny_mono (callS_run (k := k) ok (hΦ f i hi) (hr.in1) rfl (mk.bd f i hi hd) tk I1 rr one.symm p1 (.cons h1 .nil) q2) (fun r s' hh => ?_) fun _ _ z => z
          obtain ⟨w, H', I', rw', ⟨n, e2, n0, n1⟩, q⟩ := hh
          subst e2
          obtain ⟨t, rfl⟩ := rw'
          exact ⟨⟨n0, n1⟩, .int n, H', I'.tok _, ⟨_, rfl⟩, q⟩
  · rw [biE_other hb] at q1
    split at q1
    · rename_i d hd
      exact bi_run ok hc I1 r1 p1 l hd q1
    · exact q1.elim

/-! ### isinstance -/
def clV : Cl → Addr → V
  | .ty n, _ => .ty (tyN n)
  | .own _, C => .ref C
/-- a class's name as an argument -/
structure ClAt (M : Mach) (X : Cx) (c : Cl) (e : Expr) (C : Addr) : Prop where
  pe : PE X e (tC (clV c C))
  at_ : ∀ n, c = .own n → M.cls n = some C
def kN : Nat → String
  | 0 => "NoneType" | 1 => "int" | 2 => "bool" | 3 => "str" | 4 => "list" | 5 => "tuple" | _ => "dict"
theorem kitTab0 : ∀ k < 7, ∀ n < 6, kitB (kN k) (tyN n) = some (instT k n) := by decide +kernel
theorem kitTab {k : Nat} (hk : k < 7) (n : Nat) : PySem.W.kitOne M.K (.type (kN k)) (.type (tyN n)) = some (instT k n) := by
  by_cases h : n < 6
  · exact kit_ty (kitTab0 k hk n h)
  · obtain ⟨m, rfl⟩ : ∃ m, n = m + 5 := ⟨n - 5, by omega⟩
    have e := kitTab0 k hk 5 (by decide)
    have e1 : instT k (m + 5) = instT k 5 := by
      match k, hk with
      | 0, _ => rfl
      | 1, _ => rfl
      | 2, _ => rfl
      | 3, _ => rfl
      | 4, _ => rfl
      | 5, _ => rfl
      | 6, _ => rfl
    rw [e1]
    exact kit_ty e
theorem tyx_of (ok : Ok M X) (mk : MOk M) {v : V} {d : D} (sub : Sb F H) (r : Rep M F v d) : ∃ t, TyX M.K H v t ∧ ((∃ T, t = .type T ∧ isKn T = true ∧ ∀ n, PySem.W.kitOne M.K (.type T) (.type (tyN n)) = some (inst M.T d (.ty n)) ∧ ∀ c, inst M.T d (.own c) = false) ∨ ∃ c fs C, d = .obj c fs ∧ M.cls c = some C ∧ t = .ref C) := by
  cases r with
  | non => exact ⟨_, .base .non, .inl ⟨"NoneType", rfl, by decide, fun n => ⟨kitTab (k := 0) (by decide) n, fun _ => rfl⟩⟩⟩
  | bl => exact ⟨_, .base (.bl _), .inl ⟨"bool", rfl, by decide, fun n => ⟨kitTab (k := 2) (by decide) n, fun _ => rfl⟩⟩⟩
  | int => exact ⟨_, .base (.int _), .inl ⟨"int", rfl, by decide, fun n => ⟨kitTab (k := 1) (by decide) n, fun _ => rfl⟩⟩⟩
  | str => exact ⟨_, .base (.str _), .inl ⟨"str", rfl, by decide, fun n => ⟨kitTab (k := 3) (by decide) n, fun _ => rfl⟩⟩⟩
  | tup h r =>
    refine ⟨.type "tuple", ?_, .inl ⟨"tuple", rfl, by decide, fun n => ⟨kitTab (k := 5) (by decide) n, fun _ => rfl⟩⟩⟩
    rcases sub.sqT h with (h | ⟨o, h⟩) | ⟨o, _, _, h, c, _⟩
    · exact .base (.tup h)
    · exact .fTuple h
    · exact .kTuple h c
  | lst h r => exact ⟨_, .base (.lst (sub _ _ h)), .inl ⟨"list", rfl, by decide, fun n => ⟨kitTab (k := 4) (by decide) n, fun _ => rfl⟩⟩⟩
  | scr h r =>
    refine ⟨.type "list", ?_, .inl ⟨"list", rfl, by decide, fun n => ⟨kitTab (k := 4) (by decide) n, fun _ => rfl⟩⟩⟩
    rcases sub.sqS h with ⟨o, h⟩ | ⟨o, _, _, h, c, _⟩
    · exact .base (.frz h)
    · exact .kList h c
  | obj h hc =>
    have z := mk.ci2 _ _ hc
    exact ⟨_, .base (.ins (sub _ _ h) (mk.cl _ _ hc) z.ha z.hn z.ht z.hm), .inr ⟨_, _, _, rfl, hc, rfl⟩⟩
  | dic h hk hn r => exact ⟨_, .base (.dK (sub _ _ h)), .inl ⟨"dict", rfl, by decide, fun n => ⟨kitTab (k := 6) (by decide) n, fun _ => rfl⟩⟩⟩
theorem sE_isi (ok : Ok M X) (mk : MOk M) {x : PySem.Str} {y : Ex} {c : Cl} {C : Addr} (hg : Gl X x) (hm : M.mg x = none) (hv : bootBuiltins x = some (.builtin "isinstance")) (hn : x ≠ "__name__") (hdb : (x == ("__debug__" : PySem.Str)) = false)
    (ha : PE X a1 (tE b M av W (evE M.T Φ y))) (hc : ClAt M X c a2 C) (hs : starEach [a1, a2] X.env = (false, eval a1 X.env) :: starEach [a2] X.env) (hs2 : starEach [a2] X.env = (false, eval a2 X.env) :: starEach [] X.env) (hpl : (backTo pos (starEach [a2] X.env)).any (·.1) = false) :
    PE X (.Call (.Name x p2) [a1, a2] [] pos) (tE b M av W (evE M.T Φ (.isi y [c]))) := by
  refine imE (pe_callB call_isi hg (by rw [ok.mg]; exact hm) hv (pa_cons ha (pa_cons hc.pe pa_nil hs2) hs) hn hdb hs hpl) fun σ H Q ⟨ρ, F, own, pt, q⟩ => ⟨ρ, F, own, pt, ?_⟩
  unfold evE at q
  refine q.bind fun r v F1 H1 own1 g ⟨p1, r1⟩ q1 => ?_
  obtain ⟨t, ht, hk⟩ := tyx_of ok mk p1.sub r1
  have hq : Q (.bl (inst M.T r.1 c)) H1 := by
    have := q1 (.bl (inst M.T r.1 c)) F1 H1 own1 Gr.rfl' ⟨p1, by simp only [List.any_cons, List.any_nil, Bool.or_false]; exact .bl⟩
    exact this
  cases c with
  | ty n =>
    refine ⟨v, .ty (tyN n), t, .type (tyN n), inst M.T r.1 (.ty n), rfl, .ty _, by rw [ok.K]; exact ht, ?_, hq⟩
    rw [ok.K]
    rcases hk with ⟨T, e1, hT, h1⟩ | ⟨c', fs, C', e1, hc', e2⟩
    · subst e1; exact (h1 n).1
    · subst e2
      rw [e1, mk.ib c' C' n hc']
      rfl
  | own n =>
    have hC := hc.at_ n rfl
    refine ⟨v, .ref C, t, .ref C, inst M.T r.1 (.own n), rfl, .own _, by rw [ok.K]; exact ht, ?_, hq⟩
    rw [ok.K]
    rcases hk with ⟨T, e1, hT, h1⟩ | ⟨c', fs, C', e1, hc', e2⟩
    · subst e1
      rw [(h1 0).2 n]
      exact mk.iv n C T hC hT
    · subst e2
      rw [e1]
      exact mk.io n C c' C' hC hc'
end
end RF
end

section
set_option Elab.async false
set_option linter.all false
set_option autoImplicit false
set_option maxRecDepth 100000
set_option maxHeartbeats 4000000
/-! RfP0: list(reversed(a list)). -/
namespace RF
open PySem PySem.Spec PyProof.Rows L2
section
variable {prog : Program} {w : World} {A : Around} {E : Value → Shared → Prop} {s : Shared}
theorem extend_rev {R : Result → Shared → Prop} {it l : Addr} {items : Array Value} (hh : A.handled = none) (hit : s.heap.IsRevIter it l ((items.size : Int) - 1)) (hl : s.heap.IsList l items) (hne : l ≠ it) (hn : items.size ≤ sizeLine) (S : Addr) (res : Value) (c₀ : Nat)
    (hS : s.heap.get? S = some { cls := .type "list", data := .seq #[] c₀ }) (hSi : S ≠ it) (hSl : S ≠ l)
    (hR : ∀ h' tk acc' c', (∀ b o, b ≠ S → b ≠ it → s.heap.get? b = some o → h'.get? b = some o) → h'.get? S = some { cls := .type "list", dict := none, data := .seq acc' c', slots := #[] } →
      ItemsOf (fun i v => items[items.size - 1 - i]? = some v) acc' items.size → R (.ok (.ret res)) { s with heap := h', toks := tk }) :
    wpAny (model prog w) A.in1 (Builtin.List.listExtendWith (.ref S) (.ref it) res)
      (fun fin s' => match fin with | .done f => R (.ok f) s' | .again c' => c'.quiet = true ∧ codeAny (model prog w) A c' R s') (fun e s' => R (.error e) s') s := by
  have W := (Walks.listRev (prog := prog) (w := w) (A := A.in1) hh it l hne items).toS
  have hSf : S ∉ [it, l] := by simp only [List.mem_cons, List.not_mem_nil, or_false, not_or]; exact ⟨hSi, hSl⟩
  have hT : s.TypeIs (.ref it) "list_reverseiterator" := Heap.IsRevIter.typeIs hit
  have h1 : Builtin.List.listSameRef (.ref S) (.ref it) = false := by simp [Builtin.List.listSameRef, hSi]
  unfold Builtin.List.listExtendWith
  refine wpAny_bind (wpAny_typeOf hT ?_)
  rw [if_neg (by rw [h1]; decide)]
  refine wpAny_bind (wpAny_pyIter_revIter hit ?_)
  refine wpAny_bind (wpAny_holding ?_)
  unfold Builtin.List.listLengthHint
  refine wpAny_bind (wpAny_specialOf hT RT.nolen_lri ?_)
  show wpAny _ A.in1 (specialOf (Value.ref it) (Str.ofString "__length_hint__") >>= _) _ _ _
  refine wpAny_bind (wpAny_specialOf hT RT.hint_lri ?_)
  generalize hid : ("list_reverseiterator.__length_hint__" : String) = id0
  wp_delta
  rw [show splitId id0 = some ("list_reverseiterator", "__length_hint__") from by subst hid; decide +kernel]
  subst hid
  refine wpAny_bind (wpAny_isInstance (b := true) hT (by rw [isSubtype_type]; kernel_rfl) ?_)
  refine wpAny_pure ?_
  rw [if_neg (by decide)]
  have e0 : ((items.size : Nat) : Int) - 1 - ((0 : Nat) : Int) = (items.size : Int) - 1 := by omega
  refine wpAny_pure ⟨plainId_quiet F.plain_extend_loop _, codeAny_extend_loopS W hn _ hSf _ items.size 0 _ _ _ rfl (Nat.zero_le _) ⟨Nat.zero_le _, by rw [e0]; exact hit, hl⟩ hS (ItemsOf.nil _) fun s' acc' c' hm hS' hacc => ?_⟩
  rw [Moved.eq_with hm]
  refine hR s'.heap s'.toks acc' c' (fun b o hb hb2 e => hm.heap b o (fun hmem => ?_) e) hS' hacc
  rcases List.mem_cons.mp hmem with e' | hmem
  · exact hb e'
  · exact hb2 (List.mem_singleton.mp hmem)
theorem call_list_rev {it l : Addr} {items : Array Value} {Q : Value → Shared → Prop} (hh : A.handled = none) (hit : s.heap.IsRevIter it l ((items.size : Int) - 1)) (hl : s.heap.IsList l items) (hne : l ≠ it) (hn : items.size ≤ sizeLine)
    (hQ : ∀ h' tk acc' c', (∀ b o, b ≠ it → s.heap.get? b = some o → h'.get? b = some o) → h'.get? s.heap.objs.size = some { cls := .type "list", dict := none, data := .seq acc' c', slots := #[] } →
      ItemsOf (fun i v => items[items.size - 1 - i]? = some v) acc' items.size → Q (.ref s.heap.objs.size) { s with heap := h', toks := tk }) :
    wpAny (model prog w) A (call (.type "list") [.ref it]) Q E s := by
  refine callType_codes (Q₁ := fun obj s₁ => obj = .ref s.heap.objs.size ∧ s₁ = { s with heap := s.heap.push { cls := .type "list", data := .seq #[] } }) F.called_list (F.typeCall_list_1 _) F.entry_list_init
    (code_list_new _ ⟨rfl, rfl⟩) fun obj s₁ h₁ => ?_
  obtain ⟨rfl, rfl⟩ := h₁
  obtain ⟨oi, hoi, _⟩ := id hit
  obtain ⟨ol, hol, _⟩ := id hl
  have hSi : s.heap.objs.size ≠ it := Nat.ne_of_gt (Heap.lt_size hoi)
  have hSl : s.heap.objs.size ≠ l := Nat.ne_of_gt (Heap.lt_size hol)
  have hS : (s.heap.push { cls := .type "list", data := .seq #[] }).get? s.heap.objs.size = some { cls := .type "list", data := .seq #[] } := Heap.get?_push_size _ rfl
  refine ⟨⟨_, hS, rfl⟩, F.args_list_init_2 _ _, ?_⟩
  show wpAny _ _ (do let old ← Builtin.List.listItems (.ref s.heap.objs.size); Builtin.List.listUpdate (.ref s.heap.objs.size) (fun _ => #[]); letGo old.toList.reverse; Builtin.List.listExtendWith (.ref s.heap.objs.size) (.ref it) .none) _ _ _
  refine wpAny_bind ?_
  unfold Builtin.List.listItems
  refine wpAny_bind (wpAny_seqItems hS rfl (wpAny_pure ?_))
  show wpAny _ _ (updateSeq s.heap.objs.size (fun _ => #[]) >>= fun _ => letGo (#[] : Array Value).toList.reverse >>= fun _ => Builtin.List.listExtendWith (.ref s.heap.objs.size) (.ref it) .none) _ _ _
  refine wpAny_bind (wpAny_updateSeq hS rfl ?_)
  have hS₂ := Heap.get?_update_self (Obj.mapSeq (fun _ => (#[] : Array Value))) hS rfl
  have oth : ∀ b o, b ≠ s.heap.objs.size → s.heap.get? b = some o → ((s.heap.push { cls := .type "list", data := .seq #[] }).update s.heap.objs.size (Obj.mapSeq (fun _ => (#[] : Array Value)))).get? b = some o :=
    fun b o hb e => (Heap.get?_update_other _ _ (Ne.symm hb)).trans (Heap.get?_push_of_some _ e)
  refine wpAny_bind (wpAny_letGo ?_)
  refine extend_rev (A := A.in1) hh (hit.at fun o e => oth _ o (Ne.symm hSi) e) ?_ hne hn s.heap.objs.size .none _ hS₂ hSi hSl fun h' tk acc' c' hk hS' hacc => ?_
  · obtain ⟨o, e, c, n, q⟩ := hl
    exact ⟨o, oth _ o (Ne.symm hSl) e, c, n, q⟩
  · exact ⟨rfl, hQ h' tk acc' c' (fun b o hb e => hk b o (Nat.ne_of_lt (Heap.lt_size e)) hb (oth b o (Nat.ne_of_lt (Heap.lt_size e)) e)) hS' hacc⟩
end
end RF
end

section
set_option Elab.async false
set_option linter.all false
set_option autoImplicit false
set_option maxRecDepth 100000
set_option maxHeartbeats 1000000
/-! RfP: fresh producers: the value is owned by nobody yet. -/
namespace RF
open PySem L2
open PyProof.Rows hiding St
/-- a new tree: its addresses as are kept apart from the slots' -/
def rN (M : Mach) (av : List V) (σ : L2.St) : Hp → Hp → Ow → O × Env → V → Prop := fun F H own a v =>
  ∃ own1 as, Pt M av F H σ a.2 own1 ∧ OwR M F H v a.1 as ∧ as.Nodup ∧ (∀ x ∈ as, ¬ In own1 x ∧ F x = none) ∧ ∀ x, In own x ↔ In own1 x ∨ x ∈ as
abbrev tN (b : Bool) (M : Mach) (av : List V) (W : WX) (f : Env → R (O × Env)) : TE := tR b M av W (rN M av) f
section
variable {b : Bool} {M : Mach} {av : List V} {W : WX} {X : Cx} {F H : Hp} {σ : L2.St} {ρ : Env} {own : Ow} {Φ : Fn} {k : Nat} {e a1 a2 a3 : Expr} {es : List Expr} {pos p2 : Pos}
/-- own and one more set, as one -/
def addOw (own : Ow) (as : List Addr) : Ow := fun i => if i = 0 then as ++ own 0 else own i
theorem In.add {own : Ow} {as : List Addr} {x : Addr} : In (addOw own as) x ↔ In own x ∨ x ∈ as := by
  constructor
  · rintro ⟨i, h⟩
    have h : x ∈ (if i = 0 then as ++ own 0 else own i) := h
    by_cases e : i = 0
    · rw [if_pos e] at h
      rcases List.mem_append.mp h with h | h
      · exact .inr h
      · exact .inl ⟨0, h⟩
    · rw [if_neg e] at h
      exact .inl ⟨i, h⟩
  · rintro (⟨i, h⟩ | h)
    · refine ⟨i, ?_⟩
      show x ∈ (if i = 0 then as ++ own 0 else own i)
      by_cases e : i = 0
      · rw [if_pos e]; subst e; exact List.mem_append_right _ h
      · rw [if_neg e]; exact h
    · refine ⟨0, ?_⟩
      show x ∈ (if 0 = 0 then as ++ own 0 else own 0)
      rw [if_pos rfl]; exact List.mem_append_left _ h
/-- growth where the end owns less than said, or the beginning more -/
theorem Gr.owns {F' H' : Hp} {P P' P2 : Addr → Prop} (g : Gr b F H P F' H' P') (h : ∀ x, P2 x → P x ∨ H x = none) : Gr b F H P F' H' P2 := ⟨g.ff, g.hh, g.nf, g.lv, h⟩
/-- a new object of items that are frozen -/
theorem new_own {o : O} {u : HO} {p : Addr} {Q : VK} (pt : Pt M av F H σ ρ own) (hp : H p = none) (r : ∀ H', H' p = some u → OwR M F H' (.ref p) o [p])
    (q : QR b M av W σ (rN M av σ) F H (In own) (.ok (o, ρ)) Q) : Q (.ref p) (upd H p u) := by
  refine q (.ref p) F (upd H p u) (addOw own [p]) ((Gr.new hp).owns fun x h => ?_) ⟨own, [p], pt.new hp, r _ upd_same, by simp, fun x m => ?_, fun x => In.add⟩
  · rcases In.add.mp h with h | h
    · exact .inl h
    · have e : x = p := by simpa using h
      subst e; exact .inr hp
  · have e : x = p := by simpa using m
    subst e
    exact ⟨fun h => pt.there h hp, pt.sub.none hp⟩
/-- what is new and owned is frozen at once -/
theorem sE_new {n : Nx} (h : PE X e (tN b M av W (evN M.T Φ n))) : PE X e (tE b M av W (evE M.T Φ (.new n))) := by
  refine imE h fun σ H Q ⟨ρ, F, own, pt, q⟩ => ⟨ρ, F, own, pt, ?_⟩
  unfold evE at q
  refine q.bind fun r v F1 H1 own1 g ⟨own2, as, p1, r1, nd, fr, hio⟩ q1 => ?_
  have ff : Sb F1 (fun a => if a ∈ as then H1 a else F1 a) := fun a u ea => by
    have hn : a ∉ as := fun m => by rw [(fr a m).2] at ea; cases ea
    show (if a ∈ as then H1 a else F1 a) = some u
    rw [if_neg hn]; exact ea
  have rf : Rep M (fun a => if a ∈ as then H1 a else F1 a) v r.1.frz := r1.frz ff fun a m u ea => by
    show (if a ∈ as then H1 a else F1 a) = some u
    rw [if_pos m]; exact ea
  have p2 : Pt M av (fun a => if a ∈ as then H1 a else F1 a) H1 σ r.2 own2 := by
    refine p1.grown ff (fun _ _ _ z => z) (fun a u ea => ?_) fun a m => ?_
    · have ea : (if a ∈ as then H1 a else F1 a) = some u := ea
      by_cases m : a ∈ as
      · rw [if_pos m] at ea; exact ea
      · rw [if_neg m] at ea; exact p1.sub _ _ ea
    · show (if a ∈ as then H1 a else F1 a) = none
      rw [if_neg fun z => (fr a z).1 m]
      obtain ⟨i, m⟩ := m
      exact p1.fr i a m
  refine q1 v _ H1 own2 ⟨ff, fun _ _ z _ => z, fun a ea => ?_, fun _ z => z, fun a m => .inl ((hio a).mpr (.inl m))⟩ ⟨p2, rf⟩
  have ea : (if a ∈ as then H1 a else F1 a) ≠ none := ea
  by_cases m : a ∈ as
  · exact .inr (.inr ((hio a).mpr (.inr m)))
  · rw [if_neg m] at ea; exact .inl ea
theorem sN_lst {as : Exs} (h : PA X es (tEs b M av W (evEs M.T Φ as))) : PE X (.List es pos) (tN b M av W (evN M.T Φ (.lst as))) := by
  refine imE (pe_lst h) fun σ H Q ⟨ρ, F, own, pt, q⟩ => ⟨ρ, F, own, pt, ?_⟩
  unfold evN at q
  refine q.bind fun r vs F1 H1 own1 g ⟨p1, r1⟩ q1 => ?_
  split at q1
  · rename_i hl
    refine ⟨by rw [r1.length, ← lim_eq]; exact hl, fun p hp => new_own p1 hp (fun H' e => .lst e r1.ow) q1⟩
  · exact q1.elim
/-- list(x) -/
theorem sN_lof (ok : Ok M X) {p : Px} {x : PySem.Str} (hg : Gl X x) (hm : M.mg x = none) (hv : bootBuiltins x = some (.type "list")) (hn : x ≠ "__name__") (hdb : (x == ("__debug__" : PySem.Str)) = false)
    (ha : PE X e (tX b M av W (evX M.T Φ p))) (hs : starEach [e] X.env = (false, eval e X.env) :: starEach [] X.env) (hpl : (backTo pos (starEach ([] : List Expr) X.env)).any (·.1) = false) :
    PE X (.Call (.Name x p2) [e] [] pos) (tN b M av W (evN M.T Φ (.lof p))) := by
  refine imE (pe_callTy call_list_of hg (by rw [ok.mg]; exact hm) hv (pa_cons ha pa_nil hs) hn hdb hs hpl) fun σ H Q ⟨ρ, F, own, pt, q⟩ => ⟨ρ, F, own, pt, ?_⟩
  unfold evN at q
  refine q.bind fun r v F1 H1 own1 g ⟨p1, as, r1⟩ q1 => ?_
  split at q1
  · rename_i ds hd
    obtain ⟨a, vs, e1, h1, h2⟩ := r1.seq? p1.sub hd
    subst e1
    refine ⟨a, vs, rfl, by rw [ok.K]; exact h1, fun p hp => new_own p1 hp (fun H' e => .lst e h2.ow) q1⟩
  · exact q1.elim
/-- list(reversed(x)) -/
theorem sN_lrev (ok : Ok M X) (hc : X.calm = true) {p : Px} {x : PySem.Str} {p3 pos2 : Pos} (hg : Gl X x) (hm : M.mg x = none) (hv : bootBuiltins x = some (.type "list")) (hn : x ≠ "__name__") (hdb : (x == ("__debug__" : PySem.Str)) = false)
    (hg2 : Gl X "reversed") (hm2 : M.mg "reversed" = none) (ha : PE X e (tX b M av W (evX M.T Φ p))) (hs : starEach [e] X.env = (false, eval e X.env) :: starEach [] X.env) :
    PE X (.Call (.Name x p2) [.Call (.Name "reversed" p3) [e] [] pos2] [] pos) (tN b M av W (evN M.T Φ (.lrev p))) := by
  refine ⟨fun pins s σ H Q I ⟨ρ, F, own, pt, q⟩ => ?_⟩
  have hs2 : starEach [.Call (.Name "reversed" p3) [e] [] pos2] X.env = (false, eval (.Call (.Name "reversed" p3) [e] [] pos2) X.env) :: starEach [] X.env := rfl
  unfold evN at q
  refine wpAny_Call_Name_kw (ld_blt I hg (by rw [ok.mg]; exact hm) hv (PyProof.Rows.callWith_type1 (args_cons (Call_ (ld_blt I hg2 (by rw [ok.mg]; exact hm2) PyProof.Rows.boot_reversed (PyProof.Rows.callWith_type1 (args_cons (thn (ha.run pins s σ H (fun v H1 => ∃ r F1 own1, Pt M av F1 H1 σ r.2 own1 ∧ (∃ as, OwR M F1 H1 v r.1 as) ∧ QR b M av W σ (rN M av σ) F1 H1 (In own1) (match r.1.list? with
      | some ds => .ok (O.lst (ds.reverse.map .lf), r.2)
      | none => .bad) Q) I ⟨ρ, F, own, pt, q.bind fun r v F1 H1 own1 g ⟨p1, r1⟩ q1 => ⟨r, F1, own1, p1, r1, q1⟩⟩) fun u s1 ⟨v, H1, I1, r1, q1⟩ => args_nil ?_) hs) hs rfl))) hs2) hs2 rfl) hn hdb)
  obtain ⟨r, F1, own1, p1, ⟨as, ro⟩, q1⟩ := q1
  split at q1
  · rename_i ds hds
    obtain ⟨a, xs, ev, hq, hr⟩ := ro.list? p1.sub hds
    subst ev
    obtain rfl : u = Value.ref a := r1
    rw [← ok.K] at hq
    obtain ⟨its, rv, p', hz⟩ := I1.list hq
    refine call_reversed_list p'.isList (args_nil ?_)
    have k0 : ∀ b o, s1.heap.get? b = some o → (s1.heap.push (revObj a ((its.toArray.size : Int) - 1))).get? b = some o := fun b o e => Heap.get?_push_of_some _ e
    have I2 : Inv X pins σ H1 { s1 with heap := s1.heap.push (revObj a ((its.toArray.size : Int) - 1)) } := I1.kept (t' := s1.toks) k0
    obtain ⟨f0, f1, f2, f3, f4, f5⟩ := I1.fpOk (H' := H1) (b := s1.heap.objs.size) (Nat.le_refl _) (I1.hok.fresh (Nat.le_refl _))
    have hl := p'.isList
    obtain ⟨ol, hol, _⟩ := id hl
    have hne : a ≠ s1.heap.objs.size := Nat.ne_of_lt (Heap.lt_size hol)
    have hn' : its.toArray.size ≤ sizeLine := by rw [List.size_toArray, ← rv.length]; exact hz
    refine call_list_rev (s := { s1 with heap := s1.heap.push (revObj a ((its.toArray.size : Int) - 1)) }) (I1.ok.hd hc) ⟨_, Heap.get?_push_size _ rfl, rfl, rfl⟩ (hl.push _) hne hn' fun h' tk acc cc hk hS hi => ?_
    let T := (s1.heap.push (revObj a ((its.toArray.size : Int) - 1))).objs.size
    have hn2 : H1 T = none := I2.hok.fresh (Nat.le_refl _)
    refine ⟨.ref T, upd H1 T (.lst xs.reverse), I2.turnedNew (ch := [s1.heap.objs.size]) (fun b o hb e => hk b o (fun z => hb (by rw [z]; exact List.mem_singleton.mpr rfl)) e) (fun b hb => ?_) (Nat.le_refl _) ⟨by rw [List.length_reverse]; exact hz, acc.toList, cc, RT.vals_rev rv hi, (by rw [Array.toArray_toList]; exact hS)⟩, rfl, ?_⟩
    · rw [List.mem_singleton.mp hb]; exact ⟨f0, f1, f2, f3, f4, f5⟩
    · exact new_own p1 hn2 (fun H' e => .lst e (hr.reverse).ow) q1
  · exact q1.elim
theorem flat_rep {v : V} (n : Nat) : (List.replicate n [v]).flatten = List.replicate n v := by
  induction n with
  | zero => rfl
  | succ n ih => rw [List.replicate_succ, List.flatten_cons, ih, List.replicate_succ]; rfl
theorem Rep.rep {v : V} {d : D} (r : Rep M F v d) : ∀ n : Nat, Reps M F (List.replicate n v) (List.replicate n d)
  | 0 => .nil
  | n + 1 => .cons r (r.rep n)
/-- [x] * n -/
theorem sN_rep {x y : Ex} (ha : PE X a1 (tE b M av W (evE M.T Φ x))) (hb : PE X a2 (tE b M av W (evE M.T Φ y))) (hs : starEach [a1] X.env = (false, eval a1 X.env) :: starEach [] X.env) :
    PE X (.BinOp (.List [a1] p2) .Mult a2 pos) (tN b M av W (evN M.T Φ (.rep x y))) := by
  refine imE (pe_op op_rep (pe_lst (pa_cons ha pa_nil hs)) hb) fun σ H Q ⟨ρ, F, own, pt, q⟩ => ⟨ρ, F, own, pt, ?_⟩
  unfold evN at q
  refine q.bind fun r v F1 H1 own1 g ⟨p1, r1⟩ q1 => ⟨by show (1 : Nat) ≤ sizeLine; decide, fun p hp => ⟨r.2, F1, own1, p1.new hp, ?_⟩⟩
  have q1 := QR.step (Gr.new (o := .lst [v]) hp) q1
  refine q1.bind fun t w F2 H2 own2 g2 ⟨p2, r2⟩ q2 => ?_
  split at q2
  · rename_i kk hk
    rw [hk] at r2
    cases r2.intv
    split at q2
    · rename_i hb
      have hh : H2 p = some (.lst [v]) := g2.hh p _ upd_same (.inr fun m => p1.there m hp)
      have hl : kk.toNat ≤ sizeLine := by rw [← lim_eq]; have := hb.2; omega
      have hz : (sizeLine : Int) < 2 ^ 63 := by rw [← lim_eq]; decide
      refine ⟨p, kk, [v], rfl, rfl, hh, by omega, by omega, by simpa using hl, fun p' hp' => ?_⟩
      rw [flat_rep]
      refine new_own p2 hp' (fun H' e => .lst e ?_) q2
      have z := ((r1.mono g2.ff).rep kk.toNat).ow (H := H')
      rw [List.map_replicate] at z
      exact z
    · exact q2.elim
  · exact q2.elim

/-! ### displays of dicts -/
def kKey : D → Option Key
  | .int i => some (.inl i)
  | .str x => some (.inr x)
  | _ => none
def kKeys : List D → Option (List Key)
  | [] => some []
  | d :: r => match kKey d, kKeys r with
    | some k, some ks => some (k :: ks)
    | _, _ => none
theorem kKeys_map : ∀ {ds : List D} {ks : List Key}, kKeys ds = some ks → ds = ks.map kD
  | [], _, h => by simp [kKeys] at h; subst h; rfl
  | d :: r, ks, h => by
    unfold kKeys at h
    split at h
    · rename_i k ks' h1 h2
      cases h
      rw [List.map_cons, ← kKeys_map h2]
      cases d <;> simp [kKey] at h1 <;> subst h1 <;> rfl
    · cases h
theorem putK_new {kvs : List (Key × V)} {k : Key} {v : V} (h : k ∉ kvs.map (·.1)) : putK kvs k v = kvs ++ [(k, v)] := by
  unfold putK
  rw [if_neg]
  intro z
  obtain ⟨kv, m, e⟩ := List.any_eq_true.mp z
  exact h (List.mem_map.mpr ⟨kv, m, by simpa using e⟩)
theorem mergeK_new : ∀ {more kvs : List (Key × V)}, ((kvs ++ more).map (·.1)).Nodup → mergeK kvs more = kvs ++ more
  | [], kvs, _ => by simp [mergeK]
  | (k, v) :: r, kvs, h => by
    have e : k ∉ kvs.map (·.1) := by
      rw [List.map_append, List.nodup_append] at h
      intro m
      exact h.2.2 k m k (by simp) rfl
    show mergeK (putK kvs k v) r = _
    rw [putK_new e, mergeK_new (by simpa using h)]
    simp
def trsOf (b : Bool) (M : Mach) (av : List V) (W : WX) (Φ : Fn) : List Key → Exs → List (TE × TE)
  | k :: ks, .cons e r => (tC (kV k), tE b M av W (evE M.T Φ e)) :: trsOf b M av W Φ ks r
  | _, _ => []
def Exs.len : Exs → Nat
  | .nil => 0
  | .cons _ r => r.len + 1
theorem pairs_ok : ∀ {ks : List Key} {vs : Exs} {σ : L2.St} {H F : Hp} {ρ : Env} {own : Ow} {Q : List V → Hp → Prop} {C : List (V × V) → Hp → Prop}, vs.len = ks.length → Pt M av F H σ ρ own → QR b M av W σ (rEs M av σ) F H (In own) (evEs M.T Φ vs ρ) Q →
    (∀ ws H', Q ws H' → C ((ks.zip ws).map fun kv => (kV kv.1, kv.2)) H') → tPairs (trsOf b M av W Φ ks vs) σ H C
  | [], .nil, σ, H, F, ρ, own, Q, C, _, pt, q, hC => by
    unfold evEs at q
    exact hC [] H (q [] F H own Gr.rfl' ⟨pt, .nil⟩)
  | k :: ks, .cons e r, σ, H, F, ρ, own, Q, C, hl, pt, q, hC => by
    unfold evEs at q
    show tE b M av W (evE M.T Φ e) σ H fun y H2 => tPairs (trsOf b M av W Φ ks r) σ H2 fun ps H3 => C ((kV k, y) :: ps) H3
    refine ⟨ρ, F, own, pt, q.bind fun r1 v F1 H1 own1 g ⟨p1, e1⟩ q1 => ?_⟩
    refine pairs_ok (ks := ks) (Q := fun ws H' => Q (v :: ws) H') (by simpa [Exs.len] using hl) p1 (q1.bind fun r2 ws F2 H2 own2 g2 ⟨p2, e2⟩ q2 => ?_) fun ws H' hq => hC _ _ hq
    exact q2 (v :: ws) F2 H2 own2 Gr.rfl' ⟨p2, .cons (e1.mono g2.ff) e2⟩
  | [], .cons e r, _, _, _, _, _, _, _, h, _, _, _ => by simp [Exs.len] at h
  | _ :: _, .nil, _, _, _, _, _, _, _, h, _, _, _ => by simp [Exs.len] at h
theorem evEs_len {T : Tb} : ∀ {vs : Exs} {ρ : Env} {r : List D × Env}, evEs T Φ vs ρ = .ok r → r.1.length = vs.len
  | .nil, ρ, r, h => by unfold evEs at h; cases h; rfl
  | .cons e q, ρ, r, h => by
    unfold evEs at h
    cases h1 : evE T Φ e ρ with
    | ok a =>
      rw [h1] at h
      have h : (evEs T Φ q a.2).bind (fun s => R.ok (a.1 :: s.1, s.2)) = .ok r := h
      cases h2 : evEs T Φ q a.2 with
      | ok s =>
        rw [h2] at h
        have h : R.ok (a.1 :: s.1, s.2) = .ok r := h
        cases h
        show s.1.length + 1 = q.len + 1
        rw [evEs_len h2]
      | exc _ _ _ => rw [h2] at h; cases h
      | bad => rw [h2] at h; cases h
    | exc _ _ _ => rw [h1] at h; cases h
    | bad => rw [h1] at h; cases h
theorem zip_fst {α β : Type} : ∀ {xs : List α} {ys : List β}, xs.length = ys.length → (xs.zip ys).map (·.1) = xs
  | [], [], _ => rfl
  | x :: xs, y :: ys, h => by rw [List.zip_cons_cons, List.map_cons, zip_fst (by simpa using h)]
  | [], _ :: _, h => by simp at h
  | _ :: _, [], h => by simp at h
theorem zip_snd {α β : Type} : ∀ {xs : List α} {ys : List β}, xs.length = ys.length → (xs.zip ys).map (·.2) = ys
  | [], [], _ => rfl
  | x :: xs, y :: ys, h => by rw [List.zip_cons_cons, List.map_cons, zip_snd (by simpa using h)]
  | [], _ :: _, h => by simp at h
  | _ :: _, [], h => by simp at h
theorem sN_dsp {ks : List D} {kk : List Key} {vs : Exs} {keys : List (Option Expr)} {values : List Expr} (h : PPs X pos keys values (trsOf b M av W Φ kk vs)) (hk : kKeys ks = some kk) (hn : kk.Nodup) (hv : vs.len = kk.length)
    (hall : keys.all (·.isSome) = true) (hl : keys.length = values.length) (h0 : keys ≠ []) (h15 : keys.length ≤ 15) : PE X (.Dict keys values pos) (tN b M av W (evN M.T Φ (.dsp ks vs))) := by
  refine imE (pe_disp h hall hl h0 h15) fun σ H Q ⟨ρ, F, own, pt, q⟩ => ?_
  unfold evN at q
  intro p hp
  have e := kKeys_map hk
  refine pairs_ok (Q := fun ws H2 => ws.length = kk.length ∧ H2 p = some (.dK []) ∧ kk.length ≤ 15 ∧ Q (.ref p) (upd H2 p (.dK (kk.zip ws)))) hv (pt.new hp) ?_ fun ws H2 ⟨hw, h2, hk15, hq⟩ => ?_
  · cases he : evEs M.T Φ vs ρ with
    | bad => rw [he] at q; exact q
    | exc c es2 ρ2 => rw [he] at q; exact QR.step (Gr.new hp) q
    | ok r =>
      rw [he] at q
      have q : QR b M av W σ (rN M av σ) F H (In own) (if r.1.length = ks.length ∧ ks.length ≤ 15 then .ok (O.dic ks (r.1.map .lf), r.2) else .bad) Q := q
      intro ws F1 H1 own1 g ⟨p1, r1⟩
      split at q
      · rename_i hc
        have hw : ws.length = kk.length := by rw [r1.length, hc.1, e, List.length_map]
        have hh : H1 p = some (.dK []) := g.hh p _ upd_same (.inr fun m => pt.there m hp)
        have hp1 : ¬ In own1 p := fun m => (g.ow p m).elim (fun z => pt.there z hp) fun z => by rw [upd_same] at z; cases z
        have hf1 : F1 p = none := by
          cases z : F1 p with
          | none => rfl
          | some o =>
            rcases g.nf p (by rw [z]; exact fun y => nomatch y) with y | y | y
            · exact absurd (pt.sub.none hp) y
            · rw [upd_same] at y; cases y
            · exact absurd hp (pt.there y)
        have g0 : Gr b F H (In own) F1 H1 (In own1) := (Gr.new hp).trans g
        refine ⟨hw, hh, by rw [e, List.length_map] at hc; exact hc.2, ?_⟩
        refine q (.ref p) F1 _ (addOw own1 [p]) ⟨g0.ff, fun a u ea n => ?_, g0.nf, fun a ea => ?_, fun a m => ?_⟩ ⟨own1, [p], ?_, ?_, by simp, fun x m => ?_, fun x => In.add⟩
        · rw [upd_ne (ne_of_none ea hp)]; exact g0.hh a u ea n
        · by_cases z : a = p
          · subst z; rw [upd_same]; exact fun y => nomatch y
          · rw [upd_ne z]; exact g0.lv a ea
        · rcases In.add.mp m with m | m
          · exact g0.ow a m
          · have z : a = p := by simpa using m
            subst z; exact .inr hp
        · refine p1.grown Sb.rfl' (fun a m u ea => ?_) (fun a u ea => ?_) fun a ⟨i, m⟩ => p1.fr i a m
          · rw [upd_ne (fun z => hp1 (by rw [← z]; exact m))]; exact ea
          · rw [upd_ne (ne_of_none ea hf1)]; exact p1.sub _ _ ea
        · refine .dic upd_same ?_ (by rw [zip_fst hw.symm]; exact hn) ?_
          · rw [e, show (kk.zip ws).map (fun kv => kD kv.1) = ((kk.zip ws).map (·.1)).map kD from by rw [List.map_map]; rfl, zip_fst hw.symm]
          · rw [zip_snd hw.symm]; exact r1.ow
        · have z : x = p := by simpa using m
          subst z; exact ⟨hp1, hf1⟩
      · exact q.elim
  · refine ⟨h2, kk.zip ws, rfl, by rw [List.length_zip, hw]; omega, ?_⟩
    rw [mergeK_new (by rw [List.nil_append, zip_fst hw.symm]; exact hn)]
    exact hq
/-- {} -/
theorem sN_dnew : PE X (.Dict [] [] pos) (tN b M av W (evN M.T Φ (.dsp [] .nil))) := by
  refine imE pe_dnewK fun σ H Q ⟨ρ, F, own, pt, q⟩ => ?_
  unfold evN evEs at q
  intro p hp
  exact new_own pt hp (fun H' e => .dic e rfl (by simp) .nil) q
end
end RF
end

section
set_option Elab.async false
set_option linter.all false
set_option autoImplicit false
set_option maxRecDepth 100000
set_option maxHeartbeats 1000000
/-! RfQ: what loops and comprehensions walk; targets. -/
namespace RF
open PySem L2
open PyProof.Rows hiding St
open RT (ItvT pi_revA)
open RZ (ItzT pi_zipA)
/-- own without the slots of l -/
def cutO (own : Ow) (l : List Nat) : Ow := fun j => if j ∈ l then [] else own j
/-- J yields ds, whatever grows but what is not P -/
def Wk (M : Mach) (J : L2.It) (ds : List D) (F H : Hp) (P : Addr → Prop) : Prop :=
  ∀ (F' H' : Hp) (P' : Addr → Prop) (i : Nat), Gr false F H P F' H' P' → Sb F' H' →
    (ds.length ≤ i → J.stop i H') ∧ ∀ d, ds[i]? = some d → J.go i H' ∧ ∀ x H2, J.yld i H' x H2 → ∃ F2, Rep M F2 x d ∧ ((F2 = F' ∧ H2 = H') ∨ ∃ p o, H' p = none ∧ F2 = upd F' p o ∧ H2 = upd H' p o)
def rI (M : Mach) (av : List V) (σ : L2.St) : Hp → Hp → Ow → List D × List Nat × Env → L2.It → Prop := fun F H own a J => Pt M av F H σ a.2.2 own ∧ Wk M J a.1 F H (In (cutO own a.2.1))
abbrev tI (b : Bool) (M : Mach) (av : List V) (W : WX) (f : Env → R (List D × List Nat × Env)) : TI := tR b M av W (rI M av) f
/-- a place to be walked -/
def rW (p : Px) (M : Mach) (av : List V) (σ : L2.St) : Hp → Hp → Ow → O × Env → V → Prop := fun F H own a v =>
  Pt M av F H σ a.2 own ∧ ∃ as, OwR M F H v a.1 as ∧ ∀ l, lockOf a.1 p = some l → ∀ x ∈ as, ¬ In (cutO own l) x
abbrev tW (p : Px) (b : Bool) (M : Mach) (av : List V) (W : WX) (f : Env → R (O × Env)) : TE := tR b M av W (rW p M av) f
section
variable {b : Bool} {M : Mach} {av : List V} {W : WX} {X : Cx} {F H : Hp} {σ : L2.St} {ρ : Env} {own : Ow} {Φ : Fn} {k : Nat} {e a1 a2 a3 tg : Expr} {es : List Expr} {pos p2 : Pos}
theorem imI {e : Expr} {t t' : TI} (h : PI X tg e t) (k : ∀ σ H Q, t' σ H Q → t σ H Q) : PI X tg e t' := ⟨fun pins s σ H Q I q => h.run pins s σ H Q I (k σ H Q q)⟩
theorem In.cut {own : Ow} {l : List Nat} {x : Addr} (h : In (cutO own l) x) : ∃ j, j ∉ l ∧ x ∈ own j := by
  obtain ⟨j, h⟩ := h
  have h : x ∈ (if j ∈ l then [] else own j) := h
  by_cases m : j ∈ l
  · rw [if_pos m] at h; cases h
  · rw [if_neg m] at h; exact ⟨j, m, h⟩
theorem In.uncut {own : Ow} {l : List Nat} {x : Addr} (h : In (cutO own l) x) : In own x := let ⟨j, _, h⟩ := h.cut; ⟨j, h⟩
theorem lf_nil {v : V} {d : D} {as : List Addr} (r : OwR M F H v (.lf d) as) : as = [] := by cases r; rfl
theorem sW_pk {i : Nat} {x : PySem.Str} {T : Tb} (hN : X.N[i]? = some x) (hv : Vis X.env.scope x) (hd : (x == ("__debug__" : PySem.Str)) = false) (hcd : (x == ("__classdict__" : PySem.Str)) = false) :
    PE X (.Name x pos) (tW (.pk i) b M av W (evX T Φ (.pk i))) := by
  refine imE (pe_var hN hv hd hcd) fun σ H Q ⟨ρ, F, own, pt, q⟩ => ?_
  have h := pt.sl i
  unfold evX at q
  cases e : ρ.at i with
  | un => rw [e] at q; exact q.elim
  | sh d =>
    rw [e] at q h
    obtain ⟨_, v, e1, r⟩ := h
    exact ⟨v, slot_of e1, q v F H own Gr.rfl' ⟨pt, [], .lf r, fun _ _ _ m => nomatch m⟩⟩
  | ow k o =>
    rw [e] at q h
    obtain ⟨v, e1, r, _⟩ := h
    refine ⟨v, slot_of e1, q v F H own Gr.rfl' ⟨pt, own i, r, fun l hl a m z => ?_⟩⟩
    have fin : l = [i] → False := fun hl => by
      subst hl
      obtain ⟨j, hj, mj⟩ := z.cut
      exact hj (by rw [pt.dj j i a mj m]; exact List.mem_singleton.mpr rfl)
    cases o with
    | lf d => have e := lf_nil r; rw [e] at m; cases m
    | lst _ => cases hl; exact fin rfl
    | dic _ _ => cases hl; exact fin rfl
    | obj _ _ => cases hl; exact fin rfl
def Px.isPk : Px → Bool
  | .pk _ => true
  | _ => false
theorem sW_of {p : Px} {T : Tb} (hp : p.isPk = false) (h : PE X e (tX b M av W (evX T Φ p))) : PE X e (tW p b M av W (evX T Φ p)) := by
  refine imE h fun σ H Q ⟨ρ, F, own, pt, q⟩ => ⟨ρ, F, own, pt, ?_⟩
  have key : ∀ (r : R (O × Env)), QR b M av W σ (rW p M av σ) F H (In own) r Q → QR b M av W σ (rX M av σ) F H (In own) r Q := fun r q => by
    cases r with
    | ok a =>
      intro v F1 H1 own1 g ⟨p1, as, r1⟩
      refine q v F1 H1 own1 g ⟨p1, as, r1, fun l hl x m => ?_⟩
      obtain ⟨o, ρ'⟩ := a
      cases o with
      | lf d => have e := lf_nil r1; rw [e] at m; cases m
      | _ => cases p <;> first | (cases hl; done) | (cases hp; done)
    | exc c es ρ' => exact q
    | bad => exact q
  exact key _ q

/-! ### lists and tuples that stand -/
theorem list_kept {v : V} {o : O} {as : List Addr} {ds : List D} {P : Addr → Prop} (sub : Sb F H) (r : OwR M F H v o as) (h : o.list? = some ds) (hP : ∀ x ∈ as, ¬ P x) :
    ∃ a vs, v = .ref a ∧ (∀ (F' H' : Hp) (P' : Addr → Prop), Gr false F H P F' H' P' → Sb F' H' → SqL M.K H' a vs) ∧ Reps M F vs ds := by
  cases r with
  | lst h1 r => exact ⟨_, _, rfl, fun F' H' P' g s => SqL.of (g.hh _ _ h1 (.inr (hP _ List.mem_cons_self))), r.leafs h⟩
  | lf r =>
    cases r with
    | lst h1 r => simp [O.list?] at h; subst h; exact ⟨_, _, rfl, fun F' H' P' g s => SqL.of (s _ _ (g.ff _ _ h1)), r⟩
    | scr h1 r => simp [O.list?] at h; subst h; exact ⟨_, _, rfl, fun F' H' P' g s => (g.ff.trans s).sqL h1.sqL, r⟩
    | _ => simp [O.list?] at h
  | _ => simp [O.list?] at h
theorem tup_kept {v : V} {o : O} {as : List Addr} {ds : List D} {P : Addr → Prop} (sub : Sb F H) (r : OwR M F H v o as) (h : o.tup? = some ds) :
    ∃ a vs, v = .ref a ∧ (∀ (F' H' : Hp) (P' : Addr → Prop), Gr false F H P F' H' P' → Sb F' H' → SqT M.K H' a vs) ∧ Reps M F vs ds := by
  cases r with
  | lf r =>
    cases r with
    | tup h1 r => simp [O.tup?] at h; subst h; exact ⟨_, _, rfl, fun F' H' P' g s => (g.ff.trans s).sqT h1, r⟩
    | _ => simp [O.tup?] at h
  | _ => simp [O.tup?] at h
variable {P : Addr → Prop} {a c : Addr} {vs ws : List V} {ds ds2 : List D}
theorem wk_list (hk : ∀ (F' H' : Hp) (P' : Addr → Prop), Gr false F H P F' H' P' → Sb F' H' → SqL M.K H' a vs) (r : Reps M F vs ds) : Wk M (Itl M.K a) ds F H P := by
  refine fun F' H' P' i g s => ⟨fun hi => ⟨vs, hk F' H' P' g s, by rw [r.length]; exact hi⟩, fun d hd => ?_⟩
  obtain ⟨v, hv, rv⟩ := r.get hd
  refine ⟨⟨vs, v, hk F' H' P' g s, hv⟩, fun x H2 ⟨e, y⟩ => ⟨F', ?_, .inl ⟨rfl, e⟩⟩⟩
  have z := y vs (hk F' H' P' g s)
  rw [hv] at z; cases z
  exact rv.mono g.ff
theorem wk_tup (hk : ∀ (F' H' : Hp) (P' : Addr → Prop), Gr false F H P F' H' P' → Sb F' H' → SqT M.K H' a vs) (r : Reps M F vs ds) : Wk M (Itt M.K a) ds F H P := by
  refine fun F' H' P' i g s => ⟨fun hi => ⟨vs, hk F' H' P' g s, by rw [r.length]; exact hi⟩, fun d hd => ?_⟩
  obtain ⟨v, hv, rv⟩ := r.get hd
  refine ⟨⟨vs, v, hk F' H' P' g s, hv⟩, fun x H2 ⟨e, y⟩ => ⟨F', ?_, .inl ⟨rfl, e⟩⟩⟩
  have z := y vs (hk F' H' P' g s)
  rw [hv] at z; cases z
  exact rv.mono g.ff
theorem rev_get {α : Type} {xs : List α} {i : Nat} {d : α} (h : xs.reverse[i]? = some d) : i < xs.length ∧ xs[xs.length - 1 - i]? = some d := by
  have hl : i < xs.length := by
    by_cases z : i < xs.length
    · exact z
    · rw [List.getElem?_eq_none (by rw [List.length_reverse]; omega)] at h; cases h
  rw [List.getElem?_reverse hl] at h
  exact ⟨hl, h⟩
theorem wk_rev (hk : ∀ (F' H' : Hp) (P' : Addr → Prop), Gr false F H P F' H' P' → Sb F' H' → SqL M.K H' a vs) (r : Reps M F vs ds) : Wk M (Itv M.K a vs.length) ds.reverse F H P := by
  refine fun F' H' P' i g s => ⟨fun hi => ?_, fun d hd => ?_⟩
  · rw [List.length_reverse, ← r.length] at hi; exact hi
  · obtain ⟨h1, h2⟩ := rev_get hd
    rw [← r.length] at h1 h2
    obtain ⟨v, hv, rv⟩ := r.get h2
    refine ⟨⟨h1, vs, v, hk F' H' P' g s, hv⟩, fun x H2 ⟨e, y⟩ => ⟨F', ?_, .inl ⟨rfl, e⟩⟩⟩
    have z := y vs (hk F' H' P' g s)
    rw [hv] at z; cases z
    exact rv.mono g.ff
theorem wk_revT (hk : ∀ (F' H' : Hp) (P' : Addr → Prop), Gr false F H P F' H' P' → Sb F' H' → SqT M.K H' a vs) (r : Reps M F vs ds) : Wk M (ItvT M.K a vs.length) ds.reverse F H P := by
  refine fun F' H' P' i g s => ⟨fun hi => ?_, fun d hd => ?_⟩
  · rw [List.length_reverse, ← r.length] at hi; exact hi
  · obtain ⟨h1, h2⟩ := rev_get hd
    rw [← r.length] at h1 h2
    obtain ⟨v, hv, rv⟩ := r.get h2
    refine ⟨⟨h1, vs, v, hk F' H' P' g s, hv⟩, fun x H2 ⟨e, y⟩ => ⟨F', ?_, .inl ⟨rfl, e⟩⟩⟩
    have z := y vs (hk F' H' P' g s)
    rw [hv] at z; cases z
    exact rv.mono g.ff
theorem enumD_get : ∀ {ds : List D} {k i : Nat} {d : D}, (enumD k ds)[i]? = some d → ∃ x, ds[i]? = some x ∧ d = .tup [.int ((k + i : Nat) : Int), x]
  | [], _, _, _, h => by simp [enumD] at h
  | x :: r, k, 0, d, h => by simp [enumD] at h; subst h; exact ⟨x, rfl, rfl⟩
  | x :: r, k, i + 1, d, h => by
    obtain ⟨y, h1, h2⟩ := enumD_get (ds := r) (k := k + 1) (i := i) (by simpa [enumD] using h)
    exact ⟨y, by simpa using h1, by rw [h2, show k + 1 + i = k + (i + 1) from by omega]⟩
theorem enumD_len : ∀ {ds : List D} {k : Nat}, (enumD k ds).length = ds.length
  | [], _ => rfl
  | _ :: r, k => by simp [enumD, enumD_len (ds := r)]
theorem wk_enum (hk : ∀ (F' H' : Hp) (P' : Addr → Prop), Gr false F H P F' H' P' → Sb F' H' → SqL M.K H' a vs) (r : Reps M F vs ds) : Wk M (Ite M.K a) (enumD 0 ds) F H P := by
  refine fun F' H' P' i g s => ⟨fun hi => ⟨vs, hk F' H' P' g s, by rw [r.length, ← enumD_len (k := 0)]; exact hi⟩, fun d hd => ?_⟩
  obtain ⟨d', hd', e'⟩ := enumD_get hd
  obtain ⟨v, hv, rv⟩ := r.get hd'
  refine ⟨⟨vs, v, hk F' H' P' g s, hv⟩, fun x H2 ⟨T, y, ex, hT, eH, hy⟩ => ⟨_, ?_, .inr ⟨T, _, hT, rfl, eH⟩⟩⟩
  have z := hy vs (hk F' H' P' g s)
  rw [hv] at z; cases z
  subst ex e'
  rw [Nat.zero_add]
  exact .tup (SqT.of upd_same) (.cons .int (.cons ((rv.mono g.ff).mono (Sb.upd (s.none hT))) .nil))
theorem zipD_get : ∀ {xs ys : List D} {i : Nat} {d : D}, (zipD xs ys)[i]? = some d → ∃ x y, xs[i]? = some x ∧ ys[i]? = some y ∧ d = .tup [x, y]
  | [], _, _, _, h => by simp [zipD] at h
  | _ :: _, [], _, _, h => by simp [zipD] at h
  | x :: r, y :: q, 0, d, h => by simp [zipD] at h; subst h; exact ⟨x, y, rfl, rfl, rfl⟩
  | x :: r, y :: q, i + 1, d, h => by
    obtain ⟨u, w, h1, h2, h3⟩ := zipD_get (xs := r) (ys := q) (i := i) (by simpa [zipD] using h)
    exact ⟨u, w, by simpa using h1, by simpa using h2, h3⟩
theorem zipD_len : ∀ {xs ys : List D}, (zipD xs ys).length = min xs.length ys.length
  | [], ys => by simp [zipD]
  | _ :: _, [] => by simp [zipD]
  | _ :: r, _ :: q => by simp [zipD, zipD_len (xs := r) (ys := q)]
theorem wk_zip (hk : ∀ (F' H' : Hp) (P' : Addr → Prop), Gr false F H P F' H' P' → Sb F' H' → SqL M.K H' a vs) (r : Reps M F vs ds)
    (hk2 : ∀ (F' H' : Hp) (P' : Addr → Prop), Gr false F H P F' H' P' → Sb F' H' → SqL M.K H' c ws) (r2 : Reps M F ws ds2) : Wk M (Itz M.K a c) (zipD ds ds2) F H P := by
  refine fun F' H' P' i g s => ⟨fun hi => ⟨vs, ws, hk F' H' P' g s, hk2 F' H' P' g s, ?_⟩, fun d hd => ?_⟩
  · rw [zipD_len] at hi; rw [r.length, r2.length]; omega
  obtain ⟨d1, d2, h1, h2, e'⟩ := zipD_get hd
  obtain ⟨v, hv, rv⟩ := r.get h1
  obtain ⟨w, hw, rw'⟩ := r2.get h2
  refine ⟨⟨vs, ws, v, w, hk F' H' P' g s, hk2 F' H' P' g s, hv, hw⟩, fun x H2 ⟨T, y, y2, ex, hT, eH, hy, hy2⟩ => ⟨_, ?_, .inr ⟨T, _, hT, rfl, eH⟩⟩⟩
  have z := hy vs (hk F' H' P' g s)
  rw [hv] at z; cases z
  have z := hy2 ws (hk2 F' H' P' g s)
  rw [hw] at z; cases z
  subst ex e'
  have u := Sb.upd (o := HO.tup [v, w]) (s.none hT)
  exact .tup (SqT.of upd_same) (.cons ((rv.mono g.ff).mono u) (.cons ((rw'.mono g.ff).mono u) .nil))
theorem wk_zipT (hk : ∀ (F' H' : Hp) (P' : Addr → Prop), Gr false F H P F' H' P' → Sb F' H' → SqT M.K H' a vs) (r : Reps M F vs ds)
    (hk2 : ∀ (F' H' : Hp) (P' : Addr → Prop), Gr false F H P F' H' P' → Sb F' H' → SqT M.K H' c ws) (r2 : Reps M F ws ds2) : Wk M (ItzT M.K a c) (zipD ds ds2) F H P := by
  refine fun F' H' P' i g s => ⟨fun hi => ⟨vs, ws, hk F' H' P' g s, hk2 F' H' P' g s, ?_⟩, fun d hd => ?_⟩
  · rw [zipD_len] at hi; rw [r.length, r2.length]; omega
  obtain ⟨d1, d2, h1, h2, e'⟩ := zipD_get hd
  obtain ⟨v, hv, rv⟩ := r.get h1
  obtain ⟨w, hw, rw'⟩ := r2.get h2
  refine ⟨⟨vs, ws, v, w, hk F' H' P' g s, hk2 F' H' P' g s, hv, hw⟩, fun x H2 ⟨T, y, y2, ex, hT, eH, hy, hy2⟩ => ⟨_, ?_, .inr ⟨T, _, hT, rfl, eH⟩⟩⟩
  have z := hy vs (hk F' H' P' g s)
  rw [hv] at z; cases z
  have z := hy2 ws (hk2 F' H' P' g s)
  rw [hw] at z; cases z
  subst ex e'
  have u := Sb.upd (o := HO.tup [v, w]) (s.none hT)
  exact .tup (SqT.of upd_same) (.cons ((rv.mono g.ff).mono u) (.cons ((rw'.mono g.ff).mono u) .nil))
theorem rngI_get {lo c : Int} {n i : Nat} {d : D} (h : (rngI lo c n)[i]? = some d) : i < n ∧ d = .int (lo + (i : Nat) * c) := by
  unfold rngI at h
  rw [List.getElem?_map] at h
  by_cases hi : i < n
  · rw [List.getElem?_range hi] at h
    cases h
    exact ⟨hi, rfl⟩
  · rw [List.getElem?_eq_none (by simpa using hi)] at h; cases h
theorem rngI_len {lo c : Int} {n : Nat} : (rngI lo c n).length = n := by simp [rngI]
theorem wk_rng {lo : Int} {n : Nat} : Wk M (Itr lo n) (rngI lo 1 n) F H P := by
  refine fun F' H' P' i g s => ⟨fun hi => by rw [rngI_len] at hi; exact hi, fun d hd => ?_⟩
  obtain ⟨h1, h2⟩ := rngI_get hd
  refine ⟨h1, fun x H2 ⟨e, y⟩ => ⟨F', ?_, .inl ⟨rfl, e⟩⟩⟩
  subst y h2
  rw [Int.mul_one]
  exact .int
theorem wk_rngC {lo c : Int} {n : Nat} : Wk M (Itc lo c n) (rngI lo c n) F H P := by
  refine fun F' H' P' i g s => ⟨fun hi => by rw [rngI_len] at hi; exact hi, fun d hd => ?_⟩
  obtain ⟨h1, h2⟩ := rngI_get hd
  refine ⟨h1, fun x H2 ⟨e, y⟩ => ⟨F', ?_, .inl ⟨rfl, e⟩⟩⟩
  subst y h2
  exact .int

/-! ### the iterators -/
def iSeq (K : PySem.W.Frag) (tl : TE) : TI := fun σ H R => tl σ H fun x H1 => ∃ a xs, x = .ref a ∧ ((SqL K H1 a xs ∧ R (Itl K a) H1) ∨ (SqT K H1 a xs ∧ R (Itt K a) H1))
theorem pi_seq {l : Expr} {tl : TE} (hl : PE X l tl) : PI X tg l (iSeq X.K tl) := by
  refine ⟨fun pins s σ H R I h => ?_⟩
  refine thn (hl.run pins s σ H _ I h) fun v s1 ⟨x, H1, I1, r1, a, xs, e, q⟩ => ?_
  subst e
  cases r1
  have nw : ∀ c, c = s1.heap.objs.size → FpOk X pins H1 c := fun c e => by
    subst e
    exact I1.fpOk (Nat.le_refl _) (I1.hok.fresh (Nat.le_refl _))
  rcases q with ⟨hq, q⟩ | ⟨hq, q⟩
  · obtain ⟨its, rv, p, hz⟩ := I1.list hq
    refine wpAny_pyIter_list p.isList ?_
    exact ⟨s1.heap.objs.size, [s1.heap.objs.size], _, _, H1, rfl, I1.kept (t' := s1.toks) fun b o e => Heap.get?_push_of_some _ e, turn_list a _, ⟨_, Heap.get?_push_size _ rfl, rfl, rfl⟩, fun c hc => nw c (by simpa using hc), q⟩
  · obtain ⟨its, rv, p, hz⟩ := I1.tuple hq
    refine wpAny_pyIter_tuple (show s1.heap.IsTuple a its.toArray from p) ?_
    exact ⟨s1.heap.objs.size, [s1.heap.objs.size], _, _, H1, rfl, I1.kept (t' := s1.toks) fun b o e => Heap.get?_push_of_some _ e, turn_tuple a _, ⟨_, Heap.get?_push_size _ rfl, rfl, rfl⟩, fun c hc => nw c (by simpa using hc), q⟩
theorem sI_seq (ok : Ok M X) {p : Px} (h : PE X e (tW p b M av W (evX M.T Φ p))) : PI X tg e (tI b M av W (evI M.T Φ (.seq p))) := by
  refine imI (pi_seq h) fun σ H Q ⟨ρ, F, own, pt, q⟩ => ⟨ρ, F, own, pt, ?_⟩
  unfold evI at q
  refine q.bind fun r v F1 H1 own1 g ⟨p1, as, r1, hl⟩ q1 => ?_
  split at q1
  · rename_i ds l hd hlk
    have hP := hl l hlk
    unfold O.seq? at hd
    split at hd
    · rename_i ds' hd'
      cases hd
      obtain ⟨a, vs, e1, hk, hr⟩ := list_kept p1.sub r1 hd' hP
      exact ⟨a, vs, e1, .inl ⟨by rw [ok.K]; exact hk _ _ _ Gr.rfl' p1.sub, by rw [ok.K]; exact q1 _ F1 H1 own1 Gr.rfl' ⟨p1, wk_list hk hr⟩⟩⟩
    · obtain ⟨a, vs, e1, hk, hr⟩ := tup_kept (P := In (cutO own1 l)) p1.sub r1 hd
      exact ⟨a, vs, e1, .inr ⟨by rw [ok.K]; exact hk _ _ _ Gr.rfl' p1.sub, by rw [ok.K]; exact q1 _ F1 H1 own1 Gr.rfl' ⟨p1, wk_tup hk hr⟩⟩⟩
  · exact q1.elim
theorem sI_rev (ok : Ok M X) {p : Px} (hg : Gl X "reversed") (hm : M.mg "reversed" = none) (h : PE X e (tW p b M av W (evX M.T Φ p))) (hs : starEach [e] X.env = (false, eval e X.env) :: starEach [] X.env) :
    PI X tg (.Call (.Name "reversed" p2) [e] [] pos) (tI b M av W (evI M.T Φ (.rev p))) := by
  refine imI (pi_revA hg (by rw [ok.mg]; exact hm) h hs) fun σ H Q ⟨ρ, F, own, pt, q⟩ => ⟨ρ, F, own, pt, ?_⟩
  unfold evI at q
  refine q.bind fun r v F1 H1 own1 g ⟨p1, as, r1, hl⟩ q1 => ?_
  split at q1
  · rename_i ds l hd hlk
    have hP := hl l hlk
    unfold O.seq? at hd
    split at hd
    · rename_i ds' hd'
      cases hd
      obtain ⟨a, vs, e1, hk, hr⟩ := list_kept p1.sub r1 hd' hP
      exact ⟨a, vs, e1, .inl ⟨by rw [ok.K]; exact hk _ _ _ Gr.rfl' p1.sub, by rw [ok.K]; exact q1 _ F1 H1 own1 Gr.rfl' ⟨p1, wk_rev hk hr⟩⟩⟩
    · obtain ⟨a, vs, e1, hk, hr⟩ := tup_kept (P := In (cutO own1 l)) p1.sub r1 hd
      exact ⟨a, vs, e1, .inr ⟨by rw [ok.K]; exact hk _ _ _ Gr.rfl' p1.sub, by rw [ok.K]; exact q1 _ F1 H1 own1 Gr.rfl' ⟨p1, wk_revT hk hr⟩⟩⟩
  · exact q1.elim
theorem sI_zip (ok : Ok M X) {p p' : Px} {elts : List Expr} {kk : Nat} {tpos : Pos} (hg : Gl X "zip") (hm : M.mg "zip" = none) (h : PE X a1 (tX b M av W (evX M.T Φ p))) (h2 : PE X a2 (tX b M av W (evX M.T Φ p')))
    (hs : starEach [a1, a2] X.env = (false, eval a1 X.env) :: starEach [a2] X.env) (hs2 : starEach [a2] X.env = (false, eval a2 X.env) :: starEach [] X.env) (hpl : (backTo pos (starEach [a2] X.env)).any (·.1) = false) :
    PI X (.Tuple elts kk tpos) (.Call (.Name "zip" p2) [a1, a2] [] pos) (tI b M av W (evI M.T Φ (.zip p p'))) := by
  refine imI (pi_zipA hg (by rw [ok.mg]; exact hm) (pa_cons h (pa_cons h2 pa_nil hs2) hs) hs hpl) fun σ H Q ⟨ρ, F, own, pt, q⟩ => ⟨ρ, F, own, pt, ?_⟩
  unfold evI at q
  refine q.bind fun r v F1 H1 own1 g ⟨p1, as, r1⟩ q1 => ⟨r.2, F1, own1, p1, ?_⟩
  refine q1.bind fun r' w F2 H2 own2 g2 ⟨p2, as2, r2⟩ q2 => ?_
  split at q2
  · rename_i x y hx hy
    rw [hx] at r1
    rw [hy] at r2
    have r1 : OwR M F2 H2 v (.lf x) [] := by cases r1 with | lf r1 => exact .lf (r1.mono g2.ff)
    have r2 : OwR M F2 H2 w (.lf y) [] := by cases r2 with | lf r2 => exact .lf r2
    split at q2
    · rename_i ds hd
      unfold zip2 at hd
      split at hd
      · rename_i d1 d2 h1 h2
        cases hd
        obtain ⟨a, vs, e1, hk, hr⟩ := list_kept (P := In (cutO own2 [])) p2.sub r1 h1 (fun _ m => nomatch m)
        obtain ⟨a', vs', e1', hk', hr'⟩ := list_kept (P := In (cutO own2 [])) p2.sub r2 h2 (fun _ m => nomatch m)
        subst e1 e1'
        exact ⟨a, a', vs, vs', rfl, .inl ⟨by rw [ok.K]; exact hk _ _ _ Gr.rfl' p2.sub, by rw [ok.K]; exact hk' _ _ _ Gr.rfl' p2.sub, by rw [ok.K]; exact q2 _ F2 H2 own2 Gr.rfl' ⟨p2, wk_zip hk hr hk' hr'⟩⟩⟩
      · split at hd
        · rename_i d1 d2 h1 h2
          cases hd
          obtain ⟨a, vs, e1, hk, hr⟩ := tup_kept (P := In (cutO own2 [])) p2.sub r1 h1
          obtain ⟨a', vs', e1', hk', hr'⟩ := tup_kept (P := In (cutO own2 [])) p2.sub r2 h2
          subst e1 e1'
          exact ⟨a, a', vs, vs', rfl, .inr ⟨by rw [ok.K]; exact hk _ _ _ Gr.rfl' p2.sub, by rw [ok.K]; exact hk' _ _ _ Gr.rfl' p2.sub, by rw [ok.K]; exact q2 _ F2 H2 own2 Gr.rfl' ⟨p2, wk_zipT hk hr hk' hr'⟩⟩⟩
        · cases hd
    · exact q2.elim
  · exact q2.elim
end
end RF
end

section
set_option Elab.async false
set_option linter.all false
set_option autoImplicit false
set_option maxRecDepth 100000
set_option maxHeartbeats 4000000
/-! RfQ2: enumerate of a tuple. -/
namespace RF
open PySem L2
open PyProof.Rows hiding St
theorem meets_enum1 {v : Value} {ob : Obj} {HH : Heap → Prop} (B : Begins v ob HH) :
    Meets (Builtin.«enumerate.__new__» ⟨[.type "enumerate", v], []⟩) (fun _ R z => HH z.heap ∧
      R (.ok (.ret (.ref (z.heap.push ob).objs.size))) { z with heap := (z.heap.push ob).push { cls := .type "enumerate", data := .fields #[.none, .bool false, .ref z.heap.objs.size, rawInt 0, .none, .none] } }) :=
  .of_wp fun prog w A R z hz => by
    obtain ⟨h0, g0, d0, t0, o0⟩ := z
    obtain ⟨ha, hb⟩ := hz
    have sE := sub_enumerate
    have go : ∀ {A1 : Around} {E1 : Value → Shared → Prop} {Q1 : Value → Shared → Prop}, Q1 (.ref h0.objs.size) ⟨h0.push ob, g0, d0, t0, o0⟩ → wpAny (model prog w) A1 (pyIter v) Q1 E1 ⟨h0, g0, d0, t0, o0⟩ :=
      fun y => B.iter prog w _ _ ⟨h0, g0, d0, t0, o0⟩ _ ha y
    wp_walk using go
    refine wpAny_stack_any fun s1 => wpAny_pure ?_
    split
    · rename_i c1 _ _ _ _ _
      cases (c1 == Value.type "enumerate") <;> (wp_walk using go; exact ⟨_, rfl, hb⟩)
    · wp_walk using go; exact ⟨_, rfl, hb⟩
section
variable {prog : Program} {w : World} {A : Around} {E : Value → Shared → Prop} {z : Shared}
theorem enum_beg1 {v : Value} {ob : Obj} {HH : Heap → Prop} {Q : Value → Shared → Prop} (B : Begins v ob HH) (ha : HH z.heap)
    (k : ∀ h1, IsEnum h1 (z.heap.objs.size + 1) z.heap.objs.size 0 .none → h1.get? z.heap.objs.size = some ob → (∀ b u, z.heap.get? b = some u → h1.get? b = some u) → Q (.ref (z.heap.objs.size + 1)) { z with heap := h1 }) :
    wpAny (model prog w) A (call (.type "enumerate") [v]) Q E z := by
  have sz : (z.heap.push ob).objs.size = z.heap.objs.size + 1 := Heap.size_push ..
  refine callType_new F.called_enumerate (by decide) (F.typeCall_enumerate_1 _) (F.newCall_enumerate_1 _) (fun x => F.args_object_init_2 x _) F.entry_enumerate_new (meets_enum1 B) ⟨ha, ?_⟩
  show _ ∧ _
  rw [sz]
  have eE : IsEnum ((z.heap.push ob).push { cls := .type "enumerate", data := .fields #[.none, .bool false, .ref z.heap.objs.size, rawInt 0, .none, .none] }) (z.heap.objs.size + 1) z.heap.objs.size 0 .none := by
    have y := Heap.get?_push_size (z.heap.push ob) (o := { cls := .type "enumerate", data := .fields #[.none, .bool false, .ref z.heap.objs.size, rawInt 0, .none, .none] }) rfl
    rw [sz] at y
    exact y
  exact ⟨⟨_, eE, rfl⟩, k _ eE (Heap.get?_push_of_some _ (Heap.get?_push_size _ B.free)) fun b u y => Heap.get?_push_of_some _ (Heap.get?_push_of_some _ y)⟩
end
/-- the tuple at a, each item in a new pair -/
def IteT (K : PySem.W.Frag) (a : Addr) : L2.It where
  go := fun j H => ∃ (ys : List V) (y : V), SqT K H a ys ∧ ys[j]? = some y
  yld := fun j H v H2 => ∃ P y, v = .ref P ∧ H P = none ∧ H2 = upd H P (.tup [.int (j : Nat), y]) ∧ ∀ ys, SqT K H a ys → ys[j]? = some y
  stop := fun j H => ∃ ys : List V, SqT K H a ys ∧ ys.length ≤ j
theorem tup_apart {h : Heap} {a b : Addr} {its : Array Value} {o : Obj} {T : String} (ha : h.IsTuple a its) (hb : h.get? b = some o) (hc : o.cls = .type T) (ht : T ≠ "tuple") : a ≠ b := fun e => by
  subst e
  obtain ⟨o2, h2, c2, _⟩ := ha
  rw [hb] at h2
  cases h2
  rw [hc] at c2
  exact ht (by injection c2)
theorem turn_enumT {P : Program} {w : World} {K : PySem.W.Frag} {ts : List Expr} {n0 : Nat} {tp : Pos} (a e it : Addr) :
    Turn P w K (.Tuple ts n0 tp) (IteT K a) [e, it] e (fun j h => (∃ was, IsEnum h e it ((j : Nat) : Int) was) ∧ h.IsTupleIter it a j ∧ e ≠ it) where
  mem := List.mem_cons_self
  obj := fun j h st b hb => by
    obtain ⟨⟨was, h1⟩, ⟨o, h2, _, h4⟩, _⟩ := st
    rcases List.mem_cons.mp hb with y | y
    · subst y; exact ⟨_, h1, fun v q => nomatch q⟩
    · rw [List.mem_singleton.mp y]; exact ⟨o, h2, fun v q => by rw [h4] at q; cases q⟩
  keep := fun j h h' st k => let ⟨⟨was, h1⟩, h2, h3⟩ := st; ⟨⟨was, k e List.mem_cons_self _ h1⟩, h2.at fun o q => k it (List.mem_cons_of_mem _ List.mem_cons_self) o q, h3⟩
  item := by
    intro X eP ew eK hc j pins z τ H E I hf st hg
    subst eP ew eK
    obtain ⟨⟨was, h1⟩, h2, h3⟩ := st
    obtain ⟨ys, y, hy1, hy2⟩ := hg
    obtain ⟨its, rv, pp, _⟩ := I.tuple hy1
    have pp : z.heap.IsTuple a its.toArray := pp
    obtain ⟨u, hu, ru⟩ := rv.get hy2
    have le : e < z.heap.objs.size := Heap.lt_size h1
    have li : it < z.heap.objs.size := let ⟨_, y, _⟩ := h2; Heap.lt_size y
    have ai : a ≠ it := by
      obtain ⟨o, o1, o2, _⟩ := h2
      exact tup_apart pp o1 o2 (by decide)
    have ae : a ≠ e := tup_apart pp h1 rfl (by decide)
    have hd : X.A.in1.handled = none := I.ok.hd hc
    have lj : j < its.toArray.size := by
      have := (List.getElem?_eq_some_iff.mp hu).1
      simpa using this
    refine wpAny_pyNext_enum_itemD (Draws.tuple hd it a ai its.toArray) h1 ⟨h2, pp⟩ lj h3 (by simp [h3, ae.symm]) fun u' h' tk hx ho st' hT hsz hk => ?_
    have eu : u' = u := by
      have hu2 : its.toArray[j]? = some u := by simpa using hu
      exact Option.some.inj (hx.symm.trans hu2)
    subst eu
    refine ⟨_, rfl, wpAny_letOwnedTupleGo_enum (s := { z with heap := h', toks := tk + 1 }) ho fun h'' he' sb => ?_⟩
    have tupT : h''.get? z.heap.objs.size = some { cls := .type "tuple", data := .seq #[.int j tk, u'] } := (sb.2 _ (Nat.ne_of_gt le)).trans hT
    have nw : ObjOk X.prog X.w (upd H z.heap.objs.size (.tup [.int (j : Nat), y])) h'' z.heap.objs.size (.tup [.int (j : Nat), y]) :=
      ⟨(by show 2 ≤ sizeLine; decide), [.int j tk, u'], .cons ⟨_, rfl⟩ (.cons ru .nil), ⟨_, tupT, rfl, _, rfl⟩⟩
    have J : Inv X pins τ (upd H z.heap.objs.size (.tup [.int (j : Nat), y])) { z with heap := h'', toks := tk + 1 } := by
      refine I.turnedNew (ch := [e, it]) (t' := tk + 1) (fun b ob nb q => ?_) hf (Nat.le_refl _) nw
      have n1 : b ≠ e := fun x => nb (by rw [x]; exact List.mem_cons_self)
      have n2 : b ≠ it := fun x => nb (by rw [x]; exact List.mem_cons_of_mem _ List.mem_cons_self)
      exact (sb.2 b n1).trans (hk b ob n1 n2 q)
    refine ⟨.ref z.heap.objs.size, _, J, rfl, ⟨_, y, rfl, I.hok.fresh (Nat.le_refl _), rfl, fun zs hz => by rw [I.tuple_inj hz hy1]; exact hy2⟩, ⟨⟨u', ?_⟩, st'.1.at fun o q => (sb.2 it h3.symm).trans q, h3⟩, fun b hb => ?_⟩
    · have := he'
      rw [show ((j + 1 : Nat) : Int) = (j : Int) + 1 by omega]
      exact this
    · have lb : b < z.heap.objs.size := by
        rcases List.mem_cons.mp hb with x | x
        · rw [x]; exact le
        · rw [List.mem_singleton.mp x]; exact li
      rw [upd_ne (Nat.ne_of_lt lb)]
      exact (hf b hb).1
  done := by
    intro X eP ew eK hc j pins z τ H E I hf st hg
    subst eP ew eK
    obtain ⟨⟨was, h1⟩, h2, h3⟩ := st
    obtain ⟨ys, hy1, hy2⟩ := hg
    obtain ⟨its, rv, pp, _⟩ := I.tuple hy1
    have pp : z.heap.IsTuple a its.toArray := pp
    obtain ⟨f0, f1, f2, f3, f4, f5⟩ := hf it (List.mem_cons_of_mem _ List.mem_cons_self)
    have ai : a ≠ it := by
      obtain ⟨o, o1, o2, _⟩ := h2
      exact tup_apart pp o1 o2 (by decide)
    have hd : X.A.in1.handled = none := I.ok.hd hc
    have ln := rv.length
    have none_ : its.toArray[j]? = none := by simp; omega
    have tyE : z.TypeIs (.ref e) "enumerate" := ⟨_, h1, rfl⟩
    unfold pyNext
    refine wpAny_bind (wpAny_attempt (wpAny_callSpecial?_slot (name := Str.ofString "__next__") tyE F.slot_enumerate_next (wpAny_call_entry F.slot_enumerate_next tyE F.entry_enumerate_next ?_ (F.args_enumerate_next_1 _))))
    show wpAny _ _ (field (.ref e) 2 >>= _) _ _ z
    refine wpAny_bind (wpAny_field h1 rfl (x := .ref it) rfl (wpAny_bind (wpAny_nextOf_tuple_end hd h2 pp none_ fun h' ex ext ⟨ox, g1, g2⟩ => ?_)))
    refine wpAny_bind (wpAny_isInstance (b := true) (T := "StopIteration") ⟨ox, g1, g2⟩ isSubtype_stop (wpAny_pure ?_))
    exact ⟨rfl, I.turned (t' := z.toks) (fun b o nb q => ext b o nb q) f0 f1 f3 f4 f5⟩
  self := fun A j z Q E st h => let ⟨⟨_, y⟩, _⟩ := st; wpAny_pyIter_enum y h
def iEnumA (K : PySem.W.Frag) (ta : TA) : TI := fun σ H R => ta σ H fun vs H1 => ∃ a xs, vs = [.ref a] ∧ ((SqL K H1 a xs ∧ R (Ite K a) H1) ∨ (SqT K H1 a xs ∧ R (IteT K a) H1))
theorem pi_enumA {X : Cx} {e : Expr} {ta : TA} {p pos tpos : Pos} {ts : List Expr} {kk : Nat} (hg : Gl X "enumerate") (hm : X.mg "enumerate" = none) (ha : PA X [e] ta) (hs : starEach [e] X.env = [(false, eval e X.env)]) :
    PI X (.Tuple ts kk tpos) (.Call (.Name "enumerate" p) [e] [] pos) (iEnumA X.K ta) := by
  refine ⟨fun pins z τ H R I h => ?_⟩
  refine Call_ (ld_blt I hg hm boot_enumerate (PyProof.Rows.callWith_type1 (thn (ha.run pos pins z τ H _ I h) fun us z1 ⟨vs, H1, I1, r1, a, xs, ev, q⟩ => ?_) hs rfl))
  subst ev
  cases r1 with
  | cons r rr =>
    cases rr
    cases r
    have nw : ∀ b ∈ [z1.heap.objs.size + 1, z1.heap.objs.size], FpOk X pins H1 b := fun b hb => by
      have le : z1.heap.objs.size ≤ b := by
        rcases List.mem_cons.mp hb with y | y
        · rw [y]; exact Nat.le_succ _
        · rw [List.mem_singleton.mp y]; exact Nat.le_refl _
      exact I1.fpOk le (I1.hok.fresh le)
    rcases q with ⟨hq, q⟩ | ⟨hq, q⟩
    · obtain ⟨its, rv, pp, _⟩ := I1.list hq
      refine call_enumerate_list pp.isList fun h1 he hit _ hk => wpAny_pyIter_enum he ?_
      exact ⟨z1.heap.objs.size + 1, [z1.heap.objs.size + 1, z1.heap.objs.size], _, _, H1, rfl, I1.kept (t' := z1.toks) hk, turn_enum a _ _, ⟨⟨.none, he⟩, hit, Nat.succ_ne_self _⟩, nw, q⟩
    · obtain ⟨its, rv, pp, _⟩ := I1.tuple hq
      refine enum_beg1 (begins_tuple a its.toArray) pp fun h1 he hit hk => wpAny_pyIter_enum he ?_
      exact ⟨z1.heap.objs.size + 1, [z1.heap.objs.size + 1, z1.heap.objs.size], _, _, H1, rfl, I1.kept (t' := z1.toks) hk, turn_enumT a _ _, ⟨⟨.none, he⟩, ⟨_, hit, rfl, rfl⟩, Nat.succ_ne_self _⟩, nw, q⟩
section
variable {b : Bool} {M : Mach} {av : List V} {W : WX} {X : Cx} {F H : Hp} {σ : L2.St} {ρ : Env} {own : Ow} {Φ : Fn} {k : Nat} {e : Expr} {pos p2 : Pos} {a : Addr} {vs : List V} {ds : List D} {P : Addr → Prop}
theorem wk_enumT (hk : ∀ (F' H' : Hp) (P' : Addr → Prop), Gr false F H P F' H' P' → Sb F' H' → SqT M.K H' a vs) (r : Reps M F vs ds) : Wk M (IteT M.K a) (enumD 0 ds) F H P := by
  refine fun F' H' P' i g s => ⟨fun hi => ⟨vs, hk F' H' P' g s, by rw [r.length, ← enumD_len (k := 0)]; exact hi⟩, fun d hd => ?_⟩
  obtain ⟨d', hd', e'⟩ := enumD_get hd
  obtain ⟨v, hv, rv⟩ := r.get hd'
  refine ⟨⟨vs, v, hk F' H' P' g s, hv⟩, fun x H2 ⟨T, y, ex, hT, eH, hy⟩ => ⟨_, ?_, .inr ⟨T, _, hT, rfl, eH⟩⟩⟩
  have z := hy vs (hk F' H' P' g s)
  rw [hv] at z; cases z
  subst ex e'
  rw [Nat.zero_add]
  exact .tup (SqT.of upd_same) (.cons .int (.cons ((rv.mono g.ff).mono (Sb.upd (s.none hT))) .nil))
theorem sI_enum (ok : Ok M X) {p : Px} {elts : List Expr} {kk : Nat} {tpos : Pos} (hg : Gl X "enumerate") (hm : M.mg "enumerate" = none) (h : PE X e (tW p b M av W (evX M.T Φ p))) (hs : starEach [e] X.env = [(false, eval e X.env)]) (hs0 : starEach [e] X.env = (false, eval e X.env) :: starEach [] X.env) :
    PI X (.Tuple elts kk tpos) (.Call (.Name "enumerate" p2) [e] [] pos) (tI b M av W (evI M.T Φ (.enum p))) := by
  refine imI (pi_enumA hg (by rw [ok.mg]; exact hm) (pa_cons h pa_nil hs0) hs) fun σ H Q ⟨ρ, F, own, pt, q⟩ => ⟨ρ, F, own, pt, ?_⟩
  unfold evI at q
  refine q.bind fun r v F1 H1 own1 g ⟨p1, as, r1, hl⟩ q1 => ?_
  split at q1
  · rename_i ds l hd hlk
    have hP := hl l hlk
    unfold O.seq? at hd
    split at hd
    · rename_i ds' hd'
      cases hd
      obtain ⟨a, vs, e1, hk, hr⟩ := list_kept p1.sub r1 hd' hP
      subst e1
      exact ⟨a, vs, rfl, .inl ⟨by rw [ok.K]; exact hk _ _ _ Gr.rfl' p1.sub, by rw [ok.K]; exact q1 _ F1 H1 own1 Gr.rfl' ⟨p1, wk_enum hk hr⟩⟩⟩
    · obtain ⟨a, vs, e1, hk, hr⟩ := tup_kept (P := In (cutO own1 l)) p1.sub r1 hd
      subst e1
      exact ⟨a, vs, rfl, .inr ⟨by rw [ok.K]; exact hk _ _ _ Gr.rfl' p1.sub, by rw [ok.K]; exact q1 _ F1 H1 own1 Gr.rfl' ⟨p1, wk_enumT hk hr⟩⟩⟩
  · exact q1.elim
end
end RF
end

section
set_option Elab.async false
set_option linter.all false
set_option autoImplicit false
set_option maxRecDepth 100000
set_option maxHeartbeats 1000000
/-! RfR: targets; list comprehensions. -/
namespace RF
open PySem L2
open PyProof.Rows hiding St
open RT (ItvT pi_revA)
open RZ (ItzT pi_zipA)
section
variable {b : Bool} {M : Mach} {av : List V} {W : WX} {X : Cx} {F H : Hp} {σ : L2.St} {ρ : Env} {own : Ow} {Φ : Fn} {k : Nat} {e a1 a2 a3 tg : Expr} {es : List Expr} {pos p2 : Pos}
/-! ### targets -/
def gSeq (K : PySem.W.Frag) (n : Nat) (t : TGs) : TG := fun v σ H Q => ∃ a xs, v = .ref a ∧ (SqT K H a xs ∨ SqL K H a xs) ∧ xs.length = n ∧ t xs σ H Q
theorem pg_seq {kk : Nat} {t : TGs} {n : Nat} (hc : X.calm = true) (h : PGs X es t) (hn : (assignEach es X.env).length = n) (hst : (assignEach es X.env).findIdx? (·.1) = none) : PG X (.Tuple es kk pos) (gSeq X.K n t) := by
  refine ⟨fun pins s σ H v u Q I r ⟨a, xs, e1, hq, hl, hw⟩ => ?_⟩
  rcases hq with hq | hq
  · exact (pg_tup hc h hn hst).run pins s σ H v u Q I r ⟨a, xs, e1, hq, hl, hw⟩
  · exact (pg_unl hc h hn hst).run pins s σ H v u Q I r ⟨a, xs, e1, hq, hl, hw⟩
def gsN : List Nat → TGs
  | [] => gNil
  | i :: is => gCons (gName i) (gsN is)
def gT (K : PySem.W.Frag) : Tg → TG
  | .nm i => gName i
  | .tp is => gSeq K is.length (gsN is)
def Tg.slots : Tg → List Nat
  | .nm i => [i]
  | .tp is => is
theorem Pt.sh (pt : Pt M av F H σ ρ own) {v : V} {d : D} (r : Rep M F v d) (i : Nat) : ∃ own', Pt M av F H (σ.set i (some v)) (ρ.set i (.sh d)) own' ∧ ∀ x, In own' x → In own x := by
  by_cases h : i < ρ.length
  · refine ⟨_, pt.put (x := some v) (s := .sh d) (as := []) h ⟨rfl, v, rfl, r⟩ List.nodup_nil (fun _ m => nomatch m) (fun _ m => nomatch m), fun x m => m.put.elim (fun z => nomatch z) id⟩
  · refine ⟨own, ?_, fun _ m => m⟩
    rw [List.set_eq_of_length_le (by rw [pt.len]; omega), List.set_eq_of_length_le (by omega)]
    exact pt
theorem wipe_set : ∀ {vs : List Nat} {σ : L2.St} {i : Nat} {x : Option V}, i ∈ vs → L2.wipe (σ.set i x) vs = L2.wipe σ vs
  | [], _, _, _, h => nomatch h
  | v :: vs, σ, i, x, h => by
    show (L2.wipe (σ.set i x) vs).set v none = (L2.wipe σ vs).set v none
    by_cases e : i ∈ vs
    · rw [wipe_set e]
    · have ei : i = v := (List.mem_cons.mp h).elim id fun z => absurd z e
      subst ei
      have out : ∀ {vs : List Nat} {σ : L2.St}, i ∉ vs → L2.wipe (σ.set i x) vs = (L2.wipe σ vs).set i x := by
        intro vs
        induction vs with
        | nil => intro σ _; rfl
        | cons w ws ih =>
          intro σ hn
          show (L2.wipe (σ.set i x) ws).set w none = ((L2.wipe σ ws).set w none).set i x
          rw [ih fun z => hn (List.mem_cons_of_mem _ z), List.set_comm _ _ (fun z => hn (by rw [z]; exact List.mem_cons_self))]
      rw [out e, List.set_set]
theorem wipe_wipe {vs : List Nat} {σ : L2.St} : L2.wipe (L2.wipe σ vs) vs = L2.wipe σ vs := by
  have key : ∀ {ws vs : List Nat} {σ : L2.St}, (∀ i ∈ ws, i ∈ vs) → L2.wipe (L2.wipe σ ws) vs = L2.wipe σ vs := by
    intro ws
    induction ws with
    | nil => intro vs σ _; rfl
    | cons w ws ih =>
      intro vs σ h
      show L2.wipe ((L2.wipe σ ws).set w none) vs = _
      rw [wipe_set (h w List.mem_cons_self), ih fun i m => h i (List.mem_cons_of_mem _ m)]
  exact key fun _ m => m
theorem setAll_ok {Q : L2.St → Hp → Prop} : ∀ {is : List Nat} {ds : List D} {vs : List V} {ρ ρ' : Env} {σ : L2.St} {own : Ow}, setAll is ds ρ = some ρ' → Pt M av F H σ ρ own → Reps M F vs ds →
    (∀ σ' own', Pt M av F H σ' ρ' own' → (∀ x, In own' x → In own x) → (∀ ws, (∀ i ∈ is, i ∈ ws) → L2.wipe σ' ws = L2.wipe σ ws) → Q σ' H) → gsN is vs σ H Q
  | [], [], _, ρ, ρ', σ, own, h, pt, r, hQ => by
    cases r
    simp only [setAll] at h
    cases h
    exact ⟨rfl, hQ σ own pt (fun _ m => m) fun _ _ => rfl⟩
  | i :: is, d :: ds, _, ρ, ρ', σ, own, h, pt, r, hQ => by
    cases r with
    | cons r1 rr =>
      simp only [setAll] at h
      obtain ⟨own1, p1, ho⟩ := pt.sh r1 i
      refine ⟨_, _, rfl, ?_⟩
      exact setAll_ok h p1 rr fun σ' own' p' ho' hw => hQ σ' own' p' (fun x m => ho x (ho' x m)) fun ws hs => by
        rw [hw ws fun j m => hs j (List.mem_cons_of_mem _ m), wipe_set (hs i List.mem_cons_self)]
  | [], _ :: _, _, _, _, _, _, h, _, _, _ => by simp [setAll] at h
  | _ :: _, [], _, _, _, _, _, h, _, _, _ => by simp [setAll] at h
theorem setAll_len : ∀ {is : List Nat} {ds : List D} {ρ ρ' : Env}, setAll is ds ρ = some ρ' → ds.length = is.length
  | [], [], _, _, _ => rfl
  | i :: is, d :: ds, _, _, h => by simp only [setAll] at h; simp [setAll_len h]
  | [], _ :: _, _, _, h => by simp [setAll] at h
  | _ :: _, [], _, _, h => by simp [setAll] at h
theorem tgt_ok {t : Tg} {d : D} {v : V} {ρ' : Env} {Q : L2.St → Hp → Prop} (h : bindT t d ρ = .ok ρ') (pt : Pt M av F H σ ρ own) (r : Rep M F v d)
    (hQ : ∀ σ' own', Pt M av F H σ' ρ' own' → (∀ x, In own' x → In own x) → (∀ ws, (∀ i ∈ t.slots, i ∈ ws) → L2.wipe σ' ws = L2.wipe σ ws) → Q σ' H) : gT M.K t v σ H Q := by
  cases t with
  | nm i =>
    cases h
    obtain ⟨own1, p1, ho⟩ := pt.sh r i
    exact hQ _ own1 p1 ho fun ws hs => wipe_set (hs i (List.mem_singleton.mpr rfl))
  | tp is =>
    cases d with
    | tup ds =>
      simp only [bindT] at h
      split at h
      · rename_i ρ1 h1
        cases h
        obtain ⟨a, vs, e, hs, hr⟩ := r.tupv
        exact ⟨a, vs, e, .inl (pt.sub.sqT hs), by rw [hr.length, setAll_len h1], setAll_ok h1 pt hr hQ⟩
      · cases h
    | lst ds =>
      simp only [bindT] at h
      split at h
      · rename_i ρ1 h1
        cases h
        obtain ⟨a, vs, e, hs, hr⟩ := r.lstv
        exact ⟨a, vs, e, .inr (SqL.of (pt.sub _ _ hs)), by rw [hr.length, setAll_len h1], setAll_ok h1 pt hr hQ⟩
      · cases h
    | _ => cases h

/-! ### slots forgotten and put back -/
theorem Pt.wipe (pt : Pt M av F H σ ρ own) : ∀ l : List Nat, Pt M av F H σ (RF.wipe ρ l) (cutO own l)
  | [] => by
    have e : cutO own [] = own := by funext j; show (if j ∈ ([] : List Nat) then [] else own j) = own j; rw [if_neg (fun z => nomatch z)]
    rw [e]; exact pt
  | i :: is => by
    have p := (pt.wipe is).un (i := i)
    have e : (fun j => if j = i then [] else cutO own is j) = cutO own (i :: is) := by
      funext j
      show (if j = i then [] else if j ∈ is then [] else own j) = if j ∈ i :: is then [] else own j
      by_cases h : j = i
      · rw [if_pos h, if_pos (by rw [h]; exact List.mem_cons_self)]
      · rw [if_neg h]
        by_cases m : j ∈ is
        · rw [if_pos m, if_pos (List.mem_cons_of_mem _ m)]
        · rw [if_neg m, if_neg fun z => (List.mem_cons.mp z).elim h m]
    rw [e] at p
    exact p
theorem wipe_at {ρ : Env} : ∀ {l : List Nat} {j : Nat}, Env.at (RF.wipe ρ l) j = if j ∈ l then .un else ρ.at j
  | [], j => by rw [if_neg (fun z => nomatch z)]; rfl
  | i :: is, j => by
    show Env.at ((RF.wipe ρ is).set i .un) j = _
    rw [Env.at_set, wipe_at]
    have hl : (RF.wipe ρ is).length = ρ.length := by
      clear wipe_at
      induction is with
      | nil => rfl
      | cons x xs ih => show ((RF.wipe ρ xs).set x .un).length = _; rw [List.length_set, ih]
    by_cases h : i = j
    · subst h
      rw [if_pos (c := i ∈ i :: is) List.mem_cons_self]
      by_cases hi : i < (RF.wipe ρ is).length
      · rw [if_pos ⟨rfl, hi⟩]
      · rw [if_neg fun z => hi z.2]
        by_cases m : i ∈ is
        · rw [if_pos m]
        · rw [if_neg m]
          by_cases z : ρ.at i = .un
          · exact z
          · exact absurd (at_lt z) (by rw [← hl]; exact hi)
    · rw [if_neg fun z => h z.1]
      by_cases m : j ∈ is
      · rw [if_pos m, if_pos (List.mem_cons_of_mem _ m)]
      · rw [if_neg m, if_neg fun z => (List.mem_cons.mp z).elim (fun y => h y.symm) m]
/-- values of forgotten slots do not matter -/
theorem Pt.blank (pt : Pt M av F H σ ρ own) : ∀ {l : List Nat}, (∀ i ∈ l, ρ.at i = .un) → Pt M av F H (L2.wipe σ l) ρ own
  | [], _ => pt
  | i :: is, h => by
    have p := pt.blank (l := is) fun j m => h j (List.mem_cons_of_mem _ m)
    refine ⟨p.sub, ?_, fun j => ?_, p.nd, p.dj, p.fr⟩
    · show ((L2.wipe σ is).set i none).length = _
      rw [List.length_set]; exact p.len
    · show SlR M F H av (((L2.wipe σ is).set i none)[j]?.join) (ρ.at j) (own j)
      by_cases e : j = i
      · subst e
        have q := p.sl j
        rw [h j List.mem_cons_self] at q ⊢
        exact q
      · rw [List.getElem?_set_ne (fun z => e z.symm)]
        exact p.sl j
theorem unwipe_len {ρ ρ0 : Env} : ∀ {l : List Nat}, (unwipe ρ ρ0 l).length = ρ.length
  | [] => rfl
  | i :: is => by show ((unwipe ρ ρ0 is).set i (ρ0.at i)).length = _; rw [List.length_set, unwipe_len]
theorem unwipe_at {ρ ρ0 : Env} (hl : ρ.length = ρ0.length) : ∀ {l : List Nat} {j : Nat}, Env.at (unwipe ρ ρ0 l) j = if j ∈ l then ρ0.at j else ρ.at j
  | [], j => by rw [if_neg (fun z => nomatch z)]; rfl
  | i :: is, j => by
    show Env.at ((unwipe ρ ρ0 is).set i (ρ0.at i)) j = _
    rw [Env.at_set, unwipe_at hl, unwipe_len]
    by_cases h : i = j
    · subst h
      rw [if_pos (c := i ∈ i :: is) List.mem_cons_self]
      by_cases hi : i < ρ.length
      · rw [if_pos ⟨rfl, hi⟩]
      · rw [if_neg fun z => hi z.2]
        have e1 : ρ0.at i = .un := by
          by_cases z : ρ0.at i = .un
          · exact z
          · exact absurd (at_lt z) (by rw [← hl]; exact hi)
        have e2 : ρ.at i = .un := by
          by_cases z : ρ.at i = .un
          · exact z
          · exact absurd (at_lt z) hi
        rw [e1, e2]
        by_cases m : i ∈ is
        · rw [if_pos m]
        · rw [if_neg m]
    · rw [if_neg fun z => h z.1]
      by_cases m : j ∈ is
      · rw [if_pos m, if_pos (List.mem_cons_of_mem _ m)]
      · rw [if_neg m, if_neg fun z => (List.mem_cons.mp z).elim (fun y => h y.symm) m]
theorem wipe_ne {vs : List Nat} {σ : L2.St} {j : Nat} (h : j ∉ vs) : (L2.wipe σ vs)[j]? = σ[j]? := by
  induction vs with
  | nil => rfl
  | cons w ws ih =>
    show ((L2.wipe σ ws).set w none)[j]? = _
    rw [List.getElem?_set_ne (fun z => h (by rw [← z]; exact List.mem_cons_self))]
    exact ih fun z => h (List.mem_cons_of_mem _ z)
theorem restore {F0 H0 : Hp} {ρ0 : Env} {own0 : Ow} {l vs : List Nat} (p0 : Pt M av F0 H0 σ ρ0 own0) (g : Gr false F0 H0 (In (cutO own0 l)) F H (In own)) (p : Pt M av F H (L2.wipe σ vs) ρ own) (hv : ∀ i ∈ vs, i ∈ l) :
    Pt M av F H σ (unwipe ρ ρ0 l) (fun j => if j ∈ l then own0 j else own j) := by
  have hl : ρ.length = ρ0.length := by rw [← p.len, wipe_length, p0.len]
  have nin : ∀ j a, j ∈ l → a ∈ own0 j → ¬ In (cutO own0 l) a := fun j a hj m z => by
    obtain ⟨i, hi, mi⟩ := z.cut
    exact hi (by rw [p0.dj i j a mi m]; exact hj)
  have nout : ∀ j a, j ∈ l → a ∈ own0 j → ¬ In own a := fun j a hj m z => (g.ow a z).elim (nin j a hj m) fun y => (p0.there ⟨j, m⟩) y
  refine ⟨p.sub, by rw [unwipe_len, ← p.len, wipe_length], fun j => ?_, fun j => ?_, fun i j a h1 h2 => ?_, fun j a h => ?_⟩
  · rw [unwipe_at hl]
    show SlR M F H av _ _ (if j ∈ l then own0 j else own j)
    by_cases h : j ∈ l
    · rw [if_pos h, if_pos h]
      exact (p0.sl j).mono g.ff fun a m u e => g.hh a u e (.inr (nin j a h m))
    · rw [if_neg h, if_neg h]
      have q := p.sl j
      rw [wipe_ne (fun z => h (hv j z))] at q
      exact q
  · show (if j ∈ l then own0 j else own j).Nodup
    by_cases h : j ∈ l
    · rw [if_pos h]; exact p0.nd j
    · rw [if_neg h]; exact p.nd j
  · have h1 : a ∈ (if i ∈ l then own0 i else own i) := h1
    have h2 : a ∈ (if j ∈ l then own0 j else own j) := h2
    by_cases e1 : i ∈ l
    · rw [if_pos e1] at h1
      by_cases e2 : j ∈ l
      · rw [if_pos e2] at h2; exact p0.dj i j a h1 h2
      · rw [if_neg e2] at h2; exact absurd ⟨j, h2⟩ (nout i a e1 h1)
    · rw [if_neg e1] at h1
      by_cases e2 : j ∈ l
      · rw [if_pos e2] at h2; exact absurd ⟨i, h1⟩ (nout j a e2 h2)
      · rw [if_neg e2] at h2; exact p.dj i j a h1 h2
  · have h : a ∈ (if j ∈ l then own0 j else own j) := h
    by_cases e1 : j ∈ l
    · rw [if_pos e1] at h
      cases z : F a with
      | none => rfl
      | some o =>
        rcases g.nf a (by rw [z]; exact fun y => nomatch y) with y | y | y
        · exact absurd (p0.fr j a h) y
        · exact absurd y (p0.there ⟨j, h⟩)
        · exact absurd y (nin j a e1 h)
    · rw [if_neg e1] at h; exact p.fr j a h
theorem In.back {l : List Nat} {own0 : Ow} {x : Addr} (h : In (fun j => if j ∈ l then own0 j else own j) x) : In own0 x ∨ In own x := by
  obtain ⟨j, h⟩ := h
  have h : x ∈ (if j ∈ l then own0 j else own j) := h
  by_cases e : j ∈ l
  · rw [if_pos e] at h; exact .inl ⟨j, h⟩
  · rw [if_neg e] at h; exact .inr ⟨j, h⟩
end
end RF
end

section
set_option Elab.async false
set_option linter.all false
set_option autoImplicit false
set_option maxRecDepth 100000
set_option maxHeartbeats 1000000
/-! RfS: list comprehensions. -/
namespace RF
open PySem L2
open PyProof.Rows hiding St
/-- one turn of a comprehension -/
def turnC (tg : Tg) (cs : Env → R (Bool × Env)) (el : Env → R (O × Env)) (own : List Nat) (d : D) (ρ1 : Env) : R (Option O × Env) :=
  (bindT tg d ρ1).bind fun ρ2 => (cs ρ2).bind fun q => if q.1 then (el q.2).bind fun z => .ok (some z.1, wipe z.2 own) else .ok (none, wipe q.2 own)
def compR (fi : Env → R (List D × List Nat × Env)) (tg : Tg) (cs : Env → R (Bool × Env)) (el : Env → R (O × Env)) (own : List Nat) (ρ : Env) : R (O × Env) :=
  (fi ρ).bind fun r => (loopC (turnC tg cs el own) r.1 [] (wipe r.2.2 (r.2.1 ++ own))).calm.bind fun q => .ok (.lst q.1, unwipe q.2 r.2.2 (r.2.1 ++ own))
def noW : WX := fun _ _ _ _ => False
section
variable {b : Bool} {M : Mach} {av : List V} {W : WX} {X : Cx} {F H : Hp} {σ : L2.St} {ρ : Env} {own : Ow} {Φ : Fn} {k : Nat} {e a1 a2 a3 tg : Expr} {es : List Expr} {pos p2 : Pos}
theorem OwRs.append : ∀ {vs ws : List V} {os us : List O} {as bs : List Addr}, OwRs M F H vs os as → OwRs M F H ws us bs → OwRs M F H (vs ++ ws) (os ++ us) (as ++ bs)
  | _, _, _, _, _, _, .nil, s => s
  | _, _, _, _, _, _, .cons (as := a1) h r, s => by
    rw [List.cons_append, List.cons_append, List.append_assoc]
    exact .cons h (r.append s)
theorem OwRs.one {v : V} {o : O} {as : List Addr} (h : OwR M F H v o as) : OwRs M F H [v] [o] as := by
  have := OwRs.cons h .nil
  rw [List.append_nil] at this
  exact this
theorem Gr.updD {F' H' : Hp} {P P' : Addr → Prop} {D : Addr} {o : HO} (g : Gr b F H P F' H' P') (hD : H D = none) : Gr b F H P F' (upd H' D o) P' where
  ff := g.ff
  hh := fun a u e n => by rw [upd_ne (ne_of_none e hD)]; exact g.hh a u e n
  nf := g.nf
  lv := fun a e => by
    by_cases z : a = D
    · subst z; exact absurd hD e
    · rw [upd_ne z]; exact g.lv a e
  ow := g.ow
theorem Gr.keepN {F' H' : Hp} {P P' : Addr → Prop} (g : Gr b F H P F' H' P') {x : Addr} (h : F x = none) (hH : H x ≠ none) (hP : ¬ P x) : F' x = none := by
  cases z : F' x with
  | none => rfl
  | some o =>
    rcases g.nf x (by rw [z]; exact fun y => nomatch y) with y | y | y
    · exact absurd h y
    · exact absurd y hH
    · exact absurd y hP
theorem Gr.nin {F' H' : Hp} {P P' : Addr → Prop} (g : Gr b F H P F' H' P') {x : Addr} (hH : H x ≠ none) (hP : ¬ P x) : ¬ P' x := fun y => (g.ow x y).elim hP hH
theorem Pt.updD (pt : Pt M av F H σ ρ own) {D : Addr} {o : HO} (hF : F D = none) (hn : ¬ In own D) : Pt M av F (upd H D o) σ ρ own := by
  refine pt.grown Sb.rfl' (fun a m u ea => ?_) (fun a u ea => ?_) fun a ⟨i, m⟩ => pt.fr i a m
  · rw [upd_ne (fun z => hn (by rw [← z]; exact m))]; exact ea
  · rw [upd_ne (ne_of_none ea hF)]; exact pt.sub _ _ ea
theorem OwRs.updD {vs : List V} {os : List O} {as : List Addr} {D : Addr} {o : HO} (r : OwRs M F H vs os as) (hn : D ∉ as) : OwRs M F (upd H D o) vs os as :=
  r.mono Sb.rfl' fun a m u ea => by rw [upd_ne (fun z => hn (by rw [← z]; exact m))]; exact ea
/-- what is yielded leaves the point -/
theorem yld_pt {F' H' F2 H2 : Hp} (p : Pt M av F' H' σ ρ own) (h : (F2 = F' ∧ H2 = H') ∨ ∃ p o, H' p = none ∧ F2 = upd F' p o ∧ H2 = upd H' p o) : Pt M av F2 H2 σ ρ own ∧ Gr b F' H' (In own) F2 H2 (In own) := by
  rcases h with ⟨rfl, rfl⟩ | ⟨q, o, hq, rfl, rfl⟩
  · exact ⟨p, Gr.rfl'⟩
  · exact ⟨p.newF hq, Gr.newF p.sub hq⟩
abbrev tTsR (b : Bool) (M : Mach) (av : List V) (W : WX) (f : Env → R (Bool × Env)) : TT := tR b M av W (rT M av) f
theorem loopC_cons {turn : D → Env → R (Option O × Env)} {d : D} {ds : List D} {acc : List O} {ρ : Env} : loopC turn (d :: ds) acc ρ = (turn d ρ).bind fun r => match r.1 with
    | some o => if acc.length < lim then loopC turn ds (acc ++ [o]) r.2 else .bad
    | none => loopC turn ds acc r.2 := rfl
def lcInv (b : Bool) (M : Mach) (av : List V) (σ : L2.St) (vs lk : List Nat) (ρ1 : Env) (own1 : Ow) (t : Tg) (cs : Env → R (Bool × Env)) (el : Env → R (O × Env)) (ds : List D) (F1 H1 : Hp) (D : Addr) (i : Nat) (Hc : Hp) : Prop :=
  ∃ Fc ρc ownc acc os as, Pt M av Fc Hc (L2.wipe σ vs) ρc ownc ∧ Hc D = some (.lst acc) ∧ Fc D = none ∧ ¬ In ownc D ∧ OwRs M Fc Hc acc os as ∧ as.Nodup ∧
      (∀ x ∈ as, ¬ In ownc x ∧ Fc x = none ∧ x ≠ D ∧ (In (cutO own1 (lk ++ vs)) x ∨ H1 x = none)) ∧ Gr b F1 H1 (In (cutO own1 (lk ++ vs))) Fc Hc (In ownc) ∧ loopC (turnC t cs el vs) ds [] (wipe ρ1 (lk ++ vs)) = loopC (turnC t cs el vs) (ds.drop i) os ρc
theorem lc_red {fi : Env → R (List D × List Nat × Env)} {t : Tg} {cs : Env → R (Bool × Env)} {el : Env → R (O × Env)} {vs : List Nat} (ht : ∀ i ∈ t.slots, i ∈ vs) {σ : L2.St} {H : Hp} {Q : VK}
    (h : tN b M av W (compR fi t cs el vs) σ H Q) : tLc (tI b M av W fi) (gT M.K t) (tTsR b M av noW cs) (tN b M av noW el) vs σ H Q := by
  obtain ⟨ρ, F, own, pt, q⟩ := h
  refine ⟨ρ, F, own, pt, ?_⟩
  unfold compR at q
  refine q.bind fun r J F1 H1 own1 g ⟨p1, wk⟩ q1 => ?_
  clear q g pt
  obtain ⟨ds, lk, ρ1⟩ := r
  have p1 : Pt M av F1 H1 σ ρ1 own1 := p1
  have q1 : QR b M av W σ (rN M av σ) F1 H1 (In own1) ((loopC (turnC t cs el vs) ds [] (wipe ρ1 (lk ++ vs))).calm.bind fun q => .ok (.lst q.1, unwipe q.2 ρ1 (lk ++ vs))) Q := q1
  have wk : Wk M J ds F1 H1 (In (cutO own1 lk)) := wk
  have hvl : ∀ i ∈ vs, i ∈ lk ++ vs := fun i m => List.mem_append_right _ m
  have cutle : ∀ x, In (cutO own1 (lk ++ vs)) x → In (cutO own1 lk) x := fun x m => by
    obtain ⟨j, hj, mj⟩ := m.cut
    refine ⟨j, ?_⟩
    show x ∈ (if j ∈ lk then [] else own1 j)
    rw [if_neg fun z => hj (List.mem_append_left _ z)]
    exact mj
  intro D hD
  have hFD : F1 D = none := p1.sub.none hD
  refine ⟨fun i m Hc => m = ds.length - i ∧ i ≤ ds.length ∧ lcInv b M av σ vs lk ρ1 own1 t cs el ds F1 H1 D i Hc,
    ⟨_, rfl, Nat.zero_le _, F1, wipe ρ1 (lk ++ vs), cutO own1 (lk ++ vs), [], [], [], ?_, upd_same, hFD, ?_, .nil, List.nodup_nil, (fun _ m => nomatch m), ?_, rfl⟩, ?_⟩
  · have p2 := (p1.wipe (lk ++ vs)).blank (l := vs) fun i m => by rw [wipe_at, if_pos (hvl i m)]
    exact p2.updD hFD fun z => p1.there z.uncut hD
  · exact fun z => p1.there z.uncut hD
  · exact Gr.rfl'.updD hD
  rintro i m Hc ⟨rfl, hi, Fc, ρc, ownc, acc, os, as, pc, hDc, hFc, hnD, ro, nd, fr, gc, eq⟩
  have w := wk Fc Hc (In ownc) i ((gc.lax.weak cutle fun a z => .inl z)) pc.sub
  have hDn : Hc D ≠ none := by rw [hDc]; exact fun z => nomatch z
  by_cases hlt : i < ds.length
  · have hd : ds[i]? = some ds[i] := List.getElem?_eq_getElem hlt
    obtain ⟨go, wy⟩ := w.2 _ hd
    refine .inr ⟨go, lcInv b M av σ vs lk ρ1 own1 t cs el ds F1 H1 D (i + 1), fun H' z => ⟨ds.length - (i + 1), by omega, rfl, hlt, z⟩, ?_⟩
    intro x H2 hy
    obtain ⟨F2, rx, hF2⟩ := wy x H2 hy
    obtain ⟨p2, g2⟩ := yld_pt (b := b) pc hF2
    have hdrop : ds.drop i = ds[i] :: ds.drop (i + 1) := List.drop_eq_getElem_cons hlt
    rw [hdrop, loopC_cons] at eq
    generalize ds[i] = d at eq rx
    -- what does not come to an end is bad
    have good : ∀ {r : R (List O × Env)}, loopC (turnC t cs el vs) ds [] (wipe ρ1 (lk ++ vs)) = r → (r = .bad ∨ ∃ c es ρ, r = .exc c es ρ) → False := fun {r} e h => by
      rw [e] at q1
      rcases h with h | ⟨c, es, ρ, h⟩
      · rw [h] at q1; exact q1
      · rw [h] at q1; exact q1
    cases hb : bindT t d ρc with
    | bad => exact (good eq (.inl (by unfold turnC; rw [hb]; rfl))).elim
    | exc c es ρ' => exact (good eq (.inr ⟨c, es, ρ', by unfold turnC; rw [hb]; rfl⟩)).elim
    | ok ρ2 =>
      refine tgt_ok hb p2 rx fun σ3 own3 p3 ho3 hw3 => ⟨by rw [hw3 vs ht, wipe_wipe], ?_⟩
      have hw3 : L2.wipe σ3 vs = L2.wipe σ vs := by rw [hw3 vs ht, wipe_wipe]
      refine ⟨ρ2, F2, own3, p3, ?_⟩
      have g3 : Gr b Fc Hc (In ownc) F2 H2 (In own3) := g2.owns fun x m => .inl (ho3 x m)
      cases hc : cs ρ2 with
      | bad => exact (good eq (.inl (by unfold turnC; rw [hb]; show R.bind (R.bind (cs ρ2) _) _ = _; rw [hc]; rfl))).elim
      | exc c es ρ' => exact (good eq (.inr ⟨c, es, ρ', by unfold turnC; rw [hb]; show R.bind (R.bind (cs ρ2) _) _ = _; rw [hc]; rfl⟩)).elim
      | ok qc =>
        intro y F4 H4 own4 g4 ⟨p4, ey⟩
        subst ey
        have g04 := g3.trans g4
        by_cases hq : qc.1 = true
        · rw [if_pos hq]
          refine ⟨qc.2, F4, own4, p4, ?_⟩
          cases he : el qc.2 with
          | bad => exact (good eq (.inl (by unfold turnC; rw [hb]; show R.bind (R.bind (cs ρ2) _) _ = _; rw [hc]; show R.bind (if qc.1 = true then _ else _) _ = _; rw [if_pos hq, he]; rfl))).elim
          | exc c es ρ' => exact (good eq (.inr ⟨c, es, ρ', by unfold turnC; rw [hb]; show R.bind (R.bind (cs ρ2) _) _ = _; rw [hc]; show R.bind (if qc.1 = true then _ else _) _ = _; rw [if_pos hq, he]; rfl⟩)).elim
          | ok z =>
            have eq : loopC (turnC t cs el vs) ds [] (wipe ρ1 (lk ++ vs)) = if os.length < lim then loopC (turnC t cs el vs) (ds.drop (i + 1)) (os ++ [z.1]) (wipe z.2 vs) else .bad := by
              rw [eq]; unfold turnC; rw [hb]; show R.bind (R.bind (cs ρ2) _) _ = _; rw [hc]; show R.bind (if qc.1 = true then _ else _) _ = _; rw [if_pos hq, he]; rfl
            by_cases hos : os.length < lim
            · rw [if_pos hos] at eq
              intro y2 F5 H5 own5 g5 ⟨own6, as6, p6, r6, nd6, fr6, io6⟩
              have g05 := g04.trans g5
              have hD5 : H5 D = some (.lst acc) := g05.hh D _ hDc (.inr hnD)
              have hl : acc.length = os.length := ro.len2
              have nD5 : ¬ In own5 D := g05.nin hDn hnD
              have fD5 : F5 D = none := g05.keepN hFc hDn hnD
              refine ⟨acc, hD5, by rw [hl, ← lim_eq]; exact hos, F5, wipe z.2 vs, cutO own6 vs, acc ++ [y2], os ++ [z.1], as ++ as6, ?_, upd_same, fD5, ?_, ?_, ?_, ?_, ?_, eq⟩
              · have p7 := (p6.wipe vs).blank (l := vs) fun i m => by rw [wipe_at, if_pos m]
                rw [hw3] at p7
                exact p7.updD fD5 fun m => nD5 ((io6 D).mpr (.inl m.uncut))
              · exact fun m => nD5 ((io6 D).mpr (.inl m.uncut))
              · have there : ∀ a ∈ as, H5 a ≠ none ∧ ∀ u, Hc a = some u → H5 a = some u := fun a m => ⟨by
                  have hn : Hc a ≠ none := by
                    intro z
                    exact (OwRs_there ro) a m z
                  exact g05.lv a hn, fun u e => g05.hh a u e (.inr (fr a m).1)⟩
                refine OwRs.append ?_ (.one ?_)
                · exact (ro.mono g05.ff fun a m u e => (there a m).2 u e).updD fun m => (fr D m).2.2.1 rfl
                · exact (r6.mono Sb.rfl' fun a m u e => by rw [upd_ne (fun z => nD5 (by rw [← z]; exact (io6 a).mpr (.inr m)))]; exact e)
              · refine List.nodup_append.mpr ⟨nd, nd6, fun a ha c hcm e => ?_⟩
                subst e
                exact g05.nin ((OwRs_there ro) a ha) (fr a ha).1 ((io6 a).mpr (.inr hcm))
              · intro x hx
                rcases List.mem_append.mp hx with hx | hx
                · have nx := g05.nin ((OwRs_there ro) x hx) (fr x hx).1
                  exact ⟨fun m => nx ((io6 x).mpr (.inl m.uncut)), g05.keepN (fr x hx).2.1 ((OwRs_there ro) x hx) (fr x hx).1, (fr x hx).2.2.1, (fr x hx).2.2.2⟩
                · refine ⟨fun m => (fr6 x hx).1 m.uncut, (fr6 x hx).2, fun z => nD5 (by rw [← z]; exact (io6 x).mpr (.inr hx)), ?_⟩
                  exact (gc.trans g05).ow x ((io6 x).mpr (.inr hx))
              · exact (gc.trans g05).owns (fun x m => (gc.trans g05).ow x ((io6 x).mpr (.inl m.uncut))) |>.updD hD
            · rw [if_neg hos] at eq
              exact (good eq (.inl rfl)).elim
        · rw [if_neg hq]
          have eq : loopC (turnC t cs el vs) ds [] (wipe ρ1 (lk ++ vs)) = loopC (turnC t cs el vs) (ds.drop (i + 1)) os (wipe qc.2 vs) := by
            rw [eq]; unfold turnC; rw [hb]; show R.bind (R.bind (cs ρ2) _) _ = _; rw [hc]; show R.bind (if qc.1 = true then _ else _) _ = _; rw [if_neg hq]; rfl
          refine ⟨F4, wipe qc.2 vs, cutO own4 vs, acc, os, as, ?_, g04.hh D _ hDc (.inr hnD), g04.keepN hFc hDn hnD, fun m => g04.nin hDn hnD m.uncut, ?_, nd, ?_, ?_, eq⟩
          · have p7 := (p4.wipe vs).blank (l := vs) fun i m => by rw [wipe_at, if_pos m]
            rw [hw3] at p7
            exact p7
          · exact ro.mono g04.ff fun a m u e => g04.hh a u e (.inr (fr a m).1)
          · intro x hx
            exact ⟨fun m => g04.nin ((OwRs_there ro) x hx) (fr x hx).1 m.uncut, g04.keepN (fr x hx).2.1 ((OwRs_there ro) x hx) (fr x hx).1, (fr x hx).2.2⟩
          · exact (gc.trans g04).owns fun x m => (gc.trans g04).ow x m.uncut
  · have e : i = ds.length := by omega
    refine .inl ⟨w.1 (by omega), ?_⟩
    rw [List.drop_eq_nil_of_le (by omega)] at eq
    rw [eq] at q1
    have q1 : QR b M av W σ (rN M av σ) F1 H1 (In own1) (.ok (O.lst os, unwipe ρc ρ1 (lk ++ vs))) Q := q1
    have p2 := restore p1 gc.lax pc hvl
    have hin : ∀ x, In (fun j => if j ∈ lk ++ vs then own1 j else ownc j) x → (∃ j, j ∈ lk ++ vs ∧ x ∈ own1 j) ∨ In ownc x := fun x ⟨j, m⟩ => by
      have m : x ∈ (if j ∈ lk ++ vs then own1 j else ownc j) := m
      by_cases e : j ∈ lk ++ vs
      · rw [if_pos e] at m; exact .inl ⟨j, e, m⟩
      · rw [if_neg e] at m; exact .inr ⟨j, m⟩
    refine q1 (.ref D) Fc Hc (addOw (fun j => if j ∈ lk ++ vs then own1 j else ownc j) (D :: as)) ((gc.weak (fun a z => z.uncut) fun a z => ?_)) ⟨_, D :: as, p2, .lst hDc ro, ?_, ?_, fun x => In.add⟩
    · rcases In.add.mp z with z | z
      · rcases hin a z with ⟨j, _, z⟩ | z
        · exact .inr (.inl ⟨j, z⟩)
        · exact .inl z
      · rcases List.mem_cons.mp z with z | z
        · subst z; exact .inr (.inr hD)
        · exact .inr ((fr a z).2.2.2.imp In.uncut id)
    · exact List.nodup_cons.mpr ⟨fun m => (fr D m).2.2.1 rfl, nd⟩
    · intro x hx
      rcases List.mem_cons.mp hx with z | z
      · subst z
        exact ⟨fun m => (hin _ m).elim (fun ⟨j, _, y⟩ => p1.there ⟨j, y⟩ hD) hnD, hFc⟩
      · refine ⟨fun m => (hin _ m).elim (fun ⟨j, hj, y⟩ => ?_) (fr x z).1, (fr x z).2.1⟩
        rcases (fr x z).2.2.2 with w | w
        · obtain ⟨i, hi, mi⟩ := w.cut
          exact hi (by rw [p1.dj i j x mi y]; exact hj)
        · exact p1.there ⟨j, y⟩ w
where
  OwRs_there {F H : Hp} {M : Mach} : ∀ {vs : List V} {os : List O} {as : List Addr}, OwRs M F H vs os as → ∀ a ∈ as, H a ≠ none
    | _, _, _, .nil, _, m => nomatch m
    | _, _, _, .cons h r, a, m => (List.mem_append.mp m).elim (fun z => h.there a z) fun z => OwRs_there r a z

end
section
variable {b : Bool} {M : Mach} {av : List V} {W : WX} {X : Cx} {F H : Hp} {σ : L2.St} {ρ : Env} {own : Ow} {Φ : Fn} {k : Nat} {e a1 a2 a3 : Expr} {es : List Expr} {pos p2 : Pos}
theorem sTs_nil : PTs X [] (tTsR b M av W (evTs M.T Φ .nil)) :=
  ⟨fun pins s σ H Q I ⟨ρ, F, own, pt, q⟩ => pts_nil.run pins s σ H Q I (by unfold evTs at q; exact q true F H own Gr.rfl' ⟨pt, rfl⟩)⟩
theorem sTs_one {c : Expr} {t : Te} (h : PT X c (tT b M av W (evT M.T Φ t))) : PTs X [c] (tTsR b M av W (evTs M.T Φ (.cons t .nil))) := by
  refine ⟨fun pins s σ H Q I ⟨ρ, F, own, pt, q⟩ => (pts_one h).run pins s σ H Q I ⟨ρ, F, own, pt, ?_⟩⟩
  unfold evTs at q
  refine q.bind fun r z F1 H1 own1 g ⟨p1, e⟩ q1 => ?_
  subst e
  unfold evTs at q1
  by_cases h : r.1 = true
  · rw [if_pos h] at q1; rw [h]; exact q1 _ F1 H1 own1 Gr.rfl' ⟨p1, rfl⟩
  · rw [if_neg h] at q1; exact q1 r.1 F1 H1 own1 Gr.rfl' ⟨p1, (Bool.eq_false_iff.mpr h)⟩
def lfR (f : Env → R (D × Env)) (ρ : Env) : R (O × Env) := (f ρ).bind fun z => .ok (.lf z.1, z.2)
theorem sN_lf {f : Env → R (D × Env)} (h : PE X e (tE b M av W f)) : PE X e (tN b M av W (lfR f)) := by
  refine imE h fun σ H Q ⟨ρ, F, own, pt, q⟩ => ⟨ρ, F, own, pt, ?_⟩
  unfold lfR at q
  refine q.bind fun r v F1 H1 own1 g ⟨p1, e1⟩ q1 => q1 v F1 H1 own1 Gr.rfl' ⟨own1, [], p1, .lf e1, List.nodup_nil, (fun _ m => nomatch m), fun x => ⟨.inl, fun z => z.elim id fun m => nomatch m⟩⟩
theorem evN_comN {T : Tb} {elt : Nx} {t : Tg} {it : RF.It} {cs : Tes} {own : List Nat} : evN T Φ (.comN elt t it cs own) = compR (evI T Φ it) t (evTs T Φ cs) (evN T Φ elt) own := by
  funext ρ; rw [evN]; rfl
theorem evN_comp {T : Tb} {elt : Ex} {t : Tg} {it : RF.It} {cs : Tes} {own : List Nat} : evN T Φ (.comp elt t it cs own) = compR (evI T Φ it) t (evTs T Φ cs) (lfR (evE T Φ elt)) own := by
  funext ρ
  rw [evN]
  unfold compR
  have e : (fun (d : D) (ρ1 : Env) => (bindT t d ρ1).bind fun ρ2 => (evTs T Φ cs ρ2).bind fun q => if q.1 then (evE T Φ elt q.2).bind fun z => R.ok (some (O.lf z.1), wipe z.2 own) else .ok (none, wipe q.2 own)) = turnC t (evTs T Φ cs) (lfR (evE T Φ elt)) own := by
    funext d ρ1
    unfold turnC lfR
    congr 1
    funext ρ2
    congr 1
    funext q
    split
    · cases evE T Φ elt q.2 <;> rfl
    · rfl
  rw [e]
/-- a comprehension, by its parts -/
theorem sN_lc {fi : Env → R (List D × List Nat × Env)} {t : Tg} {cs : Env → R (Bool × Env)} {el : Env → R (O × Env)} {elt tg iter : Expr} {ifs : List Expr} {scope : Scope} {own : List (PySem.Str × Nat)} (hc : X.calm = true) (hN : X.N.Nodup) (hi : PI X tg iter (tI b M av W fi)) (ok : BlkOk X.N X.env.scope scope own)
    (ht : ∀ i ∈ t.slots, i ∈ own.map (·.2)) (hg : ∀ (s : Shared) (H : Hp) (C : Addr) (cl : List (PySem.Str × Addr)) (fp : List Addr), PG (X.blk s H scope (compEnvC scope cl C X.env) fp) tg (gT M.K t))
    (hts : ∀ (s : Shared) (H : Hp) (C : Addr) (cl : List (PySem.Str × Addr)) (fp : List Addr), PTs (X.blk s H scope (compEnvC scope cl C X.env) fp) ifs (tTsR b M av noW cs))
    (he : ∀ (s : Shared) (H : Hp) (C : Addr) (cl : List (PySem.Str × Addr)) (fp : List Addr), PE (X.blk s H scope (compEnvC scope cl C X.env) fp) elt (tN b M av noW el)) (hs : ∀ x, foldedSetIterable iter X.env x = pure x) :
    PE X (.ListComp elt [⟨tg, iter, ifs, 0⟩] scope pos) (tN b M av W (compR fi t cs el (own.map (·.2)))) :=
  imE (pe_lc hc hN hi ok hg hts he hs) fun σ H Q h => lc_red ht h
/-- name = a comprehension on its line -/
theorem sS_lc {i : Nat} {y : PySem.Str} {py spos : Pos} {fi : Env → R (List D × List Nat × Env)} {t : Tg} {cs : Env → R (Bool × Env)} {el : Env → R (O × Env)} {elt tg iter : Expr} {ifs : List Expr} {scope : Scope} {own : List (PySem.Str × Nat)} (hc : X.calm = true) (hN : X.N.Nodup)
    (hy : X.N[i]? = some y) (hyl : X.env.scope.names.lookup y = some .local) (hsw : swapsWith (.ListComp elt [⟨tg, iter, ifs, 0⟩] scope pos) (some (.Name y py)) spos.line X.env = pure true) (hi : PI X tg iter (tI b M av W fi)) (ok : BlkOk X.N X.env.scope scope own)
    (ht : ∀ i ∈ t.slots, i ∈ own.map (·.2)) (hg : ∀ (s : Shared) (H : Hp) (C : Addr) (cl : List (PySem.Str × Addr)) (fp : List Addr), PG (X.blk s H scope (compEnvC scope cl C X.env) fp) tg (gT M.K t))
    (hts : ∀ (s : Shared) (H : Hp) (C : Addr) (cl : List (PySem.Str × Addr)) (fp : List Addr), PTs (X.blk s H scope (compEnvC scope cl C X.env) fp) ifs (tTsR b M av noW cs))
    (he : ∀ (s : Shared) (H : Hp) (C : Addr) (cl : List (PySem.Str × Addr)) (fp : List Addr), PE (X.blk s H scope (compEnvC scope cl C X.env) fp) elt (tN b M av noW el)) (hs : ∀ x, foldedSetIterable iter X.env x = pure x) :
    PS X (.Assign [.Name y py] (.ListComp elt [⟨tg, iter, ifs, 0⟩] scope pos) spos) (tAsg (tN b M av W (compR fi t cs el (own.map (·.2)))) (gName i)) :=
  ⟨fun pins s σ H D I h => (ps_setLc hc hN hy hyl hsw hi ok hg hts he hs).run pins s σ H D I (lc_red ht h)⟩
end
end RF
end

section
set_option Elab.async false
set_option linter.all false
set_option autoImplicit false
set_option maxRecDepth 100000
set_option maxHeartbeats 1000000
/-! RfT: calls. -/
namespace RF
open PySem L2
open PyProof.Rows hiding St
/-- what stands for an argument: its value, its addresses -/
inductive VaR (M : Mach) (F H : Hp) (av : List V) (σ : L2.St) : V1 → V → List Addr → Prop where
  | sh {d : D} {v : V} (r : Rep M F v d) : VaR M F H av σ (.sh d) v []
  | io {i k : Nat} {o : O} {v : V} {as : List Addr} (e : σ[i]?.join = some v) (r : OwR M F H v o as) (t : k = 0 ∨ av[k - 1]? = some v) : VaR M F H av σ (.io i k o) v as
structure Vas (M : Mach) (F H : Hp) (av : List V) (σ : L2.St) (own1 : Ow) (l : List V1) (vs : List V) (ow2 : Ow) : Prop where
  len : vs.length = l.length
  at_ : ∀ j u, l[j]? = some u → ∃ v, vs[j]? = some v ∧ VaR M F H av σ u v (ow2 j)
  out : ∀ j, l.length ≤ j → ow2 j = []
  nd : ∀ j, (ow2 j).Nodup
  dj : ∀ i j a, a ∈ ow2 i → a ∈ ow2 j → i = j
  fr : ∀ j a, a ∈ ow2 j → ¬ In own1 a ∧ F a = none
inductive AaR (M : Mach) (F H : Hp) : A → V → List Addr → Prop where
  | sh {d : D} {v : V} (r : Rep M F v d) : AaR M F H (.sh d) v []
  | ow {o : O} {v : V} {as : List Addr} (r : OwR M F H v o as) : AaR M F H (.ow o) v as
structure Aas (M : Mach) (F H : Hp) (own1 : Ow) (xs : List A) (vs : List V) (ow2 : Ow) : Prop where
  len : vs.length = xs.length
  at_ : ∀ j u, xs[j]? = some u → ∃ v, vs[j]? = some v ∧ AaR M F H u v (ow2 j)
  out : ∀ j, xs.length ≤ j → ow2 j = []
  nd : ∀ j, (ow2 j).Nodup
  dj : ∀ i j a, a ∈ ow2 i → a ∈ ow2 j → i = j
  fr : ∀ j a, a ∈ ow2 j → ¬ In own1 a ∧ F a = none
def rAs (M : Mach) (av : List V) (σ : L2.St) : Hp → Hp → Ow → List V1 × Env → List V → Prop := fun F H own a vs =>
  ∃ own1 ow2, Pt M av F H σ a.2 own1 ∧ Vas M F H av σ own1 a.1 vs ow2 ∧ ∀ x, In own x ↔ In own1 x ∨ In ow2 x
abbrev tAs (b : Bool) (M : Mach) (av : List V) (W : WX) (f : Env → R (List V1 × Env)) : TA := tR b M av W (rAs M av) f
def consO (as : List Addr) (ow2 : Ow) : Ow
  | 0 => as
  | j + 1 => ow2 j
/-- two owns as one -/
def sumO (a c : Ow) : Ow := fun i => a i ++ c i
section
variable {b : Bool} {M : Mach} {av : List V} {W : WX} {X : Cx} {F H : Hp} {σ : L2.St} {ρ : Env} {own : Ow} {Φ : Fn} {k : Nat} {e a1 a2 a3 : Expr} {es : List Expr} {pos p2 : Pos}
theorem In.sum {a c : Ow} {x : Addr} : In (sumO a c) x ↔ In a x ∨ In c x :=
  ⟨fun ⟨i, h⟩ => (List.mem_append.mp h).imp (fun m => ⟨i, m⟩) fun m => ⟨i, m⟩, fun h => h.elim (fun ⟨i, m⟩ => ⟨i, List.mem_append_left _ m⟩) fun ⟨i, m⟩ => ⟨i, List.mem_append_right _ m⟩⟩
theorem In.cons {as : List Addr} {ow2 : Ow} {x : Addr} : In (consO as ow2) x ↔ x ∈ as ∨ In ow2 x :=
  ⟨fun ⟨i, h⟩ => by cases i with
    | zero => exact .inl h
    | succ i => exact .inr ⟨i, h⟩, fun h => h.elim (fun m => ⟨0, m⟩) fun ⟨i, m⟩ => ⟨i + 1, m⟩⟩
theorem Vas.nil {own1 : Ow} : Vas M F H av σ own1 [] [] (fun _ => []) :=
  ⟨rfl, (fun j u h => by simp at h), fun _ _ => rfl, fun _ => List.nodup_nil, (fun _ _ _ h => nomatch h), (fun _ _ h => nomatch h)⟩
theorem Vas.cons {own1 : Ow} {l : List V1} {vs : List V} {ow2 : Ow} {u : V1} {v : V} {as : List Addr} (h : Vas M F H av σ own1 l vs ow2) (r : VaR M F H av σ u v as) (nd : as.Nodup) (dj : ∀ a ∈ as, ¬ In ow2 a ∧ ¬ In own1 a ∧ F a = none) :
    Vas M F H av σ own1 (u :: l) (v :: vs) (consO as ow2) := by
  refine ⟨by rw [List.length_cons, List.length_cons, h.len], fun j w hw => ?_, fun j hj => ?_, fun j => ?_, fun i j a hi hj => ?_, fun j a hj => ?_⟩
  · cases j with
    | zero => simp at hw; subst hw; exact ⟨v, rfl, r⟩
    | succ j => obtain ⟨v', h1, h2⟩ := h.at_ j w (by simpa using hw); exact ⟨v', by simpa using h1, h2⟩
  · cases j with
    | zero => simp at hj
    | succ j => exact h.out j (by simpa using hj)
  · cases j with
    | zero => exact nd
    | succ j => exact h.nd j
  · cases i with
    | zero => cases j with
      | zero => rfl
      | succ j => exact absurd ⟨j, hj⟩ (dj a hi).1
    | succ i => cases j with
      | zero => exact absurd ⟨i, hi⟩ (dj a hj).1
      | succ j => rw [h.dj i j a hi hj]
  · cases j with
    | zero => exact (dj a hj).2
    | succ j => exact h.fr j a hj
theorem sAs_nil : PA X [] (tAs b M av W (evAs M.T Φ .nil)) :=
  imA pa_nil fun σ H Q ⟨ρ, F, own, pt, q⟩ => by
    unfold evAs at q
    exact q [] F H own Gr.rfl' ⟨own, _, pt, Vas.nil, fun x => ⟨.inl, fun z => z.elim id fun ⟨_, m⟩ => nomatch m⟩⟩
theorem sAs_sh {x : Ex} {r : As} (ha : PE X e (tE b M av W (evE M.T Φ x))) (hr : PA X es (tAs b M av W (evAs M.T Φ r))) (hs : starEach (e :: es) X.env = (false, eval e X.env) :: starEach es X.env) :
    PA X (e :: es) (tAs b M av W (evAs M.T Φ (.sh x r))) := by
  refine imA (pa_cons ha hr hs) fun σ H Q ⟨ρ, F, own, pt, q⟩ => ⟨ρ, F, own, pt, ?_⟩
  unfold evAs at q
  refine q.bind fun r1 v F1 H1 own1 g ⟨p1, e1⟩ q1 => ⟨r1.2, F1, own1, p1, ?_⟩
  refine q1.bind fun r2 vs F2 H2 own2 g2 ⟨own3, ow2, p2, e2, hio⟩ q2 => ?_
  refine q2 (v :: vs) F2 H2 own2 Gr.rfl' ⟨own3, consO [] ow2, p2, e2.cons (.sh (e1.mono g2.ff)) List.nodup_nil (fun _ m => nomatch m), fun x => ?_⟩
  rw [hio x, In.cons]
  exact ⟨fun z => z.imp id .inr, fun z => z.imp id fun y => y.elim (fun m => nomatch m) id⟩
theorem sAs_io {i : Nat} {x : PySem.Str} {r : As} (hN : X.N[i]? = some x) (hv : Vis X.env.scope x) (hd : (x == ("__debug__" : PySem.Str)) = false) (hcd : (x == ("__classdict__" : PySem.Str)) = false)
    (hr : PA X es (tAs b M av W (evAs M.T Φ r))) (hs : starEach (.Name x pos :: es) X.env = (false, eval (.Name x pos) X.env) :: starEach es X.env) :
    PA X (.Name x pos :: es) (tAs b M av W (evAs M.T Φ (.io i r))) := by
  refine imA (pa_cons (pe_var hN hv hd hcd) hr hs) fun σ H Q ⟨ρ, F, own, pt, q⟩ => ?_
  have h := pt.sl i
  unfold evAs at q
  cases e : ρ.at i with
  | un => rw [e] at q; exact q.elim
  | sh d =>
    rw [e] at q h
    obtain ⟨_, v, e1, rv⟩ := h
    refine ⟨v, slot_of e1, ρ, F, own, pt, ?_⟩
    refine q.bind fun r2 vs F2 H2 own2 g2 ⟨own3, ow2, p2, e2, hio⟩ q2 => ?_
    refine q2 (v :: vs) F2 H2 own2 Gr.rfl' ⟨own3, consO [] ow2, p2, e2.cons (.sh (rv.mono g2.ff)) List.nodup_nil (fun _ m => nomatch m), fun x => ?_⟩
    rw [hio x, In.cons]
    exact ⟨fun z => z.imp id .inr, fun z => z.imp id fun y => y.elim (fun m => nomatch m) id⟩
  | ow k o =>
    rw [e] at q h
    obtain ⟨v, e1, rv, tg⟩ := h
    refine ⟨v, slot_of e1, ρ.set i .un, F, _, pt.un (i := i), ?_⟩
    have less : ∀ a, In (fun j => if j = i then [] else own j) a → In own a := fun a m => m.un
    have nin : ∀ a ∈ own i, ¬ In (fun j => if j = i then [] else own j) a := fun a m ⟨j, z⟩ => by
      have z : a ∈ (if j = i then [] else own j) := z
      by_cases ej : j = i
      · rw [if_pos ej] at z; cases z
      · rw [if_neg ej] at z; exact ej (pt.dj j i a z m)
    -- the wish, at the point without the slot
    have core : ∀ (rr : R (List V1 × Env)), QR b M av W σ (rAs M av σ) F H (In own) (rr.bind fun s => .ok (V1.io i k o :: s.1, s.2)) Q → QR b M av W σ (rAs M av σ) F H (In fun j => if j = i then [] else own j) rr fun vs H' => Q (v :: vs) H' := fun rr q => by
      cases rr with
      | bad => exact q
      | exc c es2 ρ2 => exact QR.less q less
      | ok s =>
        intro vs F2 H2 own2 g2 ⟨own3, ow2, p2, e2, hio⟩
        have nin2 : ∀ a ∈ own i, ¬ In own2 a := fun a m => g2.nin (pt.there ⟨i, m⟩) (nin a m)
        refine q (v :: vs) F2 H2 (sumO own2 (fun j => if j = 0 then own i else [])) (g2.weak less fun a m => ?_) ⟨own3, consO (own i) ow2, p2, e2.cons (.io e1 (rv.mono g2.ff fun a m u ea => g2.hh a u ea (.inr (nin a m))) tg) (pt.nd i) (fun a m => ⟨fun z => nin2 a m ((hio a).mpr (.inr z)), fun z => nin2 a m ((hio a).mpr (.inl z)), g2.keepN (pt.fr i a m) (pt.there ⟨i, m⟩) (nin a m)⟩), fun x => ?_⟩
        · rcases In.sum.mp m with m | ⟨j, m⟩
          · exact .inl m
          · have m : a ∈ (if j = 0 then own i else []) := m
            by_cases ej : j = 0
            · rw [if_pos ej] at m; exact .inr (.inl ⟨i, m⟩)
            · rw [if_neg ej] at m; cases m
        · rw [In.sum, In.cons, hio x]
          constructor
          · rintro ((m | m) | ⟨j, m⟩)
            · exact .inl m
            · exact .inr (.inr m)
            · have m : x ∈ (if j = 0 then own i else []) := m
              by_cases ej : j = 0
              · rw [if_pos ej] at m; exact .inr (.inl m)
              · rw [if_neg ej] at m; cases m
          · rintro (m | m | m)
            · exact .inl (.inl m)
            · refine .inr ⟨0, ?_⟩
              show x ∈ (if 0 = 0 then own i else [])
              rw [if_pos rfl]; exact m
            · exact .inl (.inr m)
    exact core _ q

/-! ### the callee's point, and the way back -/
theorem Aas.cons {own1 : Ow} {l : List A} {vs : List V} {ow2 : Ow} {u : A} {v : V} {as : List Addr} (h : Aas M F H own1 l vs ow2) (r : AaR M F H u v as) (nd : as.Nodup) (dj : ∀ a ∈ as, ¬ In ow2 a ∧ ¬ In own1 a ∧ F a = none) :
    Aas M F H own1 (u :: l) (v :: vs) (consO as ow2) := by
  refine ⟨by rw [List.length_cons, List.length_cons, h.len], fun j w hw => ?_, fun j hj => ?_, fun j => ?_, fun i j a hi hj => ?_, fun j a hj => ?_⟩
  · cases j with
    | zero => simp at hw; subst hw; exact ⟨v, rfl, r⟩
    | succ j => obtain ⟨v', h1, h2⟩ := h.at_ j w (by simpa using hw); exact ⟨v', by simpa using h1, h2⟩
  · cases j with
    | zero => simp at hj
    | succ j => exact h.out j (by simpa using hj)
  · cases j with
    | zero => exact nd
    | succ j => exact h.nd j
  · cases i with
    | zero => cases j with
      | zero => rfl
      | succ j => exact absurd ⟨j, hj⟩ (dj a hi).1
    | succ i => cases j with
      | zero => exact absurd ⟨i, hi⟩ (dj a hj).1
      | succ j => rw [h.dj i j a hi hj]
  · cases j with
    | zero => exact (dj a hj).2
    | succ j => exact h.fr j a hj
theorem Vas.aas {own1 : Ow} {l : List V1} {vs : List V} {ow2 : Ow} (h : Vas M F H av σ own1 l vs ow2) : Aas M F H own1 (l.map V1.a) vs ow2 := by
  refine ⟨by rw [List.length_map]; exact h.len, fun j u hu => ?_, fun j hj => h.out j (by rw [List.length_map] at hj; exact hj), h.nd, h.dj, h.fr⟩
  rw [List.getElem?_map] at hu
  cases hq : l[j]? with
  | none => rw [hq] at hu; cases hu
  | some w =>
    rw [hq] at hu
    cases hu
    obtain ⟨v, h1, h2⟩ := h.at_ j w hq
    refine ⟨v, h1, ?_⟩
    generalize ow2 j = as at h2 ⊢
    cases h2 with
    | sh r => exact .sh r
    | io e r t => exact .ow r
theorem Pt.pars {own1 : Ow} {xs : List A} {vs dvs : List V} {ow2 : Ow} {dds : List D} (sub : Sb F H) (h : Aas M F H own1 xs vs ow2) (hd : Reps M F dvs dds) :
    Pt M (vs ++ dvs) F H ((vs ++ dvs).map some) (parS 0 (xs ++ dds.map .sh)) ow2 := by
  refine ⟨sub, by rw [List.length_map, parS_len, List.length_append, List.length_append, List.length_map, h.len, hd.length], fun j => ?_, h.nd, h.dj, fun j a m => (h.fr j a m).2⟩
  rw [parS_at]
  by_cases hj : j < xs.length
  · have hu : xs[j]? = some xs[j] := List.getElem?_eq_getElem hj
    obtain ⟨v, hv, r⟩ := h.at_ j _ hu
    have e1 : (xs ++ dds.map A.sh)[j]? = some xs[j] := by
      rw [List.getElem?_append_left hj, hu]
    have e2 : ((vs ++ dvs).map some)[j]?.join = some v := by
      rw [List.getElem?_map, List.getElem?_append_left (by rw [h.len]; exact hj), hv]; rfl
    rw [e1, e2]
    generalize xs[j] = u at r
    generalize ow2 j = as at r
    cases r with
    | sh r => exact ⟨rfl, v, rfl, r⟩
    | ow r =>
      refine ⟨v, rfl, r, .inr ?_⟩
      have hv' : j < vs.length := by rw [h.len]; exact hj
      show (vs ++ dvs)[0 + j + 1 - 1]? = some v
      rw [show 0 + j + 1 - 1 = j from by omega, List.getElem?_append_left hv', hv]
  · have e0 : ow2 j = [] := h.out j (by omega)
    rw [e0]
    have e1 : (xs ++ dds.map A.sh)[j]? = (dds[j - xs.length]?).map .sh := by
      rw [List.getElem?_append_right (by omega), List.getElem?_map]
    have e2 : ((vs ++ dvs).map some)[j]?.join = dvs[j - xs.length]? := by
      rw [List.getElem?_map, List.getElem?_append_right (by rw [h.len]; omega), h.len]
      cases dvs[j - xs.length]? <;> rfl
    rw [e1, e2]
    cases q : dds[j - xs.length]? with
    | none => exact rfl
    | some d =>
      obtain ⟨w, hw, rw'⟩ := hd.get q
      exact ⟨rfl, w, hw, rw'⟩
theorem outs_ok {F' H' : Hp} {vs' : List V} {outs : List A} {own' : Ow} (p' : Pt M vs' F' H' (vs'.map some) (parS 0 outs) own') : ∀ (l : List V1) (os : List A) (m : Nat) (ρ : Env) (own1 : Ow), os = outs.drop m → Pt M av F' H' σ ρ own1 →
    (∀ j i k o, l[j]? = some (.io i k o) → ∃ v, vs'[m + j]? = some v ∧ σ[i]?.join = some v ∧ (k = 0 ∨ av[k - 1]? = some v)) → (∀ x j, m ≤ j → x ∈ own' j → ¬ In own1 x) →
    ∃ own2, Pt M av F' H' σ (back l os ρ) own2 ∧ ∀ x, In own2 x → In own1 x ∨ ∃ j, m ≤ j ∧ x ∈ own' j
  | [], os, m, ρ, own1, _, p, _, _ => by
    refine ⟨own1, ?_, fun x h => .inl h⟩
    cases os <;> exact p
  | u :: l, [], m, ρ, own1, _, p, _, _ => ⟨own1, by cases u <;> exact p, fun x h => .inl h⟩
  | .sh d :: l, a :: os, m, ρ, own1, ho, p, hl, hd => by
    have ho' : os = outs.drop (m + 1) := by
      have := congrArg List.tail ho
      simpa using this
    obtain ⟨own2, q1, q2⟩ := outs_ok p' l os (m + 1) ρ own1 ho' p (fun j i k o h => by
      obtain ⟨v, h1, h2⟩ := hl (j + 1) i k o (by simpa using h)
      exact ⟨v, by rw [← h1]; congr 1; omega, h2⟩) fun x j hj => hd x j (by omega)
    exact ⟨own2, by cases a <;> exact q1, fun x h => (q2 x h).imp id fun ⟨j, hj, mj⟩ => ⟨j, by omega, mj⟩⟩
  | .io i k o :: l, a :: os, m, ρ, own1, ho, p, hl, hd => by
    have ho' : os = outs.drop (m + 1) := by
      have := congrArg List.tail ho
      simpa using this
    have hl' : ∀ j i k o, l[j]? = some (.io i k o) → ∃ v, vs'[m + 1 + j]? = some v ∧ σ[i]?.join = some v ∧ (k = 0 ∨ av[k - 1]? = some v) := fun j i k o h => by
      obtain ⟨v, h1, h2⟩ := hl (j + 1) i k o (by simpa using h)
      exact ⟨v, by rw [← h1]; congr 1; omega, h2⟩
    cases a with
    | sh d =>
      obtain ⟨own2, q1, q2⟩ := outs_ok p' l os (m + 1) ρ own1 ho' p hl' fun x j hj => hd x j (by omega)
      exact ⟨own2, q1, fun x h => (q2 x h).imp id fun ⟨j, hj, mj⟩ => ⟨j, by omega, mj⟩⟩
    | un =>
      obtain ⟨own2, q1, q2⟩ := outs_ok p' l os (m + 1) ρ own1 ho' p hl' fun x j hj => hd x j (by omega)
      exact ⟨own2, q1, fun x h => (q2 x h).imp id fun ⟨j, hj, mj⟩ => ⟨j, by omega, mj⟩⟩
    | ow o' =>
      obtain ⟨v, hv, hσ, ht⟩ := hl 0 i k o rfl
      have eo : outs[m]? = some (.ow o') := by
        have h0 : (outs.drop m)[0]? = some (.ow o') := by rw [← ho]; rfl
        rw [List.getElem?_drop] at h0
        simpa using h0
      have s := p'.sl m
      rw [parS_at, eo] at s
      obtain ⟨v', e', r', _⟩ := s
      have hv : vs'[m]? = some v := by simpa using hv
      have ev : v' = v := by
        rw [List.getElem?_map, hv] at e'
        exact (Option.some.inj e').symm
      subst ev
      have p1 := p.put' (i := i) (s := .ow k o') (as := own' m) (slot_of hσ) ⟨v', rfl, r', ht⟩ (p'.nd m) (fun x mx j hj z => hd x m (Nat.le_refl _) mx ⟨j, z⟩) fun x mx => p'.fr m x mx
      obtain ⟨own2, q1, q2⟩ := outs_ok p' l os (m + 1) _ _ ho' p1 hl' fun x j hj mx z => by
        rcases z.put with z | z
        · have := p'.dj m j x z mx
          omega
        · exact hd x j (by omega) mx z
      refine ⟨own2, q1, fun x h => ?_⟩
      rcases q2 x h with z | ⟨j, hj, mj⟩
      · exact z.put.elim (fun y => .inr ⟨m, Nat.le_refl _, y⟩) .inl
      · exact .inr ⟨j, by omega, mj⟩
/-- growth of a call, seen from the caller -/
theorem Gr.caller {F' H' : Hp} {own1 ow2 own2 own' : Ow} (g : Gr false F H (In ow2) F' H' (In own')) (ho : ∀ x, In own x ↔ In own1 x ∨ In ow2 x) (hb : b = false ∨ ∀ x, ¬ In ow2 x) (h2 : ∀ x, In own2 x → In own1 x ∨ In own' x) :
    Gr b F H (In own) F' H' (In own2) where
  ff := g.ff
  hh := fun a o e n => g.hh a o e (.inr fun z => hb.elim (fun y => n.elim (fun w => by rw [y] at w; cases w) fun w => w ((ho a).mpr (.inr z))) fun y => y a z)
  nf := fun a e => (g.nf a e).imp id fun q => q.imp id fun z => (ho a).mpr (.inr z)
  lv := g.lv
  ow := fun a e => (h2 a e).elim (fun z => .inl ((ho a).mpr (.inl z))) fun z => (g.ow a z).imp (fun y => (ho a).mpr (.inr y)) id
theorem Pt.caller {F' H' : Hp} {own1 ow2 own' : Ow} (p : Pt M av F H σ ρ own1) (g : Gr false F H (In ow2) F' H' (In own')) (s : Sb F' H') (hd : ∀ x, In ow2 x → ¬ In own1 x) : Pt M av F' H' σ ρ own1 :=
  p.grown g.ff (fun a m u e => g.hh a u e (.inr fun z => hd a z m)) s fun a m => g.keepN (let ⟨i, mi⟩ := m; p.fr i a mi) (p.there m) fun z => hd a z m
theorem no_xd {own2 : Ow} (p : Pt M av F H σ ρ own2) {dx : Addr} {fs : List (PySem.Str × V)} (h : H dx = some (.xd fs)) : ¬ In own2 dx := fun ⟨j, m⟩ => owned_xd (p.sl j) m h
theorem drop_pad {n : Nat} {f : Nat} {i : FI} (mk : MOk M) (hi : M.fi f = some i) (l : Nat) : ∀ F, Reps M F (i.dv.drop (i.dv.length + l - n)) ((M.T.dfl f).drop ((M.T.dfl f).length + l - n)) := fun F => by
  have h := mk.dvr f i hi F
  rw [← h.length]
  exact h.drop _
theorem pad_len {f n : Nat} {xs : List A} : (pad M.T f n xs).length = xs.length + ((M.T.dfl f).length - ((M.T.dfl f).length + xs.length - n)) := by
  unfold pad
  rw [List.length_append, List.length_map, List.length_drop]
theorem env0_of (ok : Ok M X) {pins : List (Addr × Obj)} {s : Shared} (I : Inv X pins σ H s) : Env0 X.prog X.w M.K M.mg X.base X.A X.stack s H := by
  have e := I.env0
  rw [ok.K, ok.mg] at e
  exact e
theorem kin_of (ok : Ok M X) {pins : List (Addr × Obj)} {s : Shared} (I : Inv X pins σ H s) : M.K.In s.heap := by
  have := I.kIn; rw [ok.K] at this; exact this
theorem Vals_drop : ∀ {vs : List V} {us : List Value}, Vals vs us → ∀ n, Vals (vs.drop n) (us.drop n)
  | _, _, r, 0 => r
  | _, _, .nil, _ + 1 => .nil
  | _, _, .cons h r, n + 1 => Vals_drop r n
/-- a call of the def f -/
theorem callE_run (ok : Ok M X) (mk : MOk M) (hΦ : Fns M Φ k X.prog X.w X.base) (hr : Room k X.A) (tk : L2N.Takes X W) {f : Nat} {i : FI} (hi : M.fi f = some i) {pins : List (Addr × Obj)} {s : Shared} {Q : VK} {us : List Value} {vs : List V} {l : List V1} {own1 ow2 : Ow}
    (I : Inv X pins σ H s) (r : Vals vs us) (pt : Pt M av F H σ ρ own1) (va : Vas M F H av σ own1 l vs ow2) (ho : ∀ x, In own x ↔ In own1 x ∨ In ow2 x) (hb : b = false ∨ ∀ x, ¬ In ow2 x)
    (q : QR b M av W σ (rE M av σ) F H (In own) (callE M.T Φ f i.ps.length l ρ) Q) : wpAny (model X.prog X.w) X.A (call (.ref i.adr) us) (EP X pins σ Q) X.xe s := by
  have G := hΦ f i hi
  unfold callE at q
  by_cases hn : (pad M.T f i.ps.length (l.map V1.a)).length = i.ps.length
  · rw [if_pos hn] at q
    have ed : i.dv.length = (M.T.dfl f).length := (mk.dvr f i hi F).length
    have hj : ∀ n, (M.T.dfl f).length + n - i.ps.length = i.dv.length + n - i.ps.length := fun n => by rw [ed]
    obtain ⟨ds, rD, bd⟩ := mk.bdD f i hi (i.dv.length + l.length - i.ps.length)
    have hlen : (vs ++ i.dv.drop (i.dv.length + l.length - i.ps.length)).length = i.ps.length := by
      rw [pad_len, List.length_map] at hn
      rw [List.length_append, List.length_drop, va.len, ed]
      exact hn
    have hsp : spF M Φ f i.ps.length (vs ++ i.dv.drop (i.dv.length + l.length - i.ps.length)) H Q (WE W σ) := by
      refine ⟨hlen, pad M.T f i.ps.length (l.map V1.a), F, ow2, ?_, ?_⟩
      · have := Pt.pars pt.sub va.aas (drop_pad mk hi (n := i.ps.length) l.length F)
        unfold pad
        rw [List.length_map]
        exact this
      · cases e : Φ f (pad M.T f i.ps.length (l.map V1.a)) with
        | bad => rw [e] at q; exact q
        | okN o outs => rw [e] at q; exact q.elim
        | ok d outs =>
          rw [e] at q
          intro v F' H' own' g p' rv
          have p1 := pt.caller g p'.sub fun x ⟨j, m⟩ => (va.fr j x m).1
          obtain ⟨own2, p2, h2⟩ := outs_ok p' l outs 0 ρ own1 rfl p1 (fun j i' k' o h => by
            obtain ⟨w, h1, h2⟩ := va.at_ j _ h
            cases h2 with
            | io e r t => exact ⟨w, by rw [Nat.zero_add, List.getElem?_append_left (by rw [va.len]; exact (List.getElem?_eq_some_iff.mp h).1), h1], e, t⟩) fun x j _ m z => (g.ow x ⟨j, m⟩).elim (fun ⟨j', m'⟩ => (va.fr j' x m').1 z) fun y => pt.there z y
          exact q v F' H' own2 (g.caller ho hb fun x m => (h2 x m).imp id fun ⟨j, _, y⟩ => ⟨j, y⟩) ⟨p2, rv⟩
        | exc c es2 outs =>
          rw [e] at q
          intro F' H' own' C dx ws g p' hc hx hf hnx rw'
          have p1 := pt.caller g p'.sub fun x ⟨j, m⟩ => (va.fr j x m).1
          obtain ⟨own2, p2, h2⟩ := outs_ok p' l outs 0 ρ own1 rfl p1 (fun j i' k' o h => by
            obtain ⟨w, h1, h2⟩ := va.at_ j _ h
            cases h2 with
            | io e r t => exact ⟨w, by rw [Nat.zero_add, List.getElem?_append_left (by rw [va.len]; exact (List.getElem?_eq_some_iff.mp h).1), h1], e, t⟩) fun x j _ m z => (g.ow x ⟨j, m⟩).elim (fun ⟨j', m'⟩ => (va.fr j' x m').1 z) fun y => pt.there z y
          exact q F' H' own2 C dx ws (g.caller ho hb fun x m => (h2 x m).imp id fun ⟨j, _, y⟩ => ⟨j, y⟩) p2 hc hx hf (no_xd p2 hx) rw'
    have r2 := r.append rD
    have kin := kin_of ok I
    refine wpAny_call (codeAny_mono (G.run X.A X.stack s H ⟨us, []⟩ _ _ Q (WE W σ) hr (env0_of ok I) (bd s us kin (by rw [← r2.length]; exact hlen)) r2 hsp) fun r s' hq => ?_)
    cases r with
    | error e => exact L2N.passAt tk σ pins H s e s' I hq
    | ok fl =>
      cases fl with
      | ret u => exact I.after hq
      | next => exact False.elim hq
      | brk => exact False.elim hq
      | cont => exact False.elim hq
  · rw [if_neg hn] at q; exact q.elim
/-- a call of the def f; its result the caller's own -/
theorem callNE_run (ok : Ok M X) (mk : MOk M) (hΦ : Fns M Φ k X.prog X.w X.base) (hr : Room k X.A) (tk : L2N.Takes X W) {f : Nat} {i : FI} (hi : M.fi f = some i) {pins : List (Addr × Obj)} {s : Shared} {Q : VK} {us : List Value} {vs : List V} {l : List V1} {own1 ow2 : Ow}
    (I : Inv X pins σ H s) (r : Vals vs us) (pt : Pt M av F H σ ρ own1) (va : Vas M F H av σ own1 l vs ow2) (ho : ∀ x, In own x ↔ In own1 x ∨ In ow2 x) (hb : b = false ∨ ∀ x, ¬ In ow2 x)
    (q : QR b M av W σ (rN M av σ) F H (In own) (callNE M.T Φ f i.ps.length l ρ) Q) : wpAny (model X.prog X.w) X.A (call (.ref i.adr) us) (EP X pins σ Q) X.xe s := by
  have G := hΦ f i hi
  unfold callNE at q
  by_cases hn : (pad M.T f i.ps.length (l.map V1.a)).length = i.ps.length
  · rw [if_pos hn] at q
    have ed : i.dv.length = (M.T.dfl f).length := (mk.dvr f i hi F).length
    have hj : ∀ n, (M.T.dfl f).length + n - i.ps.length = i.dv.length + n - i.ps.length := fun n => by rw [ed]
    obtain ⟨ds, rD, bd⟩ := mk.bdD f i hi (i.dv.length + l.length - i.ps.length)
    have hlen : (vs ++ i.dv.drop (i.dv.length + l.length - i.ps.length)).length = i.ps.length := by
      rw [pad_len, List.length_map] at hn
      rw [List.length_append, List.length_drop, va.len, ed]
      exact hn
    have hsp : spF M Φ f i.ps.length (vs ++ i.dv.drop (i.dv.length + l.length - i.ps.length)) H Q (WE W σ) := by
      refine ⟨hlen, pad M.T f i.ps.length (l.map V1.a), F, ow2, ?_, ?_⟩
      · have := Pt.pars pt.sub va.aas (drop_pad mk hi (n := i.ps.length) l.length F)
        unfold pad
        rw [List.length_map]
        exact this
      · cases e : Φ f (pad M.T f i.ps.length (l.map V1.a)) with
        | bad => rw [e] at q; exact q
        | okN o outs =>
          rw [e] at q
          intro v F' H' own' ownc as g p' rv nd fr hio
          have p1 := pt.caller g p'.sub fun x ⟨j, m⟩ => (va.fr j x m).1
          have nin : ∀ x, In own' x → In own1 x → False := fun x m z => (g.ow x m).elim (fun ⟨j', m'⟩ => (va.fr j' x m').1 z) fun y => pt.there z y
          obtain ⟨own2, p2, h2⟩ := outs_ok p' l outs 0 ρ own1 rfl p1 (fun j i' k' o h => by
            obtain ⟨w, h1, h2⟩ := va.at_ j _ h
            cases h2 with
            | io e r t => exact ⟨w, by rw [Nat.zero_add, List.getElem?_append_left (by rw [va.len]; exact (List.getElem?_eq_some_iff.mp h).1), h1], e, t⟩) fun x j _ m z => nin x ((hio x).mpr (.inl ⟨j, m⟩)) z
          refine q v F' H' (addOw own2 as) (g.caller ho hb fun x m => ?_) ⟨own2, as, p2, rv, nd, fun x m => ⟨fun z => ?_, (fr x m).2⟩, fun x => In.add⟩
          · rcases In.add.mp m with m | m
            · exact (h2 x m).imp id fun ⟨j, _, y⟩ => (hio x).mpr (.inl ⟨j, y⟩)
            · exact .inr ((hio x).mpr (.inr m))
          · rcases h2 x z with y | ⟨j, _, y⟩
            · exact nin x ((hio x).mpr (.inr m)) y
            · exact (fr x m).1 ⟨j, y⟩
        | ok d outs =>
          rw [e] at q
          intro v F' H' own' g p' rv
          have p1 := pt.caller g p'.sub fun x ⟨j, m⟩ => (va.fr j x m).1
          obtain ⟨own2, p2, h2⟩ := outs_ok p' l outs 0 ρ own1 rfl p1 (fun j i' k' o h => by
            obtain ⟨w, h1, h2⟩ := va.at_ j _ h
            cases h2 with
            | io e r t => exact ⟨w, by rw [Nat.zero_add, List.getElem?_append_left (by rw [va.len]; exact (List.getElem?_eq_some_iff.mp h).1), h1], e, t⟩) fun x j _ m z => (g.ow x ⟨j, m⟩).elim (fun ⟨j', m'⟩ => (va.fr j' x m').1 z) fun y => pt.there z y
          exact q v F' H' own2 (g.caller ho hb fun x m => (h2 x m).imp id fun ⟨j, _, y⟩ => ⟨j, y⟩) ⟨own2, [], p2, .lf rv, List.nodup_nil, (fun _ m => nomatch m), fun x => ⟨.inl, fun z => z.elim id fun m => nomatch m⟩⟩
        | exc c es2 outs =>
          rw [e] at q
          intro F' H' own' C dx ws g p' hc hx hf hnx rw'
          have p1 := pt.caller g p'.sub fun x ⟨j, m⟩ => (va.fr j x m).1
          obtain ⟨own2, p2, h2⟩ := outs_ok p' l outs 0 ρ own1 rfl p1 (fun j i' k' o h => by
            obtain ⟨w, h1, h2⟩ := va.at_ j _ h
            cases h2 with
            | io e r t => exact ⟨w, by rw [Nat.zero_add, List.getElem?_append_left (by rw [va.len]; exact (List.getElem?_eq_some_iff.mp h).1), h1], e, t⟩) fun x j _ m z => (g.ow x ⟨j, m⟩).elim (fun ⟨j', m'⟩ => (va.fr j' x m').1 z) fun y => pt.there z y
          exact q F' H' own2 C dx ws (g.caller ho hb fun x m => (h2 x m).imp id fun ⟨j, _, y⟩ => ⟨j, y⟩) p2 hc hx hf (no_xd p2 hx) rw'
    have r2 := r.append rD
    have kin := kin_of ok I
    refine wpAny_call (codeAny_mono (G.run X.A X.stack s H ⟨us, []⟩ _ _ Q (WE W σ) hr (env0_of ok I) (bd s us kin (by rw [← r2.length]; exact hlen)) r2 hsp) fun r s' hq => ?_)
    cases r with
    | error e => exact L2N.passAt tk σ pins H s e s' I hq
    | ok fl =>
      cases fl with
      | ret u => exact I.after hq
      | next => exact False.elim hq
      | brk => exact False.elim hq
      | cont => exact False.elim hq
  · rw [if_neg hn] at q; exact q.elim
end
end RF
end

section
set_option Elab.async false
set_option linter.all false
set_option autoImplicit false
set_option maxRecDepth 100000
set_option maxHeartbeats 1000000
/-! RfU: calls by name, of a class, of a method. -/
namespace RF
open PySem L2
open PyProof.Rows hiding St
def As.noIo : As → Bool
  | .nil => true
  | .sh _ r => r.noIo
  | .io _ _ => false
section
variable {b : Bool} {M : Mach} {av : List V} {W : WX} {X : Cx} {F H : Hp} {σ : L2.St} {ρ : Env} {own : Ow} {Φ : Fn} {k : Nat} {e a1 a2 a3 : Expr} {es : List Expr} {pos p2 : Pos}
theorem QR.bindQ {α β γ δ : Type} {Rl : Hp → Hp → Ow → α → β → Prop} {Rl' : Hp → Hp → Ow → γ → δ → Prop} {P : Addr → Prop} {r : R α} {f : α → R γ} {Q : β → Hp → Prop} {Q' : δ → Hp → Prop} (h : QR b M av W σ Rl' F H P (r.bind f) Q')
    (k : ∀ a y F1 H1 own1, r = .ok a → Gr b F H P F1 H1 (In own1) → Rl F1 H1 own1 a y → QR b M av W σ Rl' F1 H1 (In own1) (f a) Q' → Q y H1) : QR b M av W σ Rl F H P r Q := by
  cases r with
  | ok a => exact fun y F1 H1 own1 g rl => k a y F1 H1 own1 rfl g rl (QR.step g h)
  | exc c es ρ' => exact h
  | bad => exact h
theorem noIo_sh {T : Tb} : ∀ {as : As} {ρ : Env} {r : List V1 × Env}, as.noIo = true → evAs T Φ as ρ = .ok r → ∀ (j i k : Nat) (o : O), r.1[j]? ≠ some (V1.io i k o)
  | .nil, ρ, r, _, h => by unfold evAs at h; cases h; intro j i k o z; simp at z
  | .sh x q, ρ, r, hn, h => by
    unfold evAs at h
    cases h1 : evE T Φ x ρ with
    | ok a =>
      rw [h1] at h
      have h : (evAs T Φ q a.2).bind (fun s => R.ok (V1.sh a.1 :: s.1, s.2)) = .ok r := h
      cases h2 : evAs T Φ q a.2 with
      | ok s =>
        rw [h2] at h
        have h : R.ok (V1.sh a.1 :: s.1, s.2) = .ok r := h
        cases h
        intro j i k o z
        cases j with
        | zero => cases z
        | succ j => exact noIo_sh (as := q) hn h2 j i k o (by simpa using z)
      | exc _ _ _ => rw [h2] at h; cases h
      | bad => rw [h2] at h; cases h
    | exc _ _ _ => rw [h1] at h; cases h
    | bad => rw [h1] at h; cases h
  | .io _ _, _, _, hn, _ => nomatch hn
theorem Vas.noOw {own1 ow2 : Ow} {l : List V1} {vs : List V} (va : Vas M F H av σ own1 l vs ow2) (h : ∀ (j i k : Nat) (o : O), l[j]? ≠ some (V1.io i k o)) : ∀ x, ¬ In ow2 x := fun x ⟨j, m⟩ => by
  by_cases hj : j < l.length
  · have hu : l[j]? = some l[j] := List.getElem?_eq_getElem hj
    obtain ⟨v, hv, r⟩ := va.at_ j _ hu
    have hx := h j
    rw [hu] at hx
    generalize l[j] = u at r hx
    generalize ow2 j = as at r m
    cases r with
    | sh r => cases m
    | io e r t => exact hx _ _ _ rfl
  · rw [va.out j (by omega)] at m; cases m
theorem lookup_none (mk : MOk M) {c m f n : Nat} {fa : List (PySem.Str × V)} (hf : M.T.meth c m = some f) (h : fa.map (·.1) = ((M.T.fld c).take n).map M.nm) : fa.lookup (M.mn m) = none := by
  refine no_lookup fun z => ?_
  rw [h] at z
  obtain ⟨g, mg, eg⟩ := List.mem_map.mp z
  exact mk.nf c m f hf g (List.mem_of_mem_take mg) eg
theorem sE_call (ok : Ok M X) (mk : MOk M) (hΦ : Fns M Φ k X.prog X.w X.base) (hr : Room k X.A) (tk : L2N.Takes X W) {f n : Nat} {i : FI} {x : PySem.Str} {as : As} (hi : M.fi f = some i) (hn : n = i.ps.length) (hg : Gl X x) (hm : M.mg x = some (.ref i.adr)) (hdb : (x == ("__debug__" : PySem.Str)) = false)
    (hb : b = false ∨ as.noIo = true) (ha : PA X (e :: es) (tAs b M av W (evAs M.T Φ as))) (he : starEach (e :: es) X.env = (false, eval e X.env) :: starEach es X.env) (hpl : (backTo pos (starEach es X.env)).any (·.1) = false) :
    PE X (.Call (.Name x p2) (e :: es) [] pos) (tE b M av W (evE M.T Φ (.call f n as))) := by
  refine ⟨fun pins s σ H Q I ⟨ρ, F, own, pt, q⟩ => ?_⟩
  unfold evE at q
  refine wpAny_Call_Name_kw (ld_glob I hg (by rw [ok.mg]; exact hm) ?_ hdb)
  refine PySem.W.callWith_K (h₀ := X.base) I.ok.mod.kin (by rw [ok.K]; exact mk.kp f i hi) (thn (ha.run pos pins s σ H (fun vs H1 => ∃ l ρ1 F1 own own1 ow2, Pt M av F1 H1 σ ρ1 own1 ∧ Vas M F1 H1 av σ own1 l vs ow2 ∧ (∀ x, In own x ↔ In own1 x ∨ In ow2 x) ∧ (b = false ∨ ∀ x, ¬ In ow2 x) ∧
    QR b M av W σ (rE M av σ) F1 H1 (In own) (callE M.T Φ f n l ρ1) Q) I ⟨ρ, F, own, pt, q.bindQ fun r vs F1 H1 own1 er g ⟨own2, ow2, p1, va, ho⟩ q1 => ⟨r.1, r.2, F1, own1, own2, ow2, p1, va, ho, hb.imp id fun z => va.noOw (noIo_sh z er), q1⟩⟩) fun us s1 ⟨vs, H1, I1, r, l, ρ1, F1, own, own1, ow2, p1, va, ho, hb, q⟩ => ⟨I1.kIn, ?_⟩) he hpl
  subst hn
  exact callE_run ok mk hΦ hr tk hi I1 r p1 va ho hb q
theorem sE_call0 (ok : Ok M X) (mk : MOk M) (hΦ : Fns M Φ k X.prog X.w X.base) (hr : Room k X.A) (tk : L2N.Takes X W) {f n : Nat} {i : FI} {x : PySem.Str} (hi : M.fi f = some i) (hn : n = i.ps.length) (hg : Gl X x) (hm : M.mg x = some (.ref i.adr)) (hdb : (x == ("__debug__" : PySem.Str)) = false) :
    PE X (.Call (.Name x p2) [] [] pos) (tE b M av W (evE M.T Φ (.call f n .nil))) := by
  refine ⟨fun pins s σ H Q I ⟨ρ, F, own, pt, q⟩ => ?_⟩
  unfold evE evAs at q
  refine wpAny_Call_Name_kw (ld_glob I hg (by rw [ok.mg]; exact hm) ?_ hdb)
  refine PySem.W.callWith_K0 I.kIn (by rw [ok.K]; exact mk.kp f i hi) ?_
  subst hn
  exact callE_run (us := []) (vs := []) (ow2 := fun _ => []) ok mk hΦ hr tk hi I .nil pt Vas.nil (fun x => ⟨.inl, fun z => z.elim id fun ⟨_, m⟩ => nomatch m⟩) (.inr fun x ⟨_, m⟩ => nomatch m) q

theorem sN_call (ok : Ok M X) (mk : MOk M) (hΦ : Fns M Φ k X.prog X.w X.base) (hr : Room k X.A) (tk : L2N.Takes X W) {f n : Nat} {i : FI} {x : PySem.Str} {as : As} (hi : M.fi f = some i) (hn : n = i.ps.length) (hg : Gl X x) (hm : M.mg x = some (.ref i.adr)) (hdb : (x == ("__debug__" : PySem.Str)) = false)
    (hb : b = false ∨ as.noIo = true) (ha : PA X (e :: es) (tAs b M av W (evAs M.T Φ as))) (he : starEach (e :: es) X.env = (false, eval e X.env) :: starEach es X.env) (hpl : (backTo pos (starEach es X.env)).any (·.1) = false) :
    PE X (.Call (.Name x p2) (e :: es) [] pos) (tN b M av W (evN M.T Φ (.call f n as))) := by
  refine ⟨fun pins s σ H Q I ⟨ρ, F, own, pt, q⟩ => ?_⟩
  unfold evN at q
  refine wpAny_Call_Name_kw (ld_glob I hg (by rw [ok.mg]; exact hm) ?_ hdb)
  refine PySem.W.callWith_K (h₀ := X.base) I.ok.mod.kin (by rw [ok.K]; exact mk.kp f i hi) (thn (ha.run pos pins s σ H (fun vs H1 => ∃ l ρ1 F1 own own1 ow2, Pt M av F1 H1 σ ρ1 own1 ∧ Vas M F1 H1 av σ own1 l vs ow2 ∧ (∀ x, In own x ↔ In own1 x ∨ In ow2 x) ∧ (b = false ∨ ∀ x, ¬ In ow2 x) ∧
    QR b M av W σ (rN M av σ) F1 H1 (In own) (callNE M.T Φ f n l ρ1) Q) I ⟨ρ, F, own, pt, q.bindQ fun r vs F1 H1 own1 er g ⟨own2, ow2, p1, va, ho⟩ q1 => ⟨r.1, r.2, F1, own1, own2, ow2, p1, va, ho, hb.imp id fun z => va.noOw (noIo_sh z er), q1⟩⟩) fun us s1 ⟨vs, H1, I1, r, l, ρ1, F1, own, own1, ow2, p1, va, ho, hb, q⟩ => ⟨I1.kIn, ?_⟩) he hpl
  subst hn
  exact callNE_run ok mk hΦ hr tk hi I1 r p1 va ho hb q
theorem sN_call0 (ok : Ok M X) (mk : MOk M) (hΦ : Fns M Φ k X.prog X.w X.base) (hr : Room k X.A) (tk : L2N.Takes X W) {f n : Nat} {i : FI} {x : PySem.Str} (hi : M.fi f = some i) (hn : n = i.ps.length) (hg : Gl X x) (hm : M.mg x = some (.ref i.adr)) (hdb : (x == ("__debug__" : PySem.Str)) = false) :
    PE X (.Call (.Name x p2) [] [] pos) (tN b M av W (evN M.T Φ (.call f n .nil))) := by
  refine ⟨fun pins s σ H Q I ⟨ρ, F, own, pt, q⟩ => ?_⟩
  unfold evN evAs at q
  refine wpAny_Call_Name_kw (ld_glob I hg (by rw [ok.mg]; exact hm) ?_ hdb)
  refine PySem.W.callWith_K0 I.kIn (by rw [ok.K]; exact mk.kp f i hi) ?_
  subst hn
  exact callNE_run (us := []) (vs := []) (ow2 := fun _ => []) ok mk hΦ hr tk hi I .nil pt Vas.nil (fun x => ⟨.inl, fun z => z.elim id fun ⟨_, m⟩ => nomatch m⟩) (.inr fun x ⟨_, m⟩ => nomatch m) q

/-- a name's own tree is given away -/
theorem sN_mv {i : Nat} {x : PySem.Str} (hN : X.N[i]? = some x) (hv : Vis X.env.scope x) (hd : (x == ("__debug__" : PySem.Str)) = false) (hcd : (x == ("__classdict__" : PySem.Str)) = false) :
    PE X (.Name x pos) (tN b M av W (evN M.T Φ (.mv i))) := by
  refine imE (pe_var hN hv hd hcd) fun σ H Q ⟨ρ, F, own, pt, q⟩ => ?_
  have h := pt.sl i
  unfold evN at q
  cases e : ρ.at i with
  | un => rw [e] at q; exact q.elim
  | sh d => rw [e] at q; exact q.elim
  | ow k o =>
    rw [e] at q h
    obtain ⟨v, e1, r, _⟩ := h
    cases k with
    | succ k => exact q.elim
    | zero =>
      refine ⟨v, slot_of e1, q v F H own Gr.rfl' ⟨fun j => if j = i then [] else own j, own i, pt.un, r, pt.nd i, fun a m => ⟨fun ⟨j, z⟩ => ?_, pt.fr i a m⟩, fun a => ⟨fun ⟨j, z⟩ => ?_, fun z => z.elim In.un fun m => ⟨i, m⟩⟩⟩⟩
      · have z : a ∈ (if j = i then [] else own j) := z
        by_cases ej : j = i
        · rw [if_pos ej] at z; cases z
        · rw [if_neg ej] at z; exact ej (pt.dj j i a z m)
      · by_cases ej : j = i
        · subst ej; exact .inr z
        · refine .inl ⟨j, ?_⟩
          show a ∈ (if j = i then [] else own j)
          rw [if_neg ej]; exact z
/-! ### methods -/
theorem sE_meth {pl : Sem Bool} (ok : Ok M X) (mk : MOk M) (hΦ : Fns M Φ k X.prog X.w X.base) (hr : Room k X.A) (tk : L2N.Takes X W) {y : Ex} {m n : Nat} {nm : PySem.Str} {as : As} {apos : Pos} (hnm : M.mn m = nm) (hn : ∀ c f i, M.T.meth c m = some f → M.fi f = some i → n = i.ps.length)
    (hb : b = false ∨ as.noIo = true) (ho : PE X a1 (tE b M av W (evE M.T Φ y))) (ha : PA X (e :: es) (tAs b M av W (evAs M.T Φ as))) (he : starEach (e :: es) X.env = (false, eval e X.env) :: starEach es X.env) (hpl : (backTo pos (starEach es X.env)).any (·.1) = false)
    (ht : eval (.Call (.Attribute a1 nm apos) (e :: es) [] pos) X.env = (do
      let ov ← eval a1 X.env
      standAt apos.atName
      let (f, first) ← holding [ov] (getMethod ov nm pl)
      callWith pos f first (backTo pos (starEach (e :: es) X.env)) (backToKw pos (keywordEach [] X.env)))) :
    PE X (.Call (.Attribute a1 nm apos) (e :: es) [] pos) (tE b M av W (evE M.T Φ (.meth y m n as))) := by
  refine ⟨fun pins s σ H Q I ⟨ρ, F, own, pt, q⟩ => ?_⟩
  unfold evE at q
  refine PySem.W.methodCall_KW (pl := pl) (thn (ho.run pins s σ H (fun v H1 => ∃ d ρ1 F1 own1, Pt M av F1 H1 σ ρ1 own1 ∧ Rep M F1 v d ∧ QR b M av W σ (rE M av σ) F1 H1 (In own1) (match d with
      | .obj c fs => match M.T.meth c m with
        | some f => (evAs M.T Φ as ρ1).bind fun s => callE M.T Φ f n (.sh (.obj c fs) :: s.1) s.2
        | none => .bad
      | _ => .bad) Q) I ⟨ρ, F, own, pt, q.bind fun r v F1 H1 own1 g ⟨p1, r1⟩ q1 => ⟨r.1, r.2, F1, own1, p1, r1, q1⟩⟩) fun u s1 ⟨v, H1, I1, rv, d, ρ1, F1, own1, p1, rd, q1⟩ => ?_) ht
  split at q1
  · rename_i c fs
    split at q1
    · rename_i f hf
      obtain ⟨a, C, dx, fa, e1, h2, hC, hl⟩ := rd.objv
      subst e1
      obtain rfl : u = Value.ref a := rv
      obtain ⟨i, hi, me⟩ := meth_ok mk hf hC
      rw [hnm] at me
      have hlk : fa.lookup nm = none := by rw [← hnm]; exact lookup_none mk hf hl.2.1
      refine getmeth_ok I1 (p1.sub _ _ h2) (by rw [ok.K]; exact mk.cl c C hC) (by rw [ok.K]; exact me) hlk ?_
      refine PySem.W.callWith_K (first := [.ref a]) (h₀ := X.base) I1.ok.mod.kin (by rw [ok.K]; exact mk.kp f i hi) (thn (ha.run pos pins s1 σ H1 (fun vs H2 => ∃ l ρ1 F1 own own1 ow2, Rep M F1 (.ref a) (.obj c fs) ∧ Pt M av F1 H2 σ ρ1 own1 ∧ Vas M F1 H2 av σ own1 l vs ow2 ∧ (∀ x, In own x ↔ In own1 x ∨ In ow2 x) ∧ (b = false ∨ ∀ x, ¬ In ow2 x) ∧
        QR b M av W σ (rE M av σ) F1 H2 (In own) (callE M.T Φ f n (.sh (.obj c fs) :: l) ρ1) Q) I1 ⟨ρ1, F1, own1, p1, q1.bindQ fun r vs F2 H2 own2 er g ⟨own3, ow2, p2, va, ho⟩ q2 => ⟨r.1, r.2, F2, own2, own3, ow2, rd.mono g.ff, p2, va, ho, hb.imp id fun z => va.noOw (noIo_sh z er), q2⟩⟩)
        fun us s2 ⟨vs, H2, I2, r, l, ρ2, F2, own2, own3, ow2, rd2, p2, va, ho, hb, q2⟩ => ⟨I2.kIn, ?_⟩) he hpl
      have e3 := hn c f i hf hi
      subst e3
      refine callE_run (us := .ref a :: us) (vs := .ref a :: vs) (ow2 := consO [] ow2) ok mk hΦ hr tk hi I2 (.cons rfl r) p2 (va.cons (.sh rd2) List.nodup_nil (fun _ m => nomatch m)) (fun x => ?_) (hb.imp id fun z x y => (In.cons.mp y).elim (fun m => nomatch m) (z x)) q2
      rw [ho x, In.cons]
      exact ⟨fun z => z.imp id .inr, fun z => z.imp id fun y => y.elim (fun m => nomatch m) id⟩
    · exact q1.elim
  · exact q1.elim
theorem sE_meth0 {pl : Sem Bool} (ok : Ok M X) (mk : MOk M) (hΦ : Fns M Φ k X.prog X.w X.base) (hr : Room k X.A) (tk : L2N.Takes X W) {y : Ex} {m n : Nat} {nm : PySem.Str} {apos : Pos} (hnm : M.mn m = nm) (hn : ∀ c f i, M.T.meth c m = some f → M.fi f = some i → n = i.ps.length)
    (ho : PE X a1 (tE b M av W (evE M.T Φ y)))
    (ht : eval (.Call (.Attribute a1 nm apos) [] [] pos) X.env = (do
      let ov ← eval a1 X.env
      standAt apos.atName
      let (f, first) ← holding [ov] (getMethod ov nm pl)
      callWith pos f first (backTo pos (starEach [] X.env)) (backToKw pos (keywordEach [] X.env)))) :
    PE X (.Call (.Attribute a1 nm apos) [] [] pos) (tE b M av W (evE M.T Φ (.meth y m n .nil))) := by
  refine ⟨fun pins s σ H Q I ⟨ρ, F, own, pt, q⟩ => ?_⟩
  unfold evE at q
  refine PySem.W.methodCall_KW (pl := pl) (thn (ho.run pins s σ H (fun v H1 => ∃ d ρ1 F1 own1, Pt M av F1 H1 σ ρ1 own1 ∧ Rep M F1 v d ∧ QR b M av W σ (rE M av σ) F1 H1 (In own1) (match d with
      | .obj c fs => match M.T.meth c m with
        | some f => (evAs M.T Φ .nil ρ1).bind fun s => callE M.T Φ f n (.sh (.obj c fs) :: s.1) s.2
        | none => .bad
      | _ => .bad) Q) I ⟨ρ, F, own, pt, q.bind fun r v F1 H1 own1 g ⟨p1, r1⟩ q1 => ⟨r.1, r.2, F1, own1, p1, r1, q1⟩⟩) fun u s1 ⟨v, H1, I1, rv, d, ρ1, F1, own1, p1, rd, q1⟩ => ?_) ht
  split at q1
  · rename_i c fs
    split at q1
    · rename_i f hf
      obtain ⟨a, C, dx, fa, e1, h2, hC, hl⟩ := rd.objv
      subst e1
      obtain rfl : u = Value.ref a := rv
      obtain ⟨i, hi, me⟩ := meth_ok mk hf hC
      rw [hnm] at me
      have hlk : fa.lookup nm = none := by rw [← hnm]; exact lookup_none mk hf hl.2.1
      refine getmeth_ok I1 (p1.sub _ _ h2) (by rw [ok.K]; exact mk.cl c C hC) (by rw [ok.K]; exact me) hlk ?_
      refine PySem.W.callWith_K0 (first := [.ref a]) I1.kIn (by rw [ok.K]; exact mk.kp f i hi) ?_
      have e3 := hn c f i hf hi
      subst e3
      unfold evAs at q1
      refine callE_run (us := [.ref a]) (vs := [.ref a]) (ow2 := consO [] fun _ => []) ok mk hΦ hr tk hi I1 (.cons rfl .nil) p1 (Vas.nil.cons (.sh rd) List.nodup_nil (fun _ m => nomatch m)) (fun x => ?_) (.inr fun x y => (In.cons.mp y).elim (fun m => nomatch m) fun ⟨_, m⟩ => nomatch m) q1
      rw [In.cons]
      exact ⟨.inl, fun z => z.elim id fun y => y.elim (fun m => nomatch m) fun ⟨_, m⟩ => nomatch m⟩
    · exact q1.elim
  · exact q1.elim

/-! ### a class called -/
/-- what is owned by as is frozen -/
theorem frz_set {v : V} {o : O} {as : List Addr} (p1 : Pt M av F H σ ρ own) (r1 : OwR M F H v o as) (fr : ∀ x ∈ as, ¬ In own x ∧ F x = none) : ∃ F', Sb F F' ∧ Pt M av F' H σ ρ own ∧ Rep M F' v o.frz ∧ ∀ a, F' a ≠ none → F a ≠ none ∨ a ∈ as := by
  have ff : Sb F (fun a => if a ∈ as then H a else F a) := fun a u ea => by
    have hn : a ∉ as := fun m => by rw [(fr a m).2] at ea; cases ea
    show (if a ∈ as then H a else F a) = some u
    rw [if_neg hn]; exact ea
  refine ⟨_, ff, ?_, r1.frz ff fun a m u ea => ?_, fun a ea => ?_⟩
  · refine p1.grown ff (fun _ _ _ z => z) (fun a u ea => ?_) fun a m => ?_
    · have ea : (if a ∈ as then H a else F a) = some u := ea
      by_cases m : a ∈ as
      · rw [if_pos m] at ea; exact ea
      · rw [if_neg m] at ea; exact p1.sub _ _ ea
    · show (if a ∈ as then H a else F a) = none
      rw [if_neg fun z => (fr a z).1 m]
      obtain ⟨i, m⟩ := m
      exact p1.fr i a m
  · show (if a ∈ as then H a else F a) = some u
    rw [if_pos m]; exact ea
  · have ea : (if a ∈ as then H a else F a) ≠ none := ea
    by_cases m : a ∈ as
    · exact .inr m
    · rw [if_neg m] at ea; exact .inl ea
theorem Pt.new' (p : Pt M av F H σ ρ own) {H' : Hp} (h : ∀ a u, H a = some u → H' a = some u) : Pt M av F H' σ ρ own :=
  p.grown Sb.rfl' (fun a m u e => h a u e) (fun a u e => h a u (p.sub a u e)) fun a ⟨i, m⟩ => p.fr i a m
theorem makeE_run (ok : Ok M X) (mk : MOk M) (hΦ : Fns M Φ k X.prog X.w X.base) (hr : Room (k + 1) X.A) (tk : L2N.Takes X W) {c : Nat} {f : Nat} {i : FI} {C : Addr} (hc : M.cls c = some C) (hf : M.T.init c = some f) (hi : M.fi f = some i) (mkC : Mk M.K C i.adr) {pins : List (Addr × Obj)} {s : Shared} {Q : VK} {us : List Value} {vs : List V} {l : List V1} {own1 ow2 : Ow}
    (I : Inv X pins σ H s) (r : Vals vs us) (pt : Pt M av F H σ ρ own1) (va : Vas M F H av σ own1 l vs ow2) (ho : ∀ x, In own x ↔ In own1 x ∨ In ow2 x) (hb : b = false ∨ ∀ x, ¬ In ow2 x)
    (q : QR b M av W σ (rE M av σ) F H (In own) (makeE M.T Φ c i.ps.length l ρ) Q) : wpAny (model X.prog X.w) X.A (call (.ref C) us) (EP X pins σ Q) X.xe s := by
  have G := hΦ f i hi
  unfold makeE at q
  rw [hf] at q
  have q : QR b M av W σ (rE M av σ) F H (In own) (if (pad M.T f i.ps.length (.ow (.obj c []) :: l.map V1.a)).length = i.ps.length then
      match Φ f (pad M.T f i.ps.length (.ow (.obj c []) :: l.map V1.a)) with
      | .ok .non (.ow o :: outs) => .ok (o.frz, back l outs ρ)
      | .exc c es (_ :: outs) => .exc c es (back l outs ρ)
      | _ => .bad
    else .bad) Q := q
  by_cases hn : (pad M.T f i.ps.length (A.ow (.obj c []) :: l.map V1.a)).length = i.ps.length
  · rw [if_pos hn] at q
    have ed : i.dv.length = (M.T.dfl f).length := (mk.dvr f i hi F).length
    obtain ⟨ds, rD, bd⟩ := mk.bdD f i hi (i.dv.length + (l.length + 1) - i.ps.length)
    generalize hdv : i.dv.drop (i.dv.length + (l.length + 1) - i.ps.length) = dvs at rD
    -- the new instance x and its dict dx
    have hx0 : H (s.heap.objs.size + 1) = none := I.hok.fresh (Nat.le_succ _)
    have hd0 : H s.heap.objs.size = none := I.hok.fresh (Nat.le_refl _)
    have hne : s.heap.objs.size ≠ s.heap.objs.size + 1 := Nat.ne_of_lt (Nat.lt_succ_self _)
    have I2 := Inv.made (C := C) I
    generalize hx : s.heap.objs.size + 1 = x at *
    generalize hdx : s.heap.objs.size = dx at *
    have kpH : ∀ a u, H a = some u → upd (upd H dx (.own x)) x (.ins C dx []) a = some u := fun a u e => by
      rw [upd_ne (ne_of_none e hx0), upd_ne (ne_of_none e hd0)]; exact e
    have p0 := pt.new' kpH
    have atx : upd (upd H dx (.own x)) x (.ins C dx []) x = some (.ins C dx []) := upd_same
    have nx1 : ¬ In own1 x := fun z => pt.there z hx0
    have there2 : ∀ a, In ow2 a → H a ≠ none := fun a ⟨j, m⟩ => by
      by_cases hj : j < l.length
      · have hu : l[j]? = some l[j] := List.getElem?_eq_getElem hj
        obtain ⟨v, hv, r⟩ := va.at_ j _ hu
        generalize l[j] = u at r
        generalize ow2 j = as at r m
        cases r with
        | sh r => cases m
        | io e r t => exact r.there a m
      · rw [va.out j (by omega)] at m; cases m
    have nx2 : ¬ In ow2 x := fun m => there2 x m hx0
    have rb : OwR M F (upd (upd H dx (.own x)) x (.ins C dx [])) (.ref x) (.obj c []) [x] := .obj atx hc (Nat.zero_le _) (by simp) .nil
    have aa0 : Aas M F (upd (upd H dx (.own x)) x (.ins C dx [])) own1 (l.map V1.a) vs ow2 := by
      have a1 := va.aas
      refine ⟨a1.len, fun j u h => ?_, a1.out, a1.nd, a1.dj, a1.fr⟩
      obtain ⟨v, h1, h2⟩ := a1.at_ j u h
      refine ⟨v, h1, ?_⟩
      generalize ow2 j = as at h2 ⊢
      cases h2 with
      | sh r => exact .sh r
      | ow r => exact .ow (r.mono Sb.rfl' fun a m u e => kpH a u e)
    have aa := aa0.cons (.ow rb) (by simp) fun a m => by
      have e : a = x := by simpa using m
      subst e
      exact ⟨nx2, nx1, pt.sub.none hx0⟩
    have hpd := drop_pad mk hi (n := i.ps.length) (l.length + 1) F
    rw [hdv] at hpd
    -- the callee's point
    have pp := Pt.pars p0.sub aa hpd
    have ep : A.ow (O.obj c []) :: l.map V1.a ++ ((M.T.dfl f).drop ((M.T.dfl f).length + (l.length + 1) - i.ps.length)).map A.sh = pad M.T f i.ps.length (A.ow (O.obj c []) :: l.map V1.a) := by
      unfold pad
      rw [List.length_cons, List.length_map]
    rw [ep] at pp
    have hlen : ((V.ref x :: vs) ++ dvs).length = i.ps.length := by
      rw [← ep, List.length_append, List.length_map, ← hpd.length, List.length_cons, List.length_map] at hn
      rw [List.length_append, List.length_cons, va.len]
      exact hn
    -- from the callee's growth to the caller's
    have hin : ∀ a, In (consO [x] ow2) a → ¬ In own1 a := fun a z => (In.cons.mp z).elim (fun m => by
      have e : a = x := by simpa using m
      rw [e]; exact nx1) fun ⟨j, m⟩ => (va.fr j a m).1
    have hout : ∀ a, In (consO [x] ow2) a ∨ upd (upd H dx (.own x)) x (.ins C dx []) a = none → In own a ∨ H a = none := fun a z => by
      rcases z with z | z
      · rcases In.cons.mp z with m | m
        · have e : a = x := by simpa using m
          rw [e]; exact .inr hx0
        · exact .inl ((ho a).mpr (.inr m))
      · refine .inr ?_
        cases h : H a with
        | none => rfl
        | some u => rw [kpH a u h] at z; cases z
    have grow : ∀ {F' F2 H' : Hp} {own' own2 : Ow} {as : List Addr}, Gr false F (upd (upd H dx (.own x)) x (.ins C dx [])) (In (consO [x] ow2)) F' H' (In own') → Sb F' F2 → (∀ a, F2 a ≠ none → F' a ≠ none ∨ In own' a) → (∀ a, In own2 a → In own1 a ∨ In own' a) →
        Gr b F H (In own) F2 H' (In own2) := fun {F' F2 H' own' own2 as} g ff nf h2 => by
      refine ⟨g.ff.trans ff, fun a o e n => g.hh a o (kpH a o e) (.inr fun z => ?_), fun a e => ?_, fun a e => g.lv a ?_, fun a e => ?_⟩
      · rcases In.cons.mp z with m | m
        · have e' : a = x := by simpa using m
          rw [e', hx0] at e; cases e
        · exact hb.elim (fun y => n.elim (fun w => by rw [y] at w; cases w) fun w => w ((ho a).mpr (.inr m))) fun y => y a m
      · rcases nf a e with z | z
        · rcases g.nf a z with z | z | z
          · exact .inl z
          · exact .inr ((hout a (.inr z)).symm)
          · exact .inr ((hout a (.inl z)).symm)
        · exact .inr ((hout a (g.ow a z)).symm)
      · cases h : H a with
        | none => exact absurd h e
        | some u => rw [kpH a u h]; exact fun y => nomatch y
      · exact (h2 a e).elim (fun z => .inl ((ho a).mpr (.inl z))) fun z => hout a (g.ow a z)
    have slots : ∀ j i' k' o, l[j]? = some (V1.io i' k' o) → ∃ v, ((V.ref x :: vs) ++ dvs)[1 + j]? = some v ∧ σ[i']?.join = some v ∧ (k' = 0 ∨ av[k' - 1]? = some v) := fun j i' k' o h => by
      obtain ⟨w, h1, h2⟩ := va.at_ j _ h
      generalize ow2 j = as at h2
      cases h2 with
      | io e r t =>
        refine ⟨w, ?_, e, t⟩
        rw [List.cons_append, show 1 + j = j + 1 from by omega, List.getElem?_cons_succ, List.getElem?_append_left (by rw [va.len]; exact (List.getElem?_eq_some_iff.mp h).1), h1]
    have hsp : spF M Φ f i.ps.length ((V.ref x :: vs) ++ dvs) (upd (upd H dx (.own x)) x (.ins C dx [])) (fun v H2 => v = .non ∧ Q (.ref x) H2) (WE W σ) := by
      refine ⟨hlen, _, F, _, pp, ?_⟩
      cases e : Φ f (pad M.T f i.ps.length (A.ow (O.obj c []) :: l.map V1.a)) with
      | bad => rw [e] at q; exact q
      | okN o outs => rw [e] at q; exact q.elim
      | ok d outs =>
        rw [e] at q
        intro v F' H' own' g p' rv
        cases d with
        | non =>
          cases outs with
          | nil => exact q.elim
          | cons a outs =>
            cases a with
            | sh d => exact q.elim
            | un => exact q.elim
            | ow o =>
              have q : QR b M av W σ (rE M av σ) F H (In own) (.ok (o.frz, back l outs ρ)) Q := q
              refine ⟨rv.nonv, ?_⟩
              have p1 := p0.caller g p'.sub hin
              obtain ⟨own2, p2, h2⟩ := outs_ok p' l outs 1 ρ own1 rfl p1 slots fun y j _ m z => (g.ow y ⟨j, m⟩).elim (fun w => hin y w z) fun w => p0.there z w
              have s0 := p'.sl 0
              rw [parS_at] at s0
              obtain ⟨v', e', r', _⟩ := s0
              have ev : v' = .ref x := by simpa using e'.symm
              subst ev
              obtain ⟨F2, f1, f2, f3, f4⟩ := frz_set p2 r' fun y m => ⟨fun z => (h2 y z).elim (fun w => (g.ow y ⟨0, m⟩).elim (fun w' => hin y w' w) fun w' => p0.there w w') fun ⟨j, hj, mj⟩ => by
                have := p'.dj 0 j y m mj
                omega, p'.fr 0 y m⟩
              exact q (.ref x) F2 H' own2 (grow (as := []) g f1 (fun a z => (f4 a z).imp id fun m => ⟨0, m⟩) fun a z => (h2 a z).imp id fun ⟨j, _, m⟩ => ⟨j, m⟩) ⟨f2, f3⟩
        | _ => exact q.elim
      | exc c2 es2 outs =>
        rw [e] at q
        intro F' H' own' C2 dx2 ws g p' hc2 hx2 hf2 hnx rw'
        cases outs with
        | nil => exact q.elim
        | cons a outs =>
          have q : QR b M av W σ (rE M av σ) F H (In own) (.exc c2 es2 (back l outs ρ)) Q := q
          have p1 := p0.caller g p'.sub hin
          obtain ⟨own2, p2, h2⟩ := outs_ok p' l outs 1 ρ own1 rfl p1 slots fun y j _ m z => (g.ow y ⟨j, m⟩).elim (fun w => hin y w z) fun w => p0.there z w
          exact q F' H' own2 C2 dx2 ws (grow (as := []) g Sb.rfl' (fun a z => .inl z) fun a z => (h2 a z).imp id fun ⟨j, _, m⟩ => ⟨j, m⟩) p2 hc2 hx2 hf2 (no_xd p2 hx2) rw'
    have r2 : Vals ((V.ref x :: vs) ++ dvs) (Value.ref x :: (us ++ ds)) := .cons rfl (r.append rD)
    have kin : M.K.In _ := kin_of ok I2
    have hl : (Value.ref x :: us ++ ds).length = i.ps.length := by
      have e := r2.length
      rw [hlen] at e
      exact e.symm
    have e0 := env0_of ok I2
    subst hx hdx
    refine wpAny_call (make_map (f := i.adr) I.kIn (by rw [ok.K]; exact mkC.makes) (by rw [ok.K]; exact mkC.init) (by rw [ok.K]; exact beq_iff_eq.mp mkC.fn) (codeAny_mono (G.run _ X.stack _ _ ⟨Value.ref (s.heap.objs.size + 1) :: us, []⟩ (Value.ref (s.heap.objs.size + 1) :: (us ++ ds)) _ _ (WE W σ) (hr.make C us [])
      (e0.make C us []) (bd _ (Value.ref (s.heap.objs.size + 1) :: us) kin hl) r2 hsp) fun r s' hq' => ?_))
    cases r with
    | error e => exact L2N.passAt tk σ pins _ _ e s' I2 hq'
    | ok fl =>
      cases fl with
      | ret u =>
        obtain ⟨v, H', I3, rv, ev, q3⟩ := I2.after hq'
        subst ev
        exact ⟨rv, ⟨V.ref (s.heap.objs.size + 1), H', I3, rfl, q3⟩⟩
      | next => exact False.elim hq'
      | brk => exact False.elim hq'
      | cont => exact False.elim hq'
  · rw [if_neg hn] at q; exact q.elim
theorem sE_make (ok : Ok M X) (mk : MOk M) (hΦ : Fns M Φ k X.prog X.w X.base) (hr : Room (k + 1) X.A) (tk : L2N.Takes X W) {c f n : Nat} {i : FI} {C : Addr} {x : PySem.Str} {as : As} (hc : M.cls c = some C) (hf : M.T.init c = some f) (hi : M.fi f = some i) (hn : n = i.ps.length) (hg : Gl X x) (hm : M.mg x = some (.ref C)) (hdb : (x == ("__debug__" : PySem.Str)) = false)
    (hb : b = false ∨ as.noIo = true) (ha : PA X (e :: es) (tAs b M av W (evAs M.T Φ as))) (he : starEach (e :: es) X.env = (false, eval e X.env) :: starEach es X.env) (hpl : (backTo pos (starEach es X.env)).any (·.1) = false) :
    PE X (.Call (.Name x p2) (e :: es) [] pos) (tE b M av W (evE M.T Φ (.make c n as))) := by
  obtain ⟨C', i', hc', hi', mkC⟩ := mk.mkr c f hf
  rw [hc] at hc'; cases hc'
  rw [hi] at hi'; cases hi'
  refine ⟨fun pins s σ H Q I ⟨ρ, F, own, pt, q⟩ => ?_⟩
  unfold evE at q
  refine wpAny_Call_Name_kw (ld_glob I hg (by rw [ok.mg]; exact hm) ?_ hdb)
  refine PySem.W.callWith_K (h₀ := X.base) I.ok.mod.kin (by rw [ok.K]; exact mkC.kp) (thn (ha.run pos pins s σ H (fun vs H1 => ∃ l ρ1 F1 own own1 ow2, Pt M av F1 H1 σ ρ1 own1 ∧ Vas M F1 H1 av σ own1 l vs ow2 ∧ (∀ x, In own x ↔ In own1 x ∨ In ow2 x) ∧ (b = false ∨ ∀ x, ¬ In ow2 x) ∧
    QR b M av W σ (rE M av σ) F1 H1 (In own) (makeE M.T Φ c n l ρ1) Q) I ⟨ρ, F, own, pt, q.bindQ fun r vs F1 H1 own1 er g ⟨own2, ow2, p1, va, ho⟩ q1 => ⟨r.1, r.2, F1, own1, own2, ow2, p1, va, ho, hb.imp id fun z => va.noOw (noIo_sh z er), q1⟩⟩) fun us s1 ⟨vs, H1, I1, r, l, ρ1, F1, own, own1, ow2, p1, va, ho, hb, q⟩ => ⟨I1.kIn, ?_⟩) he hpl
  subst hn
  exact makeE_run ok mk hΦ hr tk hc hf hi mkC I1 r p1 va ho hb q
end
end RF
end

section
set_option Elab.async false
set_option linter.all false
set_option autoImplicit false
set_option maxRecDepth 100000
set_option maxHeartbeats 1000000
/-! RfV: statements. -/
namespace RF
open PySem L2
open PyProof.Rows hiding St
def QS (M : Mach) (av : List V) (W : WX) (F H : Hp) (P : Addr → Prop) (r : SR) (D : Ends) : Prop :=
  match r with
  | .nx ρ' => ∀ σ' F' H' own', Gr false F H P F' H' (In own') → Pt M av F' H' σ' ρ' own' → D.nx σ' H'
  | .ret d ρ' => ∀ v σ' F' H' own', Gr false F H P F' H' (In own') → Pt M av F' H' σ' ρ' own' → Rep M F' v d → D.rt v H'
  | .retN o ρ' => ∀ v σ' F' H' own', Gr false F H P F' H' (In own') → rN M av σ' F' H' own' (o, ρ') v → D.rt v H'
  | .brk ρ' => ∀ σ' F' H' own', Gr false F H P F' H' (In own') → Pt M av F' H' σ' ρ' own' → D.bk σ' H'
  | .cnt ρ' => ∀ σ' F' H' own', Gr false F H P F' H' (In own') → Pt M av F' H' σ' ρ' own' → D.ct σ' H'
  | .exc c es ρ' => ∀ σ' F' H' own' C dx vs, Gr false F H P F' H' (In own') → Pt M av F' H' σ' ρ' own' → M.cls c = some C →
      H' dx = some (.xd (((M.T.fld c).map M.nm).zip vs)) → F' dx = none → ¬ In own' dx → Reps M F' vs es → W (.ref C) (some dx) σ' H'
  | .bad => False
def tS (M : Mach) (av : List V) (W : WX) (f : Env → SR) : TS := fun D σ H => ∃ ρ F own, Pt M av F H σ ρ own ∧ QS M av W F H (In own) (f ρ) D
section
variable {M : Mach} {av : List V} {W : WX} {X : Cx} {F H : Hp} {σ : L2.St} {ρ : Env} {own : Ow} {Φ : Fn} {k : Nat} {e a1 a2 a3 : Expr} {es : List Expr} {pos p2 : Pos} {st : Stmt} {D : Ends} {P P1 : Addr → Prop} {F1 H1 : Hp}
theorem imS {t t' : TS} (h : PS X st t) (k : ∀ D σ H, t' D σ H → t D σ H) : PS X st t' := ⟨fun pins s σ H D I q => h.run pins s σ H D I (k D σ H q)⟩
theorem imSs {sts : List Stmt} {t t' : TS} (h : PSs X sts t) (k : ∀ D σ H, t' D σ H → t D σ H) : PSs X sts t' := ⟨fun pins s σ H D I q => h.run pins s σ H D I (k D σ H q)⟩
theorem QS.step {r : SR} (g : Gr false F H P F1 H1 P1) (h : QS M av W F H P r D) : QS M av W F1 H1 P1 r D := by
  cases r with
  | nx ρ' => exact fun σ' F' H' own' g' => h σ' F' H' own' (g.trans g')
  | ret d ρ' => exact fun v σ' F' H' own' g' => h v σ' F' H' own' (g.trans g')
  | retN o ρ' => exact fun v σ' F' H' own' g' => h v σ' F' H' own' (g.trans g')
  | brk ρ' => exact fun σ' F' H' own' g' => h σ' F' H' own' (g.trans g')
  | cnt ρ' => exact fun σ' F' H' own' g' => h σ' F' H' own' (g.trans g')
  | exc c es ρ' => exact fun σ' F' H' own' C dx vs g' => h σ' F' H' own' C dx vs (g.trans g')
  | bad => exact h
/-- an expression, then what follows -/
theorem QS.to {α β : Type} {Rl : L2.St → Hp → Hp → Ow → α → β → Prop} {r : R α} {f : α → SR} {Q : β → Hp → Prop} (h : QS M av W F H P (r.to f) D)
    (k : ∀ a y F1 H1 own1, Gr false F H P F1 H1 (In own1) → Rl σ F1 H1 own1 a y → QS M av W F1 H1 (In own1) (f a) D → Q y H1) : QR false M av W σ (Rl σ) F H P r Q := by
  cases r with
  | ok a => exact fun y F1 H1 own1 g rl => k a y F1 H1 own1 g rl (QS.step g h)
  | exc c es ρ' => exact fun F' H' own' C dx vs g p => h σ F' H' own' C dx vs g p
  | bad => exact h
theorem nope_S {sf : Env → SR} (h : ∀ ρ, sf ρ = .bad) : PS X st (tS M av W sf) := ⟨fun pins s σ H D I ⟨ρ, F, own, pt, q⟩ => by rw [h] at q; exact q.elim⟩
theorem nope_E {b : Bool} : PE X e (tE b M av W (evE M.T Φ .nope)) := ⟨fun pins s σ H Q I ⟨ρ, F, own, pt, q⟩ => by unfold evE at q; exact q.elim⟩
/-! ### stores -/
theorem sS_set {i : Nat} {x : Ex} (h : PS X st (tAsg (tE false M av W (evE M.T Φ x)) (gName i))) : PS X st (tS M av W (evS M.T Φ (.set i x))) := by
  refine imS h fun D σ H ⟨ρ, F, own, pt, q⟩ => ⟨ρ, F, own, pt, ?_⟩
  unfold evS at q
  refine q.to (Rl := rE M av) fun r v F1 H1 own1 g ⟨p1, r1⟩ q1 => ?_
  obtain ⟨own2, p2, ho⟩ := p1.sh r1 i
  exact q1 _ F1 H1 own2 (Gr.rfl'.owns fun x m => .inl (ho x m)) p2
theorem sS_own {i : Nat} {n : Nx} (h : PS X st (tAsg (tN false M av W (evN M.T Φ n)) (gName i))) : PS X st (tS M av W (evS M.T Φ (.own i n))) := by
  refine imS h fun D σ H ⟨ρ, F, own, pt, q⟩ => ⟨ρ, F, own, pt, ?_⟩
  unfold evS at q
  refine q.to (Rl := rN M av) fun r v F1 H1 own1 g ⟨own2, as, p1, r1, nd, fr, ho⟩ q1 => ?_
  by_cases hi : i < r.2.length
  · have p2 := p1.put (i := i) (x := some v) (s := .ow 0 r.1) hi ⟨v, rfl, r1, .inl rfl⟩ nd (fun a m j hj z => (fr a m).1 ⟨j, z⟩) fun a m => (fr a m).2
    exact q1 _ F1 H1 _ (Gr.rfl'.owns fun x m => .inl ((ho x).mpr (m.put.elim .inr .inl))) p2
  · refine q1 _ F1 H1 own2 (Gr.rfl'.owns fun x m => .inl ((ho x).mpr (.inl m))) ?_
    rw [List.set_eq_of_length_le (by rw [p1.len]; omega), List.set_eq_of_length_le (by omega)]
    exact p1
theorem sS_unp {t : List Nat} {x : Ex} (h : PS X st (tAsg (tE false M av W (evE M.T Φ x)) (gT M.K (.tp t)))) : PS X st (tS M av W (evS M.T Φ (.unp t x))) := by
  refine imS h fun D σ H ⟨ρ, F, own, pt, q⟩ => ⟨ρ, F, own, pt, ?_⟩
  unfold evS at q
  refine q.to (Rl := rE M av) fun r v F1 H1 own1 g ⟨p1, r1⟩ q1 => ?_
  cases hb : bindT (.tp t) r.1 r.2 with
  | bad => rw [hb] at q1; exact q1.elim
  | exc c es ρ' => simp only [bindT] at hb; split at hb <;> (try split at hb) <;> cases hb
  | ok ρ2 =>
    rw [hb] at q1
    exact tgt_ok hb p1 r1 fun σ' own' p' ho _ => q1 σ' F1 H1 own' (Gr.rfl'.owns fun x m => .inl (ho x m)) p'
theorem sS_exp {x : Ex} (h : PE X e (tE false M av W (evE M.T Φ x))) (hs : swapsWith e none pos.line X.env = pure false) : PS X (.Expr e pos) (tS M av W (evS M.T Φ (.exp x))) := by
  refine imS (ps_expr h hs) fun D σ H ⟨ρ, F, own, pt, q⟩ => ⟨ρ, F, own, pt, ?_⟩
  unfold evS at q
  exact q.to (Rl := rE M av) fun r v F1 H1 own1 g ⟨p1, r1⟩ q1 => q1 _ F1 H1 own1 Gr.rfl' p1
theorem sS_ret {x : Ex} (h : PE X e (tE false M av W (evE M.T Φ x))) : PS X (.Return (some e) pos) (tS M av W (evS M.T Φ (.ret x))) := by
  refine imS (ps_ret h) fun D σ H ⟨ρ, F, own, pt, q⟩ => ⟨ρ, F, own, pt, ?_⟩
  unfold evS at q
  exact q.to (Rl := rE M av) fun r v F1 H1 own1 g ⟨p1, r1⟩ q1 => q1 v σ F1 H1 own1 Gr.rfl' p1 r1
theorem sS_retO {n : Nx} (h : PE X e (tN false M av W (evN M.T Φ n))) : PS X (.Return (some e) pos) (tS M av W (evS M.T Φ (.retN n))) := by
  refine imS (ps_ret h) fun D σ H ⟨ρ, F, own, pt, q⟩ => ⟨ρ, F, own, pt, ?_⟩
  unfold evS at q
  exact q.to (Rl := rN M av) fun r v F1 H1 own1 g rn q1 => q1 v σ F1 H1 own1 Gr.rfl' rn
theorem sS_retN : PS X (.Return none pos) (tS M av W (evS M.T Φ (.ret (.cst .non)))) := by
  refine imS ps_retN fun D σ H ⟨ρ, F, own, pt, q⟩ => ?_
  unfold evS evE at q
  exact q .non σ F H own Gr.rfl' pt .non
theorem sS_pass : PS X (.Pass pos) (tS M av W (evS M.T Φ .pass)) := imS ps_pass fun D σ H ⟨ρ, F, own, pt, q⟩ => by unfold evS at q; exact q σ F H own Gr.rfl' pt
theorem sS_brk : PS X (.Break pos) (tS M av W (evS M.T Φ .brk)) := imS ps_break fun D σ H ⟨ρ, F, own, pt, q⟩ => by unfold evS at q; exact q σ F H own Gr.rfl' pt
theorem sS_cnt : PS X (.Continue pos) (tS M av W (evS M.T Φ .cnt)) := imS ps_continue fun D σ H ⟨ρ, F, own, pt, q⟩ => by unfold evS at q; exact q σ F H own Gr.rfl' pt
theorem sS_aug {i : Nat} {x : PySem.Str} {op : Bop} {y : Ex} {p' : Pos} (hN : X.N.Nodup) (hi : X.N[i]? = some x) (hx : Loc X.env.scope x) (he : PE X e (tE false M av W (evE M.T Φ y))) (hf : X.fn x = true ∨ X.env.scope.names.lookup x = some .local) (hop : op = .add ∨ op = .sub) :
    PS X (.AugAssign (.Name x p') (opOf op) e pos) (tS M av W (evS M.T Φ (.aug i op y))) := by
  have go : ∀ (f : Int → Int → Int), (∀ a b, binI op a b = some (.int (f a b))) → ∀ D σ H, tS M av W (evS M.T Φ (.aug i op y)) D σ H → tAug i (tE false M av W (evE M.T Φ y)) (ipI f) D σ H := fun f hf D σ H ⟨ρ, F, own, pt, q⟩ => by
    unfold evS at q
    have h := pt.sl i
    cases er : ρ.at i with
    | un => rw [er] at q; exact q.elim
    | ow _ _ => rw [er] at q; exact q.elim
    | sh d =>
      rw [er] at q h
      obtain ⟨_, v, e1, r⟩ := h
      refine ⟨v, slot_of e1, ρ, F, own, pt, ?_⟩
      refine q.to (Rl := rE M av) fun r2 w F1 H1 own1 g ⟨p1, r1⟩ q1 => ?_
      split at q1
      · rename_i d2 hd
        have key : ∀ {d d' : RF.D}, Rep M F v d → Rep M F1 w d' → augD op d d' = some d2 → ipI f v w H1 fun z H2 => D.nx (σ.set i (some z)) H2 := fun {d d'} ra rb hd => by
          cases d with
          | int a =>
            cases d' with
            | int c =>
              have hd : binI op a c = some d2 := hd
              rw [hf] at hd
              cases hd
              cases ra.intv
              cases rb.intv
              obtain ⟨own2, p2, ho⟩ := p1.sh (.int (i := f a c)) i
              exact ⟨a, c, rfl, rfl, q1 _ F1 H1 own2 (Gr.rfl'.owns fun x m => .inl (ho x m)) p2⟩
            | _ => simp [augD] at hd
          | _ => simp [augD] at hd
        exact key r r1 hd
      · exact q1.elim
  rcases hop with rfl | rfl
  · exact imS (ps_aug hN hi hx he ip_add hf) (go (fun a b => a + b) fun a b => rfl)
  · exact imS (ps_aug hN hi hx he ip_sub hf) (go (fun a b => a - b) fun a b => rfl)
/-! ### flow -/
theorem sS_ite {t : Te} {a c : Sms} {sa sc : List Stmt} (ht : PT X e (tT false M av W (evT M.T Φ t))) (ha : PSs X sa (tS M av W (evB M.T Φ a))) (hb : PSs X sc (tS M av W (evB M.T Φ c))) : PS X (.If e sa sc pos) (tS M av W (evS M.T Φ (.ite t a c))) := by
  refine imS (ps_if ht ha hb) fun D σ H ⟨ρ, F, own, pt, q⟩ => ⟨ρ, F, own, pt, ?_⟩
  unfold evS at q
  refine q.to (Rl := rT M av) fun r z F1 H1 own1 g ⟨p1, e1⟩ q1 => ?_
  subst e1
  by_cases h : r.1 = true
  · rw [if_pos h] at q1 ⊢; exact ⟨r.2, F1, own1, p1, q1⟩
  · rw [if_neg h] at q1 ⊢; exact ⟨r.2, F1, own1, p1, q1⟩
theorem sB_nil : PSs X [] (tS M av W (evB M.T Φ .nil)) := imSs pss_nil fun D σ H ⟨ρ, F, own, pt, q⟩ => by unfold evB at q; exact q σ F H own Gr.rfl' pt
theorem sB_cons {s : Sm} {r : Sms} {sts : List Stmt} (h1 : PS X st (tS M av W (evS M.T Φ s))) (h2 : PSs X sts (tS M av W (evB M.T Φ r))) : PSs X (st :: sts) (tS M av W (evB M.T Φ (.cons s r))) := by
  refine imSs (pss_cons h1 h2) fun D σ H ⟨ρ, F, own, pt, q⟩ => ⟨ρ, F, own, pt, ?_⟩
  unfold evB at q
  cases hs : evS M.T Φ s ρ with
  | nx ρ' =>
    rw [hs] at q
    have q : QS M av W F H (In own) (evB M.T Φ r ρ') D := q
    exact fun σ' F' H' own' g p => ⟨ρ', F', own', p, q.step g⟩
  | ret d ρ' => rw [hs] at q; exact q
  | retN o ρ' => rw [hs] at q; exact q
  | brk ρ' => rw [hs] at q; exact q
  | cnt ρ' => rw [hs] at q; exact q
  | exc c es ρ' => rw [hs] at q; exact q
  | bad => rw [hs] at q; exact q
theorem loopF_cons {turn : RF.D → Env → SR} {d : RF.D} {ds : List RF.D} {ρ : Env} : loopF turn (d :: ds) ρ = match turn d ρ with
    | .nx ρ' => loopF turn ds ρ'
    | .cnt ρ' => loopF turn ds ρ'
    | .brk ρ' => .nx ρ'
    | r => r := rfl
theorem sS_for {t : Tg} {it : RF.It} {bd : Sms} {tg : Expr} {sts : List Stmt} (hp : PassesOwn (model X.prog X.w) X.A X.env X.xe) (hc : X.calm = true) (hi : PI X tg e (tI false M av W (evI M.T Φ it))) (hg : PG X tg (gT M.K t)) (hb : PSs X sts (tS M av W (evB M.T Φ bd)))
    (hs : ∀ x, foldedSetIterable e X.env x = pure x) : PS X (.For tg e sts [] pos) (tS M av W (evS M.T Φ (.for_ t it bd))) := by
  refine imS (ps_for hp hc hi hg hb hs) fun D σ H ⟨ρ, F, own, pt, q⟩ => ⟨ρ, F, own, pt, ?_⟩
  unfold evS at q
  refine q.to (Rl := rI M av) fun r J F1 H1 own1 g ⟨p1, wk⟩ q1 => ?_
  obtain ⟨ds, lk, ρ1⟩ := r
  cases lk with
  | cons => exact q1.elim
  | nil =>
    have q1 : QS M av W F1 H1 (In own1) (loopF (fun d ρ1 => (bindT t d ρ1).to fun ρ2 => evB M.T Φ bd ρ2) ds ρ1) D := q1
    have p1 : Pt M av F1 H1 σ ρ1 own1 := p1
    have ec : cutO own1 [] = own1 := by funext j; show (if j ∈ ([] : List Nat) then [] else own1 j) = own1 j; rw [if_neg (fun z => nomatch z)]
    have wk : Wk M J ds F1 H1 (In (cutO own1 [])) := wk
    rw [ec] at wk
    generalize hturn : (fun d ρ1 => (bindT t d ρ1).to fun ρ2 => evB M.T Φ bd ρ2) = turn at q1
    let inv : Nat → L2.St → Hp → Prop := fun i σ' H' => i ≤ ds.length ∧ ∃ ρ' F' own', Pt M av F' H' σ' ρ' own' ∧ Gr false F1 H1 (In own1) F' H' (In own') ∧ QS M av W F' H' (In own') (loopF turn (ds.drop i) ρ') D
    refine ⟨fun i m σ' H' => m = ds.length - i ∧ inv i σ' H', ⟨_, rfl, Nat.zero_le _, ρ1, F1, own1, p1, Gr.rfl', q1⟩, ?_⟩
    rintro i m σ2 H2 ⟨rfl, hi, ρ2, F2, own2, p2, g2, q2⟩
    have w := wk F2 H2 (In own2) i g2 p2.sub
    by_cases hlt : i < ds.length
    · have hd : ds[i]? = some ds[i] := List.getElem?_eq_getElem hlt
      obtain ⟨go, wy⟩ := w.2 _ hd
      refine .inr ⟨go, inv (i + 1), fun σ' H' z => ⟨ds.length - (i + 1), by omega, rfl, z⟩, ?_⟩
      intro x H3 hy
      obtain ⟨F3, rx, hF3⟩ := wy x H3 hy
      obtain ⟨p3, g3⟩ := yld_pt (b := false) p2 hF3
      have hdrop : ds.drop i = ds[i] :: ds.drop (i + 1) := List.drop_eq_getElem_cons hlt
      rw [hdrop, loopF_cons] at q2
      generalize ds[i] = d at q2 rx
      have q2 := QS.step g3 q2
      rw [← hturn] at q2
      have q2 : QS M av W F3 H3 (In own2) (match (bindT t d ρ2).to fun ρ2 => evB M.T Φ bd ρ2 with
        | .nx ρ' => loopF (fun d ρ1 => (bindT t d ρ1).to fun ρ2 => evB M.T Φ bd ρ2) (ds.drop (i + 1)) ρ'
        | .cnt ρ' => loopF (fun d ρ1 => (bindT t d ρ1).to fun ρ2 => evB M.T Φ bd ρ2) (ds.drop (i + 1)) ρ'
        | .brk ρ' => .nx ρ'
        | r => r) D := q2
      rw [hturn] at q2
      cases hb : bindT t d ρ2 with
      | bad => rw [hb] at q2; exact q2.elim
      | exc c es ρ' => 
        exfalso
        cases t with
        | nm i => cases hb
        | tp is => simp only [bindT] at hb; split at hb <;> (try split at hb) <;> cases hb
      | ok ρ3 =>
        rw [hb] at q2
        have q2 : QS M av W F3 H3 (In own2) (match evB M.T Φ bd ρ3 with
          | .nx ρ' => loopF turn (ds.drop (i + 1)) ρ'
          | .cnt ρ' => loopF turn (ds.drop (i + 1)) ρ'
          | .brk ρ' => .nx ρ'
          | r => r) D := q2
        refine tgt_ok hb p3 rx fun σ4 own4 p4 ho _ => ⟨ρ3, F3, own4, p4, ?_⟩
        have g4 : Gr false F3 H3 (In own2) F3 H3 (In own4) := Gr.rfl'.owns fun x m => .inl (ho x m)
        have q2 := QS.step g4 q2
        have g04 := (g2.trans g3).trans g4
        cases hB : evB M.T Φ bd ρ3 with
        | nx ρ' => rw [hB] at q2; exact fun σ' F' H' own' g' p' => ⟨hlt, ρ', F', own', p', g04.trans g', QS.step g' q2⟩
        | cnt ρ' => rw [hB] at q2; exact fun σ' F' H' own' g' p' => ⟨hlt, ρ', F', own', p', g04.trans g', QS.step g' q2⟩
        | brk ρ' => rw [hB] at q2; exact q2
        | ret d ρ' => rw [hB] at q2; exact q2
        | retN o ρ' => rw [hB] at q2; exact q2
        | exc c es ρ' => rw [hB] at q2; exact q2
        | bad => rw [hB] at q2; exact q2
    · rw [List.drop_eq_nil_of_le (by omega)] at q2
      exact .inl ⟨w.1 (by omega), q2 σ2 F2 H2 own2 Gr.rfl' p2⟩
theorem sS_whl {t : Te} {bd : Sms} {sts : List Stmt} (hp : PassesOwn (model X.prog X.w) X.A X.env X.xe) (hc : PT X e (tT false M av W (evT M.T Φ t))) (hb : PSs X sts (tS M av W (evB M.T Φ bd))) : PS X (.While e sts [] pos) (tS M av W (evS M.T Φ (.whl t bd))) := by
  refine imS (ps_while hp hc hb) fun D σ H ⟨ρ, F, own, pt, q⟩ => ?_
  unfold evS whileS at q
  split at q
  · rename_i h
    obtain ⟨n0, hn⟩ := h.choose_spec
    generalize h.choose = r at q hn
    clear h
    refine ⟨fun m σ' H' => ∃ ρ' F' own', Pt M av F' H' σ' ρ' own' ∧ QS M av W F' H' (In own') r D ∧ iterW (evT M.T Φ t) (evB M.T Φ bd) m ρ' = some r, ⟨n0, ρ, F, own, pt, q, hn⟩, ?_⟩
    rintro m σ1 H1 ⟨ρ1, F1, own1, p1, q1, h1⟩
    cases m with
    | zero => simp [iterW] at h1
    | succ m =>
      refine ⟨ρ1, F1, own1, p1, ?_⟩
      unfold iterW at h1
      cases ht : evT M.T Φ t ρ1 with
      | bad => rw [ht] at h1; simp at h1; subst h1; exact q1
      | exc c es ρ2 => rw [ht] at h1; simp at h1; subst h1; exact fun F' H' own' C dx vs g p => q1 σ1 F' H' own' C dx vs g p
      | ok z =>
        obtain ⟨zb, ρ2⟩ := z
        rw [ht] at h1
        intro y F2 H2 own2 g2 ⟨p2, ey⟩
        have ey : y = zb := ey
        subst ey
        cases y with
        | false =>
          simp at h1
          subst h1
          exact q1 σ1 F2 H2 own2 g2 p2
        | true =>
          simp only at h1
          rw [if_pos rfl]
          refine ⟨_, fun σ' H' z => ⟨m, Nat.lt_succ_self _, z⟩, ρ2, F2, own2, p2, ?_⟩
          have q2 := QS.step g2 q1
          cases hB : evB M.T Φ bd ρ2 with
          | nx ρ' => rw [hB] at h1; exact fun σ' F' H' own' g' p' => ⟨ρ', F', own', p', QS.step g' q2, h1⟩
          | cnt ρ' => rw [hB] at h1; exact fun σ' F' H' own' g' p' => ⟨ρ', F', own', p', QS.step g' q2, h1⟩
          | brk ρ' => rw [hB] at h1; simp at h1; subst h1; exact q2
          | ret d ρ' => rw [hB] at h1; simp at h1; subst h1; exact q2
          | retN o ρ' => rw [hB] at h1; simp at h1; subst h1; exact q2
          | exc c es ρ' => rw [hB] at h1; simp at h1; subst h1; exact q2
          | bad => rw [hB] at h1; simp at h1; subst h1; exact q2
  · exact q.elim
end
end RF
end

section
set_option Elab.async false
set_option linter.all false
set_option autoImplicit false
set_option maxRecDepth 100000
set_option maxHeartbeats 1000000
/-! RfW: what one name owns is changed. -/
namespace RF
open PySem L2
open PyProof.Rows hiding St
inductive PathV (H : Hp) : V → List Nat → V → Prop where
  | nil {v : V} : PathV H v [] v
  | lst {a : Addr} {vs : List V} {j : Nat} {p : List Nat} {v w : V} (h : H a = some (.lst vs)) (e : vs[j]? = some v) (r : PathV H v p w) : PathV H (.ref a) (j :: p) w
  | dic {a : Addr} {kvs : List (Key × V)} {j : Nat} {p : List Nat} {v w : V} (h : H a = some (.dK kvs)) (e : (kvs.map (·.2))[j]? = some v) (r : PathV H v p w) : PathV H (.ref a) (j :: p) w
  | obj {a C dx : Addr} {fs : List (PySem.Str × V)} {j : Nat} {p : List Nat} {v w : V} (h : H a = some (.ins C dx fs)) (e : (fs.map (·.2))[j]? = some v) (r : PathV H v p w) : PathV H (.ref a) (j :: p) w
theorem PathV.inj {H : Hp} : ∀ {p : List Nat} {v w w' : V}, PathV H v p w → PathV H v p w' → w = w'
  | [], _, _, _, .nil, .nil => rfl
  | _ :: _, _, _, _, .lst h e r, q => by
    cases q with
    | lst h' e' r' => rw [h] at h'; cases h'; rw [e] at e'; cases e'; exact r.inj r'
    | dic h' e' r' => rw [h] at h'; cases h'
    | obj h' e' r' => rw [h] at h'; cases h'
  | _ :: _, _, _, _, .dic h e r, q => by
    cases q with
    | lst h' e' r' => rw [h] at h'; cases h'
    | dic h' e' r' => rw [h] at h'; cases h'; rw [e] at e'; cases e'; exact r.inj r'
    | obj h' e' r' => rw [h] at h'; cases h'
  | _ :: _, _, _, _, .obj h e r, q => by
    cases q with
    | lst h' e' r' => rw [h] at h'; cases h'
    | dic h' e' r' => rw [h] at h'; cases h'
    | obj h' e' r' => rw [h] at h'; cases h'; rw [e] at e'; cases e'; exact r.inj r'
theorem PathV.mono {H H' : Hp} (k : ∀ a u, H a = some u → H' a = some u) : ∀ {p : List Nat} {v w : V}, PathV H v p w → PathV H' v p w
  | _, _, _, .nil => .nil
  | _, _, _, .lst h e r => .lst (k _ _ h) e (r.mono k)
  | _, _, _, .dic h e r => .dic (k _ _ h) e (r.mono k)
  | _, _, _, .obj h e r => .obj (k _ _ h) e (r.mono k)
theorem PathV.snoc {H : Hp} {j : Nat} : ∀ {p : List Nat} {v w w' : V}, PathV H v p w → PathV H w [j] w' → PathV H v (p ++ [j]) w'
  | _, _, _, _, .nil, q => q
  | _, _, _, _, .lst h e r, q => .lst h e (r.snoc q)
  | _, _, _, _, .dic h e r, q => .dic h e (r.snoc q)
  | _, _, _, _, .obj h e r, q => .obj h e (r.snoc q)
section
variable {M : Mach} {F H : Hp}
theorem OwRs.setAt : ∀ {vs : List V} {os : List O} {as : List Addr} {j : Nat} {o : O}, OwRs M F H vs os as → os[j]? = some o →
    ∃ v bs l r, vs[j]? = some v ∧ OwR M F H v o bs ∧ as = l ++ bs ++ r ∧ ∀ H' v' o' bs', (∀ a ∈ l ++ r, ∀ u, H a = some u → H' a = some u) → OwR M F H' v' o' bs' → OwRs M F H' (vs.set j v') (os.set j o') (l ++ bs' ++ r)
  | _, _, _, _, _, .nil, e => by simp at e
  | _, _, _, 0, _, .cons (v := v) (vs := vs) (os := os) (as := as) (bs := bs) h r, e => by
    simp at e; subst e
    refine ⟨v, as, [], bs, rfl, h, rfl, fun H' v' o' bs' k q => ?_⟩
    exact .cons q (r.mono Sb.rfl' fun a m u ea => k a (by simpa using m) u ea)
  | _, _, _, j + 1, o, .cons (v := v0) (o := o0) (vs := vs) (os := os) (as := as) (bs := bs) h r, e => by
    obtain ⟨v, cs, l, rr, h1, h2, h3, h4⟩ := OwRs.setAt (j := j) r (by simpa using e)
    subst h3
    refine ⟨v, cs, as ++ l, rr, by simpa using h1, h2, by simp [List.append_assoc], fun H' v' o' bs' k q => ?_⟩
    have z := h4 H' v' o' bs' (fun a m u ea => k a (by
      rcases List.mem_append.mp m with m | m
      · exact List.mem_append_left _ (List.mem_append_right _ m)
      · exact List.mem_append_right _ m) u ea) q
    have z0 : OwR M F H' v0 o0 as := h.mono Sb.rfl' fun a m u ea => k a (List.mem_append_left _ (List.mem_append_left _ m)) u ea
    have := OwRs.cons z0 z
    rw [show as ++ l ++ bs' ++ rr = as ++ (l ++ bs' ++ rr) from by simp [List.append_assoc]]
    exact this
theorem set_same {α : Type} {xs : List α} {j : Nat} {x : α} (h : xs[j]? = some x) : xs.set j x = xs := by
  apply List.ext_getElem?
  intro i
  rw [List.getElem?_set]
  by_cases e : j = i
  · subst e; rw [if_pos rfl, h]; simp [(List.getElem?_eq_some_iff.mp h).1]
  · rw [if_neg e]
theorem nodup_mid {l m n r : List Addr} (h : (l ++ m ++ r).Nodup) (hn : n.Nodup) (hs : ∀ x ∈ n, x ∈ m) : (l ++ n ++ r).Nodup := by
  rw [List.append_assoc, List.nodup_append, List.nodup_append] at h ⊢
  obtain ⟨h1, ⟨h2, h3, h4⟩, h5⟩ := h
  refine ⟨h1, ⟨hn, h3, fun a ha b hb => h4 a (hs a ha) b hb⟩, fun a ha b hb => h5 a ha b ?_⟩
  rcases List.mem_append.mp hb with hb | hb
  · exact List.mem_append_left _ (hs b hb)
  · exact List.mem_append_right _ hb
/-- the node at a path, and what is put there -/
theorem OwR.path : ∀ {p : List Nat} {v : V} {o n : O} {as : List Addr}, OwR M F H v o as → as.Nodup → o.at? p = some n →
    ∃ w bs, PathV H v p w ∧ OwR M F H w n bs ∧ bs.Nodup ∧ (∀ x ∈ bs, x ∈ as) ∧ ∀ H' n' bs', OwR M F H' w n' bs' → bs'.Nodup → (∀ x ∈ bs', x ∈ bs) → (∀ a ∈ as, a ∉ bs → ∀ u, H a = some u → H' a = some u) →
      ∃ o' as', o.put p n' = some o' ∧ OwR M F H' v o' as' ∧ as'.Nodup ∧ ∀ x ∈ as', x ∈ as
  | [], v, o, n, as, h, nd, e => by
    have e : some o = some n := by cases o <;> exact e
    cases e
    exact ⟨v, as, .nil, h, nd, fun _ m => m, fun H' n' bs' q nd' sub k => ⟨n', bs', by cases o <;> rfl, q, nd', sub⟩⟩
  | j :: p, _, _, n, _, .lf h, nd, e => by simp [O.at?] at e
  | j :: p, _, _, n, _, .lst (a := a) (vs := vs) (os := os) (as := as) h rr, nd, e => by
    simp only [O.at?] at e
    cases ho : os[j]? with
    | none => rw [ho] at e; cases e
    | some o1 =>
      rw [ho] at e
      obtain ⟨v1, bs1, l, r, h1, h2, h3, h4⟩ := rr.setAt ho
      subst h3
      have nd0 := List.nodup_cons.mp nd
      obtain ⟨w, bs, p1, p2, p3, p4, p5⟩ := OwR.path (p := p) h2 ((List.nodup_append.mp (List.nodup_append.mp nd0.2).1).2.1) e
      have inn : ∀ x ∈ bs, x ∈ l ++ bs1 ++ r := fun x m => List.mem_append_left _ (List.mem_append_right _ (p4 x m))
      refine ⟨w, bs, .lst h h1 p1, p2, p3, fun x m => List.mem_cons_of_mem _ (inn x m), fun H' n' bs' q nd' sub k => ?_⟩
      obtain ⟨o', as', q1, q2, q3, q4⟩ := p5 H' n' bs' q nd' sub fun a m hn u ea => k a (List.mem_cons_of_mem _ (List.mem_append_left _ (List.mem_append_right _ m))) hn u ea
      have ha : a ∉ bs := fun m => nd0.1 (inn a m)
      have dis : ∀ x ∈ l ++ r, x ∉ bs := fun x m hb => by
        have hb1 := p4 x hb
        have := nd0.2
        rw [List.append_assoc, List.nodup_append, List.nodup_append] at this
        rcases List.mem_append.mp m with m | m
        · exact this.2.2 x m x (List.mem_append_left _ hb1) rfl
        · exact this.2.1.2.2 x hb1 x m rfl
      have z := h4 H' v1 o' as' (fun x m u ea => k x (List.mem_cons_of_mem _ (by
        rcases List.mem_append.mp m with m | m
        · exact List.mem_append_left _ (List.mem_append_left _ m)
        · exact List.mem_append_right _ m)) (dis x m) u ea) q2
      rw [set_same h1] at z
      refine ⟨.lst (os.set j o'), a :: (l ++ as' ++ r), by simp only [O.put, ho, Option.bind_some, q1, Option.map_some], .lst (k a List.mem_cons_self ha _ h) z, List.nodup_cons.mpr ⟨fun m => nd0.1 ?_, nodup_mid nd0.2 q3 q4⟩, fun x m => ?_⟩
      · rcases List.mem_append.mp m with m | m
        · rcases List.mem_append.mp m with m | m
          · exact List.mem_append_left _ (List.mem_append_left _ m)
          · exact List.mem_append_left _ (List.mem_append_right _ (q4 a m))
        · exact List.mem_append_right _ m
      · rcases List.mem_cons.mp m with m | m
        · subst m; exact List.mem_cons_self
        · refine List.mem_cons_of_mem _ ?_
          rcases List.mem_append.mp m with m | m
          · rcases List.mem_append.mp m with m | m
            · exact List.mem_append_left _ (List.mem_append_left _ m)
            · exact List.mem_append_left _ (List.mem_append_right _ (q4 x m))
          · exact List.mem_append_right _ m
  | j :: p, _, _, n, _, .dic (a := a) (kvs := kvs) (ks := ks) (os := os) (as := as) h hk hnd rr, nd, e => by
    simp only [O.at?] at e
    cases ho : os[j]? with
    | none => rw [ho] at e; cases e
    | some o1 =>
      rw [ho] at e
      obtain ⟨v1, bs1, l, r, h1, h2, h3, h4⟩ := rr.setAt ho
      subst h3
      have nd0 := List.nodup_cons.mp nd
      obtain ⟨w, bs, p1, p2, p3, p4, p5⟩ := OwR.path (p := p) h2 ((List.nodup_append.mp (List.nodup_append.mp nd0.2).1).2.1) e
      have inn : ∀ x ∈ bs, x ∈ l ++ bs1 ++ r := fun x m => List.mem_append_left _ (List.mem_append_right _ (p4 x m))
      refine ⟨w, bs, .dic h h1 p1, p2, p3, fun x m => List.mem_cons_of_mem _ (inn x m), fun H' n' bs' q nd' sub k => ?_⟩
      obtain ⟨o', as', q1, q2, q3, q4⟩ := p5 H' n' bs' q nd' sub fun a m hn u ea => k a (List.mem_cons_of_mem _ (List.mem_append_left _ (List.mem_append_right _ m))) hn u ea
      have ha : a ∉ bs := fun m => nd0.1 (inn a m)
      have dis : ∀ x ∈ l ++ r, x ∉ bs := fun x m hb => by
        have hb1 := p4 x hb
        have := nd0.2
        rw [List.append_assoc, List.nodup_append, List.nodup_append] at this
        rcases List.mem_append.mp m with m | m
        · exact this.2.2 x m x (List.mem_append_left _ hb1) rfl
        · exact this.2.1.2.2 x hb1 x m rfl
      have z := h4 H' v1 o' as' (fun x m u ea => k x (List.mem_cons_of_mem _ (by
        rcases List.mem_append.mp m with m | m
        · exact List.mem_append_left _ (List.mem_append_left _ m)
        · exact List.mem_append_right _ m)) (dis x m) u ea) q2
      rw [set_same h1] at z
      refine ⟨.dic ks (os.set j o'), a :: (l ++ as' ++ r), by simp only [O.put, ho, Option.bind_some, q1, Option.map_some], .dic (k a List.mem_cons_self ha _ h) hk hnd z, List.nodup_cons.mpr ⟨fun m => nd0.1 ?_, nodup_mid nd0.2 q3 q4⟩, fun x m => ?_⟩
      · rcases List.mem_append.mp m with m | m
        · rcases List.mem_append.mp m with m | m
          · exact List.mem_append_left _ (List.mem_append_left _ m)
          · exact List.mem_append_left _ (List.mem_append_right _ (q4 a m))
        · exact List.mem_append_right _ m
      · rcases List.mem_cons.mp m with m | m
        · subst m; exact List.mem_cons_self
        · refine List.mem_cons_of_mem _ ?_
          rcases List.mem_append.mp m with m | m
          · rcases List.mem_append.mp m with m | m
            · exact List.mem_append_left _ (List.mem_append_left _ m)
            · exact List.mem_append_left _ (List.mem_append_right _ (q4 x m))
          · exact List.mem_append_right _ m
  | j :: p, _, _, n, _, .obj (a := a) (fs := fs) (c := c) (os := os) (as := as) h hc hl hn rr, nd, e => by
    simp only [O.at?] at e
    cases ho : os[j]? with
    | none => rw [ho] at e; cases e
    | some o1 =>
      rw [ho] at e
      obtain ⟨v1, bs1, l, r, h1, h2, h3, h4⟩ := rr.setAt ho
      subst h3
      have nd0 := List.nodup_cons.mp nd
      obtain ⟨w, bs, p1, p2, p3, p4, p5⟩ := OwR.path (p := p) h2 ((List.nodup_append.mp (List.nodup_append.mp nd0.2).1).2.1) e
      have inn : ∀ x ∈ bs, x ∈ l ++ bs1 ++ r := fun x m => List.mem_append_left _ (List.mem_append_right _ (p4 x m))
      refine ⟨w, bs, .obj h h1 p1, p2, p3, fun x m => List.mem_cons_of_mem _ (inn x m), fun H' n' bs' q nd' sub k => ?_⟩
      obtain ⟨o', as', q1, q2, q3, q4⟩ := p5 H' n' bs' q nd' sub fun a m hn u ea => k a (List.mem_cons_of_mem _ (List.mem_append_left _ (List.mem_append_right _ m))) hn u ea
      have ha : a ∉ bs := fun m => nd0.1 (inn a m)
      have dis : ∀ x ∈ l ++ r, x ∉ bs := fun x m hb => by
        have hb1 := p4 x hb
        have := nd0.2
        rw [List.append_assoc, List.nodup_append, List.nodup_append] at this
        rcases List.mem_append.mp m with m | m
        · exact this.2.2 x m x (List.mem_append_left _ hb1) rfl
        · exact this.2.1.2.2 x hb1 x m rfl
      have z := h4 H' v1 o' as' (fun x m u ea => k x (List.mem_cons_of_mem _ (by
        rcases List.mem_append.mp m with m | m
        · exact List.mem_append_left _ (List.mem_append_left _ m)
        · exact List.mem_append_right _ m)) (dis x m) u ea) q2
      rw [set_same h1] at z
      refine ⟨.obj c (os.set j o'), a :: (l ++ as' ++ r), by simp only [O.put, ho, Option.bind_some, q1, Option.map_some], .obj (k a List.mem_cons_self ha _ h) hc (by rw [List.length_set]; exact hl) (by rw [List.length_set]; exact hn) z, List.nodup_cons.mpr ⟨fun m => nd0.1 ?_, nodup_mid nd0.2 q3 q4⟩, fun x m => ?_⟩
      · rcases List.mem_append.mp m with m | m
        · rcases List.mem_append.mp m with m | m
          · exact List.mem_append_left _ (List.mem_append_left _ m)
          · exact List.mem_append_left _ (List.mem_append_right _ (q4 a m))
        · exact List.mem_append_right _ m
      · rcases List.mem_cons.mp m with m | m
        · subst m; exact List.mem_cons_self
        · refine List.mem_cons_of_mem _ ?_
          rcases List.mem_append.mp m with m | m
          · rcases List.mem_append.mp m with m | m
            · exact List.mem_append_left _ (List.mem_append_left _ m)
            · exact List.mem_append_left _ (List.mem_append_right _ (q4 x m))
          · exact List.mem_append_right _ m
end
end RF
end

section
set_option Elab.async false
set_option linter.all false
set_option autoImplicit false
set_option maxRecDepth 100000
set_option maxHeartbeats 1000000
/-! RfX: statements that change what one name owns. -/
namespace RF
open PySem L2
open PyProof.Rows hiding St
abbrev rL (M : Mach) (av : List V) (σ : L2.St) : Hp → Hp → Ow → (Nat × List Nat) × Env → V → Prop := fun F H own a v => Pt M av F H σ a.2 own ∧ ∃ w, σ[a.1.1]?.join = some w ∧ PathV H w a.1.2 v
abbrev tL (b : Bool) (M : Mach) (av : List V) (W : WX) (f : Env → R ((Nat × List Nat) × Env)) : TE := tR b M av W (rL M av) f
section
variable {b : Bool} {M : Mach} {av : List V} {W : WX} {X : Cx} {F H : Hp} {σ : L2.St} {ρ : Env} {own : Ow} {Φ : Fn} {k : Nat} {e a1 a2 a3 : Expr} {es : List Expr} {pos p2 : Pos} {st : Stmt}
theorem mut_ok (pt : Pt M av F H σ ρ own) {x : Nat} {p : List Nat} {n : O} {w v : V} (h : owAt ρ x p = some n) (hw : σ[x]?.join = some w) (pv : PathV H w p v) :
    ∃ bs, OwR M F H v n bs ∧ bs.Nodup ∧ ∀ (a : Addr) (u : HO) (n' : O) (bs' : List Addr), v = .ref a → a ∈ bs → OwR M F (upd H a u) v n' bs' → bs'.Nodup → (∀ x ∈ bs', x ∈ bs) →
      ∃ ρ' own', owPut ρ x p n' = .ok ρ' ∧ Pt M av F (upd H a u) σ ρ' own' ∧ Gr false F H (In own) F (upd H a u) (In own') := by
  unfold owAt at h
  have hs := pt.sl x
  cases er : ρ.at x with
  | un => rw [er] at h; cases h
  | sh d => rw [er] at h; cases h
  | ow k o =>
    rw [er] at h hs
    obtain ⟨w0, e0, ro, tg⟩ := hs
    rw [hw] at e0; cases e0
    have h : o.at? p = some n := h
    obtain ⟨w2, bs, p1, p2, p3, p4, p5⟩ := ro.path (pt.nd x) h
    have ev := p1.inj pv
    subst ev
    refine ⟨bs, p2, p3, fun a u n' bs' ea ha q nd' sub => ?_⟩
    obtain ⟨o', as', q1, q2, q3, q4⟩ := p5 (upd H a u) n' bs' q nd' sub fun c m hn z hz => by
      rw [upd_ne (fun y => hn (by rw [y]; exact ha))]; exact hz
    have hax := p4 a ha
    have hFa := pt.fr x a hax
    have lt : x < ρ.length := at_lt (by rw [er]; exact fun z => nomatch z)
    refine ⟨ρ.set x (.ow k o'), fun j => if j = x then as' else own j, ?_, ?_, ?_⟩
    · unfold owPut; rw [er]; simp only [q1]
    · refine ⟨fun c z hz => ?_, by rw [List.length_set]; exact pt.len, fun j => ?_, fun j => ?_, fun i j c h1 h2 => ?_, fun j c hc => ?_⟩
      · rw [upd_ne (ne_of_none hz hFa)]; exact pt.sub _ _ hz
      · rw [Env.at_set]
        show SlR M F (upd H a u) av _ _ (if j = x then as' else own j)
        by_cases e : x = j
        · subst e
          rw [if_pos ⟨rfl, lt⟩, if_pos rfl]
          exact ⟨w, hw, q2, tg⟩
        · rw [if_neg (fun z => e z.1), if_neg (fun z => e z.symm)]
          exact (pt.sl j).mono Sb.rfl' fun c m z hz => by
            rw [upd_ne (fun y => e (pt.dj x j a hax (by rw [← y]; exact m)))]; exact hz
      · show (if j = x then as' else own j).Nodup
        by_cases e : j = x
        · rw [if_pos e]; exact q3
        · rw [if_neg e]; exact pt.nd j
      · have h1 : c ∈ (if i = x then as' else own i) := h1
        have h2 : c ∈ (if j = x then as' else own j) := h2
        have g1 : c ∈ own i := by
          by_cases e : i = x
          · rw [if_pos e] at h1; rw [e]; exact q4 c h1
          · rw [if_neg e] at h1; exact h1
        have g2 : c ∈ own j := by
          by_cases e : j = x
          · rw [if_pos e] at h2; rw [e]; exact q4 c h2
          · rw [if_neg e] at h2; exact h2
        exact pt.dj i j c g1 g2
      · have hc : c ∈ (if j = x then as' else own j) := hc
        by_cases e : j = x
        · rw [if_pos e] at hc; exact pt.fr x c (q4 c hc)
        · rw [if_neg e] at hc; exact pt.fr j c hc
    · refine ⟨Sb.rfl', fun c z hz n => ?_, fun c z => .inl z, fun c z => ?_, fun c ⟨j, m⟩ => .inl ?_⟩
      · rw [upd_ne (fun y => n.elim (fun w => nomatch w) fun w => w ⟨x, by rw [y]; exact hax⟩)]; exact hz
      · by_cases y : c = a
        · subst y; rw [upd_same]; exact fun w => nomatch w
        · rw [upd_ne y]; exact z
      · have m : c ∈ (if j = x then as' else own j) := m
        by_cases e : j = x
        · rw [if_pos e] at m; exact ⟨x, q4 c m⟩
        · rw [if_neg e] at m; exact ⟨j, m⟩
/-! ### places -/
theorem sL_pk {i : Nat} {x : PySem.Str} {T : Tb} (hN : X.N[i]? = some x) (hv : Vis X.env.scope x) (hd : (x == ("__debug__" : PySem.Str)) = false) (hcd : (x == ("__classdict__" : PySem.Str)) = false) :
    PE X (.Name x pos) (tL b M av W (evL T Φ (.pk i))) := by
  refine imE (pe_var hN hv hd hcd) fun σ H Q ⟨ρ, F, own, pt, q⟩ => ?_
  have h := pt.sl i
  unfold evL at q
  cases e : ρ.at i with
  | un => rw [e] at q; exact q.elim
  | sh d => rw [e] at q; exact q.elim
  | ow k o =>
    rw [e] at q h
    obtain ⟨v, e1, r, _⟩ := h
    exact ⟨v, slot_of e1, q v F H own Gr.rfl' ⟨pt, v, e1, .nil⟩⟩
theorem keyAt_ok : ∀ {kvs : List (Key × V)} {kk : Key} {j : Nat}, keyAt (kvs.map fun kv => kD kv.1) (kD kk) = some j → ∃ w, valV kvs kk = some w ∧ (kvs.map (·.2))[j]? = some w
  | [], _, _, h => by simp [keyAt] at h
  | (k0, v0) :: r, kk, j, h => by
    rw [List.map_cons, keyAt, keyEq_iff] at h
    by_cases q : k0 = kk
    · rw [if_pos (decide_eq_true q)] at h
      cases h
      exact ⟨v0, valV_pos q, rfl⟩
    · rw [if_neg (by simpa using q)] at h
      cases hk : keyAt (r.map fun kv => kD kv.1) (kD kk) with
      | none => rw [hk] at h; cases h
      | some i =>
        rw [hk] at h
        cases h
        obtain ⟨w, h1, h2⟩ := keyAt_ok hk
        exact ⟨w, by rw [valV_neg q]; exact h1, by simpa using h2⟩
theorem keyAt_isKey : ∀ {ks : List RF.D} {d : RF.D} {j : Nat}, keyAt ks d = some j → ∃ kk, d = kD kk
  | [], _, _, h => by simp [keyAt] at h
  | k0 :: r, d, j, h => by
    rw [keyAt] at h
    by_cases q : keyEq k0 d = true
    · cases d with
      | int i => exact ⟨.inl i, rfl⟩
      | str x => exact ⟨.inr x, rfl⟩
      | _ => cases k0 <;> simp [keyEq] at q
    · rw [if_neg q] at h
      cases hk : keyAt r d with
      | none => rw [hk] at h; cases h
      | some i => exact keyAt_isKey hk
theorem ix_lt {n : Nat} {i : Int} {j : Nat} (h : ix n i = some j) : j < n := by
  unfold ix at h
  split at h
  · split at h
    · cases h; omega
    · cases h
  · split at h
    · cases h; omega
    · cases h
theorem kid_run (ok : Ok M X) (hu : X.A.units + 1 < cLine) {value slice : Expr} {pins : List (Addr × Obj)} {s : Shared} {Q : VK} {p q : V} {u v : Value} {n : O} {d : RF.D} {as : List Addr} {j : Nat} (I : Inv X pins σ H s) (rp : RelV p u) (rq : RelV q v) (sub : Sb F H) (r1 : OwR M F H p n as) (r2 : Rep M F q d)
    (h : kid n d = some j) (hq : ∀ w, PathV H p [j] w → Q w H) (hs : subscripted slice false u v = operate [u, v] (getItem u v)) : wpAny (model X.prog X.w) X.A (subscriptTail value slice u v) (EP X pins σ Q) X.xe s := by
  cases r1 with
  | lst h1 r =>
    cases d with
    | int i =>
      simp only [kid] at h
      cases r2.intv
      rw [← r.len2] at h
      obtain ⟨w, hw⟩ : ∃ w, (‹List V›)[j]? = some w := by
        have : j < (‹List V›).length := ix_lt h
        exact ⟨_, List.getElem?_eq_getElem this⟩
      exact ix_list value slice pins s σ H _ _ u v Q I rp rq ⟨_, _, i, w, rfl, rfl, by rw [ok.K]; exact SqL.of h1, by unfold atI; rw [← ix_eq, h]; exact hw, hq w (.lst h1 hw .nil)⟩ hs
    | _ => simp [kid] at h
  | @dic a kvs ks os as h1 hk hn r =>
    have h : keyAt ks d = some j := by cases d <;> exact h
    obtain ⟨kk, rfl⟩ := keyAt_isKey h
    rw [hk] at h
    obtain ⟨w, e1, e2⟩ := keyAt_ok h
    cases r2.key
    obtain rfl : u = Value.ref a := rp
    have g : DGet H a (kV kk) (some w) := .inl ⟨kvs, kk, .inl h1, rfl, e1.symm⟩
    exact tail_any (dict_typeIs I g) PySem.F.slot_dict_getitem.lookup (d_getItem hu I g rq fun w' s3 I3 rw' => ⟨w, H, I3, rw', hq w (.dic h1 e2 .nil)⟩) hs
  | obj => cases d <;> simp [kid] at h
  | lf => cases d <;> simp [kid] at h
theorem sL_sub (ok : Ok M X) (hu : X.A.units + 1 < cLine) {p : Px} {x : Ex} (ha : PE X a1 (tL b M av W (evL M.T Φ p))) (hb : PE X a2 (tE true M av W (evE M.T Φ x))) (hs : PlainIx a2) :
    PE X (.Subscript a1 a2 pos) (tL b M av W (evL M.T Φ (.sub p x))) := by
  refine ⟨fun pins s σ H Q I ⟨ρ, F, own, pt, q⟩ => ?_⟩
  unfold evL at q
  refine Subscript_ (binT ha hb (R := fun p u H2 => ∃ (n : O) (d : RF.D) (F : Hp) (as : List Addr) (j : Nat), Sb F H2 ∧ OwR M F H2 p n as ∧ Rep M F u d ∧ kid n d = some j ∧ ∀ w, PathV H2 p [j] w → Q w H2) I ⟨ρ, F, own, pt, ?_⟩
    fun v u s2 p q' H2 I2 rp rq ⟨n, d, F, as, j, sub, r1, r2, h, hq⟩ => kid_run ok hu I2 rp rq sub r1 r2 h hq (hs _ _))
  refine q.bind fun r v F1 H1 own1 g1 ⟨p1, w, hw, pv⟩ q1 => ⟨r.2, F1, own1, p1, ?_⟩
  refine q1.bindT (Rl := rE M av) fun t u F2 H2 own2 g2 ⟨p2, r2⟩ q2 => ?_
  have pv2 : PathV H2 w r.1.2 v := pv.mono fun a u e => g2.hh a u e (.inl rfl)
  split at q2
  · rename_i j hj
    cases hn : owAt t.2 r.1.1 r.1.2 with
    | none => rw [hn] at hj; cases hj
    | some n =>
      rw [hn] at hj
      obtain ⟨bs, rn, _, _⟩ := mut_ok p2 hn hw pv2
      exact ⟨n, t.1, F2, bs, j, p2.sub, rn, r2, hj, fun w' pw => q2 w' F2 H2 own2 Gr.rfl' ⟨p2, w, hw, pv2.snoc pw⟩⟩
  · exact q2.elim
theorem sL_fld (ok : Ok M X) (mk : MOk M) {p : Px} {f : Nat} {nmf : PySem.Str} (hnm : M.nm f = nmf) (ha : PE X e (tL b M av W (evL M.T Φ p))) (hb : attributeBase e nmf X.env (eval e X.env) = eval e X.env) :
    PE X (.Attribute e nmf pos) (tL b M av W (evL M.T Φ (.fld p f))) := by
  refine imE (pe_fld ha hb) fun σ H Q ⟨ρ, F, own, pt, q⟩ => ⟨ρ, F, own, pt, ?_⟩
  unfold evL at q
  refine q.bind fun r v F1 H1 own1 g ⟨p1, w, hw, pv⟩ q1 => ?_
  split at q1
  · rename_i j hj
    cases hn : owAt r.2 r.1.1 r.1.2 with
    | none => rw [hn] at hj; cases hj
    | some n =>
      rw [hn] at hj
      obtain ⟨bs, rn, _, _⟩ := mut_ok p1 hn hw pv
      cases rn with
      | @obj a C dx c fs os as h1 hc hl hnm2 rr =>
        have hj : ((place (M.T.fld c) f).bind fun j => if j < os.length then some j else none) = some j := hj
        cases hp : place (M.T.fld c) f with
        | none => rw [hp] at hj; cases hj
        | some i =>
          rw [hp] at hj
          have hj : (if i < os.length then some i else none) = some j := hj
          split at hj
          · rename_i hlt
            have ej := Option.some.inj hj
            subst ej
            subst hnm
            have lk := lookup_place _ _ fs i hnm2 hp fun g m e => mk.inj c g f m (place_mem hp) e
            have hl2 : i < (fs.map (·.2)).length := by rw [rr.len2]; exact hlt
            have ew : (fs.map (·.2))[i]? = some (fs.map (·.2))[i] := List.getElem?_eq_getElem hl2
            exact ⟨a, C, dx, fs, _, rfl, h1, by rw [ok.K]; exact mk.cl c C hc, by rw [ok.K]; exact mk.fn c C f hc (place_mem hp), by rw [lk, ew], q1 _ F1 H1 own1 Gr.rfl' ⟨p1, w, hw, pv.snoc (.obj h1 ew .nil)⟩⟩
          · cases hj
      | _ => cases hj
  · exact q1.elim
end
end RF
end

section
set_option Elab.async false
set_option linter.all false
set_option autoImplicit false
set_option maxRecDepth 100000
set_option maxHeartbeats 1000000
/-! RfY: stores into owned lists, dicts, objects; append, insert. -/
namespace RF
open PySem L2
open PyProof.Rows hiding St
section
variable {b : Bool} {M : Mach} {av : List V} {W : WX} {X : Cx} {F H : Hp} {σ : L2.St} {ρ : Env} {own : Ow} {Φ : Fn} {k : Nat} {e a1 a2 a3 : Expr} {es : List Expr} {pos p2 apos : Pos} {st : Stmt}
/-! ### dicts -/
theorem putK_eq {k : Key} {v v0 : V} {r : List (Key × V)} (h : k ∉ r.map (·.1)) : putK ((k, v0) :: r) k v = (k, v) :: r := by
  unfold putK
  rw [if_pos (by rw [List.any_cons]; simp)]
  rw [List.map_cons, if_pos rfl]
  congr 1
  have : ∀ kv ∈ r, (if kv.1 = k then (kv.1, v) else kv) = kv := fun kv m => if_neg fun e => h (by rw [← e]; exact List.mem_map_of_mem m)
  rw [List.map_congr_left this, List.map_id']
theorem putK_ne {k k0 : Key} {v v0 : V} {r : List (Key × V)} (h : k0 ≠ k) : putK ((k0, v0) :: r) k v = (k0, v0) :: putK r k v := by
  unfold putK
  have e : (((k0, v0) :: r).any fun kv => decide (kv.1 = k)) = r.any fun kv => decide (kv.1 = k) := by
    rw [List.any_cons, decide_eq_false h, Bool.false_or]
  rw [e]
  by_cases c : (r.any fun kv => decide (kv.1 = k)) = true
  · rw [if_pos c, if_pos c, List.map_cons, if_neg h]
  · rw [if_neg c, if_neg c]; rfl
theorem putK_keys : ∀ {kvs : List (Key × V)} {k : Key} {v : V}, (kvs.map (·.1)).Nodup → ((putK kvs k v).map (·.1)).Nodup ∧ ∀ x ∈ (putK kvs k v).map (·.1), x = k ∨ x ∈ kvs.map (·.1)
  | [], k, v, _ => ⟨by simp [putK], by simp [putK]⟩
  | (k0, v0) :: r, k, v, h => by
    rw [List.map_cons, List.nodup_cons] at h
    by_cases e : k0 = k
    · subst e
      rw [putK_eq h.1]
      exact ⟨by rw [List.map_cons, List.nodup_cons]; exact h, fun x m => .inr m⟩
    · obtain ⟨h1, h2⟩ := putK_keys (k := k) (v := v) h.2
      rw [putK_ne e]
      refine ⟨?_, fun x m => ?_⟩
      · rw [List.map_cons, List.nodup_cons]
        exact ⟨fun m => (h2 _ m).elim (fun z => e z) h.1, h1⟩
      · rcases List.mem_cons.mp m with m | m
        · exact .inr (by rw [m]; exact List.mem_cons_self)
        · exact (h2 x m).imp id fun z => List.mem_cons_of_mem _ z
theorem store_ok : ∀ {kvs : List (Key × V)} {os : List O} {as : List Addr} {k : Key} {v : V} {d : RF.D}, (kvs.map (·.1)).Nodup → OwRs M F H (kvs.map (·.2)) os as → as.Nodup → Rep M F v d →
    (store (kvs.map fun kv => kD kv.1) os (kD k) (.lf d)).1 = (putK kvs k v).map (fun kv => kD kv.1) ∧ ∃ as', OwRs M F H ((putK kvs k v).map (·.2)) (store (kvs.map fun kv => kD kv.1) os (kD k) (.lf d)).2 as' ∧ as'.Nodup ∧ ∀ x ∈ as', x ∈ as
  | [], os, as, k, v, d, _, r, nd, rd => by
    cases r
    exact ⟨rfl, [], .cons (as := []) (.lf rd) .nil, List.nodup_nil, fun _ m => nomatch m⟩
  | (k0, v0) :: kvs, _, _, k, v, d, hn, .cons (o := o) (os := os) (as := as) (bs := bs) h r, nd, rd => by
    rw [List.map_cons, List.nodup_cons] at hn
    rw [List.map_cons, store, keyEq_iff]
    by_cases e : k0 = k
    · subst e
      rw [if_pos (decide_eq_true rfl), putK_eq hn.1]
      refine ⟨rfl, bs, .cons (as := []) (.lf rd) r, (List.nodup_append.mp nd).2.1, fun x m => List.mem_append_right _ m⟩
    · rw [if_neg (by simpa using e), putK_ne e]
      obtain ⟨h1, as', h2, h3, h4⟩ := store_ok (k := k) (v := v) (d := d) hn.2 r (List.nodup_append.mp nd).2.1 rd
      refine ⟨by rw [List.map_cons, h1], as ++ as', .cons h h2, ?_, fun x m => ?_⟩
      · rw [List.nodup_append] at nd ⊢
        exact ⟨nd.1, h3, fun a ha c hc => nd.2.2 a ha c (h4 c hc)⟩
      · rcases List.mem_append.mp m with m | m
        · exact List.mem_append_left _ m
        · exact List.mem_append_right _ (h4 x m)
theorem isKey_kD {d : RF.D} (h : isKey d = true) : ∃ kk, d = kD kk := by
  cases d with
  | int i => exact ⟨.inl i, rfl⟩
  | str x => exact ⟨.inr x, rfl⟩
  | _ => simp [isKey] at h
/-- the change of a node by a store -/
theorem set_node {v y i : V} {n n' : O} {bs : List Addr} {di dy : RF.D} (r : OwR M F H v n bs) (nd : bs.Nodup) (ri : Rep M F i di) (rd : Rep M F y dy) (h : setO n di dy = some n') :
    ∃ a u bs', v = .ref a ∧ a ∈ bs ∧ OwR M F (upd H a u) v n' bs' ∧ bs'.Nodup ∧ (∀ x ∈ bs', x ∈ bs) ∧
      ((∃ xs kk j, i = .int kk ∧ H a = some (.lst xs) ∧ ixN xs.length kk = some j ∧ u = .lst (xs.set j y)) ∨ ∃ kvs kk, i = kV kk ∧ H a = some (.dK kvs) ∧ kvs.length < sizeLine ∧ u = .dK (putK kvs kk y)) := by
  cases r with
  | @lst a vs os as h1 r =>
    cases di with
    | int ii =>
      simp only [setO] at h
      cases hx : ix os.length ii with
      | none => rw [hx] at h; cases h
      | some j =>
        rw [hx] at h
        cases h
        cases ri.intv
        have hj : j < os.length := ix_lt hx
        obtain ⟨v1, bs1, l, rr, e1, e2, e3, e4⟩ := r.setAt (List.getElem?_eq_getElem hj)
        subst e3
        have nd0 := List.nodup_cons.mp nd
        have z := e4 (upd H a (.lst (vs.set j y))) y (.lf dy) [] (fun c m u hu => by
          rw [upd_ne (fun q => nd0.1 (by
            rw [← q]
            rcases List.mem_append.mp m with m | m
            · exact List.mem_append_left _ (List.mem_append_left _ m)
            · exact List.mem_append_right _ m))]; exact hu) (.lf rd)
        have sub : ∀ x ∈ l ++ [] ++ rr, x ∈ l ++ bs1 ++ rr := fun x m => by
          rw [List.append_nil] at m
          rcases List.mem_append.mp m with m | m
          · exact List.mem_append_left _ (List.mem_append_left _ m)
          · exact List.mem_append_right _ m
        refine ⟨a, _, a :: (l ++ [] ++ rr), rfl, List.mem_cons_self, .lst upd_same z, List.nodup_cons.mpr ⟨fun m => nd0.1 (sub a m), nodup_mid nd0.2 List.nodup_nil fun _ m => nomatch m⟩, fun x m => ?_, .inl ⟨vs, ii, j, rfl, h1, by rw [r.len2, ← ix_eq]; exact hx, rfl⟩⟩
        rcases List.mem_cons.mp m with m | m
        · rw [m]; exact List.mem_cons_self
        · exact List.mem_cons_of_mem _ (sub x m)
    | _ => simp [setO] at h
  | @dic a kvs ks os as h1 hk hn r =>
    have h : (if isKey di ∧ ks.length < lim then some (O.dic (store ks os di (.lf dy)).1 (store ks os di (.lf dy)).2) else none) = some n' := by cases di <;> exact h
    split at h
    · rename_i hc
      cases h
      obtain ⟨kk, rfl⟩ := isKey_kD hc.1
      cases ri.key
      have nd0 := List.nodup_cons.mp nd
      have r2 : OwRs M F (upd H a (.dK (putK kvs kk y))) (kvs.map (·.2)) os as := r.mono Sb.rfl' fun c m u hu => by
        rw [upd_ne (fun q => nd0.1 (by rw [← q]; exact m))]; exact hu
      obtain ⟨g1, as', g2, g3, g4⟩ := store_ok (k := kk) hn r2 nd0.2 rd
      subst hk
      refine ⟨a, _, a :: as', rfl, List.mem_cons_self, .dic upd_same g1 (putK_keys hn).1 g2, List.nodup_cons.mpr ⟨fun m => nd0.1 (g4 a m), g3⟩, fun x m => ?_, .inr ⟨kvs, kk, rfl, h1, by rw [← lim_eq]; have := hc.2; rw [List.length_map] at this; exact this, rfl⟩⟩
      rcases List.mem_cons.mp m with m | m
      · rw [m]; exact List.mem_cons_self
      · exact List.mem_cons_of_mem _ (g4 x m)
    · cases h
  | obj => simp [setO] at h
  | lf => simp [setO] at h
/-- o[i] = v, a list or a dict -/
def rSetA : TSet := fun o i v H Q => rSetL o i v H Q ∨ rSetD o i v H Q
theorem set_any (hu : X.A.units + 1 < cLine) : PSet X rSetA := by
  intro pins s σ H o i v ov iv u Q I ro ri rv h
  rcases h with h | h
  · exact set_list pins s σ H o i v ov iv u Q I ro ri rv h
  · exact set_dict hu pins s σ H o i v ov iv u Q I ro ri rv h
theorem sS_put (hu : X.A.units + 1 < cLine) {p : Px} {i x : Ex} (he : PE X e (tE false M av W (evE M.T Φ x))) (ho : PE X a1 (tL false M av W (evL M.T Φ p))) (hi : PE X a2 (tE true M av W (evE M.T Φ i)))
    (ha : ∀ v, assign (.Subscript a1 a2 p2) X.env v = (do
      let ov ← holding [v] (eval a1 X.env)
      let iv ← holding [v, ov] (eval a2 X.env)
      standAt p2
      holding [v, ov, iv] (setItem ov iv v)
      release [v, ov, iv] []))
    (hs : swapsWithSole [.Subscript a1 a2 p2] e pos.line X.env = pure false) (hw : swappedStores [.Subscript a1 a2 p2] e X.env = pure none) :
    PS X (.Assign [.Subscript a1 a2 p2] e pos) (tS M av W (evS M.T Φ (.put p i x))) := by
  refine imS (ps_asg he (pg_sub ho hi (set_any hu) ha) hs hw) fun D σ H ⟨ρ, F, own, pt, q⟩ => ⟨ρ, F, own, pt, ?_⟩
  unfold evS at q
  refine q.to (Rl := rE M av) fun r y F1 H1 own1 g1 ⟨p1, r1⟩ q1 => ⟨r.2, F1, own1, p1, ?_⟩
  refine q1.to (Rl := rL M av) fun s v F2 H2 own2 g2 ⟨p2, w, hw, pv⟩ q2 => ⟨s.2, F2, own2, p2, ?_⟩
  have core : ∀ (rr : R (RF.D × Env)), QS M av W F2 H2 (In own2) (rr.to fun t => match (owAt t.2 s.1.1 s.1.2).bind fun o => setO o t.1 r.1 with
      | some n => (owPut t.2 s.1.1 s.1.2 n).to .nx
      | none => .bad) D → QR true M av W σ (rE M av σ) F2 H2 (In own2) rr fun iv H3 => rSetA v iv y H3 fun H4 => D.nx σ H4 := fun rr q2 => by
    cases rr with
    | bad => exact q2
    | exc c es ρ' => exact fun F' H' own' C dx vs g p => q2 σ F' H' own' C dx vs g.lax p
    | ok t =>
      intro iv F3 H3 own3 g3 ⟨p3, r3⟩
      have q3 : QS M av W F3 H3 (In own3) (match (owAt t.2 s.1.1 s.1.2).bind fun o => setO o t.1 r.1 with
        | some n => (owPut t.2 s.1.1 s.1.2 n).to .nx
        | none => .bad) D := QS.step g3.lax q2
      cases hn : owAt t.2 s.1.1 s.1.2 with
      | none => rw [hn] at q3; exact q3.elim
      | some n =>
        rw [hn] at q3
        cases hset : setO n t.1 r.1 with
        | none => simp only [Option.bind_some, hset] at q3; exact q3.elim
        | some n' =>
          simp only [Option.bind_some, hset] at q3
          obtain ⟨bs, rn, ndb, mt⟩ := mut_ok p3 hn hw (pv.mono fun a u ea => g3.hh a u ea (.inl rfl))
          obtain ⟨a, u, bs', ea, hab, rn', nd', sub', hcase⟩ := set_node rn ndb r3 ((r1.mono g2.ff).mono g3.ff) hset
          obtain ⟨ρ', own', ep, p4, g4⟩ := mt a u n' bs' ea hab rn' nd' sub'
          rw [ep] at q3
          have fin : D.nx σ (upd H3 a u) := q3 σ F3 _ own' g4 p4
          rcases hcase with ⟨xs, kk, j, e1, e2, e3, e4⟩ | ⟨kvs, kk, e1, e2, e3, e4⟩
          · subst e4; exact .inl ⟨a, xs, kk, j, ea, e1, e2, e3, fin⟩
          · subst e4; exact .inr ⟨a, _, ea, .inl ⟨kvs, kk, e2, e1, e3, rfl⟩, fin⟩
  exact core _ q2
/-! ### append -/
theorem app_node {v y : V} {os : List O} {bs : List Addr} {dy : RF.D} (r : OwR M F H v (.lst os) bs) (nd : bs.Nodup) (rd : Rep M F y dy) :
    ∃ a vs, v = .ref a ∧ a ∈ bs ∧ H a = some (.lst vs) ∧ vs.length = os.length ∧ OwR M F (upd H a (.lst (vs ++ [y]))) v (.lst (os ++ [.lf dy])) bs := by
  cases r with
  | @lst a vs os as h1 r =>
    have nd0 := List.nodup_cons.mp nd
    refine ⟨a, vs, rfl, List.mem_cons_self, h1, r.len2, .lst upd_same ?_⟩
    have z := OwRs.append (r.mono (H' := upd H a (.lst (vs ++ [y]))) Sb.rfl' fun c m u hu => by rw [upd_ne (fun q => nd0.1 (by rw [← q]; exact m))]; exact hu) (.one (.lf rd))
    rw [List.append_nil] at z
    exact z
theorem OwRs.split : ∀ {vs : List V} {os : List O} {as : List Addr} (n : Nat), OwRs M F H vs os as → ∃ l r, as = l ++ r ∧ OwRs M F H (vs.take n) (os.take n) l ∧ OwRs M F H (vs.drop n) (os.drop n) r
  | _, _, as, 0, r => ⟨[], as, rfl, .nil, r⟩
  | _, _, _, n + 1, .nil => ⟨[], [], rfl, .nil, .nil⟩
  | _, _, _, n + 1, .cons (as := as) h r => by
    obtain ⟨l, rr, e, h1, h2⟩ := OwRs.split n r
    exact ⟨as ++ l, rr, by rw [e, List.append_assoc], .cons h h1, h2⟩
theorem ins_node {v y : V} {os : List O} {bs : List Addr} {dy : RF.D} (n : Nat) (r : OwR M F H v (.lst os) bs) (nd : bs.Nodup) (rd : Rep M F y dy) :
    ∃ a vs, v = .ref a ∧ a ∈ bs ∧ H a = some (.lst vs) ∧ vs.length = os.length ∧ OwR M F (upd H a (.lst (vs.take n ++ [y] ++ vs.drop n))) v (.lst (os.take n ++ [.lf dy] ++ os.drop n)) bs := by
  cases r with
  | @lst a vs os as h1 r =>
    have nd0 := List.nodup_cons.mp nd
    refine ⟨a, vs, rfl, List.mem_cons_self, h1, r.len2, .lst upd_same ?_⟩
    have r2 : OwRs M F (upd H a (.lst (vs.take n ++ [y] ++ vs.drop n))) vs os as := r.mono Sb.rfl' fun c m u hu => by rw [upd_ne (fun q => nd0.1 (by rw [← q]; exact m))]; exact hu
    obtain ⟨l, rr, e, h3, h4⟩ := OwRs.split n r2
    have z := OwRs.append (OwRs.append h3 (.one (.lf rd))) h4
    rw [List.append_nil, ← e] at z
    exact z
/-- xs.append(e): e strict, or the place a name -/
theorem sS_app (ok : Ok M X) {p : Px} {x : Ex} (hb : b = true ∨ ∃ i, p = .pk i) (ho : PE X a1 (tL false M av W (evL M.T Φ p))) (he : PE X e (tE b M av W (evE M.T Φ x)))
    (hbase : attributeBase a1 "append" X.env (eval a1 X.env) = eval a1 X.env)
    (hfew : ((backTo p2 (starEach [e] X.env)).all (fun x => !x.1) && (backToKw p2 (keywordEach [] X.env)).all (fun x => x.1.isSome) && decide (([e] : List Expr).length + ([] : List Keyword).length + (if ([] : List Keyword).isEmpty then 0 else 1) < 30)) = true)
    (hline : (apos.endLine == p2.line) = true) (hs : starEach [e] X.env = (false, eval e X.env) :: starEach [] X.env) (hpl : (backTo p2 (starEach ([] : List Expr) X.env)).any (·.1) = false) (hsw : swapsWith (.Call (.Attribute a1 "append" apos) [e] [] p2) none pos.line X.env = pure false) :
    PS X (.Expr (.Call (.Attribute a1 "append" apos) [e] [] p2) pos) (tS M av W (evS M.T Φ (.app p x))) := by
  refine imS (ps_expr (pe_bm PySem.F.plainAttrs_list PySem.F.slot_list_append PySem.F.type_list_append mt_append ho (pa_cons he pa_nil hs) hbase hfew hline hs hpl) hsw) fun D σ H ⟨ρ, F, own, pt, q⟩ => ⟨ρ, F, own, pt, ?_⟩
  unfold evS at q
  have core : ∀ (rs : R ((Nat × List Nat) × Env)), evL M.T Φ p ρ = rs → QS M av W F H (In own) (rs.to fun s => match owAt s.2 s.1.1 s.1.2 with
    | some (.lst _) => (evE M.T Φ x s.2).to fun r => match owAt r.2 s.1.1 s.1.2 with
      | some (.lst os) => if os.length < lim then (owPut r.2 s.1.1 s.1.2 (.lst (os ++ [.lf r.1]))).to .nx else .bad
      | _ => .bad
    | _ => .bad) D → QR false M av W σ (rL M av σ) F H (In own) rs fun v H1 => tyV X.K "list" v H1 ∧ tE b M av W (evE M.T Φ x) σ H1 fun y H2 => rAppend v [y] H2 fun _ H3 => D.nx σ H3 := fun rs ers q => by
    cases rs with
    | bad => exact q
    | exc c es ρ' => exact fun F' H' own' C dx vs g p => q σ F' H' own' C dx vs g p
    | ok s =>
      intro v F1 H1 own1 g1 ⟨p1, w, hw, pv⟩
      have hpath : b = true ∨ s.1.2 = [] := hb.imp id fun ⟨i, e⟩ => by
        subst e
        unfold evL at ers
        split at ers
        · cases ers; rfl
        · cases ers
      have q1 := QS.step g1 (show QS M av W F H (In own) (match owAt s.2 s.1.1 s.1.2 with
        | some (.lst _) => (evE M.T Φ x s.2).to fun r => match owAt r.2 s.1.1 s.1.2 with
          | some (.lst os) => if os.length < lim then (owPut r.2 s.1.1 s.1.2 (.lst (os ++ [.lf r.1]))).to .nx else .bad
          | _ => .bad
        | _ => .bad) D from q)
      split at q1
      · rename_i os0 ho0
        obtain ⟨bs0, rn0, _, _⟩ := mut_ok p1 ho0 hw pv
        refine ⟨?_, s.2, F1, own1, p1, ?_⟩
        · cases rn0 with
          | lst h1 r => exact .inl ⟨rfl, _, SqL.of h1⟩
        · cases hx : evE M.T Φ x s.2 with
          | bad => rw [hx] at q1; exact q1
          | exc c es ρ' => rw [hx] at q1; exact fun F' H' own' C dx vs g p => q1 σ F' H' own' C dx vs g.lax p
          | ok r =>
            rw [hx] at q1
            intro y F2 H2 own2 g2 ⟨p2, r2⟩
            have q2 := QS.step g2.lax (show QS M av W F1 H1 (In own1) (match owAt r.2 s.1.1 s.1.2 with
              | some (.lst os) => if os.length < lim then (owPut r.2 s.1.1 s.1.2 (.lst (os ++ [.lf r.1]))).to .nx else .bad
              | _ => .bad) D from q1)
            have pv2 : PathV H2 w s.1.2 v := by
              rcases hpath with z | z
              · exact pv.mono fun a u ea => g2.hh a u ea (.inl z)
              · rw [z] at pv ⊢; cases pv; exact .nil
            split at q2
            · rename_i os hos
              split at q2
              · rename_i hlt
                obtain ⟨bs, rn, ndb, mt⟩ := mut_ok p2 hos hw pv2
                obtain ⟨a, vs, ea, ha, h1, h2, h3⟩ := app_node rn ndb r2
                obtain ⟨ρ', own', ep, p4, g4⟩ := mt a _ _ bs ea ha h3 ndb fun _ m => m
                rw [ep] at q2
                exact ⟨a, vs, y, ea, rfl, h1, by rw [h2, ← lim_eq]; exact hlt, q2 σ F2 _ own' g4 p4⟩
              · exact q2.elim
            · exact q2.elim
      · exact q1.elim
  exact core _ rfl q
theorem sS_ins (ok : Ok M X) {p : Px} {i x : Ex} (hb : b = true ∨ ∃ i, p = .pk i) (ho : PE X a1 (tL false M av W (evL M.T Φ p))) (hi : PE X a2 (tE b M av W (evE M.T Φ i))) (he : PE X e (tE b M av W (evE M.T Φ x)))
    (hbase : attributeBase a1 "insert" X.env (eval a1 X.env) = eval a1 X.env)
    (hfew : ((backTo p2 (starEach [a2, e] X.env)).all (fun x => !x.1) && (backToKw p2 (keywordEach [] X.env)).all (fun x => x.1.isSome) && decide (([a2, e] : List Expr).length + ([] : List Keyword).length + (if ([] : List Keyword).isEmpty then 0 else 1) < 30)) = true)
    (hline : (apos.endLine == p2.line) = true) (hs : starEach [a2, e] X.env = (false, eval a2 X.env) :: starEach [e] X.env) (hs2 : starEach [e] X.env = (false, eval e X.env) :: starEach [] X.env) (hpl : (backTo p2 (starEach [e] X.env)).any (·.1) = false) (hsw : swapsWith (.Call (.Attribute a1 "insert" apos) [a2, e] [] p2) none pos.line X.env = pure false) :
    PS X (.Expr (.Call (.Attribute a1 "insert" apos) [a2, e] [] p2) pos) (tS M av W (evS M.T Φ (.ins p i x))) := by
  refine imS (ps_expr (pe_bm PySem.F.plainAttrs_list PySem.F.slot_list_insert PySem.F.type_list_insert mt_insert ho (pa_cons hi (pa_cons he pa_nil hs2) hs) hbase hfew hline hs hpl) hsw) fun D σ H ⟨ρ, F, own, pt, q⟩ => ⟨ρ, F, own, pt, ?_⟩
  unfold evS at q
  have core : ∀ (rs : R ((Nat × List Nat) × Env)), evL M.T Φ p ρ = rs → QS M av W F H (In own) (rs.to fun s => match owAt s.2 s.1.1 s.1.2 with
    | some (.lst _) => (evE M.T Φ i s.2).to fun q => (evE M.T Φ x q.2).to fun r => match owAt r.2 s.1.1 s.1.2, q.1 with
      | some (.lst os), .int k => if os.length < lim ∧ 0 ≤ k ∧ k < 2 ^ 63 then (owPut r.2 s.1.1 s.1.2 (.lst (os.take k.toNat ++ [.lf r.1] ++ os.drop k.toNat))).to .nx else .bad
      | _, _ => .bad
    | _ => .bad) D → QR false M av W σ (rL M av σ) F H (In own) rs fun v H1 => tyV X.K "list" v H1 ∧ tE b M av W (evE M.T Φ i) σ H1 fun iv H2 => tE b M av W (evE M.T Φ x) σ H2 fun y H3 => ∃ (l : Addr) (xs : List V) (i : Int) (z : V), v = .ref l ∧ [iv, y] = [.int i, z] ∧ H3 l = some (.lst xs) ∧ xs.length < sizeLine ∧ 0 ≤ i ∧ i < 2 ^ 63 ∧
      D.nx σ (upd H3 l (.lst (xs.take i.toNat ++ [z] ++ xs.drop i.toNat))) := fun rs ers q => by
    cases rs with
    | bad => exact q
    | exc c es ρ' => exact fun F' H' own' C dx vs g p => q σ F' H' own' C dx vs g p
    | ok s =>
      intro v F1 H1 own1 g1 ⟨p1, w, hw, pv⟩
      have hpath : b = true ∨ s.1.2 = [] := hb.imp id fun ⟨i, e⟩ => by
        subst e
        unfold evL at ers
        split at ers
        · cases ers; rfl
        · cases ers
      have q1 := QS.step g1 (show QS M av W F H (In own) (match owAt s.2 s.1.1 s.1.2 with
        | some (.lst _) => (evE M.T Φ i s.2).to fun q => (evE M.T Φ x q.2).to fun r => match owAt r.2 s.1.1 s.1.2, q.1 with
          | some (.lst os), .int k => if os.length < lim ∧ 0 ≤ k ∧ k < 2 ^ 63 then (owPut r.2 s.1.1 s.1.2 (.lst (os.take k.toNat ++ [.lf r.1] ++ os.drop k.toNat))).to .nx else .bad
          | _, _ => .bad
        | _ => .bad) D from q)
      split at q1
      · rename_i os0 ho0
        obtain ⟨bs0, rn0, _, _⟩ := mut_ok p1 ho0 hw pv
        refine ⟨?_, s.2, F1, own1, p1, ?_⟩
        · cases rn0 with
          | lst h1 r => exact .inl ⟨rfl, _, SqL.of h1⟩
        · cases hi : evE M.T Φ i s.2 with
          | bad => rw [hi] at q1; exact q1
          | exc c es ρ' => rw [hi] at q1; exact fun F' H' own' C dx vs g p => q1 σ F' H' own' C dx vs g.lax p
          | ok ri =>
            rw [hi] at q1
            intro iv F2 H2 own2 g2 ⟨p2, r2⟩
            have pv2 : PathV H2 w s.1.2 v := by
              rcases hpath with z | z
              · exact pv.mono fun a u ea => g2.hh a u ea (.inl z)
              · rw [z] at pv ⊢; cases pv; exact .nil
            refine ⟨ri.2, F2, own2, p2, ?_⟩
            have q2 := QS.step g2.lax (show QS M av W F1 H1 (In own1) ((evE M.T Φ x ri.2).to fun r => match owAt r.2 s.1.1 s.1.2, ri.1 with
              | some (.lst os), .int k => if os.length < lim ∧ 0 ≤ k ∧ k < 2 ^ 63 then (owPut r.2 s.1.1 s.1.2 (.lst (os.take k.toNat ++ [.lf r.1] ++ os.drop k.toNat))).to .nx else .bad
              | _, _ => .bad) D from q1)
            cases hx : evE M.T Φ x ri.2 with
            | bad => rw [hx] at q2; exact q2
            | exc c es ρ' => rw [hx] at q2; exact fun F' H' own' C dx vs g p => q2 σ F' H' own' C dx vs g.lax p
            | ok r =>
              rw [hx] at q2
              intro y F3 H3 own3 g3 ⟨p3, r3⟩
              have q3 := QS.step g3.lax (show QS M av W F2 H2 (In own2) (match owAt r.2 s.1.1 s.1.2, ri.1 with
                | some (.lst os), .int k => if os.length < lim ∧ 0 ≤ k ∧ k < 2 ^ 63 then (owPut r.2 s.1.1 s.1.2 (.lst (os.take k.toNat ++ [.lf r.1] ++ os.drop k.toNat))).to .nx else .bad
                | _, _ => .bad) D from q2)
              have pv3 : PathV H3 w s.1.2 v := by
                rcases hpath with z | z
                · exact pv2.mono fun a u ea => g3.hh a u ea (.inl z)
                · rw [z] at pv2 ⊢; cases pv2; exact .nil
              split at q3
              · rename_i os kk hos hk
                rw [hk] at r2
                cases r2.intv
                split at q3
                · rename_i hlt
                  obtain ⟨bs, rn, ndb, mt⟩ := mut_ok p3 hos hw pv3
                  obtain ⟨a, vs, ea, ha, h1, h2, h3⟩ := ins_node kk.toNat rn ndb r3
                  obtain ⟨ρ', own', ep, p4, g4⟩ := mt a _ _ bs ea ha h3 ndb fun _ m => m
                  rw [ep] at q3
                  exact ⟨a, vs, kk, y, ea, rfl, h1, by rw [h2, ← lim_eq]; exact hlt.1, hlt.2.1, hlt.2.2, q3 σ F3 _ own' g4 p4⟩
                · exact q3.elim
              · exact q3.elim
      · exact q1.elim
  exact core _ rfl q
/-! ### fields of an owned object -/
theorem putF_app {f : PySem.Str} {v : V} : ∀ {fs : List (PySem.Str × V)}, f ∉ fs.map (·.1) → putF f v fs = fs ++ [(f, v)]
  | [], _ => rfl
  | (g, x) :: r, h => by
    have h1 : g ≠ f := fun z => h (by rw [z]; exact List.mem_cons_self)
    rw [putF, if_neg h1, putF_app fun z => h (List.mem_cons_of_mem _ z)]; rfl
theorem putF_set {f : PySem.Str} {v : V} : ∀ {fs : List (PySem.Str × V)} {j : Nat}, (fs.map (·.1))[j]? = some f → (fs.map (·.1)).Nodup → (putF f v fs).map (·.1) = fs.map (·.1) ∧ (putF f v fs).map (·.2) = (fs.map (·.2)).set j v
  | [], j, h, _ => by simp at h
  | (g, x) :: r, 0, h, _ => by
    simp at h
    subst h
    rw [putF, if_pos rfl]
    exact ⟨rfl, rfl⟩
  | (g, x) :: r, j + 1, h, nd => by
    rw [List.map_cons, List.nodup_cons] at nd
    have h' : (r.map (·.1))[j]? = some f := by simpa using h
    have hne : g ≠ f := fun z => nd.1 (by rw [z]; exact List.mem_of_getElem? h')
    obtain ⟨h1, h2⟩ := putF_set (v := v) h' nd.2
    rw [putF, if_neg hne]
    exact ⟨by rw [List.map_cons, h1]; rfl, by rw [List.map_cons, h2]; rfl⟩
theorem place_at {l : List Nat} {f j : Nat} (h : place l f = some j) : l[j]? = some f := by
  induction l generalizing j with
  | nil => simp [place] at h
  | cons g r ih =>
    unfold place at h
    by_cases q : g = f
    · rw [if_pos q] at h; cases h; subst q; rfl
    · rw [if_neg q] at h
      cases hp : place r f with
      | none => rw [hp] at h; cases h
      | some i => rw [hp] at h; cases h; simpa using ih hp
theorem place_first : ∀ {l : List Nat} {f j : Nat}, place l f = some j → f ∉ l.take j
  | [], _, _, h => by simp [place] at h
  | g :: r, f, j, h => by
    unfold place at h
    by_cases q : g = f
    · rw [if_pos q] at h; cases h; simp
    · rw [if_neg q] at h
      cases hp : place r f with
      | none => rw [hp] at h; cases h
      | some i =>
        rw [hp] at h
        cases h
        rw [List.take_succ_cons, List.mem_cons, not_or]
        exact ⟨fun z => q z.symm, place_first hp⟩
theorem nodup_map {nm : Nat → PySem.Str} : ∀ {l : List Nat}, l.Nodup → (∀ f ∈ l, ∀ g ∈ l, nm f = nm g → f = g) → (l.map nm).Nodup
  | [], _, _ => List.nodup_nil
  | f :: r, h, inj => by
    rw [List.nodup_cons] at h
    rw [List.map_cons, List.nodup_cons]
    refine ⟨fun m => ?_, nodup_map h.2 fun a ha c hc => inj a (List.mem_cons_of_mem _ ha) c (List.mem_cons_of_mem _ hc)⟩
    obtain ⟨g, mg, eg⟩ := List.mem_map.mp m
    exact h.1 (by rw [inj f List.mem_cons_self g (List.mem_cons_of_mem _ mg) eg.symm]; exact mg)
theorem sS_sfl (ok : Ok M X) (mk : MOk M) {i f : Nat} {y nmf : PySem.Str} {x : Ex} (hnm : M.nm f = nmf) (hN : X.N[i]? = some y) (hv : Vis X.env.scope y) (hd : (y == ("__debug__" : PySem.Str)) = false) (hcd : (y == ("__classdict__" : PySem.Str)) = false)
    (he : PE X e (tE false M av W (evE M.T Φ x))) (hs : swapsWith e (some (.Attribute (.Name y apos) nmf p2)) pos.line X.env = pure false) :
    PS X (.Assign [.Attribute (.Name y apos) nmf p2] e pos) (tS M av W (evS M.T Φ (.sfl i f x))) := by
  refine imS (ps_fld (pe_var hN hv hd hcd) he hs) fun D σ H ⟨ρ, F, own, pt, q⟩ => ⟨ρ, F, own, pt, ?_⟩
  unfold evS at q
  refine q.to (Rl := rE M av) fun r v F1 H1 own1 g1 ⟨p1, r1⟩ q1 => ?_
  split at q1
  · rename_i k c os hρ
    have s := p1.sl i
    rw [hρ] at s
    obtain ⟨w, hw, ro, tg⟩ := s
    refine ⟨w, slot_of hw, ?_⟩
    split at q1
    · rename_i j hj
      have ho : owAt r.2 i [] = some (.obj c os) := by unfold owAt; rw [hρ]; rfl
      obtain ⟨bs, rn, ndb, mt⟩ := mut_ok p1 ho hw .nil
      subst hnm
      cases rn with
      | @obj a C dx c fs os as h1 hc hl hn rr =>
        have nd0 := List.nodup_cons.mp ndb
        have hfm : f ∈ M.T.fld c := place_mem hj
        have hfl := mk.fl c
        have hlen : fs.length = os.length := by have := rr.len2; simpa using this
        have r2 : OwRs M F1 (upd H1 a (.ins C dx (putF (M.nm f) v fs))) (fs.map (·.2)) os as := rr.mono Sb.rfl' fun z m u hu => by rw [upd_ne (fun q => nd0.1 (by rw [← q]; exact m))]; exact hu
        have base : ∀ {os' : List O} {as' : List Addr}, OwR M F1 (upd H1 a (.ins C dx (putF (M.nm f) v fs))) (.ref a) (.obj c os') (a :: as') → (a :: as').Nodup → (∀ x ∈ as', x ∈ as) → QS M av W F1 H1 (In own1) (.nx (r.2.set i (.ow k (.obj c os')))) D →
            ∃ a' C' dx' fs', V.ref a = .ref a' ∧ H1 a' = some (.ins C' dx' fs') ∧ Cls X.K C' ∧ NoAttr X.K C' (M.nm f) ∧ fs'.length < 1000 ∧ D.nx σ (upd H1 a' (.ins C' dx' (putF (M.nm f) v fs'))) := fun {os' as'} rn' nd' sub q => by
          obtain ⟨ρ', own', ep, p4, g4⟩ := mt a _ _ (a :: as') rfl List.mem_cons_self rn' nd' fun x m => by
            rcases List.mem_cons.mp m with m | m
            · rw [m]; exact List.mem_cons_self
            · exact List.mem_cons_of_mem _ (sub x m)
          have e : ρ' = r.2.set i (.ow k (.obj c os')) := by
            unfold owPut at ep
            rw [hρ] at ep
            have ep : R.ok (r.2.set i (S.ow k (.obj c os'))) = .ok ρ' := ep
            cases ep; rfl
          subst e
          exact ⟨a, C, dx, fs, rfl, h1, by rw [ok.K]; exact mk.cl c C hc, by rw [ok.K]; exact mk.fn c C f hc hfm, by omega, q σ F1 _ own' g4 p4⟩
        have nms : (fs.map (·.1)).Nodup := by
          rw [hn]
          exact nodup_map ((mk.fnd c).sublist (List.take_sublist _ _)) fun f hf g hg => mk.inj c f g (List.mem_of_mem_take hf) (List.mem_of_mem_take hg)
        split at q1
        · rename_i hlt
          have hat : (fs.map (·.1))[j]? = some (M.nm f) := by
            rw [hn, List.getElem?_map, List.getElem?_take_of_lt hlt, place_at hj]; rfl
          obtain ⟨e1, e2⟩ := putF_set (v := v) hat nms
          obtain ⟨v1, bs1, l, rr', g2, g3, g4, g5⟩ := r2.setAt (List.getElem?_eq_getElem hlt)
          have z := g5 _ v (.lf r.1) [] (fun _ _ _ h => h) (.lf r1)
          rw [← e2] at z
          have sub : ∀ x ∈ l ++ [] ++ rr', x ∈ as := fun x m => by
            rw [g4]
            rw [List.append_nil] at m
            rcases List.mem_append.mp m with m | m
            · exact List.mem_append_left _ (List.mem_append_left _ m)
            · exact List.mem_append_right _ m
          refine base (.obj upd_same hc (by rw [List.length_set]; exact hl) (by rw [List.length_set, e1]; exact hn) z) (List.nodup_cons.mpr ⟨fun m => nd0.1 (sub a m), ?_⟩) sub q1
          have := nd0.2
          rw [g4] at this
          exact nodup_mid this List.nodup_nil fun _ m => nomatch m
        · split at q1
          · rename_i hlt heq
            have hj' : j < (M.T.fld c).length := (List.getElem?_eq_some_iff.mp (place_at hj)).1
            have hnot : M.nm f ∉ fs.map (·.1) := fun m => by
              rw [hn] at m
              obtain ⟨g, mg, eg⟩ := List.mem_map.mp m
              have e2 := mk.inj c g f (List.mem_of_mem_take mg) hfm eg
              subst e2
              exact place_first hj (by rw [heq.1]; exact mg)
            have ep := putF_app (v := v) hnot
            have z := OwRs.append r2 (.one (.lf r1))
            rw [List.append_nil] at z
            have z : OwRs M F1 (upd H1 a (.ins C dx (putF (M.nm f) v fs))) ((putF (M.nm f) v fs).map (·.2)) (os ++ [.lf r.1]) as := by
              have e2 : (putF (M.nm f) v fs).map (·.2) = fs.map (·.2) ++ [v] := by rw [ep, List.map_append]; rfl
              rw [e2]; exact z
            refine base (.obj upd_same hc (by rw [List.length_append]; show os.length + 1 ≤ _; omega) ?_ z) ndb (fun _ m => m) q1
            rw [ep, List.map_append, hn, List.length_append]
            show _ = ((M.T.fld c).take (os.length + 1)).map M.nm
            rw [List.take_succ, List.map_append, ← heq.1, place_at hj]
            rfl
          · exact q1.elim
    · exact q1.elim
  · exact q1.elim
end
end RF
end

section
set_option Elab.async false
set_option linter.all false
set_option autoImplicit false
set_option maxRecDepth 100000
set_option maxHeartbeats 1000000
/-! RfZa: and, or, not as values; chains; isinstance of several classes; stores of pairs. -/
namespace RF
open PySem L2
open PyProof.Rows hiding St
section
variable {b : Bool} {M : Mach} {av : List V} {W : WX} {X : Cx} {F H : Hp} {σ : L2.St} {ρ : Env} {own : Ow} {Φ : Fn} {k : Nat} {e a1 a2 a3 : Expr} {es : List Expr} {pos p2 apos : Pos} {st : Stmt}
theorem sE_and1 {x : Ex} (ha : PE X a1 (tE b M av W (evE M.T Φ x))) : PE X (.BoolOp .And [a1] pos) (tE b M av W (evE M.T Φ x)) := by
  exact pe_one ha
theorem sE_or1 {x : Ex} (ha : PE X a1 (tE b M av W (evE M.T Φ x))) : PE X (.BoolOp .Or [a1] pos) (tE b M av W (evE M.T Φ x)) := by
  exact pe_one ha
theorem sE_and (ok : Ok M X) {x y : Ex} {r : List Expr} (ha : PE X a1 (tE b M av W (evE M.T Φ x))) (hb : PE X (.BoolOp .And (a2 :: r) pos) (tE b M av W (evE M.T Φ y))) : PE X (.BoolOp .And (a1 :: a2 :: r) pos) (tE b M av W (evE M.T Φ (.andE x y))) := by
  refine imE (pe_andT ha hb) fun σ H Q ⟨ρ, F, own, pt, q⟩ => ⟨ρ, F, own, pt, ?_⟩
  unfold evE at q
  refine q.bind fun r v F1 H1 own1 g ⟨p1, r1⟩ q1 => ?_
  split at q1
  · rename_i hz
    exact ⟨true, tru_of ok p1.sub (.lf r1) hz, by rw [if_pos rfl]; exact ⟨r.2, F1, own1, p1, q1⟩⟩
  · rename_i hz
    exact ⟨false, tru_of ok p1.sub (.lf r1) hz, by rw [if_neg (by decide)]; exact q1 v F1 H1 own1 Gr.rfl' ⟨p1, r1⟩⟩
  · exact q1.elim
theorem sE_or (ok : Ok M X) {x y : Ex} {r : List Expr} (ha : PE X a1 (tE b M av W (evE M.T Φ x))) (hb : PE X (.BoolOp .Or (a2 :: r) pos) (tE b M av W (evE M.T Φ y))) : PE X (.BoolOp .Or (a1 :: a2 :: r) pos) (tE b M av W (evE M.T Φ (.orE x y))) := by
  refine imE (pe_orT ha hb) fun σ H Q ⟨ρ, F, own, pt, q⟩ => ⟨ρ, F, own, pt, ?_⟩
  unfold evE at q
  refine q.bind fun r v F1 H1 own1 g ⟨p1, r1⟩ q1 => ?_
  split at q1
  · rename_i hz
    exact ⟨true, tru_of ok p1.sub (.lf r1) hz, by rw [if_pos rfl]; exact q1 v F1 H1 own1 Gr.rfl' ⟨p1, r1⟩⟩
  · rename_i hz
    exact ⟨false, tru_of ok p1.sub (.lf r1) hz, by rw [if_neg (by decide)]; exact ⟨r.2, F1, own1, p1, q1⟩⟩
  · exact q1.elim
theorem sE_not (ok : Ok M X) {p : Px} (ha : PE X a1 (tX b M av W (evX M.T Φ p))) : PE X (.UnaryOp .Not a1 pos) (tE b M av W (evE M.T Φ (.notE p))) := by
  refine imE (pe_notT ha) fun σ H Q ⟨ρ, F, own, pt, q⟩ => ⟨ρ, F, own, pt, ?_⟩
  unfold evE at q
  refine q.bind fun r v F1 H1 own1 g ⟨p1, as, r1⟩ q1 => ?_
  split at q1
  · rename_i z hz
    exact ⟨z, tru_of ok p1.sub r1 hz, q1 _ F1 H1 own1 Gr.rfl' ⟨p1, .bl⟩⟩
  · exact q1.elim
/-! ### chains -/
def isOrd : Cop → Bool
  | .lt => true | .le => true | .gt => true | .ge => true | _ => false
def ordI : Cop → Int → Int → Bool
  | .lt, a, b => decide (a < b) | .le, a, b => decide (a ≤ b) | .gt, a, b => decide (b < a) | .ge, a, b => decide (b ≤ a) | _, _, _ => false
theorem op_ord {op : Cop} (h : isOrd op = true) : OpR X (compareOp (copOf op)) (rI0 fun i j => .bl (ordI op i j)) := by
  cases op <;> first | (cases h; done) | exact op_lt | exact op_le | exact op_gt | exact op_ge
theorem cmpD_ord {T : Tb} {op : Cop} {x y : RF.D} (h : isOrd op = true) : cmpD T Φ op x y ρ = match x, y with
    | .int a, .int b => .ok (.bl (ordI op a b), ρ)
    | _, _ => .bad := by
  cases op <;> first | (cases h; done) | (cases x <;> cases y <;> rfl)
theorem chn_red {o1 o2 : Cop} {x y z : Ex} (h1 : isOrd o1 = true) (h2 : isOrd o2 = true) {σ : L2.St} {H : Hp} {Q : VK} (h : tE b M av W (evE M.T Φ (.chn o1 o2 x y z)) σ H Q) :
    tChain (rI0 fun i j => .bl (ordI o1 i j)) (rI0 fun i j => .bl (ordI o2 i j)) (tE b M av W (evE M.T Φ x)) (tE b M av W (evE M.T Φ y)) (tE b M av W (evE M.T Φ z)) σ H Q := by
  obtain ⟨ρ, F, own, pt, q⟩ := h
  refine ⟨ρ, F, own, pt, ?_⟩
  unfold evE at q
  refine q.bind fun r v F1 H1 own1 g ⟨p1, r1⟩ q1 => ⟨r.2, F1, own1, p1, ?_⟩
  refine q1.bind fun s w F2 H2 own2 g2 ⟨p2, r2⟩ q2 => ?_
  have r1 := r1.mono g2.ff
  rw [cmpD_ord h1] at q2
  have key : ∀ {d1 d2 : RF.D}, Rep M F2 v d1 → Rep M F2 w d2 → QR b M av W σ (rE M av σ) F2 H2 (In own2) (R.bind (match d1, d2 with
      | RF.D.int a, RF.D.int b => R.ok (RF.D.bl (ordI o1 a b), s.2)
      | _, _ => .bad) fun t => match t.1 with
        | .bl true => (evE M.T Φ z t.2).bind fun u => cmpD M.T Φ o2 d2 u.1 u.2
        | .bl false => .ok (.bl false, t.2)
        | _ => .bad) Q → rI0 (fun i j => .bl (ordI o1 i j)) v w H2 fun z' H3 => ∃ k, z' = .bl k ∧ (if k = true then tE b M av W (evE M.T Φ z) σ H3 fun w' H4 => rI0 (fun i j => .bl (ordI o2 i j)) w w' H4 Q else Q (.bl false) H3) := fun {d1 d2} ra rb q => by
    cases d1 with
    | int i =>
      cases d2 with
      | int j =>
        cases ra.intv
        cases rb.intv
        refine ⟨i, j, rfl, rfl, _, rfl, ?_⟩
        have q : QR b M av W σ (rE M av σ) F2 H2 (In own2) (match RF.D.bl (ordI o1 i j) with
          | .bl true => (evE M.T Φ z s.2).bind fun u => cmpD M.T Φ o2 (.int j) u.1 u.2
          | .bl false => .ok (.bl false, s.2)
          | _ => .bad) Q := q
        cases hz : ordI o1 i j with
        | false =>
          rw [hz] at q
          rw [if_neg (by decide)]
          exact q _ F2 H2 own2 Gr.rfl' ⟨p2, .bl⟩
        | true =>
          rw [hz] at q
          rw [if_pos rfl]
          refine ⟨s.2, F2, own2, p2, ?_⟩
          have q : QR b M av W σ (rE M av σ) F2 H2 (In own2) ((evE M.T Φ z s.2).bind fun u => cmpD M.T Φ o2 (.int j) u.1 u.2) Q := q
          refine q.bind fun u w' F3 H3 own3 g3 ⟨p3, r3⟩ q3 => ?_
          rw [cmpD_ord h2] at q3
          have key2 : ∀ {d3 : RF.D}, Rep M F3 w' d3 → QR b M av W σ (rE M av σ) F3 H3 (In own3) (match RF.D.int j, d3 with
            | .int a, .int b => R.ok (RF.D.bl (ordI o2 a b), u.2)
            | _, _ => .bad) Q → rI0 (fun i j => .bl (ordI o2 i j)) (.int j) w' H3 Q := fun {d3} rc q => by
            cases d3 with
            | int l => cases rc.intv; exact ⟨j, l, rfl, rfl, q _ F3 H3 own3 Gr.rfl' ⟨p3, .bl⟩⟩
            | _ => exact q.elim
          exact key2 r3 q3
      | _ => exact q.elim
    | _ => exact q.elim
  exact key r1 r2 q2
theorem marks2 (o1 o2 : Cop) (a2 a3 : Expr) : lastMarks [copOf o1, copOf o2] [a2, a3] = false := notIn_cop o2 a3
theorem sE_chn {o1 o2 : Cop} {x y z : Ex} (h1 : isOrd o1 = true) (h2 : isOrd o2 = true) (ha : PE X a1 (tE b M av W (evE M.T Φ x))) (hb : PE X a2 (tE b M av W (evE M.T Φ y))) (hc : PE X a3 (tE b M av W (evE M.T Φ z))) :
    PE X (.Compare a1 [copOf o1, copOf o2] [a2, a3] pos) (tE b M av W (evE M.T Φ (.chn o1 o2 x y z))) :=
  imE (pe_chain (op_ord h1) (op_ord h2) ha hb hc (marks2 o1 o2 a2 a3)) fun σ H Q h => chn_red h1 h2 h
theorem val_tst (ok : Ok M X) {x : Ex} {t : TE} (hp : PT X e (tTest t)) (ht : ∀ σ H Q, tE b M av W (evE M.T Φ x) σ H Q → t σ H Q) (hb : ∀ {ρ r}, evE M.T Φ x ρ = .ok r → ∃ k, r.1 = .bl k) : PT X e (tT b M av W (evT M.T Φ (.val (.ex x)))) := by
  refine imT hp fun σ H Q h => ?_
  refine ht σ H _ ?_
  have h := val_q (X := X) ok h
  obtain ⟨ρ, F, own, pt, q⟩ := h
  refine ⟨ρ, F, own, pt, ?_⟩
  unfold evX at q
  refine q.bindQ fun r v F1 H1 own1 er g1 ⟨p1, r1⟩ q1 => ?_
  obtain ⟨z, tz, qz⟩ := q1 v F1 H1 own1 Gr.rfl' ⟨p1, [], .lf r1⟩
  obtain ⟨k, ek⟩ := hb er
  rw [ek] at r1
  cases r1.blv
  have e : z = k := tz
  subst e
  exact ⟨z, rfl, qz⟩
theorem R.bind_ok {α β : Type} {r : R α} {f : α → R β} {c : β} (h : r.bind f = .ok c) : ∃ a, r = .ok a ∧ f a = .ok c := by
  cases r with
  | ok a => exact ⟨a, rfl, h⟩
  | exc _ _ _ => cases h
  | bad => cases h
theorem ord_bl {T : Tb} {op : Cop} {x y : RF.D} {r : RF.D × Env} (h : isOrd op = true) (e : cmpD T Φ op x y ρ = .ok r) : ∃ k, r.1 = .bl k := by
  rw [cmpD_ord h] at e
  split at e
  · cases e; exact ⟨_, rfl⟩
  · cases e
theorem chn_bl {T : Tb} {o1 o2 : Cop} {x y z : Ex} (h1 : isOrd o1 = true) (h2 : isOrd o2 = true) {r : RF.D × Env} (e : evE T Φ (.chn o1 o2 x y z) ρ = .ok r) : ∃ k, r.1 = .bl k := by
  unfold evE at e
  obtain ⟨a, _, e⟩ := R.bind_ok e
  obtain ⟨c, _, e⟩ := R.bind_ok e
  obtain ⟨t, _, e⟩ := R.bind_ok e
  split at e
  · obtain ⟨u, _, e⟩ := R.bind_ok e
    exact ord_bl h2 e
  · cases e; exact ⟨_, rfl⟩
  · cases e
theorem sT_chn (ok : Ok M X) {o1 o2 : Cop} {x y z : Ex} (h1 : isOrd o1 = true) (h2 : isOrd o2 = true) (ha : PE X a1 (tE b M av W (evE M.T Φ x))) (hb : PE X a2 (tE b M av W (evE M.T Φ y))) (hc : PE X a3 (tE b M av W (evE M.T Φ z))) :
    PT X (.Compare a1 [copOf o1, copOf o2] [a2, a3] pos) (tT b M av W (evT M.T Φ (.val (.ex (.chn o1 o2 x y z))))) :=
  val_tst ok (pt_chain (op_ord h1) (op_ord h2) ha hb hc (marks2 o1 o2 a2 a3)) (fun σ H Q h => chn_red h1 h2 h) fun e => chn_bl h1 h2 e
/-! ### in, as a test -/
theorem in_red (ok : Ok M X) {ng : Bool} {x : Ex} {p : Px} {σ : L2.St} {H : Hp} {Q : VK} (h : tE b M av W (evE M.T Φ (.isin ng x p)) σ H Q) : tOp (rInS X.K ng) (tE b M av W (evE M.T Φ x)) (tX b M av W (evX M.T Φ p)) σ H Q := by
  obtain ⟨ρ, F, own, pt, q⟩ := h
  refine ⟨ρ, F, own, pt, ?_⟩
  unfold evE at q
  refine q.bind fun r v F1 H1 own1 g ⟨p1, r1⟩ q1 => ⟨r.2, F1, own1, p1, ?_⟩
  refine q1.bind fun s w F2 H2 own2 g2 ⟨p2, as, r2⟩ q2 => ?_
  split at q2
  · rename_i z hz
    cases hs : s.1.seq? with
    | none => rw [hs] at hz; cases hz
    | some ds =>
      rw [hs] at hz
      obtain ⟨a, vs, rfl, h1, h2⟩ := r2.seq? p2.sub hs
      obtain ⟨k1, k2, k3⟩ := in_ok p2.sub (r1.mono g2.ff) h2 hz
      refine ⟨a, vs, rfl, by rw [ok.K]; exact h1, k1, by rw [ok.K]; exact k2, ?_⟩
      rw [k3]
      cases ng with
      | true => exact q2 _ F2 H2 own2 Gr.rfl' ⟨p2, .bl⟩
      | false => exact q2 _ F2 H2 own2 Gr.rfl' ⟨p2, .bl⟩
  · exact q2.elim
theorem in_bl {T : Tb} {ng : Bool} {x : Ex} {p : Px} {r : RF.D × Env} (e : evE T Φ (.isin ng x p) ρ = .ok r) : ∃ k, r.1 = .bl k := by
  unfold evE at e
  obtain ⟨a, _, e⟩ := R.bind_ok e
  obtain ⟨c, _, e⟩ := R.bind_ok e
  split at e
  · cases e; exact ⟨_, rfl⟩
  · cases e
theorem sT_in (ok : Ok M X) (hr : Room k X.A) {ng : Bool} {x : Ex} {p : Px} (ha : PE X a1 (tE b M av W (evE M.T Φ x))) (hb : PE X a2 (tX b M av W (evX M.T Φ p))) (hm : behindInMarks (inOf ng) a2 = false) :
    PT X (.Compare a1 [inOf ng] [a2] pos) (tT b M av W (evT M.T Φ (.val (.ex (.isin ng x p))))) := by
  cases ng with
  | true => exact val_tst ok (pt_cmpR (op_notInS (hu_of hr)) ha hb hm) (fun σ H Q h => in_red ok h) fun e => in_bl e
  | false => exact val_tst ok (pt_cmpR (op_inS (hu_of hr)) ha hb hm) (fun σ H Q h => in_red ok h) fun e => in_bl e
/-! ### isinstance of several classes -/
def tCs (vs : List V) : TA := fun _ H Q => Q vs H
inductive ClAts (M : Mach) (X : Cx) : List Cl → List V → List Value → Prop where
  | nil : ClAts M X [] [] []
  | ty {n : Nat} {cs : List Cl} {vs : List V} {us : List Value} (r : ClAts M X cs vs us) : ClAts M X (.ty n :: cs) (.ty (tyN n) :: vs) (.type (tyN n) :: us)
  | own {c : Nat} {C : Addr} {cs : List Cl} {vs : List V} {us : List Value} (h : M.cls c = some C) (r : ClAts M X cs vs us) : ClAts M X (.own c :: cs) (.ref C :: vs) (.ref C :: us)
theorem ClAts.pair : ∀ {cs : List Cl} {vs : List V} {us : List Value}, ClAts M X cs vs us → Paired ClsV vs us
  | _, _, _, .nil => .nil
  | _, _, _, .ty r => .cons (.ty _) r.pair
  | _, _, _, .own h r => .cons (.own _) r.pair
theorem kitOne_of (mk : MOk M) {d : RF.D} {t : Value} (hk : (∃ T, t = .type T ∧ isKn T = true ∧ ∀ n, PySem.W.kitOne M.K (.type T) (.type (tyN n)) = some (inst M.T d (.ty n)) ∧ ∀ c, inst M.T d (.own c) = false) ∨ ∃ c fs C, d = .obj c fs ∧ M.cls c = some C ∧ t = .ref C) :
    (∀ n, PySem.W.kitOne M.K t (.type (tyN n)) = some (inst M.T d (.ty n))) ∧ ∀ c C, M.cls c = some C → PySem.W.kitOne M.K t (.ref C) = some (inst M.T d (.own c)) := by
  rcases hk with ⟨T, e1, hT, h1⟩ | ⟨c', fs, C', e1, hc', e2⟩
  · subst e1
    exact ⟨fun n => (h1 n).1, fun c C hc => by rw [(h1 0).2 c]; exact mk.iv c C T hc hT⟩
  · subst e1 e2
    exact ⟨fun n => by rw [mk.ib c' C' n hc']; rfl, fun c C hc => mk.io c C c' C' hc hc'⟩
theorem kitAny_of {d : RF.D} {t : Value} (h1 : ∀ n, PySem.W.kitOne M.K t (.type (tyN n)) = some (inst M.T d (.ty n))) (h2 : ∀ c C, M.cls c = some C → PySem.W.kitOne M.K t (.ref C) = some (inst M.T d (.own c))) : ∀ {cs : List Cl} {vs : List V} {us : List Value}, ClAts M X cs vs us → PySem.W.kitAny M.K t us = some (cs.any (inst M.T d))
  | _, _, _, .nil => kitAny_nil
  | _, _, _, .ty (n := n) (cs := cs) r => by
    refine kitAny_cons (h1 n) (fun z => ?_) fun z => ?_
    · rw [List.any_cons, z, Bool.false_or]; exact kitAny_of h1 h2 r
    · rw [List.any_cons, z, Bool.true_or]
  | _, _, _, .own (c := c) (C := C) (cs := cs) h r => by
    refine kitAny_cons (h2 c C h) (fun z => ?_) fun z => ?_
    · rw [List.any_cons, z, Bool.false_or]; exact kitAny_of h1 h2 r
    · rw [List.any_cons, z, Bool.true_or]
theorem sE_isiT (ok : Ok M X) (mk : MOk M) {x : PySem.Str} {y : Ex} {cs : List Cl} {vs : List V} {us : List Value} {x1} {p3 : Pos} (hg : Gl X x) (hm : M.mg x = none) (hv : bootBuiltins x = some (.builtin "isinstance")) (hn : x ≠ "__name__") (hdb : (x == ("__debug__" : PySem.Str)) = false)
    (ha : PE X a1 (tE b M av W (evE M.T Φ y))) (hcs : PA X es (tCs vs)) (hc : ClAts M X cs vs us) (hl : vs.length ≤ sizeLine) (hs : starEach [a1, .Tuple es x1 p3] X.env = (false, eval a1 X.env) :: starEach [.Tuple es x1 p3] X.env) (hs2 : starEach [.Tuple es x1 p3] X.env = (false, eval (.Tuple es x1 p3) X.env) :: starEach [] X.env) (hpl : (backTo pos (starEach [.Tuple es x1 p3] X.env)).any (·.1) = false) :
    PE X (.Call (.Name x p2) [a1, .Tuple es x1 p3] [] pos) (tE b M av W (evE M.T Φ (.isi y cs))) := by
  refine imE (pe_callB call_isiT hg (by rw [ok.mg]; exact hm) hv (pa_cons ha (pa_cons (pe_tup hcs) pa_nil hs2) hs) hn hdb hs hpl) fun σ H Q ⟨ρ, F, own, pt, q⟩ => ⟨ρ, F, own, pt, ?_⟩
  unfold evE at q
  refine q.bind fun r v F1 H1 own1 g ⟨p1, r1⟩ q1 => ⟨hl, fun p hp => ?_⟩
  have p2 := p1.new (o := .tup vs) hp
  obtain ⟨t, ht, hk⟩ := tyx_of ok mk p2.sub r1
  obtain ⟨h1, h2⟩ := kitOne_of mk hk
  refine ⟨v, p, vs, t, us, cs.any (inst M.T r.1), rfl, upd_same, hc.pair, by rw [ok.K]; exact ht, by rw [ok.K]; exact kitAny_of h1 h2 hc, ?_⟩
  exact q1 _ F1 _ own1 (Gr.new hp) ⟨p2, .bl⟩
/-! ### several names at once -/
theorem sS_par2 {i j : Nat} {x y : PySem.Str} {xa xb : Ex} {px py pt pt2 : Pos} {kt k2} (hc : X.calm = true) (hN : X.N.Nodup) (hi : X.N[i]? = some x) (hj : X.N[j]? = some y) (hij : i ≠ j)
    (hx : X.env.scope.names.lookup x = some .local) (hy : X.env.scope.names.lookup y = some .local) (ha : PA X [a1, a2] (tEs false M av W (evEs M.T Φ (.cons xa (.cons xb .nil)))))
    (hw : swappedStores [.Tuple [.Name x px, .Name y py] kt pt] (.Tuple [a1, a2] k2 pt2) X.env = pure (some [x, y]))
    (hs : swapsWithSole [.Tuple [.Name x px, .Name y py] kt pt] (.Tuple [a1, a2] k2 pt2) pos.line X.env = pure false) :
    PS X (.Assign [.Tuple [.Name x px, .Name y py] kt pt] (.Tuple [a1, a2] k2 pt2) pos) (tS M av W (evS M.T Φ (.unp [i, j] (.tup (.cons xa (.cons xb .nil)))))) := by
  refine imS (ps_par hc hN hi hj hij hx hy ha hw hs) fun D σ H ⟨ρ, F, own, pt, q⟩ => ⟨ρ, F, own, pt, ?_⟩
  unfold evS evE at q
  cases he : evEs M.T Φ (.cons xa (.cons xb .nil)) ρ with
  | bad => rw [he] at q; exact q
  | exc c es ρ' => rw [he] at q; exact fun F' H' own' C dx vs g p => q σ F' H' own' C dx vs g p
  | ok r =>
    have hl := evEs_len he
    rw [he] at q
    intro vs F1 H1 own1 g ⟨p1, r1⟩
    obtain ⟨ds, ρ1⟩ := r
    have hl : ds.length = 2 := hl
    match ds, hl with
    | [d1, d2], _ =>
      cases r1 with
      | cons ra rr =>
        cases rr with
        | cons rb rr =>
          cases rr
          have q : QS M av W F H (In own) (.nx ((ρ1.set i (.sh d1)).set j (.sh d2))) D := q
          obtain ⟨own2, p2, h2⟩ := p1.sh ra i
          obtain ⟨own3, p3, h3⟩ := p2.sh rb j
          exact ⟨_, _, rfl, q _ F1 H1 own3 (g.owns fun x m => g.ow x (h2 x (h3 x m))) p3⟩
theorem sS_par3 {i j l : Nat} {x y z : PySem.Str} {xa xb xc : Ex} {px py pz pt pt2 : Pos} {kt k2} (hc : X.calm = true) (hN : X.N.Nodup) (hi : X.N[i]? = some x) (hj : X.N[j]? = some y) (hl : X.N[l]? = some z) (hij : i ≠ j) (hil : i ≠ l) (hjl : j ≠ l)
    (hx : X.env.scope.names.lookup x = some .local) (hy : X.env.scope.names.lookup y = some .local) (hz : X.env.scope.names.lookup z = some .local) (ha : PA X [a1, a2, a3] (tEs false M av W (evEs M.T Φ (.cons xa (.cons xb (.cons xc .nil))))))
    (hw : swappedStores [.Tuple [.Name x px, .Name y py, .Name z pz] kt pt] (.Tuple [a1, a2, a3] k2 pt2) X.env = pure (some [x, y, z]))
    (hs : swapsWithSole [.Tuple [.Name x px, .Name y py, .Name z pz] kt pt] (.Tuple [a1, a2, a3] k2 pt2) pos.line X.env = pure false) :
    PS X (.Assign [.Tuple [.Name x px, .Name y py, .Name z pz] kt pt] (.Tuple [a1, a2, a3] k2 pt2) pos) (tS M av W (evS M.T Φ (.unp [i, j, l] (.tup (.cons xa (.cons xb (.cons xc .nil))))))) := by
  refine imS (ps_par3 hc hN hi hj hl hij hil hjl hx hy hz ha hw hs) fun D σ H ⟨ρ, F, own, pt, q⟩ => ⟨ρ, F, own, pt, ?_⟩
  unfold evS evE at q
  cases he : evEs M.T Φ (.cons xa (.cons xb (.cons xc .nil))) ρ with
  | bad => rw [he] at q; exact q
  | exc c es ρ' => rw [he] at q; exact fun F' H' own' C dx vs g p => q σ F' H' own' C dx vs g p
  | ok r =>
    have hl := evEs_len he
    rw [he] at q
    intro vs F1 H1 own1 g ⟨p1, r1⟩
    obtain ⟨ds, ρ1⟩ := r
    have hl : ds.length = 3 := hl
    match ds, hl with
    | [d1, d2, d3], _ =>
      cases r1 with
      | cons ra rr =>
        cases rr with
        | cons rb rr =>
          cases rr with
          | cons rc rr =>
            cases rr
            have q : QS M av W F H (In own) (.nx (((ρ1.set i (.sh d1)).set j (.sh d2)).set l (.sh d3))) D := q
            obtain ⟨own2, p2, h2⟩ := p1.sh ra i
            obtain ⟨own3, p3, h3⟩ := p2.sh rb j
            obtain ⟨own4, p4, h4⟩ := p3.sh rc l
            exact ⟨_, _, _, rfl, q _ F1 H1 own4 (g.owns fun x m => g.ow x (h2 x (h3 x (h4 x m)))) p4⟩
end
end RF
end

section
set_option Elab.async false
set_option linter.all false
set_option autoImplicit false
set_option maxRecDepth 100000
set_option maxHeartbeats 1000000
/-! RfCa: the translation of expressions. -/
namespace RF
open PySem L2
open PyProof.Rows hiding St
/-- what a global name is -/
inductive Gk where
  | no | fn (f n : Nat) (io : List Nat) | fnN (f n : Nat) (io : List Nat) | cls (c : Nat) | mk (c f n : Nat) | cst (d : D) | bi (b : Bi) | isi | lst | ty (n : Nat) | rng | enu | zip | rev
structure Cc where
  N : List PySem.Str
  sc : Scope
  sto : PySem.Str → Bool
  gk : PySem.Str → Gk
  fid : PySem.Str → Option Nat
  mid : PySem.Str → Option (Nat × Nat)
  deep : List Nat
  mkr : Bool
def plS : List PySem.Str → PySem.Str → Option Nat
  | [], _ => none
  | g :: r, f => if g = f then some 0 else (plS r f).map (· + 1)
theorem plS_at : ∀ {l : List PySem.Str} {f : PySem.Str} {j : Nat}, plS l f = some j → l[j]? = some f
  | [], _, _, h => by simp [plS] at h
  | g :: r, f, j, h => by
    unfold plS at h
    by_cases q : g = f
    · rw [if_pos q] at h; cases h; rw [q]; rfl
    · rw [if_neg q] at h
      cases hp : plS r f with
      | none => rw [hp] at h; cases h
      | some i => rw [hp] at h; cases h; simpa using plS_at hp
def visB (sc : Scope) (x : PySem.Str) : Bool := match sc.names.lookup x with
  | some .local => true | some .cell => true | some .free => true | _ => false
def lclB (sc : Scope) (x : PySem.Str) : Bool := match sc.names.lookup x with
  | some .local => true | _ => false
def glbB (sc : Scope) (x : PySem.Str) : Bool := match sc.names.lookup x with
  | some .globalImplicit => true | _ => false
def dbg : PySem.Str := "__debug__"
def cdk : PySem.Str := "__classdict__"
def nmk : PySem.Str := "__name__"
def varOf (c : Cc) (x : PySem.Str) : Option Nat := if visB c.sc x && !(x == dbg) && !(x == cdk) then plS c.N x else none
def gOf (c : Cc) (x : PySem.Str) : Gk := if glbB c.sc x && !(x == dbg) && !(x == nmk) then c.gk x else .no
def noStar : Expr → Bool
  | .Starred _ _ => false
  | _ => true
/-- no zero-argument call of a name: nothing like super() -/
def plainO : Expr → Bool
  | .Call (.Name _ _) [] [] _ => false
  | _ => true
def noSl : Expr → Bool
  | .Slice _ _ _ _ => false
  | _ => true
def noSet : Expr → Bool
  | .Set _ _ _ => false
  | _ => true
def bopOf : Operator → Option Bop
  | .Add => some .add | .Sub => some .sub | .Mult => some .mul | .FloorDiv => some .fdiv | .Mod => some .mod | .Pow => some .pow
  | .LShift => some .shl | .RShift => some .shr | .BitAnd => some .band | .BitOr => some .bor | .BitXor => some .bxor | _ => none
def copTo : CmpOp → Option Cop
  | .Eq => some .eq | .NotEq => some .ne | .Lt => some .lt | .LtE => some .le | .Gt => some .gt | .GtE => some .ge | .Is => some .is | .IsNot => some .isnot | _ => none
def blkCc (c : Cc) (scope : Scope) : Cc := { c with
  sc := relS scope c.sc
  sto := fun x => lclB (relS scope c.sc) x || (match scope.names.lookup x with | some .cell => (match (relS scope c.sc).names.lookup x with | some .cell => true | _ => false) | _ => false) }
def ownL (c : Cc) (scope : Scope) : List (PySem.Str × Nat) := scope.names.filterMap fun p => match p.2 with
  | .local => (plS c.N p.1).map fun i => (p.1, i)
  | .cell => (plS c.N p.1).map fun i => (p.1, i)
  | _ => none
/-- targets -/
def tgN (c : Cc) : List Expr → Option (List Nat)
  | [] => some []
  | .Name x _ :: r => if c.sto x then (match plS c.N x, tgN c r with
    | some i, some is => some (i :: is)
    | _, _ => none) else none
  | _ => none
def cTg (c : Cc) : Expr → Option Tg
  | .Name x _ => if c.sto x then (plS c.N x).map .nm else none
  | .Tuple es _ _ => (tgN c es).map .tp
  | _ => none
def isTup : Expr → Bool
  | .Tuple _ _ _ => true
  | _ => false
def cstOf : Expr → Option D
  | .Constant (.int i) _ _ => some (.int i)
  | .Constant (.bool b) _ _ => some (.bl b)
  | .Constant .none _ _ => some .non
  | .Constant (.str s) _ _ => some (.str s)
  | _ => none
def keyD : List (Option Expr) → Option (List D)
  | [] => some []
  | some e :: r => match cstOf e, keyD r with
    | some d, some ds => some (d :: ds)
    | _, _ => none
  | none :: _ => none
def clOf (c : Cc) : Expr → Option Cl
  | .Name x _ => match gOf c x with
    | .cls k => some (.own k)
    | .mk k _ _ => some (.own k)
    | .ty n => some (.ty n)
    | .lst => some (.ty 3)
    | .bi .int => some (.ty 0)
    | .bi .tuple => some (.ty 4)
    | .bi .str => some (.ty 2)
    | _ => none
  | _ => none
def clsOf (c : Cc) : List Expr → Option (List Cl)
  | [] => some []
  | e :: r => match clOf c e, clsOf c r with
    | some a, some b => some (a :: b)
    | _, _ => none
def isPkE : Expr → Bool
  | .Name _ _ => true
  | _ => false
/-- reversed(e) -/
def revA (c : Cc) : Expr → Option Expr
  | .Call (.Name r _) [e] [] _ => match gOf c r with
    | .rev => if noStar e then some e else none
    | _ => none
  | _ => none
/-- a test that is a value's truth -/
def plainT : Expr → Bool
  | .UnaryOp .Not _ _ => false
  | .BoolOp _ _ _ => false
  | .IfExp _ _ _ _ => false
  | .Compare _ _ _ _ => false
  | _ => true
def strN : PySem.Str → PySem.Str → Bool := fun a b => a == b
mutual
def cE (c : Cc) (st : Bool) : Nat → Expr → Ex
  | 0, _ => .nope
  | n + 1, e => match e with
    | .Name x _ => match varOf c x with
      | some i => .var i
      | none => match gOf c x with
        | .cst d => .cst d
        | _ => .nope
    | .Constant _ _ _ => match cstOf e with
      | some d => .cst d
      | none => .nope
    | .BinOp a op b _ => match cN c st n e with
      | some x => .new x
      | none => match bopOf op with
        | some o => .bin o (cE c st n a) (cE c st n b)
        | none => .nope
    | .UnaryOp .USub a _ => .neg (cE c st n a)
    | .UnaryOp .Not a _ => .notE (cX c st n a)
    | .BoolOp .And [a] _ => cE c st n a
    | .BoolOp .Or [a] _ => cE c st n a
    | .BoolOp .And (a :: b :: r) p => .andE (cE c st n a) (cE c st n (.BoolOp .And (b :: r) p))
    | .BoolOp .Or (a :: b :: r) p => .orE (cE c st n a) (cE c st n (.BoolOp .Or (b :: r) p))
    | .Compare a [op] [b] _ => match copTo op with
      | some o => .cmp o (cE c st n a) (cE c st n b)
      | none => match op with
        | .In => if noSet b then .isin false (cE c st n a) (cX c st n b) else .nope
        | .NotIn => if noSet b then .isin true (cE c st n a) (cX c st n b) else .nope
        | _ => .nope
    | .Compare a [p, q] [b, d] _ => match copTo p, copTo q with
      | some o1, some o2 => if isOrd o1 && isOrd o2 then .chn o1 o2 (cE c st n a) (cE c st n b) (cE c st n d) else .nope
      | _, _ => .nope
    | .IfExp t a b _ => .ite (cT c st n t) (cE c st n a) (cE c st n b)
    | .Tuple es _ _ => .tup (cEs c st n es)
    | .Attribute _ _ _ => .rd (cX c st n e)
    | .Subscript a (.Slice lo hi none _) _ => .slc (cX c st n a) (cO c n lo) (cO c n hi)
    | .Subscript a (.Slice none none (some s) _) _ => .srev (cX c st n a) (cO c n (some s))
    | .Subscript a (.Call f as ks p) _ => .idx (cE c st n a) (cE c st n (.Call f as ks p))
    | .Subscript (.Tuple es k p) i _ => if noSl i then .idx (cE c st n (.Tuple es k p)) (cE c st n i) else .nope
    | .Subscript _ _ _ => .rd (cX c st n e)
    | .Call (.Name x _) args [] _ => if args.all noStar then match gOf c x, args with
      | .fn f m io, [] => .call f m .nil
      | .fn f m io, a :: r => .call f m (cAs c st n io 0 (a :: r))
      | .mk k f m, a :: r => .make k m (cAs c st n [] 0 (a :: r))
      | .bi b, a :: r => .bi b (cPs c st n (a :: r))
      | .isi, [a, .Tuple es _ _] => if decide (es.length ≤ 15) then match clsOf c es with
        | some cs => .isi (cE c st n a) cs
        | none => .nope
        else .nope
      | .isi, [a, b] => match clOf c b with
        | some k => .isi (cE c st n a) [k]
        | none => .nope
      | .lst, [_] => match cN c st n e with
        | some x => .new x
        | none => .nope
      | .fnN _ _ _, _ => match cN c st n e with
        | some x => .new x
        | none => .nope
      | _, _ => .nope
      else .nope
    | .Call (.Attribute o m ap) args [] cp => if args.all noStar && plainO o && decide (args.length < 29) && (ap.endLine == cp.line) then match c.mid m with
      | some (k, j) => match args with
        | [] => .meth (cE c st n o) k j .nil
        | a :: r => .meth (cE c st n o) k j (cAs c true n [] 0 (a :: r))
      | none => .nope
      else .nope
    | _ => match cN c st n e with
      | some x => .new x
      | none => .nope
def cN (c : Cc) (st : Bool) : Nat → Expr → Option Nx
  | 0, _ => none
  | n + 1, e => match e with
    | .List es _ => some (.lst (cEs c st n es))
    | .BinOp (.List [a] _) .Mult b _ => if noStar a then some (.rep (cE c st n a) (cE c st n b)) else none
    | .Dict [] [] _ => some (.dsp [] .nil)
    | .Dict (k :: ks) vs _ => match keyD (k :: ks) with
      | some ds => match kKeys ds with
        | some kk => if decide kk.Nodup && decide (vs.length = kk.length) && decide ((k :: ks).length ≤ 15) && decide ((cEs c st n vs).len = kk.length) then some (.dsp ds (cEs c st n vs)) else none
        | none => none
      | none => none
    | .ListComp elt [⟨tg, iter, ifs, 0⟩] scope _ =>
      if blkC c.N c.sc scope (ownL c scope) && noSet iter then
        match cTg (blkCc c scope) tg, ifs with
        | some t, [] => if t.slots.all fun i => decide (i ∈ (ownL c scope).map (·.2)) then
            some (.comp (cE (blkCc c scope) st n elt) t (cI c st n (isTup tg) iter) .nil ((ownL c scope).map (·.2))) else none
        | some t, [f] => if t.slots.all fun i => decide (i ∈ (ownL c scope).map (·.2)) then
            some (.comp (cE (blkCc c scope) st n elt) t (cI c st n (isTup tg) iter) (.cons (cT (blkCc c scope) st n f) .nil) ((ownL c scope).map (·.2))) else none
        | _, _ => none
      else none
    | .Call (.Name x _) args [] _ => match gOf c x, args with
      | .lst, [a] => match revA c a with
        | some e => some (.lrev (cX c st n e))
        | none => if noStar a then some (.lof (cX c st n a)) else none
      | .fnN f m io, [] => some (.call f m .nil)
      | .fnN f m io, a :: r => if (a :: r).all noStar then some (.call f m (cAs c st n io 0 (a :: r))) else none
      | _, _ => none
    | _ => none
def cX (c : Cc) (st : Bool) : Nat → Expr → Px
  | 0, _ => .ex .nope
  | n + 1, e => match e with
    | .Name x _ => match varOf c x with
      | some i => .pk i
      | none => .ex (cE c st n e)
    | .Attribute o f _ => match c.fid f with
      | some i => if plainO o then .fld (cX c st n o) i else .ex .nope
      | none => .ex .nope
    | .Subscript a (.Slice lo hi s p) q => .ex (cE c st n e)
    | .Subscript a (.Call f as ks p) q => .ex (cE c st n e)
    | .Subscript (.Tuple es k p) i q => .ex (cE c st n e)
    | .Subscript a i _ => .sub (cX c st n a) (cE c true n i)
    | _ => .ex (cE c st n e)
def cT (c : Cc) (st : Bool) : Nat → Expr → Te
  | 0, _ => .val (.ex .nope)
  | n + 1, e => match e with
    | .UnaryOp .Not a _ => .not (cT c st n a)
    | .BoolOp .And [a] _ => cT c st n a
    | .BoolOp .Or [a] _ => cT c st n a
    | .BoolOp .And (a :: b :: r) p => .and (cT c st n a) (cT c st n (.BoolOp .And (b :: r) p))
    | .BoolOp .Or (a :: b :: r) p => .or (cT c st n a) (cT c st n (.BoolOp .Or (b :: r) p))
    | .Compare a [op] [b] _ => match copTo op with
      | some o => .val (.ex (.cmp o (cE c st n a) (cE c st n b)))
      | none => match op with
        | .In => if noSet b then .val (.ex (.isin false (cE c st n a) (cX c st n b))) else .val (.ex .nope)
        | .NotIn => if noSet b then .val (.ex (.isin true (cE c st n a) (cX c st n b))) else .val (.ex .nope)
        | _ => .val (.ex .nope)
    | .Compare a [p, q] [b, d] _ => match copTo p, copTo q with
      | some o1, some o2 => if isOrd o1 && isOrd o2 then .val (.ex (.chn o1 o2 (cE c st n a) (cE c st n b) (cE c st n d))) else .val (.ex .nope)
      | _, _ => .val (.ex .nope)
    | _ => if plainT e then .val (cX c st n e) else .val (.ex .nope)
def cEs (c : Cc) (st : Bool) : Nat → List Expr → Exs
  | 0, _ => .cons .nope .nil
  | n + 1, es => match es with
    | [] => .nil
    | e :: r => if noStar e then .cons (cE c st n e) (cEs c st n r) else .cons .nope .nil
def cPs (c : Cc) (st : Bool) : Nat → List Expr → Pxs
  | 0, _ => .cons (.ex .nope) .nil
  | n + 1, es => match es with
    | [] => .nil
    | [e] => if noStar e then .cons (cX c st n e) .nil else .cons (.ex .nope) .nil
    | e :: r => if noStar e then .cons (.ex (cE c st n e)) (cPs c st n r) else .cons (.ex .nope) .nil
/-- io: the parameters that are lent -/
def cAs (c : Cc) (st : Bool) : Nat → List Nat → Nat → List Expr → As
  | 0, _, _, _ => .sh .nope .nil
  | n + 1, io, j, es => match es with
    | [] => .nil
    | e :: r => if noStar e then
        (match e with
        | .Name x _ => match varOf c x with
          | some i => if !st && io.contains j then .io i (cAs c st n io (j + 1) r) else .sh (cE c st n e) (cAs c st n io (j + 1) r)
          | none => .sh (cE c st n e) (cAs c st n io (j + 1) r)
        | _ => .sh (cE c st n e) (cAs c st n io (j + 1) r)) else .sh .nope .nil
def cO (c : Cc) : Nat → Option Expr → Ox
  | 0, _ => .some .nope
  | n + 1, o => match o with
    | none => .none
    | some e => .some (cE c true n e)
/-- tup: the target is a tuple -/
def cI (c : Cc) (st : Bool) : Nat → Bool → Expr → RF.It
  | 0, _, _ => .seq (.ex .nope)
  | n + 1, tup, e => match e with
    | .Call (.Name x _) args [] _ => match gOf c x, args with
      | .rng, [a] => if noStar a then .rng1 (cE c st n a) else .seq (.ex .nope)
      | .rng, [a, b] => if noStar a && noStar b then .rng2 (cE c st n a) (cE c st n b) else .seq (.ex .nope)
      | .rng, [a, b, d] => if noStar a && noStar b && noStar d then .rng3 (cE c st n a) (cE c st n b) (cE c st n d) else .seq (.ex .nope)
      | .enu, [a] => if noStar a && tup then .enum (cX c st n a) else .seq (.ex .nope)
      | .zip, [a, b] => if noStar a && noStar b && tup then .zip (cX c st n a) (cX c st n b) else .seq (.ex .nope)
      | .rev, [a] => if noStar a then .rev (cX c st n a) else .seq (.ex .nope)
      | _, _ => .seq (cX c st n e)
    | _ => .seq (cX c st n e)
end
end RF
end

section
set_option Elab.async false
set_option linter.all false
set_option autoImplicit false
set_option maxRecDepth 100000
set_option maxHeartbeats 1000000
/-! RfCb: the translation of expressions is right: the parts. -/
namespace RF
open PySem L2
open PyProof.Rows hiding St
inductive GkOk (M : Mach) (x : PySem.Str) : Gk → Prop where
  | no : GkOk M x .no
  | fn {f n : Nat} {io : List Nat} (i : FI) (hi : M.fi f = some i) (hn : n = i.ps.length) (hm : M.mg x = some (.ref i.adr)) : GkOk M x (.fn f n io)
  | fnN {f n : Nat} {io : List Nat} (i : FI) (hi : M.fi f = some i) (hn : n = i.ps.length) (hm : M.mg x = some (.ref i.adr)) : GkOk M x (.fnN f n io)
  | cls {c : Nat} (C : Addr) (hc : M.cls c = some C) (hm : M.mg x = some (.ref C)) : GkOk M x (.cls c)
  | mk {c f n : Nat} (C : Addr) (i : FI) (hc : M.cls c = some C) (hm : M.mg x = some (.ref C)) (hf : M.T.init c = some f) (hi : M.fi f = some i) (hn : n = i.ps.length) : GkOk M x (.mk c f n)
  | cst {d : D} (u : Value) (v : V) (hm : M.mg x = some u) (r : RelV v u) (rep : ∀ F, Rep M F v d) : GkOk M x (.cst d)
  | bi {b : Bi} (h : (M.mg x = none ∧ bootBuiltins x = some (biV b)) ∨ M.mg x = some (biV b)) : GkOk M x (.bi b)
  | isi (hm : M.mg x = none) (hv : bootBuiltins x = some (.builtin "isinstance")) : GkOk M x .isi
  | lst (hm : M.mg x = none) (hv : bootBuiltins x = some (.type "list")) : GkOk M x .lst
  | ty {n : Nat} (hm : M.mg x = none) (hv : bootBuiltins x = some (.type (tyN n))) : GkOk M x (.ty n)
  | rng (e : x = "range") (hm : M.mg "range" = none) : GkOk M x .rng
  | enu (e : x = "enumerate") (hm : M.mg "enumerate" = none) : GkOk M x .enu
  | zip (e : x = "zip") (hm : M.mg "zip" = none) : GkOk M x .zip
  | rev (e : x = "reversed") (hm : M.mg "reversed" = none) : GkOk M x .rev
structure Gd (c : Cc) (M : Mach) (Φ : Fn) (k : Nat) (W : WX) (X : Cx) : Prop where
  ok : Ok M X
  mo : MOk M
  fns : Fns M Φ k X.prog X.w X.base
  rm : Room (k + 8) X.A
  calm : X.calm = true
  tk : L2N.Takes X W
  sc : X.env.scope = c.sc
  N : X.N = c.N
  sto : ∀ x, c.sto x = true → Loc X.env.scope x ∧ (X.fn x = true ∨ X.env.scope.names.lookup x = some .local)
  gk : ∀ x, GkOk M x (c.gk x)
  fid : ∀ x f, c.fid x = some f → M.nm f = x
  mid : ∀ x m n, c.mid x = some (m, n) → M.mn m = x ∧ ∀ cc f i, M.T.meth cc m = some f → M.fi f = some i → n = i.ps.length
section
variable {c : Cc} {M : Mach} {Φ : Fn} {k : Nat} {W : WX} {X : Cx} {av : List V} {b st : Bool} {env : PySem.Env}
theorem Gd.hu (g : Gd c M Φ k W X) : X.A.units + 1 < cLine := by have := g.rm.units; omega
theorem star_cons {e : Expr} {es : List Expr} (h : noStar e = true) : starEach (e :: es) env = (false, eval e env) :: starEach es env := by
  cases e <;> first | rfl | (cases h; done)
theorem star_any {pos : Pos} : ∀ {es : List Expr}, es.all noStar = true → (backTo pos (starEach es env)).any (·.1) = false
  | [], _ => rfl
  | e :: r, h => by
    rw [List.all_cons, Bool.and_eq_true] at h
    rw [star_cons h.1]
    show (false || (backTo pos (starEach r env)).any (·.1)) = false
    rw [star_any h.2]; rfl
theorem base_ok {o : Expr} {f : PySem.Str} (h : plainO o = true) : attributeBase o f env (eval o env) = eval o env := by
  cases o with
  | Call fn args kws p =>
    cases fn with
    | Name x p2 =>
      cases args with
      | nil =>
        cases kws with
        | nil => cases h
        | cons => rfl
      | cons => rfl
    | _ => rfl
  | _ => rfl
theorem plainIx {i : Expr} (h : noSl i = true) : PlainIx i := by
  intro o v
  cases i <;> first | rfl | (cases h; done)
theorem noSet_mark {op : CmpOp} {e : Expr} (h : noSet e = true) : behindInMarks op e = false := by
  cases e <;> first | rfl | (cases h; done)
theorem noSet_fold {e : Expr} (h : noSet e = true) (x : Value) : foldedSetIterable e env x = pure x := by
  cases e <;> first | rfl | (cases h; done)
theorem plainT_ok {e : Expr} (h : plainT e = true) (whole : Sem Value) : isTrue e env whole = (do let v ← whole; standAt e.pos; holding [v] (truthy v)) := by
  cases e with
  | UnaryOp op a p => cases op <;> first | rfl | (cases h; done)
  | BoolOp => cases h
  | IfExp => cases h
  | Compare => cases h
  | _ => rfl
theorem Gd.var (g : Gd c M Φ k W X) {x : PySem.Str} {i : Nat} (h : varOf c x = some i) : X.N[i]? = some x ∧ Vis X.env.scope x ∧ (x == ("__debug__" : PySem.Str)) = false ∧ (x == ("__classdict__" : PySem.Str)) = false := by
  unfold varOf at h
  split at h
  · rename_i hc
    simp only [Bool.and_eq_true, Bool.not_eq_true'] at hc
    refine ⟨by rw [g.N]; exact plS_at h, ?_, hc.1.2, hc.2⟩
    rw [g.sc]
    have := hc.1.1
    unfold visB at this
    split at this
    · exact .inl (by assumption)
    · exact .inr (.inl (by assumption))
    · exact .inr (.inr (by assumption))
    · cases this
  · cases h
theorem Gd.glo (g : Gd c M Φ k W X) {x : PySem.Str} (h : gOf c x ≠ .no) : Gl X x ∧ (x == ("__debug__" : PySem.Str)) = false ∧ x ≠ "__name__" ∧ gOf c x = c.gk x := by
  unfold gOf at h ⊢
  split
  · rename_i hc
    simp only [Bool.and_eq_true, Bool.not_eq_true'] at hc
    refine ⟨?_, hc.1.2, fun z => ?_, rfl⟩
    · show X.env.scope.names.lookup x = some .globalImplicit
      rw [g.sc]
      have := hc.1.1
      unfold glbB at this
      split at this
      · assumption
      · cases this
    · have := hc.2
      rw [z] at this
      exact absurd this (by decide)
  · rename_i hc
    rw [if_neg hc] at h
    exact absurd rfl h
theorem Gd.gkk (g : Gd c M Φ k W X) {x : PySem.Str} {q : Gk} (h : gOf c x = q) (hq : q ≠ .no) : Gl X x ∧ (x == ("__debug__" : PySem.Str)) = false ∧ x ≠ "__name__" ∧ GkOk M x q := by
  obtain ⟨h1, h2, h3, h4⟩ := g.glo (x := x) (by rw [h]; exact hq)
  exact ⟨h1, h2, h3, by rw [← h, h4]; exact g.gk x⟩
theorem cst_sound {e : Expr} {d : D} (h : cstOf e = some d) : PE X e (tE b M av W (evE M.T Φ (.cst d))) := by
  cases e with
  | Constant q j p =>
    cases q with
    | int i => cases h; exact sE_cst pe_int fun F => .int
    | bool i => cases h; exact sE_cst pe_bl fun F => .bl
    | none => cases h; exact sE_cst pe_non fun F => .non
    | str i => cases h; exact sE_cst pe_str fun F => .str
    | _ => cases h
  | _ => cases h
def SE (n : Nat) : Prop := ∀ {c : Cc} {M : Mach} {Φ : Fn} {k : Nat} {W : WX} {X : Cx} {av : List V} {b st : Bool}, Gd c M Φ k W X → (b = false ∨ st = true) → ∀ e, PE X e (tE b M av W (evE M.T Φ (cE c st n e)))
def SX (n : Nat) : Prop := ∀ {c : Cc} {M : Mach} {Φ : Fn} {k : Nat} {W : WX} {X : Cx} {av : List V} {b st : Bool}, Gd c M Φ k W X → (b = false ∨ st = true) → ∀ e, PE X e (tX b M av W (evX M.T Φ (cX c st n e)))
def SN (n : Nat) : Prop := ∀ {c : Cc} {M : Mach} {Φ : Fn} {k : Nat} {W : WX} {X : Cx} {av : List V} {b st : Bool}, Gd c M Φ k W X → (b = false ∨ st = true) → ∀ e x, cN c st n e = some x → PE X e (tN b M av W (evN M.T Φ x))
def ST (n : Nat) : Prop := ∀ {c : Cc} {M : Mach} {Φ : Fn} {k : Nat} {W : WX} {X : Cx} {av : List V} {b st : Bool}, Gd c M Φ k W X → (b = false ∨ st = true) → ∀ e, PT X e (tT b M av W (evT M.T Φ (cT c st n e)))
def SEs (n : Nat) : Prop := ∀ {c : Cc} {M : Mach} {Φ : Fn} {k : Nat} {W : WX} {X : Cx} {av : List V} {b st : Bool}, Gd c M Φ k W X → (b = false ∨ st = true) → ∀ e, PA X e (tEs b M av W (evEs M.T Φ (cEs c st n e)))
def SPs (n : Nat) : Prop := ∀ {c : Cc} {M : Mach} {Φ : Fn} {k : Nat} {W : WX} {X : Cx} {av : List V} {b st : Bool}, Gd c M Φ k W X → (b = false ∨ st = true) → ∀ e, PA X e (tPs b M av W (evPs M.T Φ (cPs c st n e)))
def SAs (n : Nat) : Prop := ∀ {c : Cc} {M : Mach} {Φ : Fn} {k : Nat} {W : WX} {X : Cx} {av : List V} {b st : Bool}, Gd c M Φ k W X → (b = false ∨ st = true) → ∀ io j e, PA X e (tAs b M av W (evAs M.T Φ (cAs c st n io j e)))
def SO (n : Nat) : Prop := ∀ {c : Cc} {M : Mach} {Φ : Fn} {k : Nat} {W : WX} {X : Cx} {av : List V} {b : Bool}, Gd c M Φ k W X → ∀ o, PO X o (tO b M av W (evO M.T Φ (cO c n o)))
def SI (n : Nat) : Prop := ∀ {c : Cc} {M : Mach} {Φ : Fn} {k : Nat} {W : WX} {X : Cx} {av : List V} {b st : Bool}, Gd c M Φ k W X → (b = false ∨ st = true) → ∀ tup tg e, (tup = true → isTup tg = true) → PI X tg e (tI b M av W (evI M.T Φ (cI c st n tup e)))
theorem nope_X {e : Expr} : PE X e (tX b M av W (evX M.T Φ (.ex .nope))) := sX_ex nope_E
theorem nope_T {e : Expr} : PT X e (tT b M av W (evT M.T Φ (.val (.ex .nope)))) := ⟨fun pins s σ H Q I ⟨ρ, F, own, pt, q⟩ => by unfold evT evX evE at q; exact q.elim⟩
theorem nope_Es {es : List Expr} : PA X es (tEs b M av W (evEs M.T Φ (.cons .nope .nil))) := ⟨fun pos pins s σ H Q I ⟨ρ, F, own, pt, q⟩ => by unfold evEs evE at q; exact q.elim⟩
theorem nope_Ps {es : List Expr} : PA X es (tPs b M av W (evPs M.T Φ (.cons (.ex .nope) .nil))) := ⟨fun pos pins s σ H Q I ⟨ρ, F, own, pt, q⟩ => by unfold evPs evX evE at q; exact q.elim⟩
theorem nope_As {es : List Expr} : PA X es (tAs b M av W (evAs M.T Φ (.sh .nope .nil))) := ⟨fun pos pins s σ H Q I ⟨ρ, F, own, pt, q⟩ => by unfold evAs evE at q; exact q.elim⟩
theorem nope_O {o : Option Expr} : PO X o (tO b M av W (evO M.T Φ (.some .nope))) := ⟨fun pins s σ H Q I ⟨ρ, F, own, pt, q⟩ => by unfold evO evE at q; exact q.elim⟩
theorem nope_I {tg e : Expr} : PI X tg e (tI b M av W (evI M.T Φ (.seq (.ex .nope)))) := ⟨fun pins s σ H Q I ⟨ρ, F, own, pt, q⟩ => by unfold evI evX evE at q; exact q.elim⟩
/-! ### lists of expressions -/
theorem sEs_succ {n : Nat} (hE : SE n) (hEs : SEs n) : SEs (n + 1) := by
  intro c M Φ k W X av b st g hb es
  unfold cEs
  split
  · exact sEs_nil
  · rename_i e r
    split
    · rename_i h
      exact sEs_cons (hE g hb e) (hEs g hb r) (star_cons h)
    · exact nope_Es
theorem sO_succ {n : Nat} (hE : SE n) : SO (n + 1) := by
  intro c M Φ k W X av b g o
  unfold cO
  split
  · exact sO_none
  · exact sO_some (hE g (.inr rfl) _)
theorem sPs_succ {n : Nat} (hE : SE n) (hX : SX n) (hPs : SPs n) : SPs (n + 1) := by
  intro c M Φ k W X av b st g hb es
  unfold cPs
  split
  · exact sPs_nil
  · rename_i e
    split
    · rename_i h
      exact sPs_cons (hX g hb e) (sPs_nil) (star_cons h)
    · exact nope_Ps
  · rename_i e r _
    split
    · rename_i h
      exact sPs_consE (hE g hb e) (hPs g hb r) (star_cons h)
    · exact nope_Ps
theorem sAs_succ {n : Nat} (hE : SE n) (hAs : SAs n) : SAs (n + 1) := by
  intro c M Φ k W X av b st g hb io j es
  unfold cAs
  split
  · exact sAs_nil
  · rename_i e r
    split
    · rename_i h
      split
      · rename_i x p
        split
        · rename_i i hi
          split
          · obtain ⟨h1, h2, h3, h4⟩ := g.var hi
            exact sAs_io h1 h2 h3 h4 (hAs g hb _ _ r) (star_cons h)
          · exact sAs_sh (hE g hb _) (hAs g hb _ _ r) (star_cons h)
        · exact sAs_sh (hE g hb _) (hAs g hb _ _ r) (star_cons h)
      · exact sAs_sh (hE g hb _) (hAs g hb _ _ r) (star_cons h)
    · exact nope_As
theorem cAs_noIo {n : Nat} : ∀ {io : List Nat} {j : Nat} {es : List Expr}, (cAs c true n io j es).noIo = true := by
  induction n with
  | zero => intros; rfl
  | succ n ih =>
    intro io j es
    unfold cAs
    split
    · rfl
    · split
      · split
        · split
          · split
            · rename_i hc
              simp at hc
            · exact ih
          · exact ih
        · exact ih
      · rfl
/-! ### places, tests -/
theorem sX_succ {n : Nat} (hE : SE n) (hX : SX n) : SX (n + 1) := by
  intro c M Φ k W X av b st g hb e
  unfold cX
  split
  · rename_i x p
    split
    · rename_i i hi
      obtain ⟨h1, h2, h3, h4⟩ := g.var hi
      exact sX_pk h1 h2 h3 h4
    · exact sX_ex (hE g hb _)
  · rename_i o f p
    split
    · rename_i i hi
      split
      · rename_i ho
        exact sX_fld g.ok g.mo (g.fid _ _ hi) (hX g hb o) (base_ok ho)
      · exact nope_X
    · exact nope_X
  · exact sX_ex (hE g hb _)
  · exact sX_ex (hE g hb _)
  · exact sX_ex (hE g hb _)
  · rename_i a i p hno hno2 hno3
    exact sX_sub g.ok g.hu (hX g hb a) (hE g (.inr rfl) i) (plainIx (by
      cases i <;> first | rfl | exact absurd rfl (hno _ _ _ _)))
  · exact sX_ex (hE g hb _)
end
end RF
end

section
set_option Elab.async false
set_option linter.all false
set_option autoImplicit false
set_option maxRecDepth 100000
set_option maxHeartbeats 2000000
/-! RfCc: the translation of expressions is right: tests, iterators, producers. -/
namespace RF
open PySem L2
open PyProof.Rows hiding St
section
variable {c : Cc} {M : Mach} {Φ : Fn} {k : Nat} {W : WX} {X : Cx} {av : List V} {b st : Bool} {env : PySem.Env}
theorem copTo_eq {op : CmpOp} {o : Cop} (h : copTo op = some o) : op = copOf o := by
  cases op <;> first | (cases h; rfl) | (cases h; done)
theorem bopOf_eq {op : Operator} {o : Bop} (h : bopOf op = some o) : op = opOf o := by
  cases op <;> first | (cases h; rfl) | (cases h; done)
theorem pw_of {op : BoolOp} {vs : List Expr} {p : Pos} {t : TT} (h : PT X (.BoolOp op vs p) t) : PW X (.BoolOp op vs p) t := ⟨fun whole pins s σ H Q I q => h.run pins s σ H Q I q⟩
theorem two_ok {x y : D} {i j : Int} (h : two x y = some (i, j)) : x = .int i ∧ y = .int j ∧ -(2 ^ 62) ≤ i ∧ i < 2 ^ 62 ∧ -(2 ^ 62) ≤ j ∧ j < 2 ^ 62 := by
  unfold two at h
  split at h
  · split at h
    · rename_i hs
      cases h
      simp only [small, Bool.and_eq_true, decide_eq_true_eq] at hs
      exact ⟨rfl, rfl, hs.1.1, hs.1.2, hs.2.1, hs.2.2⟩
    · cases h
  · cases h
theorem sI_rng1 (ok : Ok M X) {tg a1 : Expr} {p2 pos : Pos} {x : Ex} (hg : Gl X "range") (hm : M.mg "range" = none) (ha : PE X a1 (tE b M av W (evE M.T Φ x))) (h1 : noStar a1 = true) :
    PI X tg (.Call (.Name "range" p2) [a1] [] pos) (tI b M av W (evI M.T Φ (.rng1 x))) := by
  refine imI (pi_range1 hg (by rw [ok.mg]; exact hm) (pa_cons ha pa_nil (star_cons h1)) (star_cons h1)) fun σ H Q ⟨ρ, F, own, pt, q⟩ => ⟨ρ, F, own, pt, ?_⟩
  unfold evI at q
  refine q.bind fun r v F1 H1 own1 g ⟨p1, r1⟩ q1 => ?_
  split at q1
  · rename_i j hj
    split at q1
    · rename_i hs
      rw [hj] at r1
      cases r1.intv
      simp only [small, decide_eq_true_eq] at hs
      refine ⟨j, rfl, hs.1, hs.2, q1 _ F1 H1 own1 Gr.rfl' ⟨p1, wk_rng⟩⟩
    · exact q1.elim
  · exact q1.elim
theorem sI_rng2 (ok : Ok M X) {tg a1 a2 : Expr} {p2 pos : Pos} {x y : Ex} (hg : Gl X "range") (hm : M.mg "range" = none) (ha : PE X a1 (tE b M av W (evE M.T Φ x))) (hb : PE X a2 (tE b M av W (evE M.T Φ y))) (h1 : noStar a1 = true) (h2 : noStar a2 = true) :
    PI X tg (.Call (.Name "range" p2) [a1, a2] [] pos) (tI b M av W (evI M.T Φ (.rng2 x y))) := by
  refine imI (pi_range2 hg (by rw [ok.mg]; exact hm) (pa_cons ha (pa_cons hb pa_nil (star_cons h2)) (star_cons h1)) (by rw [star_cons h1, star_cons h2]; rfl) (star_cons h2)) fun σ H Q ⟨ρ, F, own, pt, q⟩ => ⟨ρ, F, own, pt, ?_⟩
  unfold evI at q
  refine q.bind fun r v F1 H1 own1 g ⟨p1, r1⟩ q1 => ⟨r.2, F1, own1, p1, ?_⟩
  refine q1.bind fun s w F2 H2 own2 g2 ⟨p2, r2⟩ q2 => ?_
  split at q2
  · rename_i i j hij
    obtain ⟨e1, e2, b1, b2, b3, b4⟩ := two_ok hij
    rw [e1] at r1
    rw [e2] at r2
    cases r1.intv
    cases r2.intv
    exact ⟨i, j, rfl, ⟨b1, b2, b3, b4⟩, q2 _ F2 H2 own2 Gr.rfl' ⟨p2, wk_rng⟩⟩
  · exact q2.elim
theorem sI_rng3 (ok : Ok M X) {tg a1 a2 a3 : Expr} {p2 pos : Pos} {x y z : Ex} (hg : Gl X "range") (hm : M.mg "range" = none) (ha : PE X a1 (tE b M av W (evE M.T Φ x))) (hb : PE X a2 (tE b M av W (evE M.T Φ y))) (hc : PE X a3 (tE b M av W (evE M.T Φ z))) (h1 : noStar a1 = true) (h2 : noStar a2 = true) (h3 : noStar a3 = true) :
    PI X tg (.Call (.Name "range" p2) [a1, a2, a3] [] pos) (tI b M av W (evI M.T Φ (.rng3 x y z))) := by
  refine imI (pi_range3 hg (by rw [ok.mg]; exact hm) (pa_cons ha (pa_cons hb (pa_cons hc pa_nil (star_cons h3)) (star_cons h2)) (star_cons h1)) (star_cons h1) (star_any (by simp [h2, h3]))) fun σ H Q ⟨ρ, F, own, pt, q⟩ => ⟨ρ, F, own, pt, ?_⟩
  unfold evI at q
  refine q.bind fun r v F1 H1 own1 g ⟨p1, r1⟩ q1 => ⟨r.2, F1, own1, p1, ?_⟩
  refine q1.bind fun s w F2 H2 own2 g2 ⟨p2, r2⟩ q2 => ⟨s.2, F2, own2, p2, ?_⟩
  refine q2.bind fun t u F3 H3 own3 g3 ⟨p3, r3⟩ q3 => ?_
  split at q3
  · rename_i i j d hij hd
    split at q3
    · rename_i hc
      obtain ⟨e1, e2, b1, b2, b3, b4⟩ := two_ok hij
      rw [e1] at r1
      rw [e2] at r2
      rw [hd, hc] at r3
      cases r1.intv
      cases r2.intv
      cases r3.intv
      exact ⟨i, j, -1, (i - j).toNat, rfl, RgC.neg b1 b2 b3 b4, q3 _ F3 H3 own3 Gr.rfl' ⟨p3, wk_rngC⟩⟩
    · exact q3.elim
  · exact q3.elim
theorem sT_succ {n : Nat} (hE : SE n) (hX : SX n) (hT : ST n) : ST (n + 1) := by
  intro c M Φ k W X av b st g hb e
  unfold cT
  split
  · exact sT_not (hT g hb _)
  · exact (sT_and1 (hT g hb _)).pt
  · exact (sT_or1 (hT g hb _)).pt
  · rename_i a b' r p
    exact (sT_and (hT g hb a) (pw_of (hT g hb _))).pt
  · exact (sT_or (hT g hb _) (pw_of (hT g hb _))).pt
  · rename_i a op b' p
    split
    · rename_i o ho
      rw [copTo_eq ho]
      exact sT_cmp g.ok g.mo g.fns g.rm g.tk (hE g hb a) (hE g hb b')
    · split
      · split
        · rename_i h
          exact sT_in (ng := false) g.ok g.rm (hE g hb a) (hX g hb b') (noSet_mark h)
        · exact nope_T
      · split
        · rename_i h
          exact sT_in (ng := true) g.ok g.rm (hE g hb a) (hX g hb b') (noSet_mark h)
        · exact nope_T
      · exact nope_T
  · rename_i a p q b' d pos
    split
    · rename_i o1 o2 h1 h2
      split
      · rename_i h
        rw [Bool.and_eq_true] at h
        rw [copTo_eq h1, copTo_eq h2]
        exact sT_chn g.ok h.1 h.2 (hE g hb a) (hE g hb b') (hE g hb d)
      · exact nope_T
    · exact nope_T
  · split
    · rename_i h
      exact sT_val g.ok (hX g hb _) (plainT_ok h)
    · exact nope_T
theorem sI_succ {n : Nat} (hE : SE n) (hX : SX n) : SI (n + 1) := by
  intro c M Φ k W X av b st g hb tup tg e ht
  have seq : ∀ (e : Expr), PI X tg e (tI b M av W (evI M.T Φ (.seq (cX c st n e)))) := fun e => by
    by_cases hp : (cX c st n e).isPk = true
    · have he : ∃ x p i, e = .Name x p ∧ varOf c x = some i ∧ cX c st n e = .pk i := by
        cases n with
        | zero => cases hp
        | succ n =>
          unfold cX at hp ⊢
          split at hp
          · rename_i x p
            split at hp
            · rename_i i hi
              refine ⟨x, p, i, rfl, hi, ?_⟩
              simp only [hi]
            · cases hp
          · split at hp
            · split at hp <;> cases hp
            · cases hp
          · cases hp
          · cases hp
          · cases hp
          · cases hp
          · cases hp
      obtain ⟨x, p, i, e1, hi, e2⟩ := he
      rw [e2]
      subst e1
      obtain ⟨h1, h2, h3, h4⟩ := g.var hi
      exact sI_seq g.ok (sW_pk h1 h2 h3 h4)
    · exact sI_seq g.ok (sW_of (by simpa using hp) (hX g hb e))
  have plc : ∀ (e : Expr), PE X e (tW (cX c st n e) b M av W (evX M.T Φ (cX c st n e))) := fun e => by
    by_cases hp : (cX c st n e).isPk = true
    · have he : ∃ x p i, e = .Name x p ∧ varOf c x = some i ∧ cX c st n e = .pk i := by
        cases n with
        | zero => cases hp
        | succ n =>
          unfold cX at hp ⊢
          split at hp
          · rename_i x p
            split at hp
            · rename_i i hi
              refine ⟨x, p, i, rfl, hi, ?_⟩
              simp only [hi]
            · cases hp
          · split at hp
            · split at hp <;> cases hp
            · cases hp
          · cases hp
          · cases hp
          · cases hp
          · cases hp
          · cases hp
      obtain ⟨x, p, i, e1, hi, e2⟩ := he
      rw [e2]
      subst e1
      obtain ⟨h1, h2, h3, h4⟩ := g.var hi
      exact sW_pk h1 h2 h3 h4
    · exact sW_of (by simpa using hp) (hX g hb e)
  unfold cI
  split
  · rename_i x p args pos
    split
    · rename_i a hx
      obtain ⟨h1, h2, h3, h4⟩ := g.gkk hx (by simp)
      cases h4 with
      | rng e hm =>
        subst e
        split
        · rename_i h; exact sI_rng1 g.ok h1 hm (hE g hb a) h
        · exact nope_I
    · rename_i a d hx
      obtain ⟨h1, h2, h3, h4⟩ := g.gkk hx (by simp)
      cases h4 with
      | rng e hm =>
        subst e
        split
        · rename_i h
          rw [Bool.and_eq_true] at h
          exact sI_rng2 g.ok h1 hm (hE g hb a) (hE g hb d) h.1 h.2
        · exact nope_I
    · rename_i a d f hx
      obtain ⟨h1, h2, h3, h4⟩ := g.gkk hx (by simp)
      cases h4 with
      | rng e hm =>
        subst e
        split
        · rename_i h
          rw [Bool.and_eq_true, Bool.and_eq_true] at h
          exact sI_rng3 g.ok h1 hm (hE g hb a) (hE g hb d) (hE g hb f) h.1.1 h.1.2 h.2
        · exact nope_I
    · rename_i a hx
      obtain ⟨h1, h2, h3, h4⟩ := g.gkk hx (by simp)
      cases h4 with
      | enu e hm =>
        subst e
        split
        · rename_i h
          rw [Bool.and_eq_true] at h
          have h5 := ht h.2
          cases tg <;> first | (cases h5; done) | exact sI_enum g.ok h1 hm (plc a) (star_cons h.1) (star_cons h.1)
        · exact nope_I
    · rename_i a d hx
      obtain ⟨h1, h2, h3, h4⟩ := g.gkk hx (by simp)
      cases h4 with
      | zip e hm =>
        subst e
        split
        · rename_i h
          rw [Bool.and_eq_true, Bool.and_eq_true] at h
          have h5 := ht h.2
          cases tg <;> first | (cases h5; done) | exact sI_zip g.ok h1 hm (hX g hb a) (hX g hb d) (star_cons h.1.1) (star_cons h.1.2) (star_any (by simp [h.1.2]))
        · exact nope_I
    · rename_i a hx
      obtain ⟨h1, h2, h3, h4⟩ := g.gkk hx (by simp)
      cases h4 with
      | rev e hm =>
        subst e
        split
        · rename_i h; exact sI_rev g.ok h1 hm (plc a) (star_cons h)
        · exact nope_I
    · exact seq _
  · exact seq _
/-! ### blocks -/
theorem Gd.blk (g : Gd c M Φ k W X) {scope : Scope} (s : Shared) (H : Hp) (C : Addr) (cl : List (PySem.Str × Addr)) (fp : List Addr) : Gd (blkCc c scope) M Φ k noW (X.blk s H scope (compEnvC scope cl C X.env) fp) := by
  have esc : (compEnvC scope cl C X.env).scope = relS scope c.sc := by rw [← g.sc]; rfl
  refine ⟨⟨g.ok.K, g.ok.mg, g.ok.nd, g.ok.hd⟩, g.mo, g.fns, g.rm, g.calm, ?_, esc, g.N, fun x hx => ?_, g.gk, g.fid, g.mid⟩
  · intro u s' ⟨a, B, sI, pins, σ, H, cls, d, e, I, nb, up, sky, na, os, ag, w⟩
    exact w.elim
  · show L2.Loc (compEnvC scope cl C X.env).scope x ∧ _
    unfold blkCc at hx
    simp only [Bool.or_eq_true] at hx
    rcases hx with hx | hx
    · have h : (relS scope c.sc).names.lookup x = some .local := by
        unfold lclB at hx
        split at hx
        · assumption
        · cases hx
      refine ⟨.inl (by rw [esc]; exact h), .inr ?_⟩
      show (compEnvC scope cl C X.env).scope.names.lookup x = _
      rw [esc]; exact h
    · split at hx
      · rename_i h1
        split at hx
        · rename_i h2
          refine ⟨.inr (by rw [esc]; exact h2), .inl ?_⟩
          show (scope.names.lookup x == some .cell) = true
          rw [h1]; rfl
        · cases hx
      · cases hx
theorem tgN_ok (g : Gd c M Φ k W X) : ∀ {es : List Expr} {is : List Nat}, tgN c es = some is → PGs X es (gsN is) ∧ (assignEach es X.env).length = is.length ∧ (assignEach es X.env).findIdx? (·.1) = none
  | [], is, h => by
    cases h
    exact ⟨pgs_nil, rfl, rfl⟩
  | e :: r, is, h => by
    cases e with
    | Name x p =>
      unfold tgN at h
      split at h
      · rename_i hs
        split at h
        · rename_i i is' hi hr
          cases h
          obtain ⟨h1, h2, h3⟩ := tgN_ok g hr
          obtain ⟨s1, s2⟩ := g.sto x hs
          refine ⟨pgs_cons (pg_name g.ok.nd (by rw [g.N]; exact plS_at hi) s1 s2) h1, ?_, ?_⟩
          · show (assignEach r X.env).length + 1 = _
            rw [h2]; rfl
          · show ((false, assign (.Name x p) X.env) :: assignEach r X.env).findIdx? (·.1) = none
            rw [List.findIdx?_cons]
            simp [h3]
        · cases h
      · cases h
    | _ => simp [tgN] at h
theorem cTg_ok (g : Gd c M Φ k W X) {tg : Expr} {t : Tg} (h : cTg c tg = some t) : PG X tg (gT M.K t) := by
  cases tg with
  | Name x p =>
    have h : (if c.sto x then (plS c.N x).map .nm else none) = some t := h
    split at h
    · rename_i hs
      cases hi : plS c.N x with
      | none => rw [hi] at h; cases h
      | some i =>
        rw [hi] at h
        cases h
        obtain ⟨s1, s2⟩ := g.sto x hs
        exact pg_name g.ok.nd (by rw [g.N]; exact plS_at hi) s1 s2
    · cases h
  | Tuple es j p =>
    have h : (tgN c es).map .tp = some t := h
    cases hi : tgN c es with
    | none => rw [hi] at h; cases h
    | some is =>
      rw [hi] at h
      cases h
      obtain ⟨h1, h2, h3⟩ := tgN_ok g hi
      show PG X (.Tuple es j p) (gSeq M.K is.length (gsN is))
      rw [← g.ok.K]
      exact pg_seq g.calm h1 h2 h3
  | _ => simp [cTg] at h
end
end RF
end

section
set_option Elab.async false
set_option linter.all false
set_option autoImplicit false
set_option maxRecDepth 100000
set_option maxHeartbeats 2000000
/-! RfCd: the translation of expressions is right. -/
namespace RF
open PySem L2
open PyProof.Rows hiding St
section
variable {c : Cc} {M : Mach} {Φ : Fn} {k : Nat} {W : WX} {X : Cx} {av : List V} {b st : Bool} {env : PySem.Env}
theorem cst_pe {e : Expr} {d : D} {kk : Key} (h : cstOf e = some d) (hk : kKey d = some kk) : PE X e (tC (kV kk)) := by
  cases e with
  | Constant q j p =>
    cases q with
    | int i => cases h; cases hk; exact pe_int
    | bool i => cases h; cases hk
    | none => cases h; cases hk
    | str i => cases h; cases hk; exact pe_str
    | _ => cases h
  | _ => cases h
theorem pps_ok {n : Nat} (hE : ∀ m ≤ n, SE m) (g : Gd c M Φ k W X) (hb : b = false ∨ st = true) {pos : Pos} : ∀ (m : Nat), m ≤ n → ∀ {keys : List (Option Expr)} {ds : List D} {kk : List Key} {vs : List Expr}, keyD keys = some ds → kKeys ds = some kk → (cEs c st m vs).len = kk.length → vs.length = kk.length →
    PPs X pos keys vs (trsOf b M av W Φ kk (cEs c st m vs)) := by
  intro m
  induction m with
  | zero =>
    intro _ keys ds kk vs h1 h2 h3 h4
    have h3 : 1 = kk.length := h3
    match kk, vs, h3, h4 with
    | [q], [v], _, _ =>
      have e := kKeys_map h2
      subst e
      match keys, h1 with
      | [some e], h1 =>
        simp only [keyD] at h1
        cases hc : cstOf e with
        | none => rw [hc] at h1; cases h1
        | some d =>
          rw [hc] at h1
          cases h1
          have hk : kKey (kD q) = some q := by cases q <;> rfl
          exact pps_cons (cst_pe hc hk) nope_E pps_nil
      | some e :: e2 :: r, h1 =>
        exfalso
        simp only [keyD] at h1
        split at h1
        · rename_i d ds' hd hds
          cases h1
          cases e2 with
          | none => simp [keyD] at hds
          | some e2 =>
            simp only [keyD] at hds
            split at hds <;> cases hds
        · cases h1
      | [], h1 => simp [keyD] at h1
      | none :: _, h1 => simp [keyD] at h1
  | succ m ih =>
    intro hm keys ds kk vs h1 h2 h3 h4
    unfold cEs at h3 ⊢
    cases vs with
    | nil =>
      have : kk = [] := List.length_eq_zero_iff.mp h4.symm
      subst this
      have e := kKeys_map h2
      subst e
      match keys, h1 with
      | [], _ => exact pps_nil
      | some e :: r, h1 =>
        simp only [keyD] at h1
        split at h1 <;> cases h1
      | none :: _, h1 => simp [keyD] at h1
    | cons v r =>
      match kk, h4 with
      | q :: kk', h4 =>
        have e := kKeys_map h2
        subst e
        match keys, h1 with
        | some e :: ks, h1 =>
          simp only [keyD] at h1
          split at h1
          · rename_i d ds' hd hds
            have hk : kKey (kD q) = some q := by cases q <;> rfl
            have hmap : ∀ l : List Key, kKeys (l.map kD) = some l := fun l => by
              induction l with
              | nil => rfl
              | cons a l ih => 
                have ha : kKey (kD a) = some a := by cases a <;> rfl
                simp only [List.map_cons, kKeys, ha, ih]
            have e1 : d = kD q ∧ ds' = kk'.map kD := by
              have := Option.some.inj h1
              simp only [List.map_cons, List.cons.injEq] at this
              exact this
            obtain ⟨rfl, rfl⟩ := e1
            by_cases hs : noStar v = true
            · simp only [hs, if_true] at h3 ⊢
              exact pps_cons (cst_pe hd hk) (hE m (by omega) g hb v) (ih (by omega) hds (hmap kk') (by simpa [Exs.len] using h3) (by simpa using h4))
            · simp only [hs] at h3 ⊢
              have h3 : 1 = (q :: kk').length := h3
              have : kk' = [] := by
                cases kk' with
                | nil => rfl
                | cons => simp at h3
              subst this
              have hr : r = [] := by
                cases r with
                | nil => rfl
                | cons => simp at h4
              subst hr
              match ks, hds with
              | [], _ => exact pps_cons (cst_pe hd hk) nope_E pps_nil
              | some e :: r, h1 =>
                simp only [keyD] at h1
                split at h1 <;> cases h1
              | none :: _, h1 => simp [keyD] at h1
          · cases h1
        | [], h1 => simp [keyD] at h1
        | none :: _, h1 => simp [keyD] at h1
theorem keyD_some : ∀ {keys : List (Option Expr)} {ds : List D}, keyD keys = some ds → keys.all (·.isSome) = true ∧ keys.length = ds.length
  | [], ds, h => by cases h; exact ⟨rfl, rfl⟩
  | some e :: r, ds, h => by
    simp only [keyD] at h
    split at h
    · rename_i d ds' hd hds
      cases h
      obtain ⟨h1, h2⟩ := keyD_some hds
      exact ⟨by rw [List.all_cons, h1]; rfl, by rw [List.length_cons, List.length_cons, h2]⟩
    · cases h
  | none :: _, _, h => by simp [keyD] at h
theorem sN_succ {n : Nat} (hE : ∀ m ≤ n, SE m) (hX : SX n) (hT : ST n) (hEs : SEs n) (hI : SI n) (hAs : SAs n) : SN (n + 1) := by
  intro c M Φ k W X av b st g hb e x h
  have hE0 : SE n := hE n (Nat.le_refl n)
  unfold cN at h
  split at h
  · cases h; exact sN_lst (hEs g hb _)
  · split at h
    · rename_i hs
      cases h; exact sN_rep (hE0 g hb _) (hE0 g hb _) (star_cons hs)
    · cases h
  · cases h; exact sN_dnew
  · rename_i kx ks vs p hno
    split at h
    · rename_i ds hds
      split at h
      · rename_i kk hkk
        split at h
        · rename_i hc
          cases h
          simp only [Bool.and_eq_true, decide_eq_true_eq] at hc
          obtain ⟨h1, h2⟩ := keyD_some hds
          have h3 := kKeys_map hkk
          exact sN_dsp (pps_ok hE g hb n (Nat.le_refl n) hds hkk hc.2 hc.1.1.2) hkk hc.1.1.1 hc.2 h1 (by rw [h2, h3, List.length_map]; exact hc.1.1.2.symm) (by simp) hc.1.2
        · cases h
      · cases h
    · cases h
  · rename_i elt tg iter ifs scope p
    split at h
    · rename_i hc
      rw [Bool.and_eq_true] at hc
      have bo : BlkOk X.N X.env.scope scope (ownL c scope) := by rw [g.N, g.sc]; exact blkOk_by hc.1
      split at h
      · rename_i t ht
        split at h
        · rename_i hsl
          cases h
          rw [evN_comp]
          exact sN_lc g.calm g.ok.nd (hI g hb (isTup tg) tg iter fun z => z) bo (fun i m => by simpa using List.all_eq_true.mp hsl i m) (fun s H C cl fp => cTg_ok (g.blk s H C cl fp) ht) (fun s H C cl fp => sTs_nil) (fun s H C cl fp => sN_lf (hE0 (g.blk s H C cl fp) hb elt)) (noSet_fold hc.2)
        · cases h
      · rename_i t f ht
        split at h
        · rename_i hsl
          cases h
          rw [evN_comp]
          exact sN_lc g.calm g.ok.nd (hI g hb (isTup tg) tg iter fun z => z) bo (fun i m => by simpa using List.all_eq_true.mp hsl i m) (fun s H C cl fp => cTg_ok (g.blk s H C cl fp) ht) (fun s H C cl fp => sTs_one (hT (g.blk s H C cl fp) hb f)) (fun s H C cl fp => sN_lf (hE0 (g.blk s H C cl fp) hb elt)) (noSet_fold hc.2)
        · cases h
      · cases h
    · cases h
  · rename_i x p args pos
    split at h
    · rename_i a hx
      obtain ⟨h1, h2, h3, h4⟩ := g.gkk hx (by simp)
      cases h4 with
      | lst hm hv =>
        split at h
        · rename_i e he
          cases h
          unfold revA at he
          split at he
          · rename_i r p3 e' p4
            split at he
            · rename_i hr
              split at he
              · rename_i hs
                cases he
                obtain ⟨k1, k2, k3, k4⟩ := g.gkk hr (by simp)
                cases k4 with
                | rev er hmr =>
                  subst er
                  exact sN_lrev g.ok g.calm h1 hm hv h3 h2 k1 hmr (hX g hb e) (star_cons hs)
              · cases he
            · cases he
          · cases he
        · split at h
          · rename_i hs
            cases h
            exact sN_lof g.ok h1 hm hv h3 h2 (hX g hb a) (star_cons hs) rfl
          · cases h
    · rename_i f m io hx
      cases h
      obtain ⟨h1, h2, h3, h4⟩ := g.gkk hx (by simp)
      cases h4 with
      | fnN i hi hn hm => exact sN_call0 g.ok g.mo g.fns (g.rm.mono (by omega)) g.tk hi hn h1 hm h2
    · rename_i f m io a r hx
      split at h
      · rename_i hall
        cases h
        obtain ⟨h1, h2, h3, h4⟩ := g.gkk hx (by simp)
        have lend : b = false ∨ (cAs c st n io 0 (a :: r)).noIo = true := hb.imp id fun z => by subst z; exact cAs_noIo
        rw [List.all_cons, Bool.and_eq_true] at hall
        cases h4 with
        | fnN i hi hn hm => exact sN_call g.ok g.mo g.fns (g.rm.mono (by omega)) g.tk hi hn h1 hm h2 lend (hAs g hb io 0 (a :: r)) (star_cons hall.1) (star_any hall.2)
      · cases h
    · cases h
  · cases h
/-! ### classes by name -/
theorem clOf_ok (g : Gd c M Φ k W X) {e : Expr} {q : Cl} (h : clOf c e = some q) : ∃ v u, PE X e (tC v) ∧ RelV v u ∧ ((∃ n, q = .ty n ∧ v = .ty (tyN n) ∧ u = .type (tyN n)) ∨ ∃ n C, q = .own n ∧ v = .ref C ∧ u = .ref C ∧ M.cls n = some C) := by
  cases e with
  | Name x p =>
    simp only [clOf] at h
    have blt : ∀ {n : Nat}, Gl X x → (x == ("__debug__" : PySem.Str)) = false → x ≠ "__name__" → M.mg x = none → bootBuiltins x = some (.type (tyN n)) → ∃ v u, PE X (.Name x p) (tC v) ∧ RelV v u ∧ ((∃ n', Cl.ty n = .ty n' ∧ v = .ty (tyN n') ∧ u = .type (tyN n')) ∨ ∃ n' C, Cl.ty n = .own n' ∧ v = .ref C ∧ u = .ref C ∧ M.cls n' = some C) :=
      fun {n} h1 h2 h3 hm hv => ⟨.ty (tyN n), .type (tyN n), pe_bltn h1 (by rw [g.ok.mg]; exact hm) hv rfl h3 h2, rfl, .inl ⟨n, rfl, rfl, rfl⟩⟩
    split at h
    · rename_i kk hx
      cases h
      obtain ⟨h1, h2, h3, h4⟩ := g.gkk hx (by simp)
      cases h4 with
      | cls C hc hm => exact ⟨.ref C, .ref C, pe_glob h1 (by rw [g.ok.mg]; exact hm) rfl h2, rfl, .inr ⟨kk, C, rfl, rfl, rfl, hc⟩⟩
    · rename_i kk _ _ hx
      cases h
      obtain ⟨h1, h2, h3, h4⟩ := g.gkk hx (by simp)
      cases h4 with
      | mk C i hc hm hf hi hn => exact ⟨.ref C, .ref C, pe_glob h1 (by rw [g.ok.mg]; exact hm) rfl h2, rfl, .inr ⟨kk, C, rfl, rfl, rfl, hc⟩⟩
    · rename_i n hx
      cases h
      obtain ⟨h1, h2, h3, h4⟩ := g.gkk hx (by simp)
      cases h4 with
      | ty hm hv => exact blt h1 h2 h3 hm hv
    · rename_i hx
      cases h
      obtain ⟨h1, h2, h3, h4⟩ := g.gkk hx (by simp)
      cases h4 with
      | lst hm hv => exact blt (n := 3) h1 h2 h3 hm hv
    · rename_i hx
      cases h
      obtain ⟨h1, h2, h3, h4⟩ := g.gkk hx (by simp)
      cases h4 with
      | bi hh =>
        rcases hh with ⟨hm, hv⟩ | hm
        · exact blt (n := 0) h1 h2 h3 hm hv
        · exact ⟨.ty "int", .type "int", pe_glob h1 (by rw [g.ok.mg]; exact hm) rfl h2, rfl, .inl ⟨0, rfl, rfl, rfl⟩⟩
    · rename_i hx
      cases h
      obtain ⟨h1, h2, h3, h4⟩ := g.gkk hx (by simp)
      cases h4 with
      | bi hh =>
        rcases hh with ⟨hm, hv⟩ | hm
        · exact blt (n := 4) h1 h2 h3 hm hv
        · exact ⟨.ty "tuple", .type "tuple", pe_glob h1 (by rw [g.ok.mg]; exact hm) rfl h2, rfl, .inl ⟨4, rfl, rfl, rfl⟩⟩
    · rename_i hx
      cases h
      obtain ⟨h1, h2, h3, h4⟩ := g.gkk hx (by simp)
      cases h4 with
      | bi hh =>
        rcases hh with ⟨hm, hv⟩ | hm
        · exact blt (n := 2) h1 h2 h3 hm hv
        · exact ⟨.ty "str", .type "str", pe_glob h1 (by rw [g.ok.mg]; exact hm) rfl h2, rfl, .inl ⟨2, rfl, rfl, rfl⟩⟩
    · cases h
  | _ => simp [clOf] at h
theorem clsOf_ok (g : Gd c M Φ k W X) : ∀ {es : List Expr} {cs : List Cl}, clsOf c es = some cs → ∃ vs us, PA X es (tCs vs) ∧ ClAts M X cs vs us ∧ vs.length = es.length
  | [], cs, h => by
    cases h
    exact ⟨[], [], imA pa_nil fun σ H Q h => h, .nil, rfl⟩
  | e :: r, cs, h => by
    simp only [clsOf] at h
    split at h
    · rename_i a d ha hd
      cases h
      obtain ⟨v, u, pe, rv, hk⟩ := clOf_ok g ha
      obtain ⟨vs, us, pa, cl, hl⟩ := clsOf_ok g hd
      have hs : noStar e = true := by cases e <;> first | rfl | (simp [clOf] at ha; done)
      refine ⟨v :: vs, u :: us, imA (pa_cons pe pa (star_cons hs)) fun σ H Q h => h, ?_, by rw [List.length_cons, List.length_cons, hl]⟩
      rcases hk with ⟨n, e1, e2, e3⟩ | ⟨n, C, e1, e2, e3, e4⟩
      · subst e1 e2 e3; exact .ty cl
      · subst e1 e2 e3; exact .own e4 cl
    · cases h
end
end RF
end

section
set_option Elab.async false
set_option linter.all false
set_option autoImplicit false
set_option maxRecDepth 100000
set_option maxHeartbeats 4000000
/-! RfCe: the translation of expressions is right: the end. -/
namespace RF
open PySem L2
open PyProof.Rows hiding St
section
variable {c : Cc} {M : Mach} {Φ : Fn} {k : Nat} {W : WX} {X : Cx} {av : List V} {b st : Bool} {env : PySem.Env}
theorem all_cons {a : Expr} {r : List Expr} (h : (a :: r).all noStar = true) : noStar a = true ∧ r.all noStar = true := by
  rw [List.all_cons, Bool.and_eq_true] at h; exact h
theorem few_ok {pos : Pos} : ∀ {args : List Expr}, args.all noStar = true → (backTo pos (starEach args env)).all (fun x => !x.1) = true
  | [], _ => rfl
  | a :: r, h => by
    obtain ⟨h1, h2⟩ := all_cons h
    rw [star_cons h1]
    show (!false && (backTo pos (starEach r env)).all (fun x => !x.1)) = true
    rw [few_ok h2]; rfl
theorem meth_ht {o : Expr} {m : PySem.Str} {apos pos : Pos} {args : List Expr} (h1 : plainO o = true) (h2 : args.all noStar = true) (h3 : args.length < 29) (h4 : (apos.endLine == pos.line) = true) :
    eval (.Call (.Attribute o m apos) args [] pos) env = (do
      let ov ← eval o env
      standAt apos.atName
      let (f, first) ← holding [ov] (getMethod ov m (do return (← importBound o env).getD true))
      callWith pos f first (backTo pos (starEach args env)) (backToKw pos (keywordEach [] env))) := by
  have e : eval (.Call (.Attribute o m apos) args [] pos) env = (do
      let ov ← attributeBase o m env (eval o env)
      standAt apos.atName
      methodCall o m apos pos env ov (args.length + ([] : List Keyword).length) (backTo pos (starEach args env)) (backToKw pos (keywordEach [] env))) := rfl
  rw [e, base_ok h1]
  congr 1
  funext ov
  congr 1
  funext _
  unfold methodCall methodCallForm
  have hn : decide (args.length + ([] : List Keyword).length + (if (backToKw pos (keywordEach [] env)).isEmpty then 0 else 1) < 30) = true := by
    show decide (args.length + 0 + 0 < 30) = true
    exact decide_eq_true (by omega)
  rw [few_ok h2, hn]
  show (do
      let __x ← holding [ov] (calleeOf true o env ov m)
      let callPos ← methodCallPos true o env apos pos
      callWith callPos __x.1 __x.2 (backTo pos (starEach args env)) (backToKw pos (keywordEach [] env))) = _
  unfold methodCallPos calleeOf
  rw [if_pos rfl, h4]
  rfl
theorem sE_succ {n : Nat} (hE : SE n) (hX : SX n) (hN : SN n) (hT : ST n) (hEs : SEs n) (hPs : SPs n) (hAs : SAs n) (hO : SO n) : SE (n + 1) := by
  intro c M Φ k W X av b st g hb e
  have strict : ∀ {n io j es}, b = false ∨ (cAs c true n io j es).noIo = true := fun {n io j es} => .inr cAs_noIo
  have lend : ∀ {n io j es}, b = false ∨ (cAs c st n io j es).noIo = true := fun {n io j es} => hb.imp id fun z => by subst z; exact cAs_noIo
  have nx : ∀ (e : Expr), PE X e (tE b M av W (evE M.T Φ (match cN c st n e with
      | some x => .new x
      | none => .nope))) := fun e => by
    split
    · rename_i x hx; exact sE_new (hN g hb e x hx)
    · exact nope_E
  unfold cE
  split
  · rename_i x p
    split
    · rename_i i hi
      obtain ⟨h1, h2, h3, h4⟩ := g.var hi
      have := sE_var (b := b) (M := M) (av := av) (W := W) (pos := p) h1 h2 h3 h4
      have e : evE M.T Φ (.var i) = fun ρ => freeze ρ i := by funext ρ; rw [evE]
      rw [e]; exact this
    · split
      · rename_i d hx
        obtain ⟨h1, h2, h3, h4⟩ := g.gkk hx (by simp)
        cases h4 with
        | cst u v hm r rep => exact sE_cst (pe_glob h1 (by rw [g.ok.mg]; exact hm) r h2) rep
      · exact nope_E
  · split
    · rename_i d hd; exact cst_sound hd
    · exact nope_E
  · rename_i a op d p
    split
    · rename_i x hx; exact sE_new (hN g hb _ x hx)
    · split
      · rename_i o ho
        rw [bopOf_eq ho]
        exact sE_bin g.ok g.mo g.fns (g.rm.mono (by omega)) g.tk (hE g hb a) (hE g hb d)
      · exact nope_E
  · exact sE_neg (hE g hb _)
  · exact sE_not g.ok (hX g hb _)
  · exact sE_and1 (hE g hb _)
  · exact sE_or1 (hE g hb _)
  · exact sE_and g.ok (hE g hb _) (hE g hb _)
  · exact sE_or g.ok (hE g hb _) (hE g hb _)
  · rename_i a op d p
    split
    · rename_i o ho
      rw [copTo_eq ho]
      exact sE_cmp g.ok g.mo g.fns g.rm g.tk (hE g hb a) (hE g hb d)
    · split
      · split
        · rename_i h; exact sE_in (ng := false) g.ok g.rm (hE g hb a) (hX g hb d) (noSet_mark h)
        · exact nope_E
      · split
        · rename_i h; exact sE_in (ng := true) g.ok g.rm (hE g hb a) (hX g hb d) (noSet_mark h)
        · exact nope_E
      · exact nope_E
  · rename_i a p q d f pos
    split
    · rename_i o1 o2 h1 h2
      split
      · rename_i h
        rw [Bool.and_eq_true] at h
        rw [copTo_eq h1, copTo_eq h2]
        exact sE_chn h.1 h.2 (hE g hb a) (hE g hb d) (hE g hb f)
      · exact nope_E
    · exact nope_E
  · exact sE_ite (hT g hb _) (hE g hb _) (hE g hb _)
  · exact sE_tup (hEs g hb _)
  · exact sE_rd (hX g hb _)
  · exact sE_slc g.ok (hX g hb _) (hO g _) (hO g _)
  · exact sE_srev g.ok (hX g hb _) (hO g _)
  · exact sE_idx g.ok g.hu (hE g hb _) (hE g hb _) (plainIx rfl)
  · split
    · rename_i hns
      exact sE_idx g.ok g.hu (hE g hb _) (hE g hb _) (plainIx hns)
    · exact nope_E
  · exact sE_rd (hX g hb _)
  · rename_i x p args pos
    split
    · rename_i hall
      split
      · rename_i f m io hx
        obtain ⟨h1, h2, h3, h4⟩ := g.gkk hx (by simp)
        cases h4 with
        | fn i hi hn hm => exact sE_call0 g.ok g.mo g.fns (g.rm.mono (by omega)) g.tk hi hn h1 hm h2
      · rename_i f m io a r hx
        obtain ⟨h1, h2, h3, h4⟩ := g.gkk hx (by simp)
        obtain ⟨a1, a2⟩ := all_cons hall
        cases h4 with
        | fn i hi hn hm => exact sE_call g.ok g.mo g.fns (g.rm.mono (by omega)) g.tk hi hn h1 hm h2 lend (hAs g hb io 0 (a :: r)) (star_cons a1) (star_any a2)
      · rename_i kk f m a r hx
        obtain ⟨h1, h2, h3, h4⟩ := g.gkk hx (by simp)
        obtain ⟨a1, a2⟩ := all_cons hall
        cases h4 with
        | mk C i hc hm hf hi hn => exact sE_make g.ok g.mo g.fns (g.rm.mono (by omega)) g.tk hc hf hi hn h1 hm h2 lend (hAs g hb [] 0 (a :: r)) (star_cons a1) (star_any a2)
      · rename_i bi a r hx
        obtain ⟨h1, h2, h3, h4⟩ := g.gkk hx (by simp)
        obtain ⟨a1, a2⟩ := all_cons hall
        cases h4 with
        | bi hh => exact sE_bi g.ok g.mo g.fns (g.rm.mono (by omega)) g.calm g.tk ⟨h1, h2, h3, hh⟩ (hPs g hb (a :: r)) (star_cons a1) (star_any a2)
      · rename_i a es x1 p3 hx
        obtain ⟨h1, h2, h3, h4⟩ := g.gkk hx (by simp)
        obtain ⟨a1, a2⟩ := all_cons hall
        cases h4 with
        | isi hm hv =>
          split
          · rename_i hl
            split
            · rename_i cs hcs
              obtain ⟨vs, us, pa, cl, hlen⟩ := clsOf_ok g hcs
              exact sE_isiT g.ok g.mo h1 hm hv h3 h2 (hE g hb a) pa cl (by rw [hlen, ← lim_eq]; have := of_decide_eq_true hl; unfold lim; omega) (star_cons a1) (star_cons rfl) (star_any a2)
            · exact nope_E
          · exact nope_E
      · rename_i a d hno hx
        obtain ⟨h1, h2, h3, h4⟩ := g.gkk hx (by simp)
        obtain ⟨a1, a2⟩ := all_cons hall
        obtain ⟨a3, a4⟩ := all_cons a2
        cases h4 with
        | isi hm hv =>
          split
          · rename_i q hq
            obtain ⟨v, u, pe, rv, hk⟩ := clOf_ok g hq
            rcases hk with ⟨n', e1, e2, e3⟩ | ⟨n', C, e1, e2, e3, e4⟩
            · subst e1 e2
              exact sE_isi (C := 0) g.ok g.mo h1 hm hv h3 h2 (hE g hb a) ⟨pe, fun n z => nomatch z⟩ (star_cons a1) (star_cons a3) (star_any a2)
            · subst e1 e2
              exact sE_isi (C := C) g.ok g.mo h1 hm hv h3 h2 (hE g hb a) ⟨pe, fun n z => by cases z; exact e4⟩ (star_cons a1) (star_cons a3) (star_any a2)
          · exact nope_E
      · exact nx _
      · exact nx _
      · exact nope_E
    · exact nope_E
  · rename_i o m p args pos
    split
    · rename_i hh
      simp only [Bool.and_eq_true, decide_eq_true_eq] at hh
      obtain ⟨⟨⟨hall, hp⟩, hl⟩, hline⟩ := hh
      split
      · rename_i kk j hm
        obtain ⟨m1, m2⟩ := g.mid _ _ _ hm
        split
        · exact sE_meth0 g.ok g.mo g.fns (g.rm.mono (by omega)) g.tk m1 m2 (hE g hb o) (meth_ht hp hall hl hline)
        · rename_i a r
          obtain ⟨a1, a2⟩ := all_cons hall
          exact sE_meth g.ok g.mo g.fns (g.rm.mono (by omega)) g.tk m1 m2 strict (hE g hb o) (hAs g (.inr rfl) [] 0 (a :: r)) (star_cons a1) (star_any a2) (meth_ht hp hall hl hline)
      · exact nope_E
    · exact nope_E
  · exact nx _
end
end RF
end

section
set_option Elab.async false
set_option linter.all false
set_option autoImplicit false
set_option maxRecDepth 100000
set_option maxHeartbeats 4000000
/-! RfCf: the translation of statements. -/
namespace RF
open PySem L2
open PyProof.Rows hiding St
structure Sd (n : Nat) : Prop where
  e : SE n
  x : SX n
  nx : SN n
  t : ST n
  es : SEs n
  ps : SPs n
  as_ : SAs n
  o : SO n
  i : SI n
theorem sd0 : Sd 0 where
  e := fun g hb e => nope_E
  x := fun g hb e => nope_X
  nx := fun g hb e x h => by simp [cN] at h
  t := fun g hb e => nope_T
  es := fun g hb e => nope_Es
  ps := fun g hb e => nope_Ps
  as_ := fun g hb io j e => nope_As
  o := fun g o => nope_O
  i := fun g hb tup tg e h => nope_I
theorem sd_all : ∀ n, ∀ m ≤ n, Sd m
  | 0, m, h => by have : m = 0 := by omega
                  subst this; exact sd0
  | n + 1, m, h => by
    by_cases e : m ≤ n
    · exact sd_all n m e
    · have : m = n + 1 := by omega
      subst this
      have s := sd_all n n (Nat.le_refl n)
      exact ⟨sE_succ s.e s.x s.nx s.t s.es s.ps s.as_ s.o, sX_succ s.e s.x, sN_succ (fun m hm => (sd_all n m hm).e) s.x s.t s.es s.i s.as_, sT_succ s.e s.x s.t, sEs_succ s.e s.es, sPs_succ s.e s.x s.ps, sAs_succ s.e s.as_, sO_succ s.e, sI_succ s.e s.x⟩
theorem sd (n : Nat) : Sd n := sd_all n n (Nat.le_refl n)
def fuel : Nat := 60
/-! ### statements -/
/-- an owned place -/
def cL (c : Cc) : Nat → Expr → Px
  | 0, _ => .ex .nope
  | n + 1, e => match e with
    | .Name x _ => match varOf c x with
      | some i => .pk i
      | none => .ex .nope
    | .Attribute o f _ => match c.fid f with
      | some i => if plainO o then .fld (cL c n o) i else .ex .nope
      | none => .ex .nope
    | .Subscript a i _ => if noSl i then .sub (cL c n a) (cE c true fuel i) else .ex .nope
    | _ => .ex .nope
/-- a producer whose items are owned, too -/
def cD (c : Cc) (st : Bool) : Expr → Option Nx
  | .ListComp elt [⟨tg, iter, ifs, 0⟩] scope _ =>
    if blkC c.N c.sc scope (ownL c scope) && noSet iter then
      match cTg (blkCc c scope) tg, ifs, cN (blkCc c scope) st fuel elt with
      | some t, [], some x => if t.slots.all fun i => decide (i ∈ (ownL c scope).map (·.2)) then
          some (.comN x t (cI c st fuel (isTup tg) iter) .nil ((ownL c scope).map (·.2))) else none
      | _, _, _ => none
    else none
  | _ => none
def cNs (c : Cc) (i : Nat) (e : Expr) : Option Nx := if c.deep.contains i then (match cD c false e with
  | some x => some x
  | none => cN c false fuel e) else cN c false fuel e
def compSc : Expr → Option Scope
  | .ListComp _ _ s _ => some s | .SetComp _ _ s _ => some s | .DictComp _ _ _ s _ => some s | _ => none
/-- does the store go with the comprehension -/
def swB (c : Cc) (x : PySem.Str) (py pv : Pos) (s : Scope) : Bool := lclB c.sc x && (py.line == pv.line) && !(s.names.any fun (n, k) => n == x && (k == .local || k == .cell))
def isStarE : Expr → Bool
  | .Starred .. => true
  | _ => false
def swNm (sc : Scope) (ts : List Expr) : List PySem.Str := ts.filterMap fun
    | .Name id pos => if sc.names.lookup id == some .local && pos.line == (ts.head?.map (·.pos.line)).getD 0 then some id else none
    | _ => none
/-- several names from several expressions: none: unknown; some none: one after another; some some: from the right -/
def swF (sc : Scope) (ts vs : List Expr) : Option (Option (List PySem.Str)) :=
  if !(ts.length == 2 || ts.length == 3) || vs.length != ts.length then some none else
  if vs.any isStarE then some none else
  if (swNm sc ts).length != ts.length || (swNm sc ts).eraseDups.length != (swNm sc ts).length then some none else
  if vs.all (foldedForSure 8) then some none else
  if vs.all (constantsAlone 8) then none else some (some (swNm sc ts))
theorem swF_ok {env : PySem.Env} (hk : env.scope.kind = .function) {ts vs : List Expr} {k1 k2 : Nat} {p1 p2 : Pos} {r : Option (List PySem.Str)} (h : swF env.scope ts vs = some r) : swappedStores [.Tuple ts k1 p1] (.Tuple vs k2 p2) env = pure r := by
  have hb : env.blockKind = .function := by unfold Env.blockKind; rw [hk]; rfl
  have e : swappedStores [.Tuple ts k1 p1] (.Tuple vs k2 p2) env = if (!(ts.length == 2 || ts.length == 3) || vs.length != ts.length || ScopeKind.function != .function) = true then pure none else
      if vs.any isStarE = true then pure none else
      if ((swNm env.scope ts).length != ts.length || (swNm env.scope ts).eraseDups.length != (swNm env.scope ts).length) = true then pure none else
      if vs.all (foldedForSure 8) = true then pure none else
      if vs.all (constantsAlone 8) = true then (do
        unsupported "assign.tuple-of-constant-expressions:order-of-the-stores"
        pure (some (swNm env.scope ts))) else pure (some (swNm env.scope ts)) := by
    unfold swappedStores
    simp only [hb]
    rfl
  rw [e]
  unfold swF at h
  by_cases h1 : (!(ts.length == 2 || ts.length == 3) || vs.length != ts.length) = true
  · rw [if_pos h1] at h; cases h
    rw [if_pos (by rw [Bool.or_eq_true]; exact .inl h1)]
  · rw [if_neg h1] at h
    rw [if_neg (by rw [Bool.or_eq_true]; rintro (z | z); exact h1 z; exact absurd z (by decide))]
    by_cases h2 : vs.any isStarE = true
    · rw [if_pos h2] at h ⊢; cases h; rfl
    · rw [if_neg h2] at h ⊢
      by_cases h3 : ((swNm env.scope ts).length != ts.length || (swNm env.scope ts).eraseDups.length != (swNm env.scope ts).length) = true
      · rw [if_pos h3] at h ⊢; cases h; rfl
      · rw [if_neg h3] at h ⊢
        by_cases h4 : vs.all (foldedForSure 8) = true
        · rw [if_pos h4] at h ⊢; cases h; rfl
        · rw [if_neg h4] at h ⊢
          by_cases h5 : vs.all (constantsAlone 8) = true
          · rw [if_pos h5] at h; cases h
          · rw [if_neg h5] at h ⊢; cases h; rfl
theorem swap_sub {e : Expr} {a i : Expr} {p : Pos} {l : Nat} {env : PySem.Env} : swapsWith e (some (.Subscript a i p)) l env = pure false := by cases e <;> rfl
theorem swap_attr {e : Expr} {a : Expr} {f : PySem.Str} {p : Pos} {l : Nat} {env : PySem.Env} : swapsWith e (some (.Attribute a f p)) l env = pure false := by cases e <;> rfl
theorem swap_tup {e : Expr} {ts : List Expr} {k : Nat} {p : Pos} {l : Nat} {env : PySem.Env} : swapsWith e (some (.Tuple ts k p)) l env = pure false := by cases e <;> rfl
theorem swap_no {e : Expr} {t : Option Expr} {l : Nat} {env : PySem.Env} (h : compSc e = none) : swapsWith e t l env = pure false := by cases e <;> first | rfl | (cases h; done)
theorem swst_sub {e : Expr} {a i : Expr} {p : Pos} {env : PySem.Env} : swappedStores [.Subscript a i p] e env = pure none := by cases e <;> rfl
theorem swst_tup {e : Expr} {ts : List Expr} {k : Nat} {p : Pos} {env : PySem.Env} (h : isTup e = false) : swappedStores [.Tuple ts k p] e env = pure none := by cases e <;> first | rfl | (cases h; done)
end RF
end

section
set_option Elab.async false
set_option linter.all false
set_option autoImplicit false
set_option maxRecDepth 100000
set_option maxHeartbeats 4000000
/-! RfCg: the translation of statements is right. -/
namespace RF
open PySem L2
open PyProof.Rows hiding St
def appN : PySem.Str := "append"
def insN : PySem.Str := "insert"
def swOk (c : Cc) (x : PySem.Str) (py : Pos) (e : Expr) : Option Bool := match compSc e with
  | none => some false
  | some s => some (swB c x py e.pos s)
/-- what a maker gives back -/
def cR (c : Cc) (e : Expr) : Option Nx := match e with
  | .Name x _ => (varOf c x).map .mv
  | _ => cN c false fuel e
/-- a walk of a statement: the name that is walked is frozen -/
def cIF (c : Cc) (n : Nat) (tup : Bool) (e : Expr) : RF.It := match e with
  | .Name x p => .seq (.ex (cE c false n (.Name x p)))
  | .Call (.Name f q) [.Name x p] [] r => match gOf c f with
    | .enu => if tup then .enum (.ex (cE c false n (.Name x p))) else .seq (.ex .nope)
    | .rev => .rev (.ex (cE c false n (.Name x p)))
    | _ => cI c false n tup (.Call (.Name f q) [.Name x p] [] r)
  | e => cI c false n tup e
mutual
def cS (c : Cc) : Nat → Stmt → Sm
  | 0, _ => .nope
  | n + 1, s => match s with
    | .Assign [.Name x py] e _ => if c.sto x then (match plS c.N x with
      | some i => match cNs c i e with
        | some nx => .own i nx
        | none => match compSc e with
          | none => .set i (cE c false fuel e)
          | some _ => .nope
      | none => .nope) else .nope
    | .Assign [.Tuple ts _ _] e _ => match e with
      | .Tuple vs _ _ => match swF c.sc ts vs with
        | none => .nope
        | some none => match tgN c ts with
          | some is => .unp is (cE c false fuel e)
          | none => .nope
        | some (some nms) => match ts, vs, nms with
          | [.Name x _, .Name y _], [a, b], [x', y'] => if decide (x = x') && decide (y = y') && lclB c.sc x && lclB c.sc y && noStar a && noStar b then (match plS c.N x, plS c.N y with
            | some i, some j => if i = j then .nope else .unp [i, j] (.tup (.cons (cE c false fuel a) (.cons (cE c false fuel b) .nil)))
            | _, _ => .nope) else .nope
          | [.Name x _, .Name y _, .Name z _], [a, b, d], [x', y', z'] => if decide (x = x') && decide (y = y') && decide (z = z') && lclB c.sc x && lclB c.sc y && lclB c.sc z && noStar a && noStar b && noStar d then (match plS c.N x, plS c.N y, plS c.N z with
            | some i, some j, some l => if i = j ∨ i = l ∨ j = l then .nope else .unp [i, j, l] (.tup (.cons (cE c false fuel a) (.cons (cE c false fuel b) (.cons (cE c false fuel d) .nil))))
            | _, _, _ => .nope) else .nope
          | _, _, _ => .nope
      | _ => match tgN c ts with
        | some is => .unp is (cE c false fuel e)
        | none => .nope
    | .Assign [.Subscript a i _] e _ => if noSl i then .put (cL c fuel a) (cE c true fuel i) (cE c false fuel e) else .nope
    | .Assign [.Attribute (.Name x _) f _] e _ => match varOf c x, c.fid f with
      | some i, some j => .sfl i j (cE c false fuel e)
      | _, _ => .nope
    | .AugAssign (.Name x _) op e _ => if c.sto x then (match plS c.N x, op with
      | some i, .Add => .aug i .add (cE c false fuel e)
      | some i, .Sub => .aug i .sub (cE c false fuel e)
      | _, _ => .nope) else .nope
    | .Expr (.Call (.Attribute o m ap) [e] [] cp) _ =>
      if m = appN then (if plainO o && noStar e && (ap.endLine == cp.line) then (match cL c fuel o with
          | .pk i => .app (.pk i) (cE c false fuel e)
          | p => .app p (cE c true fuel e)) else .nope)
      else .exp (cE c false fuel (.Call (.Attribute o m ap) [e] [] cp))
    | .Expr (.Call (.Attribute o m ap) [i, e] [] cp) _ =>
      if m = insN then (if plainO o && noStar i && noStar e && (ap.endLine == cp.line) then (match cL c fuel o with
          | .pk k => .ins (.pk k) (cE c false fuel i) (cE c false fuel e)
          | p => .ins p (cE c true fuel i) (cE c true fuel e)) else .nope)
      else .exp (cE c false fuel (.Call (.Attribute o m ap) [i, e] [] cp))
    | .Expr e _ => match compSc e with
      | none => .exp (cE c false fuel e)
      | some _ => .nope
    | .Return (some e) _ => if c.mkr then (match cR c e with
      | some nx => .retN nx
      | none => .ret (cE c false fuel e)) else .ret (cE c false fuel e)
    | .Return none _ => .ret (.cst .non)
    | .Pass _ => .pass
    | .Break _ => .brk
    | .Continue _ => .cnt
    | .If t a b _ => .ite (cT c false fuel t) (cB c n a) (cB c n b)
    | .For tg it b [] _ => match cTg c tg with
      | some t => if noSet it then .for_ t (cIF c fuel (isTup tg) it) (cB c n b) else .nope
      | none => .nope
    | .While t b [] _ => .whl (cT c false fuel t) (cB c n b)
    | _ => .nope
def cB (c : Cc) : Nat → List Stmt → Sms
  | 0, _ => .cons .nope .nil
  | n + 1, ss => match ss with
    | [] => .nil
    | s :: r => .cons (cS c n s) (cB c n r)
end
structure Gs (c : Cc) (M : Mach) (Φ : Fn) (k : Nat) (W : WX) (X : Cx) : Prop where
  g : Gd c M Φ k W X
  hk : X.env.scope.kind = .function
  ps : PassesOwn (model X.prog X.w) X.A X.env X.xe
section
variable {c : Cc} {M : Mach} {Φ : Fn} {k : Nat} {W : WX} {X : Cx} {av : List V} {b st : Bool} {env : PySem.Env} {pos : Pos}
theorem nope_B {ss : List Stmt} : PSs X ss (tS M av W (evB M.T Φ (.cons .nope .nil))) := ⟨fun pins s σ H D I ⟨ρ, F, own, pt, q⟩ => by unfold evB evS at q; exact q.elim⟩
theorem nope_St {s : Stmt} : PS X s (tS M av W (evS M.T Φ .nope)) := nope_S fun ρ => by rw [evS]
theorem nope_L {e : Expr} : PE X e (tL b M av W (evL M.T Φ (.ex .nope))) := ⟨fun pins s σ H Q I ⟨ρ, F, own, pt, q⟩ => by unfold evL at q; exact q.elim⟩
theorem cL_ok (g : Gd c M Φ k W X) : ∀ {n : Nat} {e : Expr}, PE X e (tL b M av W (evL M.T Φ (cL c n e)))
  | 0, e => nope_L
  | n + 1, e => by
    unfold cL
    split
    · rename_i x p
      split
      · rename_i i hi
        obtain ⟨h1, h2, h3, h4⟩ := g.var hi
        exact sL_pk h1 h2 h3 h4
      · exact nope_L
    · rename_i o f p
      split
      · rename_i i hi
        split
        · rename_i ho
          exact sL_fld g.ok g.mo (g.fid _ _ hi) (cL_ok g) (base_ok ho)
        · exact nope_L
      · exact nope_L
    · split
      · rename_i h
        exact sL_sub g.ok g.hu (cL_ok g) ((sd fuel).e g (.inr rfl) _) (plainIx h)
      · exact nope_L
    · exact nope_L
/-- a comprehension's parts -/
inductive LcOk (c : Cc) (M : Mach) (Φ : Fn) (av : List V) (W : WX) (X : Cx) (b : Bool) (elt tg iter : Expr) (ifs : List Expr) (scope : Scope) (x : Nx) : Prop where
  | mk (fi : Env → R (List D × List Nat × Env)) (t : Tg) (cs : Env → R (Bool × Env)) (el : Env → R (O × Env)) (he : evN M.T Φ x = compR fi t cs el ((ownL c scope).map (·.2))) (hi : PI X tg iter (tI b M av W fi)) (bo : BlkOk X.N X.env.scope scope (ownL c scope))
      (ht : ∀ i ∈ t.slots, i ∈ (ownL c scope).map (·.2)) (hg : ∀ (s : Shared) (H : Hp) (C : Addr) (cl : List (PySem.Str × Addr)) (fp : List Addr), PG (X.blk s H scope (compEnvC scope cl C X.env) fp) tg (gT M.K t))
      (hts : ∀ (s : Shared) (H : Hp) (C : Addr) (cl : List (PySem.Str × Addr)) (fp : List Addr), PTs (X.blk s H scope (compEnvC scope cl C X.env) fp) ifs (tTsR b M av noW cs))
      (hel : ∀ (s : Shared) (H : Hp) (C : Addr) (cl : List (PySem.Str × Addr)) (fp : List Addr), PE (X.blk s H scope (compEnvC scope cl C X.env) fp) elt (tN b M av noW el)) (hs : ∀ x, foldedSetIterable iter X.env x = pure x) : LcOk c M Φ av W X b elt tg iter ifs scope x
theorem lc_N (g : Gd c M Φ k W X) (hb : b = false ∨ st = true) {n : Nat} {elt tg iter : Expr} {ifs : List Expr} {scope : Scope} {p : Pos} {x : Nx} (h : cN c st n (.ListComp elt [⟨tg, iter, ifs, 0⟩] scope p) = some x) : LcOk c M Φ av W X b elt tg iter ifs scope x := by
  cases n with
  | zero => simp [cN] at h
  | succ n =>
    unfold cN at h
    simp only at h
    split at h
    · rename_i hc
      rw [Bool.and_eq_true] at hc
      have bo : BlkOk X.N X.env.scope scope (ownL c scope) := by rw [g.N, g.sc]; exact blkOk_by hc.1
      split at h
      · rename_i t ht
        split at h
        · rename_i hsl
          cases h
          exact .mk _ t _ _ evN_comp ((sd n).i g hb (isTup tg) tg iter fun z => z) bo (fun i m => by simpa using List.all_eq_true.mp hsl i m) (fun s H C cl fp => cTg_ok (g.blk s H C cl fp) ht) (fun s H C cl fp => sTs_nil) (fun s H C cl fp => sN_lf ((sd n).e (g.blk s H C cl fp) hb elt)) (noSet_fold hc.2)
        · cases h
      · rename_i t f ht
        split at h
        · rename_i hsl
          cases h
          exact .mk _ t _ _ evN_comp ((sd n).i g hb (isTup tg) tg iter fun z => z) bo (fun i m => by simpa using List.all_eq_true.mp hsl i m) (fun s H C cl fp => cTg_ok (g.blk s H C cl fp) ht) (fun s H C cl fp => sTs_one ((sd n).t (g.blk s H C cl fp) hb f)) (fun s H C cl fp => sN_lf ((sd n).e (g.blk s H C cl fp) hb elt)) (noSet_fold hc.2)
        · cases h
      · cases h
    · cases h
theorem lc_D (g : Gd c M Φ k W X) (hb : b = false ∨ st = true) {elt tg iter : Expr} {ifs : List Expr} {scope : Scope} {p : Pos} {x : Nx} (h : cD c st (.ListComp elt [⟨tg, iter, ifs, 0⟩] scope p) = some x) : LcOk c M Φ av W X b elt tg iter ifs scope x := by
  unfold cD at h
  simp only at h
  split at h
  · rename_i hc
    rw [Bool.and_eq_true] at hc
    have bo : BlkOk X.N X.env.scope scope (ownL c scope) := by rw [g.N, g.sc]; exact blkOk_by hc.1
    split at h
    · rename_i t y ht hy
      split at h
      · rename_i hsl
        cases h
        exact .mk _ t _ _ evN_comN ((sd fuel).i g hb (isTup tg) tg iter fun z => z) bo (fun i m => by simpa using List.all_eq_true.mp hsl i m) (fun s H C cl fp => cTg_ok (g.blk s H C cl fp) ht) (fun s H C cl fp => sTs_nil) (fun s H C cl fp => (sd fuel).nx (g.blk s H C cl fp) hb elt y hy) (noSet_fold hc.2)
      · cases h
    · cases h
  · cases h
theorem LcOk.pe (g : Gd c M Φ k W X) {elt tg iter : Expr} {ifs : List Expr} {scope : Scope} {x : Nx} {p : Pos} (h : LcOk c M Φ av W X b elt tg iter ifs scope x) : PE X (.ListComp elt [⟨tg, iter, ifs, 0⟩] scope p) (tN b M av W (evN M.T Φ x)) := by
  obtain ⟨fi, t, cs, el, he, hi, bo, ht, hg, hts, hel, hs⟩ := h
  rw [he]
  exact sN_lc g.calm g.ok.nd hi bo ht hg hts hel hs
theorem cD_lc {e : Expr} {x : Nx} (h : cD c st e = some x) : ∃ elt tg iter ifs scope p, e = .ListComp elt [⟨tg, iter, ifs, 0⟩] scope p := by
  unfold cD at h
  split at h
  · exact ⟨_, _, _, _, _, _, rfl⟩
  · cases h
/-- name = a producer -/
theorem own_ok (gs : Gs c M Φ k W X) {x : PySem.Str} {py pos : Pos} {e : Expr} {i : Nat} {nx : Nx} (hs : c.sto x = true) (hi : plS c.N x = some i) (h : cNs c i e = some nx) : PS X (.Assign [.Name x py] e pos) (tS M av W (evS M.T Φ (.own i nx))) := by
  have g := gs.g
  have hN : X.N[i]? = some x := by rw [g.N]; exact plS_at hi
  obtain ⟨s1, s2⟩ := g.sto x hs
  have hcase : (∃ elt tg iter ifs scope p, e = .ListComp elt [⟨tg, iter, ifs, 0⟩] scope p ∧ LcOk c M Φ av W X false elt tg iter ifs scope nx) ∨ (compSc e = none ∧ PE X e (tN false M av W (evN M.T Φ nx))) := by
    have fromN : cN c false fuel e = some nx → (∃ elt tg iter ifs scope p, e = .ListComp elt [⟨tg, iter, ifs, 0⟩] scope p ∧ LcOk c M Φ av W X false elt tg iter ifs scope nx) ∨ (compSc e = none ∧ PE X e (tN false M av W (evN M.T Φ nx))) := fun h => by
      cases hc : compSc e with
      | none => exact .inr ⟨rfl, (sd fuel).nx g (.inl rfl) e nx h⟩
      | some s =>
        left
        have h' := h
        unfold fuel cN at h'
        split at h'
        · cases hc
        · cases hc
        · cases hc
        · cases hc
        · exact ⟨_, _, _, _, _, _, rfl, lc_N g (.inl rfl) h⟩
        · cases hc
        · cases h'
    unfold cNs at h
    split at h
    · split at h
      · rename_i x' hx
        cases h
        obtain ⟨elt, tg, iter, ifs, scope, p, rfl⟩ := cD_lc hx
        exact .inl ⟨_, _, _, _, _, _, rfl, lc_D g (.inl rfl) hx⟩
      · exact fromN h
    · exact fromN h
  rcases hcase with ⟨elt, tg, iter, ifs, scope, p, rfl, lc⟩ | ⟨hc, pe⟩
  · by_cases hsw : swB c x py p scope = true
    · unfold swB at hsw
      simp only [Bool.and_eq_true, Bool.not_eq_true'] at hsw
      have hl : X.env.scope.names.lookup x = some .local := by
        rw [g.sc]
        have := hsw.1.1
        unfold lclB at this
        split at this
        · assumption
        · cases this
      have lc0 := lc
      obtain ⟨fi, t, cs, el, he, hi, bo, ht, hg, hts, hel, hs⟩ := lc
      refine sS_own ?_
      rw [he]
      exact sS_lc g.calm g.ok.nd hN hl (sw_true gs.hk hl hsw.1.2 hsw.2) hi bo ht hg hts hel hs
    · have hno : swapsWith (.ListComp elt [⟨tg, iter, ifs, 0⟩] scope p) (some (.Name x py)) pos.line X.env = pure false := by
        have hb : X.env.blockKind = .function := by unfold Env.blockKind; rw [gs.hk]; rfl
        show pure (X.env.blockKind == .function && X.env.kindOf x == some .local && py.line == p.line && !(scope.names.any fun (n, k) => n == x && (k == .local || k == .cell))) = _
        congr 1
        rw [hb]
        have hsw : swB c x py p scope = false := by simpa using hsw
        unfold swB at hsw
        have hl : (X.env.kindOf x == some NameKind.local) = lclB c.sc x := by
          show (X.env.scope.names.lookup x == some NameKind.local) = _
          rw [g.sc]
          unfold lclB
          cases c.sc.names.lookup x with
          | none => rfl
          | some kx => cases kx <;> rfl
        rw [hl]
        simpa using hsw
      exact sS_own (ps_set g.ok.nd hN s1 (lc.pe g) hno s2)
  · exact sS_own (ps_set g.ok.nd hN s1 pe (swap_no hc) s2)
end
end RF
end

section
set_option Elab.async false
set_option linter.all false
set_option autoImplicit false
set_option maxRecDepth 100000
set_option maxHeartbeats 4000000
/-! RfCh: the translation of statements is right: the end. -/
namespace RF
open PySem L2
open PyProof.Rows hiding St
section
variable {c : Cc} {M : Mach} {Φ : Fn} {k : Nat} {W : WX} {X : Cx} {av : List V} {b st : Bool} {env : PySem.Env} {pos : Pos}
theorem sole_tup {e : Expr} {ts : List Expr} {k : Nat} {p : Pos} {l : Nat} {env : PySem.Env} : swapsWithSole [.Tuple ts k p] e l env = pure false := swap_tup (e := e) (ts := ts) (k := k) (p := p) (l := l) (env := env)
theorem sole_sub {e : Expr} {a i : Expr} {p : Pos} {l : Nat} {env : PySem.Env} : swapsWithSole [.Subscript a i p] e l env = pure false := swap_sub (e := e) (a := a) (i := i) (p := p) (l := l) (env := env)
def SS (n : Nat) : Prop := ∀ {c : Cc} {M : Mach} {Φ : Fn} {k : Nat} {W : WX} {X : Cx} {av : List V}, Gs c M Φ k W X → ∀ s, PS X s (tS M av W (evS M.T Φ (cS c n s)))
def SB (n : Nat) : Prop := ∀ {c : Cc} {M : Mach} {Φ : Fn} {k : Nat} {W : WX} {X : Cx} {av : List V}, Gs c M Φ k W X → ∀ s, PSs X s (tS M av W (evB M.T Φ (cB c n s)))
theorem sB_succ {n : Nat} (hS : SS n) (hB : SB n) : SB (n + 1) := by
  intro c M Φ k W X av gs ss
  unfold cB
  split
  · exact sB_nil
  · exact sB_cons (hS gs _) (hB gs _)
theorem lcl_of (g : Gd c M Φ k W X) {x : PySem.Str} (h : lclB c.sc x = true) : X.env.scope.names.lookup x = some .local := by
  rw [g.sc]
  unfold lclB at h
  split at h
  · assumption
  · cases h
theorem cR_ok (g : Gd c M Φ k W X) {e : Expr} {nx : Nx} (h : cR c e = some nx) : PE X e (tN false M av W (evN M.T Φ nx)) := by
  unfold cR at h
  split at h
  · rename_i x p
    cases hv : varOf c x with
    | none => rw [hv] at h; cases h
    | some i =>
      rw [hv] at h
      cases h
      obtain ⟨h1, h2, h3, h4⟩ := g.var hv
      exact sN_mv h1 h2 h3 h4
  · exact (sd fuel).nx g (.inl rfl) _ _ h
theorem cIF_ok (g : Gd c M Φ k W X) (tg it : Expr) : PI X tg it (tI false M av W (evI M.T Φ (cIF c fuel (isTup tg) it))) := by
  have fz : ∀ e : Expr, PE X e (tW (.ex (cE c false fuel e)) false M av W (evX M.T Φ (.ex (cE c false fuel e)))) := fun e => sW_of rfl (sX_ex ((sd fuel).e g (.inl rfl) e))
  unfold cIF
  split
  · exact sI_seq g.ok (fz _)
  · rename_i f q x p r
    split
    · rename_i hx
      obtain ⟨h1, h2, h3, h4⟩ := g.gkk hx (by simp)
      cases h4 with
      | enu e hm =>
        subst e
        split
        · rename_i h5
          cases tg <;> first | (cases h5; done) | exact sI_enum g.ok h1 hm (fz _) (star_cons rfl) (star_cons rfl)
        · exact nope_I
    · rename_i hx
      obtain ⟨h1, h2, h3, h4⟩ := g.gkk hx (by simp)
      cases h4 with
      | rev e hm =>
        subst e
        exact sI_rev g.ok h1 hm (fz _) (star_cons rfl)
    · exact (sd fuel).i g (.inl rfl) (isTup tg) tg _ fun z => z
  · exact (sd fuel).i g (.inl rfl) (isTup tg) tg _ fun z => z
theorem sS_succ {n : Nat} (hB : SB n) : SS (n + 1) := by
  intro c M Φ k W X av gs s
  have g := gs.g
  have E : ∀ {b st : Bool}, (b = false ∨ st = true) → ∀ e, PE X e (tE b M av W (evE M.T Φ (cE c st fuel e))) := fun {b st} h e => (sd fuel).e g h e
  have unp : ∀ {ts : List Expr} {k1 : Nat} {p1 : Pos} {e : Expr} {is : List Nat} {pos : Pos}, tgN c ts = some is → swappedStores [.Tuple ts k1 p1] e X.env = pure none → PS X (.Assign [.Tuple ts k1 p1] e pos) (tS M av W (evS M.T Φ (.unp is (cE c false fuel e)))) := fun {ts k1 p1 e is pos} hi hw => by
    obtain ⟨h1, h2, h3⟩ := tgN_ok g hi
    refine sS_unp (ps_asg (E (.inl rfl) e) ?_ sole_tup hw rfl)
    show PG X (.Tuple ts k1 p1) (gSeq M.K is.length (gsN is))
    rw [← g.ok.K]
    exact pg_seq g.calm h1 h2 h3
  unfold cS
  split
  · rename_i x py e pos
    split
    · rename_i hs
      split
      · rename_i i hi
        split
        · rename_i nx hnx
          exact own_ok gs hs hi hnx
        · split
          · rename_i hc
            obtain ⟨s1, s2⟩ := g.sto x hs
            exact sS_set (ps_set g.ok.nd (by rw [g.N]; exact plS_at hi) s1 (E (.inl rfl) e) (swap_no hc) s2)
          · exact nope_St
      · exact nope_St
    · exact nope_St
  · rename_i ts k1 p1 e pos
    split
    · rename_i vs k2 p2
      split
      · exact nope_St
      · rename_i hsw
        split
        · rename_i is his
          exact unp his (swF_ok gs.hk (by rw [g.sc]; exact hsw))
        · exact nope_St
      · rename_i nms hsw
        have hsw' := swF_ok gs.hk (k1 := k1) (k2 := k2) (p1 := p1) (p2 := p2) (show swF X.env.scope ts vs = some (some nms) by rw [g.sc]; exact hsw)
        split
        · rename_i x px y py a d x' y'
          split
          · rename_i hc
            simp only [Bool.and_eq_true, decide_eq_true_eq] at hc
            obtain ⟨⟨⟨⟨⟨e1, e2⟩, l1⟩, l2⟩, n1⟩, n2⟩ := hc
            subst e1 e2
            split
            · rename_i i j hi hj
              split
              · exact nope_St
              · rename_i hij
                exact sS_par2 g.calm g.ok.nd (by rw [g.N]; exact plS_at hi) (by rw [g.N]; exact plS_at hj) hij (lcl_of g l1) (lcl_of g l2) (sEs_cons (E (.inl rfl) a) (sEs_cons (E (.inl rfl) d) sEs_nil (star_cons n2)) (star_cons n1)) hsw' rfl
            · exact nope_St
          · exact nope_St
        · rename_i x px y py z pz a d f x' y' z'
          split
          · rename_i hc
            simp only [Bool.and_eq_true, decide_eq_true_eq] at hc
            obtain ⟨⟨⟨⟨⟨⟨⟨⟨e1, e2⟩, e3⟩, l1⟩, l2⟩, l3⟩, n1⟩, n2⟩, n3⟩ := hc
            subst e1 e2 e3
            split
            · rename_i i j l hi hj hl
              split
              · exact nope_St
              · rename_i hij
                simp only [not_or] at hij
                exact sS_par3 g.calm g.ok.nd (by rw [g.N]; exact plS_at hi) (by rw [g.N]; exact plS_at hj) (by rw [g.N]; exact plS_at hl) hij.1 hij.2.1 hij.2.2 (lcl_of g l1) (lcl_of g l2) (lcl_of g l3)
                  (sEs_cons (E (.inl rfl) a) (sEs_cons (E (.inl rfl) d) (sEs_cons (E (.inl rfl) f) sEs_nil (star_cons n3)) (star_cons n2)) (star_cons n1)) hsw' rfl
            · exact nope_St
          · exact nope_St
        · exact nope_St
    · rename_i hno
      split
      · rename_i is his
        refine unp his (swst_tup ?_)
        cases e <;> first | rfl | exact absurd rfl (hno _ _ _)
      · exact nope_St
  · rename_i a i p e pos
    split
    · rename_i hi
      refine sS_put g.hu (E (.inl rfl) e) (cL_ok g) (E (.inr rfl) i) (fun v => ?_) sole_sub swst_sub
      cases i <;> first | rfl | (cases hi; done)
    · exact nope_St
  · rename_i x px f pf e pos
    split
    · rename_i i j hi hj
      obtain ⟨h1, h2, h3, h4⟩ := g.var hi
      exact sS_sfl g.ok g.mo (g.fid _ _ hj) h1 h2 h3 h4 (E (.inl rfl) e) swap_attr
    · exact nope_St
  · rename_i x px op e pos
    split
    · rename_i hs
      obtain ⟨s1, s2⟩ := g.sto x hs
      split
      · rename_i i hi
        exact sS_aug (op := .add) g.ok.nd (by rw [g.N]; exact plS_at hi) s1 (E (.inl rfl) e) s2 (.inl rfl)
      · rename_i i hi
        exact sS_aug (op := .sub) g.ok.nd (by rw [g.N]; exact plS_at hi) s1 (E (.inl rfl) e) s2 (.inr rfl)
      · exact nope_St
    · exact nope_St
  · rename_i o m ap e cp pos
    split
    · rename_i hm
      subst hm
      split
      · rename_i hc
        simp only [Bool.and_eq_true] at hc
        have few : ((backTo cp (starEach [e] X.env)).all (fun x => !x.1) && (backToKw cp (keywordEach [] X.env)).all (fun x => x.1.isSome) && decide (([e] : List Expr).length + ([] : List Keyword).length + (if ([] : List Keyword).isEmpty then 0 else 1) < 30)) = true := by
          rw [star_cons hc.1.2]; rfl
        split
        · rename_i i hi
          have := cL_ok (av := av) (W := W) (Φ := Φ) (b := false) g (n := fuel) (e := o)
          rw [hi] at this
          exact sS_app g.ok (.inr ⟨i, rfl⟩) this (E (b := false) (.inl rfl) e) (base_ok hc.1.1) few hc.2 (star_cons hc.1.2) rfl rfl
        · exact sS_app g.ok (b := true) (.inl rfl) (cL_ok g) (E (.inr rfl) e) (base_ok hc.1.1) few hc.2 (star_cons hc.1.2) rfl rfl
      · exact nope_St
    · exact sS_exp (E (.inl rfl) _) rfl
  · rename_i o m ap i e cp pos
    split
    · rename_i hm
      subst hm
      split
      · rename_i hc
        simp only [Bool.and_eq_true] at hc
        have few : ((backTo cp (starEach [i, e] X.env)).all (fun x => !x.1) && (backToKw cp (keywordEach [] X.env)).all (fun x => x.1.isSome) && decide (([i, e] : List Expr).length + ([] : List Keyword).length + (if ([] : List Keyword).isEmpty then 0 else 1) < 30)) = true := by
          rw [star_cons hc.1.1.2, star_cons hc.1.2]; rfl
        have hpl : (backTo cp (starEach [e] X.env)).any (·.1) = false := star_any (by rw [List.all_cons, hc.1.2]; rfl)
        split
        · rename_i q hq
          have := cL_ok (av := av) (W := W) (Φ := Φ) (b := false) g (n := fuel) (e := o)
          rw [hq] at this
          exact sS_ins g.ok (.inr ⟨q, rfl⟩) this (E (b := false) (.inl rfl) i) (E (b := false) (.inl rfl) e) (base_ok hc.1.1.1) few hc.2 (star_cons hc.1.1.2) (star_cons hc.1.2) hpl rfl
        · exact sS_ins g.ok (b := true) (.inl rfl) (cL_ok g) (E (.inr rfl) i) (E (.inr rfl) e) (base_ok hc.1.1.1) few hc.2 (star_cons hc.1.1.2) (star_cons hc.1.2) hpl rfl
      · exact nope_St
    · exact sS_exp (E (.inl rfl) _) rfl
  · split
    · rename_i hc
      exact sS_exp (E (.inl rfl) _) (swap_no hc)
    · exact nope_St
  · split
    · split
      · rename_i nx hnx; exact sS_retO (cR_ok g hnx)
      · exact sS_ret (E (.inl rfl) _)
    · exact sS_ret (E (.inl rfl) _)
  · exact sS_retN
  · exact sS_pass
  · exact sS_brk
  · exact sS_cnt
  · exact sS_ite ((sd fuel).t g (.inl rfl) _) (hB gs _) (hB gs _)
  · rename_i tg it bd pos
    split
    · rename_i t ht
      split
      · rename_i hs
        exact sS_for gs.ps g.calm (cIF_ok g tg it) (cTg_ok g ht) (hB gs _) (noSet_fold hs)
      · exact nope_St
    · exact nope_St
  · exact sS_whl gs.ps ((sd fuel).t g (.inl rfl) _) (hB gs _)
  · exact nope_St
theorem ss_all : ∀ n, SS n ∧ SB n
  | 0 => ⟨fun gs s => nope_St, fun gs s => nope_B⟩
  | n + 1 => ⟨sS_succ (ss_all n).2, sB_succ (ss_all n).1 (ss_all n).2⟩
end
end RF
end

section
set_option Elab.async false
set_option linter.all false
set_option autoImplicit false
set_option maxRecDepth 100000
set_option maxHeartbeats 4000000
/-! RfFn: every def keeps its promise. -/
namespace RF
open PySem L2
open PyProof.Rows hiding St
/-- how a def stands in the written part -/
structure FnAt (M : Mach) (c : Cc) (fd : Fd) (i : FI) : Prop where
  at_ : ∃ (name qual : PySem.Str) (params : Arguments) (body : List Stmt) (dV kV doc pm cdv ct oc : Value) (an od : Option Addr) (osl : Array (Option Value)),
    M.K.lookup i.adr = some ⟨oc, od, .func (PySem.W.fnOf name qual params body c.sc dV kV doc pm an cdv ct), osl⟩ ∧ i.fd = PySem.W.fnOf name qual params body c.sc dV kV doc pm an cdv ct ∧ PySem.W.codeIn M.K cdv qual = true ∧ fd.body = cB c fuel body
  sc : FnScope c.N i.ps c.sc
  sl : fd.slots = c.N.length
  pa : fd.pars = i.ps.length
  sto : ∀ x, c.sto x = true → c.sc.names.lookup x = some .local ∨ c.sc.names.lookup x = some .cell
  gk : ∀ x, GkOk M x (c.gk x)
  fid : ∀ x f, c.fid x = some f → M.nm f = x
  mid : ∀ x m n, c.mid x = some (m, n) → M.mn m = x ∧ ∀ cc f i, M.T.meth cc m = some f → M.fi f = some i → n = i.ps.length
section
variable {M : Mach} {F H : Hp} {σ : L2.St} {ρ : Env} {own : Ow} {vs : List V} {xs : List A}
theorem start_pt {fd : Fd} {N : List PySem.Str} (pt : Pt M vs F H (vs.map some) (parS 0 xs) own) (hs : fd.slots = N.length) (hp : fd.pars = vs.length) (hx : xs.length = fd.pars) : Pt M vs F H (L2.start N vs) (RF.start fd xs) own := by
  have lx : (parS 0 xs).length = vs.length := by rw [parS_len, hx, hp]
  have un : ∀ i, vs.length ≤ i → own i = [] := fun i hi => by
    have h := pt.sl i
    have hx2 : xs[i]? = none := List.getElem?_eq_none (by omega)
    rw [parS_at, hx2] at h
    exact h
  refine ⟨pt.sub, ?_, fun i => ?_, pt.nd, pt.dj, pt.fr⟩
  · unfold L2.start RF.start
    rw [List.length_append, List.length_append, List.length_map, List.length_replicate, List.length_replicate, lx, hs, hp]
  · by_cases hi : i < vs.length
    · have e1 : (L2.start N vs)[i]? = (vs.map some)[i]? := by
        unfold L2.start
        rw [List.getElem?_append_left (by rw [List.length_map]; exact hi)]
      have e2 : Env.at (RF.start fd xs) i = Env.at (parS 0 xs) i := by
        unfold RF.start Env.at
        rw [List.getD_eq_getElem?_getD, List.getD_eq_getElem?_getD, List.getElem?_append_left (by rw [lx]; exact hi)]
      rw [e1, e2]
      exact pt.sl i
    · have e2 : Env.at (RF.start fd xs) i = .un := by
        unfold RF.start Env.at
        rw [List.getD_eq_getElem?_getD, List.getElem?_append_right (by omega), List.getElem?_replicate]
        split <;> rfl
      rw [e2, un i (by omega)]
      rfl
theorem outA_at : ∀ (xs : List A) (k i : Nat) (ρ : Env), (outA k xs ρ)[i]? = match xs[i]? with
    | none => none
    | some (.sh d) => some (.sh d)
    | some .un => some .un
    | some (.ow _) => some (match ρ.at (k + i) with
      | .ow j o => if j = k + i + 1 then .ow o else .un
      | _ => .un)
  | [], k, i, ρ => by simp [outA]
  | .sh d :: r, k, 0, ρ => by simp [outA]
  | .un :: r, k, 0, ρ => by simp [outA]
  | .ow o :: r, k, 0, ρ => by simp only [outA, List.getElem?_cons_zero]; rfl
  | .sh d :: r, k, i + 1, ρ => by
    have h := outA_at r (k + 1) i ρ
    simp only [outA, List.getElem?_cons_succ, h, show k + 1 + i = k + (i + 1) from by omega]
  | .un :: r, k, i + 1, ρ => by
    have h := outA_at r (k + 1) i ρ
    simp only [outA, List.getElem?_cons_succ, h, show k + 1 + i = k + (i + 1) from by omega]
  | .ow o :: r, k, i + 1, ρ => by
    have h := outA_at r (k + 1) i ρ
    simp only [outA, List.getElem?_cons_succ, h, show k + 1 + i = k + (i + 1) from by omega]
theorem outA_len : ∀ (xs : List A) (k : Nat) (ρ : Env), (outA k xs ρ).length = xs.length
  | [], _, _ => rfl
  | .sh _ :: r, k, ρ => by simp [outA, outA_len r]
  | .un :: r, k, ρ => by simp [outA, outA_len r]
  | .ow _ :: r, k, ρ => by simp [outA, outA_len r]
/-- the arguments as they come back -/
theorem end_pt {F' H' : Hp} {σ' : L2.St} {ρ' : Env} {own' : Ow} (p0 : Pt M vs F H (vs.map some) (parS 0 xs) own) (ff : Sb F F') (p : Pt M vs F' H' σ' ρ' own') :
    ∃ own2, Pt M vs F' H' (vs.map some) (parS 0 (outA 0 xs ρ')) own2 ∧ ∀ x, In own2 x → In own' x := by
  let isOw : Nat → Bool := fun i => match (outA 0 xs ρ')[i]? with
    | some (.ow _) => true
    | _ => false
  refine ⟨fun i => if isOw i = true then own' i else [], ⟨p.sub, by rw [parS_len, outA_len, ← parS_len xs 0]; exact p0.len, fun i => ?_, fun i => ?_, fun i j a h1 h2 => ?_, fun i a h => ?_⟩, fun x ⟨i, h⟩ => ?_⟩
  · show SlR M F' H' vs _ _ (if isOw i = true then own' i else [])
    have hiso : isOw i = match (outA 0 xs ρ')[i]? with
      | some (.ow _) => true
      | _ => false := rfl
    rw [parS_at, hiso]
    rw [outA_at]
    have h0 := p0.sl i
    rw [parS_at] at h0
    cases hx : xs[i]? with
    | none => exact rfl
    | some a =>
      rw [hx] at h0
      cases a with
      | sh d =>
        obtain ⟨_, v, e, r⟩ := h0
        exact ⟨rfl, v, e, r.mono ff⟩
      | un => exact rfl
      | ow o0 =>
        obtain ⟨v0, e0, _, _⟩ := h0
        have h1 := p.sl i
        rw [Nat.zero_add]
        cases hr : ρ'.at i with
        | un => exact rfl
        | sh d => exact rfl
        | ow j o =>
          rw [hr] at h1
          by_cases hj : j = i + 1
          · subst hj
            simp only [if_true]
            obtain ⟨v, e, r, t⟩ := h1
            have hv : vs[i]? = some v := by
              rcases t with t | t
              · omega
              · simpa using t
            refine ⟨v, by rw [List.getElem?_map, hv]; rfl, r, .inr ?_⟩
            show vs[i + 1 - 1]? = some v
            rw [Nat.add_sub_cancel]; exact hv
          · simp only [if_neg hj]
            exact rfl
  · show (if isOw i = true then own' i else []).Nodup
    split
    · exact p.nd i
    · exact List.nodup_nil
  · have h1 : a ∈ (if isOw i = true then own' i else []) := h1
    have h2 : a ∈ (if isOw j = true then own' j else []) := h2
    split at h1
    · split at h2
      · exact p.dj i j a h1 h2
      · cases h2
    · cases h1
  · have h : a ∈ (if isOw i = true then own' i else []) := h
    split at h
    · exact p.fr i a h
    · cases h
  · have h : x ∈ (if isOw i = true then own' i else []) := h
    split at h
    · exact ⟨i, h⟩
    · cases h
end
theorem fn_step {M : Mach} (mk : MOk M) {fs : Nat → Option Fd} {P : Program} {w : World} {base : Heap} {n k : Nat} (hΦ : Fns M (callN M.T fs n) k P w base)
    (hat : ∀ f i, M.fi f = some i → fs f = none ∨ ∃ c fd, fs f = some fd ∧ FnAt M c fd i) : Fns M (callN M.T fs (n + 1)) (k + 9) P w base := by
  intro f i hi
  rcases hat f i hi with hno | ⟨c, fd, hfd, ha⟩
  · refine ⟨fun vs H Q E h => h.1, fun A outer s H args us vs Q E hr e0 hb r hsp => ?_⟩
    obtain ⟨hl, xs, F, own, pt, q⟩ := hsp
    have e : callN M.T fs (n + 1) f xs = .bad := by show (match fs f with | none => FR.bad | some fd => _) = _; rw [hno]
    rw [e] at q
    exact q.elim
  · obtain ⟨name, qual, params, body, dV, kV, doc, pm, cdv, ct, oc, an, od, osl, lk, efd, hcd, hbody⟩ := ha.at_
    rw [efd]
    refine fn_of lk hcd ha.sc (fun vs H Q E h => h.1) fun A outer s H vs Q E hr hsp => ?_
    obtain ⟨hl, xs, F, own, pt, q⟩ := hsp
    let X := cxOf (L2N.CX P w) P w M.K M.mg base c.N qual c.sc i.adr cdv A outer s H E
    have g : Gd c M (callN M.T fs n) k (fun cls d _ H => E cls d H) X := by
      refine ⟨⟨rfl, rfl, ha.sc.nd, hr.hd⟩, mk, hΦ, hr, rfl, L2N.takes_of rfl rfl rfl rfl, rfl, rfl, fun x hx => ⟨?_, .inl rfl⟩, ha.gk, ha.fid, ha.mid⟩
      exact ha.sto x hx
    have gs : Gs c M (callN M.T fs n) k (fun cls d _ H => E cls d H) X := ⟨g, ha.sc.kind, PassesOwn.leaving⟩
    have run := (ss_all fuel).2 (av := vs) gs body
    refine ⟨_, run, ?_⟩
    have e : callN M.T fs (n + 1) f xs = if xs.length = fd.pars then runF M.T (callN M.T fs n) fd xs else .bad := by
      show (match fs f with | none => FR.bad | some fd => if xs.length = fd.pars then runF M.T (callN M.T fs n) fd xs else .bad) = _
      rw [hfd]
    rw [e] at q
    by_cases hx : xs.length = fd.pars
    · rw [if_pos hx] at q
      refine ⟨RF.start fd xs, F, own, start_pt pt ha.sl (by rw [ha.pa, hl]) hx, ?_⟩
      unfold runF at q
      rw [hbody] at q
      cases hB : evB M.T (callN M.T fs n) (cB c fuel body) (RF.start fd xs) with
      | nx ρ' =>
        rw [hB] at q
        intro σ' F' H' own' g' p'
        obtain ⟨own2, p2, h2⟩ := end_pt pt g'.ff p'
        exact q .non F' H' own2 (g'.owns fun x m => g'.ow x (h2 x m)) p2 .non
      | ret d ρ' =>
        rw [hB] at q
        intro v σ' F' H' own' g' p' rv
        obtain ⟨own2, p2, h2⟩ := end_pt pt g'.ff p'
        exact q v F' H' own2 (g'.owns fun x m => g'.ow x (h2 x m)) p2 rv
      | retN o ρ' =>
        rw [hB] at q
        intro v σ' F' H' own' g' ⟨own1, as, p', r', nd, fr, ho⟩
        obtain ⟨own2, p2, h2⟩ := end_pt pt g'.ff p'
        refine q v F' H' (addOw own2 as) own2 as (g'.owns fun x m => g'.ow x ?_) p2 r' nd (fun x m => ⟨fun z => (fr x m).1 (h2 x z), (fr x m).2⟩) fun x => In.add
        rcases In.add.mp m with m | m
        · exact (ho x).mpr (.inl (h2 x m))
        · exact (ho x).mpr (.inr m)
      | brk ρ' => rw [hB] at q; exact q.elim
      | cnt ρ' => rw [hB] at q; exact q.elim
      | bad => rw [hB] at q; exact q.elim
      | exc cc es ρ' =>
        rw [hB] at q
        intro σ' F' H' own' C dx ws g' p' hc hx hf hn rw'
        obtain ⟨own2, p2, h2⟩ := end_pt pt g'.ff p'
        exact q F' H' own2 C dx ws (g'.owns fun x m => g'.ow x (h2 x m)) p2 hc hx hf (fun m => hn (h2 dx m)) rw'
    · rw [if_neg hx] at q; exact q.elim
theorem fns_all {M : Mach} (mk : MOk M) {fs : Nat → Option Fd} {P : Program} {w : World} {base : Heap} (hat : ∀ f i, M.fi f = some i → fs f = none ∨ ∃ c fd, fs f = some fd ∧ FnAt M c fd i) : ∀ n, Fns M (callN M.T fs n) (9 * n) P w base
  | 0 => fun f i hi => by
    refine ⟨fun vs H Q E h => h.1, fun A outer s H args us vs Q E hr e0 hb r hsp => ?_⟩
    obtain ⟨hl, xs, F, own, pt, q⟩ := hsp
    exact q.elim
  | n + 1 => fn_step mk (fns_all mk hat n) hat
end RF
end

section
set_option Elab.async false
set_option linter.all false
set_option autoImplicit false
set_option maxRecDepth 100000
set_option maxHeartbeats 4000000
/-! RfLaw: a law's data; all that its text must keep as one Boolean; the end. -/
namespace RF
open PySem L2
open PyProof.Rows hiding St
structure ClL where
  name : PySem.Str
  flds : List Nat
  init : Option Nat := none
  meths : List (Nat × Nat) := []
structure FnL where
  d : He.DefD
  ps : List PySem.Str
  N : List PySem.Str
  dfl : List D := []
  deep : List Nat := []
  mkr : Bool := false
structure LawD where
  nm : List PySem.Str
  mn : List PySem.Str
  fns : List FnL
  cls : List ClL
  gs : List (PySem.Str × Gk)
namespace LawD
def T (L : LawD) : Tb where
  meth := fun c m => (L.cls[c]?).bind fun d => d.meths.lookup m
  init := fun c => (L.cls[c]?).bind (·.init)
  fld := fun c => match L.cls[c]? with
    | some d => d.flds
    | none => []
  dfl := fun f => match L.fns[f]? with
    | some d => d.dfl
    | none => []
  glb := fun _ => none
  sub := fun c c' => decide (c = c')
def nmF (L : LawD) (i : Nat) : PySem.Str := L.nm.getD i Str.empty
def mnF (L : LawD) (i : Nat) : PySem.Str := L.mn.getD i Str.empty
def mach (L : LawD) (K : PySem.W.Frag) (mg : PySem.Str → Option Value) (fdv : Nat → FuncData) : Mach where
  K := K
  T := L.T
  cls := fun c => (L.cls[c]?).map fun d => He.ga K d.name
  nm := L.nmF
  mn := L.mnF
  mg := mg
  fi := fun f => (L.fns[f]?).map fun d => { adr := He.fAd K d.d.at_, fd := fdv f, ps := d.ps, dv := d.d.dvs K }
/-- the number of a method's parameters, where all classes agree -/
def midF (L : LawD) (x : PySem.Str) : Option (Nat × Nat) := match plS L.mn x with
  | none => none
  | some m => match (L.cls.filterMap fun d => (d.meths.lookup m).bind fun f => (L.fns[f]?).map fun fd => fd.ps.length) with
    | [] => none
    | n :: r => if r.all fun k => k == n then some (m, n) else none
def cc (L : LawD) (d : FnL) : Cc where
  N := d.N
  sc := d.d.scope
  sto := fun x => match d.d.scope.names.lookup x with
    | some .local => true
    | some .cell => true
    | _ => false
  gk := fun x => (L.gs.lookup x).getD .no
  fid := fun x => plS L.nm x
  mid := L.midF
  deep := d.deep
  mkr := d.mkr
def fs (L : LawD) (f : Nat) : Option Fd := (L.fns[f]?).map fun d => { slots := d.N.length, pars := d.ps.length, body := cB (L.cc d) fuel d.d.body }
end LawD
/-! ### the facts of a class -/
def mroB (K : PySem.W.Frag) (C : Addr) : Bool := match PySem.W.clsIn K C with
  | some cd => decide (cd.mro = [.ref C, .type "object"])
  | none => false
def clB (L : LawD) (K : PySem.W.Frag) (d : ClL) : Bool :=
  (He.Fa.glo d.name).ok K && (He.Fa.cls d.name).ok K && mroB K (He.ga K d.name) && decide (PySem.W.typeIn K (.ref (He.ga K d.name)) = some (.type "type")) &&
  (He.eqO (PySem.W.findIn K (.ref (He.ga K d.name)) "__class__") (some (some (.builtin "object.__class__")))) &&
  (d.flds.all fun f => (He.Fa.noat d.name (L.nmF f)).ok K) && (d.meths.all fun p => (He.Fa.meth d.name (L.mnF p.1)).ok K) &&
  (match d.init with
    | some f => (He.Fa.mkr d.name).ok K
    | none => true) &&
  (match d.meths.lookup mEq with
    | some _ => He.eqO (PySem.W.findIn K (.ref (He.ga K d.name)) "__ne__") (some (some (.builtin "object.__ne__")))
    | none => true)
/-- what needs no heap -/
def cl0 (L : LawD) (d : ClL) : Bool :=
  decide d.flds.Nodup && decide (d.flds.length ≤ 900) && (d.flds.all fun f => decide (f < L.nm.length)) &&
  (d.meths.all fun p => decide (p.1 < L.mn.length) && (match L.fns[p.2]? with
    | some fd => decide (fd.d.at_ = (d.name, some (L.mnF p.1))) && (decide (fd.dfl = []) || decide (5 < p.1)) && (decide (5 < p.1) || decide (fd.ps.length = if p.1 = mLen then 1 else 2))
    | none => false)) &&
  (match d.init with
    | some f => (match L.fns[f]? with
      | some fd => decide (fd.d.at_ = (d.name, some ("__init__" : PySem.Str)))
      | none => false)
    | none => true)
/-! ### from the mro -/
section
variable {K : PySem.W.Frag} {C D : Addr}
theorem mro_sub (h : mroB K C = true) (b : Value) : PySem.W.subIn K (.ref C) b = some ([Value.ref C, .type "object"].contains b) := by
  unfold mroB at h
  cases hc : PySem.W.clsIn K C with
  | none => rw [hc] at h; cases h
  | some cd =>
    rw [hc] at h
    have e : cd.mro = [.ref C, .type "object"] := of_decide_eq_true h
    show PySem.W.mroIn K C b = _
    unfold PySem.W.mroIn
    rw [hc]
    show (if cd.mro.isEmpty = true then none else some (cd.mro.contains b)) = _
    rw [e]; rfl
theorem mro_cls (h : mroB K C = true) : (PySem.W.clsIn K C).isSome = true := by
  unfold mroB at h
  cases hc : PySem.W.clsIn K C with
  | none => rw [hc] at h; cases h
  | some cd => rfl
theorem mro_first (h : mroB K C = true) : PySem.W.selfFirst K C = true := by
  unfold mroB at h
  unfold PySem.W.selfFirst
  cases hc : PySem.W.clsIn K C with
  | none => rw [hc] at h; cases h
  | some cd =>
    rw [hc] at h
    have e : cd.mro = [.ref C, .type "object"] := of_decide_eq_true h
    show (cd.mro.head? == some (Value.ref C)) = true
    rw [e]
    exact beq_self_eq_true _
theorem kn_mro {T : String} (h : isKn T = true) : ∃ l : List String, PySem.fastBuiltinMro T = some (l.map .type) := by
  unfold PySem.fastBuiltinMro
  have : (PySem.fastFind? T).isSome = true := by
    unfold isKn at h
    have h2 : T ∈ ["NoneType", "int", "bool", "str", "list", "tuple", "dict"] := by simpa using h
    simp only [List.mem_cons, List.not_mem_nil, or_false] at h2
    rcases h2 with rfl | rfl | rfl | rfl | rfl | rfl | rfl <;> decide +kernel
  cases hf : PySem.fastFind? T with
  | none => rw [hf] at this; cases this
  | some e => exact ⟨e.mro, rfl⟩
theorem ty_ref (l : List String) : (l.map Value.type).contains (Value.ref C) = false := by
  induction l with
  | nil => rfl
  | cons a r ih => rw [List.map_cons, List.contains_cons, ih]; rfl
theorem kn_sub {T : String} (h : isKn T = true) : PySem.W.subIn K (.type T) (.ref C) = some false := by
  obtain ⟨l, e⟩ := kn_mro h
  show (PySem.fastBuiltinMro T).map _ = _
  rw [e]
  show some ((l.map Value.type).contains (Value.ref C)) = some false
  rw [ty_ref]
theorem meta_kn : ∀ n, PySem.W.kitMeta (tyN n) = true := by
  intro n
  by_cases h : n < 5
  · have : ∀ n < 5, PySem.W.kitMeta (tyN n) = true := by decide +kernel
    exact this n h
  · obtain ⟨m, rfl⟩ : ∃ m, n = m + 5 := ⟨n - 5, by omega⟩
    have : PySem.W.kitMeta "dict" = true := by decide +kernel
    exact this
theorem tyN_obj (n : Nat) : tyN n ≠ "object" := by
  by_cases h : n < 5
  · have : ∀ n < 5, tyN n ≠ "object" := by decide
    exact this n h
  · obtain ⟨m, rfl⟩ : ∃ m, n = m + 5 := ⟨n - 5, by omega⟩
    show "dict" ≠ "object"
    decide
end
end RF
end

section
set_option Elab.async false
set_option linter.all false
set_option autoImplicit false
set_option maxRecDepth 100000
set_option maxHeartbeats 4000000
/-! RfLb: a law's facts keep MOk. -/
namespace RF
open PySem L2
open PyProof.Rows hiding St
def six : List PySem.Str := ["__eq__", "__add__", "__sub__", "__mul__", "__len__", "__contains__"]
/-- what needs no heap -/
def law0 (L : LawD) : Bool :=
  decide L.nm.Nodup && (L.nm.all fun x => !L.mn.contains x) && decide (L.mn.take 6 = six) && decide L.mn.Nodup && L.cls.all (cl0 L)
def lawK (L : LawD) (K : PySem.W.Frag) : Bool := L.cls.all (clB L K) && decide (L.cls.map fun d => He.ga K d.name).Nodup
/-- a def as the head tells it -/
def FnsIn (L : LawD) (K : PySem.W.Frag) (fdv : Nat → FuncData) : Prop := ∀ (f : Nat) (d : FnL), L.fns[f]? = some d → FunD K d.d.name d.d.qual d.d.params d.d.body d.d.scope (d.d.dvs K) (d.d.kws K) (He.fAd K d.d.at_) (fdv f)
/-- how the arguments of each def are bound -/
def BindOk (L : LawD) : Prop := ∀ (f : Nat) (d : FnL), L.fns[f]? = some d → ∀ (K : PySem.W.Frag) (fd : FuncData), FunD K d.d.name d.d.qual d.d.params d.d.body d.d.scope (d.d.dvs K) (d.d.kws K) (He.fAd K d.d.at_) fd → ∀ j, ∃ ds, Vals ((d.d.dvs K).drop j) ds ∧ Binds K fd d.ps ds
/-- the defaults as data -/
def DflOk (L : LawD) : Prop := ∀ (f : Nat) (d : FnL), L.fns[f]? = some d → ∀ (M : Mach) (F : Hp), Reps M F (d.d.dvs M.K) d.dfl
section
variable {L : LawD} {K : PySem.W.Frag} {mg : PySem.Str → Option Value} {fdv : Nat → FuncData}
theorem cls_some {c : Nat} {C : Addr} (h : (L.mach K mg fdv).cls c = some C) : ∃ d, L.cls[c]? = some d ∧ C = He.ga K d.name := by
  have h : (L.cls[c]?).map (fun d => He.ga K d.name) = some C := h
  cases hd : L.cls[c]? with
  | none => rw [hd] at h; cases h
  | some d => rw [hd] at h; cases h; exact ⟨d, rfl, rfl⟩
theorem fi_some {f : Nat} {i : FI} (h : (L.mach K mg fdv).fi f = some i) : ∃ d, L.fns[f]? = some d ∧ i = { adr := He.fAd K d.d.at_, fd := fdv f, ps := d.ps, dv := d.d.dvs K } := by
  have h : (L.fns[f]?).map (fun d => ({ adr := He.fAd K d.d.at_, fd := fdv f, ps := d.ps, dv := d.d.dvs K } : FI)) = some i := h
  cases hd : L.fns[f]? with
  | none => rw [hd] at h; cases h
  | some d => rw [hd] at h; cases h; exact ⟨d, rfl, rfl⟩
theorem fld_of {c : Nat} {d : ClL} (h : L.cls[c]? = some d) : L.T.fld c = d.flds := by
  show (match L.cls[c]? with | some d => d.flds | none => []) = _
  rw [h]
theorem fld_none {c : Nat} (h : L.cls[c]? = none) : L.T.fld c = [] := by
  show (match L.cls[c]? with | some d => d.flds | none => []) = _
  rw [h]
theorem meth_of {c m f : Nat} (h : L.T.meth c m = some f) : ∃ d, L.cls[c]? = some d ∧ d.meths.lookup m = some f := by
  have h : (L.cls[c]?).bind (fun d => d.meths.lookup m) = some f := h
  cases hd : L.cls[c]? with
  | none => rw [hd] at h; cases h
  | some d => rw [hd] at h; exact ⟨d, rfl, h⟩
theorem lookup_mem {α : Type} {β : Type} [BEq α] [LawfulBEq α] : ∀ {l : List (α × β)} {a : α} {v : β}, l.lookup a = some v → (a, v) ∈ l
  | [], _, _, h => by cases h
  | (k, w) :: r, a, v, h => by
    rw [List.lookup_cons] at h
    cases hb : a == k with
    | true =>
      rw [hb] at h
      cases h
      rw [eq_of_beq hb]
      exact List.mem_cons_self
    | false => rw [hb] at h; exact List.mem_cons_of_mem _ (lookup_mem h)
theorem cls_get (K : PySem.W.Frag) : PySem.W.specialIn K (.builtin "object.__class__") "__get__" = some (some (.builtin "getset_descriptor.__get__")) := by
  first | rfl | kernel_rfl
theorem cls_set (K : PySem.W.Frag) : PySem.W.takesIn K (.builtin "object.__class__") = some true := by
  first | rfl | kernel_rfl
structure Cl0 (L : LawD) (d : ClL) : Prop where
  nd : d.flds.Nodup
  le : d.flds.length ≤ 900
  lt : ∀ f ∈ d.flds, f < L.nm.length
  me : ∀ m f, (m, f) ∈ d.meths → m < L.mn.length ∧ ∃ fd, L.fns[f]? = some fd ∧ fd.d.at_ = (d.name, some (L.mnF m)) ∧ (fd.dfl = [] ∨ 5 < m) ∧ (5 < m ∨ fd.ps.length = if m = mLen then 1 else 2)
  it : ∀ f, d.init = some f → ∃ fd, L.fns[f]? = some fd ∧ fd.d.at_ = (d.name, some ("__init__" : PySem.Str))
theorem cl0_ok {d : ClL} (h : cl0 L d = true) : Cl0 L d := by
  unfold cl0 at h
  simp only [Bool.and_eq_true, decide_eq_true_eq, List.all_eq_true] at h
  obtain ⟨⟨⟨⟨h1, h2⟩, h3⟩, h4⟩, h5⟩ := h
  refine ⟨h1, h2, h3, fun m f hm => ?_, fun f hf => ?_⟩
  · obtain ⟨g1, g2⟩ := h4 (m, f) hm
    cases hfd : L.fns[f]? with
    | none => simp only [hfd] at g2; cases g2
    | some fd =>
      simp only [hfd, Bool.and_eq_true, Bool.or_eq_true, decide_eq_true_eq] at g2
      exact ⟨g1, fd, rfl, g2.1.1, g2.1.2, g2.2⟩
  · rw [hf] at h5
    cases hfd : L.fns[f]? with
    | none => simp only [hfd] at h5; cases h5
    | some fd => simp only [hfd, decide_eq_true_eq] at h5; exact ⟨fd, rfl, h5⟩
structure ClK (L : LawD) (K : PySem.W.Frag) (d : ClL) : Prop where
  glo : (He.Fa.glo d.name).ok K = true
  cls : (He.Fa.cls d.name).ok K = true
  mro : mroB K (He.ga K d.name) = true
  ty : PySem.W.typeIn K (.ref (He.ga K d.name)) = some (.type "type")
  cl : PySem.W.findIn K (.ref (He.ga K d.name)) "__class__" = some (some (.builtin "object.__class__"))
  na : ∀ f ∈ d.flds, (He.Fa.noat d.name (L.nmF f)).ok K = true
  me : ∀ p ∈ d.meths, (He.Fa.meth d.name (L.mnF p.1)).ok K = true
  it : d.init ≠ none → (He.Fa.mkr d.name).ok K = true
  ne : d.meths.lookup mEq ≠ none → PySem.W.findIn K (.ref (He.ga K d.name)) "__ne__" = some (some (.builtin "object.__ne__"))
theorem clB_ok {d : ClL} (h : clB L K d = true) : ClK L K d := by
  unfold clB at h
  simp only [Bool.and_eq_true, decide_eq_true_eq, List.all_eq_true] at h
  obtain ⟨⟨⟨⟨⟨⟨⟨⟨h1, h2⟩, h3⟩, h4⟩, h5⟩, h6⟩, h7⟩, h8⟩, h9⟩ := h
  refine ⟨h1, h2, h3, h4, He.eqO_ok h5, h6, h7, fun z => ?_, fun z => ?_⟩
  · cases hi : d.init with
    | none => exact absurd hi z
    | some f => rw [hi] at h8; exact h8
  · cases hi : d.meths.lookup mEq with
    | none => exact absurd hi z
    | some f => rw [hi] at h9; exact He.eqO_ok h9
theorem six_at (h : L.mn.take 6 = six) {i : Nat} {x : PySem.Str} (hx : six[i]? = some x) : L.mnF i = x := by
  have hi : i < 6 := (List.getElem?_eq_some_iff.mp hx).1
  have e : L.mn[i]? = some x := by
    rw [← hx, ← h, List.getElem?_take_of_lt hi]
  unfold LawD.mnF
  rw [List.getD_eq_getElem?_getD, e]; rfl
theorem getD_inj {l : List PySem.Str} (h : l.Nodup) {i j : Nat} (hi : i < l.length) (hj : j < l.length) (e : l.getD i Str.empty = l.getD j Str.empty) : i = j := by
  rw [List.getD_eq_getElem?_getD, List.getD_eq_getElem?_getD, List.getElem?_eq_getElem hi, List.getElem?_eq_getElem hj] at e
  exact (List.getElem_inj h).mp e
theorem mok (h0 : law0 L = true) (hK : lawK L K = true) (F : FnsIn L K fdv) (B : BindOk L) (Dd : DflOk L) : MOk (L.mach K mg fdv) := by
  unfold law0 at h0
  simp only [Bool.and_eq_true, decide_eq_true_eq, List.all_eq_true] at h0
  obtain ⟨⟨⟨⟨n1, n2⟩, n3⟩, n4⟩, n5⟩ := h0
  unfold lawK at hK
  simp only [Bool.and_eq_true, decide_eq_true_eq, List.all_eq_true] at hK
  obtain ⟨k1, k2⟩ := hK
  have c0 : ∀ {c : Nat} {d : ClL}, L.cls[c]? = some d → Cl0 L d := fun h => cl0_ok (n5 _ (List.mem_of_getElem? h))
  have cK : ∀ {c : Nat} {d : ClL}, L.cls[c]? = some d → ClK L K d := fun h => clB_ok (k1 _ (List.mem_of_getElem? h))
  have inj : ∀ {c c' : Nat} {d d' : ClL}, L.cls[c]? = some d → L.cls[c']? = some d' → He.ga K d.name = He.ga K d'.name → c = c' := fun {c c' d d'} h h' e => by
    have e1 : (L.cls.map fun d => He.ga K d.name)[c]? = some (He.ga K d.name) := by rw [List.getElem?_map, h]; rfl
    have e2 : (L.cls.map fun d => He.ga K d.name)[c']? = some (He.ga K d.name) := by rw [List.getElem?_map, h', e]; rfl
    obtain ⟨a1, a2⟩ := List.getElem?_eq_some_iff.mp e1
    obtain ⟨b1, b2⟩ := List.getElem?_eq_some_iff.mp e2
    exact (List.getElem_inj k2).mp (by rw [a2, b2])
  have fnm : ∀ {c : Nat} {d : ClL} {f : Nat}, L.cls[c]? = some d → f ∈ L.T.fld c → f ∈ d.flds := fun h m => by rw [fld_of h] at m; exact m
  have nodef : ∀ f i, (L.mach K mg fdv).fi f = some i → ∀ j, ∃ ds, Vals (i.dv.drop j) ds ∧ Binds K i.fd i.ps ds := fun f i hi j => by
    obtain ⟨d, hd, rfl⟩ := fi_some hi
    exact B f d hd K _ (F f d hd) j
  have dvr : ∀ f i, (L.mach K mg fdv).fi f = some i → ∀ Fh, Reps (L.mach K mg fdv) Fh i.dv ((L.mach K mg fdv).T.dfl f) := fun f i hi Fh => by
    obtain ⟨d, hd, rfl⟩ := fi_some hi
    have e : (L.mach K mg fdv).T.dfl f = d.dfl := by
      show (match L.fns[f]? with | some d => d.dfl | none => []) = _
      rw [hd]
    rw [e]
    exact Dd f d hd (L.mach K mg fdv) Fh
  refine ⟨fun f i hi e => ?_, nodef, dvr, fun c f h => ?_, fun f i hi => ?_, fun c C h => ?_, fun c m f h => ?_, fun c C f h hf => ?_, fun c f g hf hg e => ?_, fun c => ?_, fun c => ?_, fun c m f h g hg => ?_, fun f i hi c m h => ?_, fun c m f i h hi hm => ?_,
    fun c c' C h h' => ?_, fun c C h T hT => ?_, fun c C c' C' h h' => ?_, fun c C h => ?_, fun c C f hm h => ?_, fun c C c' C' h h' => ?_, fun c C n h => ?_, fun c C t h hT => ?_, fun c C h => ?_, six_at n3 rfl, six_at n3 rfl, six_at n3 rfl, six_at n3 rfl, six_at n3 rfl, six_at n3 rfl⟩
  · obtain ⟨ds, r, b⟩ := nodef f i hi 0
    have hl := (dvr f i hi (fun _ => none)).length
    rw [e] at hl
    have : i.dv = [] := List.length_eq_zero_iff.mp hl
    rw [this] at r
    cases r
    exact b
  · have h : (L.cls[c]?).bind (·.init) = some f := h
    cases hd : L.cls[c]? with
    | none => rw [hd] at h; cases h
    | some d =>
      rw [hd] at h
      have h : d.init = some f := h
      obtain ⟨fd, h1, h2⟩ := (c0 hd).it f h
      have mk := He.mkr_ok ((cK hd).it (by rw [h]; exact fun z => nomatch z))
      refine ⟨He.ga K d.name, { adr := He.fAd K fd.d.at_, fd := fdv f, ps := fd.ps, dv := fd.d.dvs K }, ?_, ?_, ?_⟩
      · show (L.cls[c]?).map (fun d => He.ga K d.name) = _
        rw [hd]; rfl
      · show (L.fns[f]?).map _ = _
        rw [h1]; rfl
      · show Mk K (He.ga K d.name) (He.fAd K fd.d.at_)
        rw [h2]; exact mk
  · obtain ⟨d, hd, rfl⟩ := fi_some hi
    exact (F f d hd).kp
  · obtain ⟨d, hd, rfl⟩ := cls_some h
    exact He.cls_ok (cK hd).cls
  · obtain ⟨d, hd, hl⟩ := meth_of h
    obtain ⟨g1, fd, g2, g3, _⟩ := (c0 hd).me m f (lookup_mem hl)
    have me := He.meth_ok ((cK hd).me (m, f) (lookup_mem hl))
    refine ⟨He.ga K d.name, { adr := He.fAd K fd.d.at_, fd := fdv f, ps := fd.ps, dv := fd.d.dvs K }, ?_, ?_, ?_⟩
    · show (L.cls[c]?).map (fun d => He.ga K d.name) = _
      rw [hd]; rfl
    · show (L.fns[f]?).map _ = _
      rw [g2]; rfl
    · show Meth K (He.ga K d.name) (L.mnF m) (He.fAd K fd.d.at_)
      rw [g3]; exact me
  · obtain ⟨d, hd, rfl⟩ := cls_some h
    exact He.noat_ok ((cK hd).na f (fnm hd hf))
  · cases hd : L.cls[c]? with
    | none => rw [show (L.mach K mg fdv).T.fld c = [] from fld_none hd] at hf; cases hf
    | some d => exact getD_inj n1 ((c0 hd).lt f (fnm hd hf)) ((c0 hd).lt g (fnm hd hg)) e
  · cases hd : L.cls[c]? with
    | none => rw [show (L.mach K mg fdv).T.fld c = [] from fld_none hd]; exact List.nodup_nil
    | some d => rw [show (L.mach K mg fdv).T.fld c = d.flds from fld_of hd]; exact (c0 hd).nd
  · cases hd : L.cls[c]? with
    | none => rw [show (L.mach K mg fdv).T.fld c = [] from fld_none hd]; exact Nat.zero_le _
    | some d => rw [show (L.mach K mg fdv).T.fld c = d.flds from fld_of hd]; exact (c0 hd).le
  · obtain ⟨d, hd, hl⟩ := meth_of h
    obtain ⟨g1, _⟩ := (c0 hd).me m f (lookup_mem hl)
    have g2 := (c0 hd).lt g (fnm hd hg)
    intro e
    have e : L.nm.getD g Str.empty = L.mn.getD m Str.empty := e
    rw [List.getD_eq_getElem?_getD, List.getD_eq_getElem?_getD, List.getElem?_eq_getElem g2, List.getElem?_eq_getElem g1] at e
    have e : L.nm[g] = L.mn[m] := e
    have := n2 L.nm[g] (List.getElem_mem g2)
    rw [e] at this
    simp [List.getElem_mem g1] at this
  · obtain ⟨d, hd, hl⟩ := meth_of h
    obtain ⟨g1, fd, g2, g3, g4, _⟩ := (c0 hd).me m f (lookup_mem hl)
    refine g4.imp (fun z => ?_) id
    show (match L.fns[f]? with | some d => d.dfl | none => []) = []
    rw [g2]; exact z
  · obtain ⟨d, hd, hl⟩ := meth_of h
    obtain ⟨g1, fd, g2, g3, _, g5⟩ := (c0 hd).me m f (lookup_mem hl)
    obtain ⟨d', hd', rfl⟩ := fi_some hi
    rw [g2] at hd'
    cases hd'
    exact g5.elim (fun z => absurd hm (by omega)) id
  · obtain ⟨d, hd, rfl⟩ := cls_some h
    obtain ⟨d', hd', e⟩ := cls_some h'
    exact inj hd hd' e
  · show (_ || PySem.W.subIn K (.type T) (.ref C) == some false) = true
    rw [kn_sub hT]
    simp
  · obtain ⟨d, hd, rfl⟩ := cls_some h
    obtain ⟨d', hd', rfl⟩ := cls_some h'
    show (Value.ref (He.ga K d'.name) == .ref (He.ga K d.name) || PySem.W.subIn K (.ref (He.ga K d'.name)) (.ref (He.ga K d.name)) == some false) = true
    rw [mro_sub (cK hd').mro]
    by_cases e : He.ga K d'.name = He.ga K d.name
    · rw [e]; simp
    · have : [Value.ref (He.ga K d'.name), .type "object"].contains (Value.ref (He.ga K d.name)) = false := by
        simp [List.contains_cons, Ne.symm e]
      rw [this]; simp
  · obtain ⟨d, hd, rfl⟩ := cls_some h
    refine ⟨(cK hd).cl, cls_get K, cls_set K, ?_⟩
    have := mro_sub (cK hd).mro (.type "object")
    rw [show PySem.W.subIn K (.ref (He.ga K d.name)) (.type "object") = PySem.W.mroIn K (He.ga K d.name) (.type "object") from rfl] at this
    rw [show (L.mach K mg fdv).K = K from rfl, this]
    simp [List.contains_cons]
  · obtain ⟨d, hd, rfl⟩ := cls_some h
    obtain ⟨d', hd', hl⟩ := meth_of hm
    rw [hd] at hd'
    cases hd'
    exact (cK hd).ne (by rw [hl]; exact fun z => nomatch z)
  · obtain ⟨d, hd, rfl⟩ := cls_some h
    obtain ⟨d', hd', rfl⟩ := cls_some h'
    show (if (Value.ref (He.ga K d'.name) == .ref (He.ga K d.name)) = true then some true else if ((PySem.W.clsIn K (He.ga K d.name)).isSome && PySem.W.typeIn K (.ref (He.ga K d.name)) == some (.type "type")) = true then PySem.W.subIn K (.ref (He.ga K d'.name)) (.ref (He.ga K d.name)) else none) = some (decide (c' = c))
    by_cases e : He.ga K d'.name = He.ga K d.name
    · rw [e, inj hd' hd e]; simp
    · have hn : ¬ c' = c := fun z => e (by subst z; rw [hd] at hd'; cases hd'; rfl)
      rw [if_neg (by simpa using e), mro_cls (cK hd).mro, (cK hd).ty, if_pos (by simp), mro_sub (cK hd').mro]
      have : [Value.ref (He.ga K d'.name), .type "object"].contains (Value.ref (He.ga K d.name)) = false := by
        simp [List.contains_cons, Ne.symm e]
      rw [this, decide_eq_false hn]
  · obtain ⟨d, hd, rfl⟩ := cls_some h
    show (if (Value.ref (He.ga K d.name) == .type (tyN n)) = true then some true else if PySem.W.kitMeta (tyN n) = true then PySem.W.subIn K (.ref (He.ga K d.name)) (.type (tyN n)) else none) = some false
    rw [if_neg (by simp), if_pos (meta_kn n), mro_sub (cK hd).mro]
    have := tyN_obj n
    simp [List.contains_cons, this]
  · obtain ⟨d, hd, rfl⟩ := cls_some h
    show (if (Value.type t == .ref (He.ga K d.name)) = true then some true else if ((PySem.W.clsIn K (He.ga K d.name)).isSome && PySem.W.typeIn K (.ref (He.ga K d.name)) == some (.type "type")) = true then PySem.W.subIn K (.type t) (.ref (He.ga K d.name)) else none) = some false
    rw [if_neg (by simp), mro_cls (cK hd).mro, (cK hd).ty, if_pos (by simp), kn_sub hT]
  · obtain ⟨d, hd, rfl⟩ := cls_some h
    exact mro_first (cK hd).mro
end
end RF
end

section
set_option Elab.async false
set_option linter.all false
set_option autoImplicit false
set_option maxRecDepth 100000
set_option maxHeartbeats 4000000
/-! RfLc: global names, defs, the Hook, the end. -/
namespace RF
open PySem L2
open PyProof.Rows hiding St
def flatV? : D → Option He.Dv
  | .int i => some (.int i)
  | .str x => some (.str x)
  | _ => none
def flatVs : List D → Option (List He.Dv)
  | [] => some []
  | d :: r => match flatV? d, flatVs r with
    | some v, some vs => some (v :: vs)
    | _, _ => none
def gkB (L : LawD) (K : PySem.W.Frag) (p : PySem.Str × Gk) : Bool :=
  let x := p.1
  match p.2 with
  | .no => true
  | .fn f n io => (He.Fa.glo x).ok K && (match L.fns[f]? with
    | some fd => decide (fd.d.at_ = (x, none)) && decide (n = fd.ps.length)
    | none => false)
  | .fnN f n io => (He.Fa.glo x).ok K && (match L.fns[f]? with
    | some fd => decide (fd.d.at_ = (x, none)) && decide (n = fd.ps.length)
    | none => false)
  | .cls c => (He.Fa.glo x).ok K && (match L.cls[c]? with
    | some d => decide (d.name = x)
    | none => false)
  | .mk c f n => (He.Fa.glo x).ok K && (match L.cls[c]?, L.fns[f]? with
    | some d, some fd => decide (d.name = x) && decide (d.init = some f) && decide (n = fd.ps.length)
    | _, _ => false)
  | .cst (.int i) => (He.Fa.int x i).ok K
  | .cst (.str s) => (He.Fa.str x s).ok K
  | .cst (.tup ds) => (He.Fa.glo x).ok K && (match flatVs ds with
    | some vs => He.tupB K x vs
    | none => false)
  | .cst _ => false
  | .bi b => ((He.Fa.free x).ok K && decide (bootBuiltins x = some (biV b))) || He.eqO (PySem.W.nsIn K mainGlobals x) (some (some (biV b)))
  | .isi => (He.Fa.free x).ok K && decide (bootBuiltins x = some (.builtin "isinstance"))
  | .lst => (He.Fa.free x).ok K && decide (bootBuiltins x = some (.type "list"))
  | .ty n => (He.Fa.free x).ok K && decide (bootBuiltins x = some (.type (tyN n)))
  | .rng => decide (x = "range") && (He.Fa.free "range").ok K
  | .enu => decide (x = "enumerate") && (He.Fa.free "enumerate").ok K
  | .zip => decide (x = "zip") && (He.Fa.free "zip").ok K
  | .rev => decide (x = "reversed") && (He.Fa.free "reversed").ok K
def scB (d : FnL) : Bool := decide (d.d.scope.kind = .function) && decide (d.d.scope.isCoroutine = false) && decide (d.d.scope.isGenerator = false) && decide d.N.Nodup && decide (d.N.take d.ps.length = d.ps) &&
  (d.ps.all fun x => match d.d.scope.names.lookup x with
    | some .local => true
    | some .cell => true
    | _ => false) && (d.d.scope.names.all fun y => match y.2 with
    | .free => false
    | _ => true)
theorem scB_ok {d : FnL} (h : scB d = true) : FnScope d.N d.ps d.d.scope := by
  unfold scB at h
  simp only [Bool.and_eq_true, decide_eq_true_eq, List.all_eq_true] at h
  obtain ⟨⟨⟨⟨⟨⟨h1, h2⟩, h3⟩, h4⟩, h5⟩, h6⟩, h7⟩ := h
  refine ⟨h1, h2, h3, h4, h5, fun x hx => ?_, fun y hy => ?_⟩
  · have := h6 x hx
    split at this
    · exact .inl (by assumption)
    · exact .inr (by assumption)
    · cases this
  · have := h7 y hy
    intro z
    rw [z] at this
    cases this
section
variable {L : LawD} {K : PySem.W.Frag} {mg : PySem.Str → Option Value} {fdv : Nat → FuncData} {h : Heap}
theorem flatRep {F : Hp} {M : Mach} : ∀ {ds : List D} {vs : List He.Dv}, flatVs ds = some vs → Reps M F (vs.map (He.Dv.v K)) ds
  | [], vs, e => by cases e; exact .nil
  | d :: r, vs, e => by
    simp only [flatVs] at e
    split at e
    · rename_i v vs' h1 h2
      cases e
      refine .cons ?_ (flatRep h2)
      cases d with
      | int i => cases h1; exact .int
      | str i => cases h1; exact .str
      | _ => cases h1
    · cases e
theorem gk_ok (X : K.In h) (G : h.Ns mainGlobals mg) {x : PySem.Str} {q : Gk} (hb : gkB L K (x, q) = true) : GkOk (L.mach K mg fdv) x q := by
  cases q with
  | no => exact .no
  | fn f n io =>
    obtain ⟨h1, h2⟩ := He.ba hb
    cases hf : L.fns[f]? with
    | none => simp only [hf] at h2; cases h2
    | some fd =>
      simp only [hf] at h2
      obtain ⟨h3, h4⟩ := He.ba h2
      refine .fn { adr := He.fAd K fd.d.at_, fd := fdv f, ps := fd.ps, dv := fd.d.dvs K } ?_ (of_decide_eq_true h4) ?_
      · show (L.fns[f]?).map _ = _
        rw [hf]; rfl
      · show mg x = some (.ref (He.fAd K fd.d.at_))
        rw [of_decide_eq_true h3]
        exact He.glo_ok X G h1
  | fnN f n io =>
    obtain ⟨h1, h2⟩ := He.ba hb
    cases hf : L.fns[f]? with
    | none => simp only [hf] at h2; cases h2
    | some fd =>
      simp only [hf] at h2
      obtain ⟨h3, h4⟩ := He.ba h2
      refine .fnN { adr := He.fAd K fd.d.at_, fd := fdv f, ps := fd.ps, dv := fd.d.dvs K } ?_ (of_decide_eq_true h4) ?_
      · show (L.fns[f]?).map _ = _
        rw [hf]; rfl
      · show mg x = some (.ref (He.fAd K fd.d.at_))
        rw [of_decide_eq_true h3]
        exact He.glo_ok X G h1
  | cls c =>
    obtain ⟨h1, h2⟩ := He.ba hb
    cases hf : L.cls[c]? with
    | none => simp only [hf] at h2; cases h2
    | some d =>
      simp only [hf] at h2
      refine .cls (He.ga K d.name) ?_ ?_
      · show (L.cls[c]?).map _ = _
        rw [hf]; rfl
      · show mg x = _
        rw [of_decide_eq_true h2]
        exact He.glo_ok X G h1
  | mk c f n =>
    obtain ⟨h1, h2⟩ := He.ba hb
    cases hc : L.cls[c]? with
    | none => simp only [hc] at h2; cases h2
    | some d =>
      cases hf : L.fns[f]? with
      | none => simp only [hc, hf] at h2; cases h2
      | some fd =>
        simp only [hc, hf] at h2
        obtain ⟨h3, h5⟩ := He.ba h2
        obtain ⟨h3, h4⟩ := He.ba h3
        refine .mk (He.ga K d.name) { adr := He.fAd K fd.d.at_, fd := fdv f, ps := fd.ps, dv := fd.d.dvs K } ?_ ?_ ?_ ?_ (of_decide_eq_true h5)
        · show (L.cls[c]?).map _ = _
          rw [hc]; rfl
        · show mg x = _
          rw [of_decide_eq_true h3]
          exact He.glo_ok X G h1
        · show (L.cls[c]?).bind (·.init) = _
          rw [hc]; exact of_decide_eq_true h4
        · show (L.fns[f]?).map _ = _
          rw [hf]; rfl
  | cst d =>
    cases d with
    | int i =>
      obtain ⟨t, e⟩ := He.int_ok X G (show (He.Fa.int x i).ok K = true from hb)
      exact .cst _ (.int i) e ⟨t, rfl⟩ fun _ => .int
    | str s =>
      obtain ⟨t, e⟩ := He.str_ok X G (show (He.Fa.str x s).ok K = true from hb)
      exact .cst _ (.str s) e ⟨t, rfl⟩ fun _ => .str
    | tup ds =>
      obtain ⟨h1, h2⟩ := He.ba hb
      cases hv : flatVs ds with
      | none => simp only [hv] at h2; cases h2
      | some vs =>
        simp only [hv] at h2
        exact .cst _ (.ref (He.ga K x)) (He.glo_ok X G h1) rfl fun F => .tup (He.tupB_ok h2 F) (flatRep hv)
    | _ => cases hb
  | bi b =>
    have hb : ((He.Fa.free x).ok K && decide (bootBuiltins x = some (biV b)) || He.eqO (PySem.W.nsIn K mainGlobals x) (some (some (biV b)))) = true := hb
    rw [Bool.or_eq_true] at hb
    rcases hb with hb | hb
    · obtain ⟨h1, h2⟩ := He.ba hb
      exact .bi (.inl ⟨He.free_ok X G h1, of_decide_eq_true h2⟩)
    · exact .bi (.inr (PySem.W.mg_of X G (He.eqO_ok hb)))
  | isi => obtain ⟨h1, h2⟩ := He.ba hb; exact .isi (He.free_ok X G h1) (of_decide_eq_true h2)
  | lst => obtain ⟨h1, h2⟩ := He.ba hb; exact .lst (He.free_ok X G h1) (of_decide_eq_true h2)
  | ty n => obtain ⟨h1, h2⟩ := He.ba hb; exact .ty (He.free_ok X G h1) (of_decide_eq_true h2)
  | rng => obtain ⟨h1, h2⟩ := He.ba hb; exact .rng (of_decide_eq_true h1) (He.free_ok X G h2)
  | enu => obtain ⟨h1, h2⟩ := He.ba hb; exact .enu (of_decide_eq_true h1) (He.free_ok X G h2)
  | zip => obtain ⟨h1, h2⟩ := He.ba hb; exact .zip (of_decide_eq_true h1) (He.free_ok X G h2)
  | rev => obtain ⟨h1, h2⟩ := He.ba hb; exact .rev (of_decide_eq_true h1) (He.free_ok X G h2)
theorem mid_ok {x : PySem.Str} {m n : Nat} (e : L.midF x = some (m, n)) : (L.mach K mg fdv).mn m = x ∧ ∀ cc f i, (L.mach K mg fdv).T.meth cc m = some f → (L.mach K mg fdv).fi f = some i → n = i.ps.length := by
  unfold LawD.midF at e
  split at e
  · cases e
  · rename_i m' hm
    split at e
    · cases e
    · rename_i n' r hl
      split at e
      · rename_i hall
        cases e
        refine ⟨?_, fun cc f i hme hi => ?_⟩
        · show L.mn.getD m Str.empty = x
          rw [List.getD_eq_getElem?_getD, plS_at hm]; rfl
        · obtain ⟨d, hd, hlk⟩ := meth_of hme
          obtain ⟨fd, hfd, rfl⟩ := fi_some hi
          have mem : fd.ps.length ∈ n :: r := by
            rw [← hl, List.mem_filterMap]
            exact ⟨d, List.mem_of_getElem? hd, by rw [hlk]; show (L.fns[f]?).map _ = _; rw [hfd]; rfl⟩
          rcases List.mem_cons.mp mem with z | z
          · exact z.symm
          · have := List.all_eq_true.mp hall _ z
            exact (eq_of_beq this).symm
      · cases e
theorem fnAt (X : K.In h) (G : h.Ns mainGlobals mg) (F : FnsIn L K fdv) (hg : L.gs.all (gkB L K) = true) (hs : L.fns.all scB = true) : ∀ f i, (L.mach K mg fdv).fi f = some i → L.fs f = none ∨ ∃ c fd, L.fs f = some fd ∧ FnAt (L.mach K mg fdv) c fd i := by
  intro f i hi
  obtain ⟨d, hd, rfl⟩ := fi_some hi
  right
  refine ⟨L.cc d, _, by unfold LawD.fs; rw [hd]; rfl, ?_⟩
  obtain ⟨oc, od, dV, kV, doc, pm, an, cdv, ct, osl, efd, lk, hcd, _, _⟩ := (F f d hd).ex
  refine ⟨⟨d.d.name, d.d.qual, d.d.params, d.d.body, dV, kV, doc, pm, cdv, ct, oc, an, od, osl, ?_, efd, hcd, rfl⟩, scB_ok (List.all_eq_true.mp hs d (List.mem_of_getElem? hd)), rfl, rfl, fun x hx => ?_, fun x => ?_, fun x f hf => ?_, fun x m n e => mid_ok e⟩
  · show K.lookup (He.fAd K d.d.at_) = _
    rw [lk]
    show some (_ : Obj) = some _
    rw [efd]; rfl
  · have hx : (match d.d.scope.names.lookup x with
      | some .local => true
      | some .cell => true
      | _ => false) = true := hx
    show d.d.scope.names.lookup x = _ ∨ d.d.scope.names.lookup x = _
    split at hx
    · exact .inl (by assumption)
    · exact .inr (by assumption)
    · cases hx
  · show GkOk _ x ((L.gs.lookup x).getD .no)
    cases hl : L.gs.lookup x with
    | none => exact .no
    | some q => exact gk_ok X G (List.all_eq_true.mp hg (x, q) (lookup_mem hl))
  · show L.nm.getD f Str.empty = x
    rw [List.getD_eq_getElem?_getD, plS_at hf]; rfl
/-! ### the end -/
theorem ints_reps {M : Mach} {F : Hp} : ∀ ns : List Int, Reps M F (ns.map V.int) (ns.map D.int)
  | [] => .nil
  | _ :: r => .cons .int (ints_reps r)
theorem law_sp {M : Mach} {Φ : Fn} {f n : Nat} (hv : ∀ ns : List Int, ns.length ≤ n → ∃ outs, Φ f [.sh (.scr (ns.map .int))] = .ok (.bl true) outs) (H : Hp) (a : Addr) (ns : List Int) (hn : ns.length ≤ n) (hO : Only H) (hS : SqL M.K H a (ns.map V.int)) :
    spF M Φ f 1 [.ref a] H (fun v _ => v = .bl true) fun _ _ _ => False := by
  obtain ⟨outs, e⟩ := hv ns hn
  have sq : SqS M.K H a (ns.map V.int) := by
    rcases hS with (h | ⟨o, h⟩) | h
    · rcases hO a with z | ⟨o, xs, z⟩
      · rw [h] at z; cases z
      · rw [h] at z; cases z
    · exact .inl ⟨o, h⟩
    · exact .inr h
  refine ⟨rfl, [.sh (.scr (ns.map .int))], H, fun _ => [], ?_, ?_⟩
  · exact Pt.args (ds := [.scr (ns.map .int)]) Sb.rfl' (.cons (.scr sq (ints_reps ns)) .nil)
  · rw [e]
    intro v F' H' own' g p r
    exact r.blv
end
/-! ### the Hook: all facts as one Boolean -/
def allB (L : LawD) (K : PySem.W.Frag) : Bool := lawK L K && L.gs.all (gkB L K) && L.fns.all fun d => d.d.ok K
abbrev AlL : Type := Bool × List He.FnW
def obsL (L : LawD) (K : PySem.W.Frag) : AlL := (allB L K, L.fns.map fun d => He.fnW K d.d.at_)
def valL (L : LawD) : AlL := (true, L.fns.map fun d => d.d.val)
def obsLG (n : Nat) (L : LawD) (g : Addr → Option Obj) : AlL := obsL L (He.frG g (He.asD g n))
def hookL (n : Nat) (L : LawD) : PySem.W.Hook where
  α := AlL
  obs := fun s => obsLG n L s.heap.get?
  val := fun _ => valL L
  says := fun _ h => ∃ K : PySem.W.Frag, K.In h ∧ obsL L K = valL L
  of := fun _ _ e => ⟨_, He.frG_in, e⟩
  keeps := fun _ _ _ ⟨K, hK, c⟩ k => ⟨K, PySem.W.Frag.In.keeps hK k, c⟩
theorem obsLG_eq {n : Nat} {L : LawD} {g : Addr → Option Obj} {s : Shared} (h : ∀ a, g a = s.heap.get? a) : obsLG n L g = (hookL n L).obs s := by
  have e : g = s.heap.get? := funext h
  rw [e] <;> rfl
theorem fns_of {L : LawD} {K : PySem.W.Frag} (c : obsL L K = valL L) : ∃ fdv, FnsIn L K fdv := by
  have c1 : allB L K = true := congrArg (fun z : AlL => z.1) c
  have c2 := (He.ba c1).2
  have e : (L.fns.map fun d => He.fnW K d.d.at_) = L.fns.map fun d => d.d.val := congrArg (fun z : AlL => z.2) c
  have one : ∀ (f : Nat) (d : FnL), L.fns[f]? = some d → ∃ fd, FunD K d.d.name d.d.qual d.d.params d.d.body d.d.scope (d.d.dvs K) (d.d.kws K) (He.fAd K d.d.at_) fd := fun f d hd => by
    have e2 : (L.fns.map fun d => He.fnW K d.d.at_)[f]? = (L.fns.map fun d => d.d.val)[f]? := by rw [e]
    rw [List.getElem?_map, List.getElem?_map, hd] at e2
    exact He.DefD.funD (Option.some.inj e2) (List.all_eq_true.mp c2 d (List.mem_of_getElem? hd))
  have two : ∀ f : Nat, ∃ fd : FuncData, ∀ d : FnL, L.fns[f]? = some d → FunD K d.d.name d.d.qual d.d.params d.d.body d.d.scope (d.d.dvs K) (d.d.kws K) (He.fAd K d.d.at_) fd := fun f => by
    cases hd : L.fns[f]? with
    | none => exact ⟨PySem.W.fnOf Str.empty Str.empty ⟨[], [], none, [], [], none, []⟩ [] ⟨.function, [], false, false, []⟩ .none .none .none .none none .none .none, fun d z => by cases z⟩
    | some d =>
      obtain ⟨fd, hf⟩ := one f d hd
      exact ⟨fd, fun d' z => by cases z; exact hf⟩
  exact ⟨fun f => (two f).choose, fun f d hd => (two f).choose_spec d hd⟩
end RF
end

section
set_option Elab.async false
set_option linter.all false
set_option autoImplicit false
set_option maxRecDepth 100000
set_option maxHeartbeats 4000000
/-! RfLd: the end of a law. -/
namespace RF
open PySem PySem.Spec PyProof.Rows L2
theorem walkL {l : PySem.W.OpenLaw} {n k : Nat} {q : Program} {loose : List PySem.Str} {XP : (PySem.Str → Option Value) → Heap → Prop} {YP : World → Heap → Prop} {d : DefRec} {CX : World → CXT} {x : PySem.Str}
    (hn : l.most = some n) (hn2 : n ≤ sizeLine) (hdf : d.params.defaults = []) (hr : Room k callerA)
    (F : ∀ (w : World) (mg : PySem.Str → Option Value) (fa : Addr) (h : Heap), YP w h → h.Ns mainGlobals mg → mg d.name = some (.ref fa) →
      ∃ (K : PySem.W.Frag) (fd : FuncData) (sp : Sp), K.In h ∧ (∀ (s : Shared) (u : Value), BindsTo s fd ⟨[u], []⟩ [(x, u)]) ∧
        (∀ (H : Hp) (a : Addr) (ns : List Int), ns.length ≤ n → Only H → SqL K H a (ns.map V.int) → sp [.ref a] H (fun v _ => v = .bl true) fun _ _ _ => False) ∧
        ∀ base : Heap, K.In base → base.Ns mainGlobals mg → FnOk l.prog w K mg base (CX w) k fa fd [x] sp)
    (hCX : ∀ (w : World) (H : Hp) (s : Shared) (e : Value) (s' : Shared), CX w [] H s (fun _ _ _ => False) e s' → False) :
    PySem.W.WalkO q loose XP YP l.row.toRowW d [] (fun f vs => PySem.call f vs) := by
  refine Att.attach_call hn hdf fun w s₀ s₁ mg mb fa o pm cd doc a vs ns G Y ho hd hcd hmg hobj hints hlen hg => ?_
  obtain ⟨K, fd, sp, KX, hb, hsp, hF⟩ := F w mg fa _ Y G.T.g hmg
  exact law_call KX G.T.g G.T.b G.T.builtins G.T.nolimit hg hobj hints (Nat.le_trans hlen hn2) hr hF hb (fun H hO hS => hsp H a ns hlen hO hS) fun H e s' => hCX w H s₁ e s'
theorem noCX {P : Program} {w : World} {H : Hp} {s s' : Shared} {e : Value} (h : L2N.CX P w [] H s (fun _ _ _ => False) e s') : False := by
  obtain ⟨a, B, H', cls, d, _, _, _, _, _, _, _, z⟩ := h
  exact z
/-- what the head must give, from a law's data and its value -/
theorem law_F {L : LawD} {P : Program} {nS lv : Nat} (h0 : law0 L = true) (hs : L.fns.all scB = true) (B : BindOk L) (Dd : DflOk L) {lf : Nat} {d : FnL} {x : PySem.Str} (hd : L.fns[lf]? = some d) (hat : d.d.at_ = (("law" : PySem.Str), none)) (hps : d.ps = [x])
    (hg : (("law" : PySem.Str), Gk.fn lf 1 []) ∈ L.gs) (hb : ∀ (K : PySem.W.Frag) (fd : FuncData), FunD K d.d.name d.d.qual d.d.params d.d.body d.d.scope (d.d.dvs K) (d.d.kws K) (He.fAd K d.d.at_) fd → ∀ (s : Shared) (u : Value), BindsTo s fd ⟨[u], []⟩ [(x, u)])
    (hv : ∀ ns : List Int, ns.length ≤ nS → ∃ outs, callN L.T L.fs lv lf [.sh (.scr (ns.map .int))] = .ok (.bl true) outs)
    (w : World) (mg : PySem.Str → Option Value) (fa : Addr) (h : Heap) (Y : ∃ K : PySem.W.Frag, K.In h ∧ obsL L K = valL L) (G : h.Ns mainGlobals mg) (hfa : mg "law" = some (.ref fa)) :
    ∃ (K : PySem.W.Frag) (fd : FuncData) (sp : Sp), K.In h ∧ (∀ (s : Shared) (u : Value), BindsTo s fd ⟨[u], []⟩ [(x, u)]) ∧
        (∀ (H : Hp) (a : Addr) (ns : List Int), ns.length ≤ nS → Only H → SqL K H a (ns.map V.int) → sp [.ref a] H (fun v _ => v = .bl true) fun _ _ _ => False) ∧
        ∀ base : Heap, K.In base → base.Ns mainGlobals mg → FnOk P w K mg base (L2N.CX P w) (9 * lv) fa fd [x] sp := by
  obtain ⟨K, X, c⟩ := Y
  obtain ⟨fdv, F⟩ := fns_of c
  have c1 : allB L K = true := congrArg (fun z : AlL => z.1) c
  obtain ⟨c2, _⟩ := He.ba c1
  obtain ⟨c2, c3⟩ := He.ba c2
  have mo := mok (mg := mg) h0 c2 F B Dd
  have fat := fnAt X G F c3 hs
  have e : fa = He.fAd K d.d.at_ := by
    have gk := gk_ok (fdv := fdv) X G (List.all_eq_true.mp c3 _ hg)
    cases gk with
    | fn i hi hn hm =>
      obtain ⟨d', hd', rfl⟩ := fi_some hi
      rw [hd] at hd'
      cases hd'
      have hm : mg "law" = some (.ref (He.fAd K d.d.at_)) := hm
      rw [hfa] at hm
      cases hm
      rfl
  subst e
  have hfi : (L.mach K mg fdv).fi lf = some { adr := He.fAd K d.d.at_, fd := fdv lf, ps := d.ps, dv := d.d.dvs K } := by
    show (L.fns[lf]?).map _ = _
    rw [hd]; rfl
  refine ⟨K, fdv lf, spF (L.mach K mg fdv) (callN L.T L.fs lv) lf 1, X, hb K _ (F lf d hd), fun H a ns hn hO hS => law_sp hv H a ns hn hO hS, fun base _ _ => ?_⟩
  have := fns_all (P := P) (w := w) (base := base) mo fat lv lf _ hfi
  have e2 : ({ adr := He.fAd K d.d.at_, fd := fdv lf, ps := d.ps, dv := d.d.dvs K } : FI).ps.length = 1 := by show d.ps.length = 1; rw [hps]; rfl
  rw [e2] at this
  show FnOk P w K mg base (L2N.CX P w) (9 * lv) (He.fAd K d.d.at_) (fdv lf) [x] _
  rw [← hps]
  exact this
end RF
end

section
set_option Elab.async false
set_option linter.all false
set_option autoImplicit false
set_option maxRecDepth 100000
set_option maxHeartbeats 4000000
/-! RfLe: how the arguments of each def are bound; defaults as data. -/
namespace RF
open PySem PySem.Spec PyProof.Rows L2
def Bind1 (d : FnL) : Prop := ∀ (K : PySem.W.Frag) (fd : FuncData), FunD K d.d.name d.d.qual d.d.params d.d.body d.d.scope (d.d.dvs K) (d.d.kws K) (He.fAd K d.d.at_) fd → ∀ j, ∃ ds, Vals ((d.d.dvs K).drop j) ds ∧ Binds K fd d.ps ds
theorem bind0 {d : FnL} (h1 : d.d.dfl = []) (h2 : d.d.kwd = []) (h : ∀ (kV doc pm : Value) (an : Option Addr) (cdv ct : Value) (us : List Value), us.length = d.ps.length →
    bindArgs (PySem.W.fnOf d.d.name d.d.qual d.d.params d.d.body d.d.scope .none kV doc pm an cdv ct) ⟨us, []⟩ = pure (d.ps.zip us)) : Bind1 d := by
  intro K fd F j
  have e : d.d.dvs K = [] := by unfold He.DefD.dvs; rw [h1]; rfl
  rw [e] at F ⊢
  exact ⟨[], by rw [List.drop_nil]; exact .nil, F.bindsN h⟩
theorem bindM {d : FnL} (hd : d.d.dfl ≠ []) (h : ∀ j, j ≤ d.d.dfl.length → ∃ n, n + (d.d.dfl.length - j) = d.ps.length ∧ ∀ (T : Addr) (kV doc pm : Value) (an : Option Addr) (cdv ct : Value) (us its : List Value), us.length = n → its.length = d.d.dfl.length →
      ∃ k, bindArgs (PySem.W.fnOf d.d.name d.d.qual d.d.params d.d.body d.d.scope (.ref T) kV doc pm an cdv ct) ⟨us, []⟩ = seqItems? (.ref T) >>= k ∧ k (some its.toArray) = pure (d.ps.zip (us ++ its.drop j))) : Bind1 d := by
  intro K fd F j
  have len : (d.d.dvs K).length = d.d.dfl.length := by unfold He.DefD.dvs; rw [List.length_map]
  have ne : d.d.dvs K ≠ [] := by
    intro z
    have : (d.d.dvs K).length = 0 := by rw [z]; rfl
    rw [len] at this
    exact hd (List.eq_nil_of_length_eq_zero this)
  by_cases hj : j ≤ d.d.dfl.length
  · obtain ⟨n, hn, hb⟩ := h j hj
    exact F.binds1 n j ne (by rw [len]; exact hn) fun T kV doc pm an cdv ct us its l1 l2 => hb T kV doc pm an cdv ct us its l1 (by rw [l2, len])
  · obtain ⟨n, hn, hb⟩ := h d.d.dfl.length (Nat.le_refl _)
    have q := F.binds1 n d.d.dfl.length ne (by rw [len]; exact hn) fun T kV doc pm an cdv ct us its l1 l2 => hb T kV doc pm an cdv ct us its l1 (by rw [l2, len])
    rw [List.drop_eq_nil_of_le (by rw [len]; exact Nat.le_refl _)] at q
    rw [List.drop_eq_nil_of_le (by rw [len]; omega)]
    exact q
def AllBd : List FnL → Prop
  | [] => True
  | d :: r => Bind1 d ∧ AllBd r
theorem AllBd.append : ∀ {a b : List FnL}, AllBd a → AllBd b → AllBd (a ++ b)
  | [], _, _, h => h
  | _ :: _, _, g, h => ⟨g.1, AllBd.append g.2 h⟩
theorem AllBd.at : ∀ {a : List FnL} {f : Nat} {d : FnL}, AllBd a → a[f]? = some d → Bind1 d
  | [], _, _, _, e => by simp at e
  | _ :: _, 0, _, h, e => by simp at e; subst e; exact h.1
  | _ :: _, f + 1, _, h, e => AllBd.at (f := f) h.2 (by simpa using e)
theorem bindOk_of {L : LawD} (h : AllBd L.fns) : BindOk L := fun f d hd K fd F j => h.at hd K fd F j
def dvD : He.Dv → Option D
  | .non => some .non
  | .bl b => some (.bl b)
  | .int i => some (.int i)
  | .str x => some (.str x)
  | _ => none
def dvDs : List He.Dv → Option (List D)
  | [] => some []
  | v :: r => match dvD v, dvDs r with
    | some d, some ds => some (d :: ds)
    | _, _ => none
theorem dvDs_rep {M : Mach} {F : Hp} {K : PySem.W.Frag} : ∀ {vs : List He.Dv} {ds : List D}, dvDs vs = some ds → Reps M F (vs.map (He.Dv.v K)) ds
  | [], ds, e => by cases e; exact .nil
  | v :: r, ds, e => by
    simp only [dvDs] at e
    split at e
    · rename_i d ds' h1 h2
      cases e
      refine .cons ?_ (dvDs_rep h2)
      cases v <;> first
        | (cases h1; first | exact .non | exact .bl | exact .int | exact .str)
        | cases h1
    · cases e
theorem dflOk_of {L : LawD} (h : L.fns.map (fun d => dvDs d.d.dfl) = L.fns.map fun d => some d.dfl) : DflOk L := by
  intro f d hd M F
  have e : (L.fns.map fun d => dvDs d.d.dfl)[f]? = (L.fns.map fun d => some d.dfl)[f]? := by rw [h]
  rw [List.getElem?_map, List.getElem?_map, hd] at e
  exact dvDs_rep (Option.some.inj e)
end RF
end

section
set_option Elab.async false
set_option linter.all false
set_option maxRecDepth 100000
set_option maxHeartbeats 0
namespace LW
open PySem RF
def prog : PySem.Program := PySem.Challenge.pw_nextprices_k69_whole_half_of_the_seer
def pass0 : Stmt := .Pass ⟨0, 0, 0, 0⟩
def top (i : Nat) : Stmt := prog.main.body.getD i pass0
def sub (i j : Nat) : Stmt := match top i with
  | .ClassDef _ _ _ body _ _ _ _ _ _ _ => body.getD j pass0
  | _ => pass0
def mkF (at_ : PySem.Str × Option PySem.Str) (name qual : PySem.Str) (st : Stmt) (ps N : List PySem.Str) (dfl : List D := []) (dv : List He.Dv := []) (mkr : Bool := false) (deep : List Nat := []) : FnL := { d := ⟨at_, name, qual, L2.defArgs st, L2.defBody st, L2.defScope st, dv, []⟩, ps := ps, N := N, dfl := dfl, mkr := mkr, deep := deep }
def f0 : FnL := mkF ("is_integer", none) "is_integer" "is_integer" (top 8) ["value"] ["value"]
def f1 : FnL := mkF ("is_between", none) "is_between" "is_between" (top 9) ["value", "least", "most"] ["value", "least", "most"]
def f2 : FnL := mkF ("is_sequence", none) "is_sequence" "is_sequence" (top 10) ["value"] ["value"]
def f3 : FnL := mkF ("integer_told", none) "integer_told" "integer_told" (top 11) ["word"] ["word", "digit"]
def f4 : FnL := mkF ("Frac", some "__init__") "__init__" "Frac.__init__" (sub 12 0) ["self", "num", "den"] ["self", "num", "den", "divisor"] [.int (1)] [.int (1)]
def f5 : FnL := mkF ("Frac", some "__add__") "__add__" "Frac.__add__" (sub 12 1) ["self", "other"] ["self", "other"]
def f6 : FnL := mkF ("Frac", some "__sub__") "__sub__" "Frac.__sub__" (sub 12 2) ["self", "other"] ["self", "other"]
def f7 : FnL := mkF ("Frac", some "__mul__") "__mul__" "Frac.__mul__" (sub 12 3) ["self", "other"] ["self", "other"]
def f8 : FnL := mkF ("Frac", some "__eq__") "__eq__" "Frac.__eq__" (sub 12 4) ["self", "other"] ["self", "other"]
def f9 : FnL := mkF ("Frac", some "is_below") "is_below" "Frac.is_below" (sub 12 5) ["self", "other"] ["self", "other"]
def f10 : FnL := mkF ("Frac", some "divided_by") "divided_by" "Frac.divided_by" (sub 12 6) ["self", "other"] ["self", "other"]
def f11 : FnL := mkF ("Frac", some "text") "text" "Frac.text" (sub 12 7) ["self"] ["self"]
def f12 : FnL := mkF ("as_frac", none) "as_frac" "as_frac" (top 13) ["value"] ["value"]
def f13 : FnL := mkF ("greatest_of", none) "greatest_of" "greatest_of" (top 14) ["fracs"] ["fracs", "found", "one"]
def f14 : FnL := mkF ("total", none) "total" "total" (top 15) ["fracs"] ["fracs", "found", "one"]
def f15 : FnL := mkF ("is_amount", none) "is_amount" "is_amount" (top 19) ["value"] ["value", "frac"]
def f16 : FnL := mkF ("is_shown", none) "is_shown" "is_shown" (top 24) ["value"] ["value"]
def f17 : FnL := mkF ("is_offer", none) "is_offer" "is_offer" (top 25) ["value"] ["value", "one"]
def f18 : FnL := mkF ("Offers", some "__init__") "__init__" "Offers.__init__" (sub 26 0) ["self", "rows"] ["self", "rows", "kept", "at", "row", "weight", "worth"]
def f19 : FnL := mkF ("Offers", some "__len__") "__len__" "Offers.__len__" (sub 26 1) ["self"] ["self"]
def f20 : FnL := mkF ("Offers", some "__eq__") "__eq__" "Offers.__eq__" (sub 26 2) ["self", "other"] ["self", "other"]
def f21 : FnL := mkF ("shown_shares", none) "shown_shares" "shown_shares" (top 27) ["row"] ["row", "whole", "weight", "_", "worth"]
def f22 : FnL := mkF ("row_before", none) "row_before" "row_before" (top 28) ["row", "later", "many"] ["row", "later", "many", "found", "left", "parts", "share", "worth"]
def f23 : FnL := mkF ("turn_rows", none) "turn_rows" "turn_rows" (top 29) ["offers", "many"] ["offers", "many", "rows", "row", "_"]
def f24 : FnL := mkF ("turn_worth", none) "turn_worth" "turn_worth" (top 30) ["offers", "many"] ["offers", "many"]
def f25 : FnL := mkF ("worths_shown", none) "worths_shown" "worths_shown" (top 31) ["offers"] ["offers", "found", "row", "_", "worth", "place", "other"]
def f26 : FnL := mkF ("mean_at_least", none) "mean_at_least" "mean_at_least" (top 32) ["offers", "worth", "many"] ["offers", "worth", "many", "chances", "row", "high", "low", "later", "number", "to", "_", "share", "one", "chance"]
def f27 : FnL := mkF ("seer_worth", none) "seer_worth" "seer_worth" (top 33) ["offers", "many"] ["offers", "many", "found", "before", "worth"]
def f28 : FnL := mkF ("steady_worth", none) "steady_worth" "steady_worth" (top 34) ["offers", "threshold"] ["offers", "threshold", "least", "found", "reached", "row", "taken", "share", "worth", "_"]
def f29 : FnL := mkF ("steady_threshold", none) "steady_threshold" "steady_threshold" (top 35) ["offers"] ["offers"]
def f30 : FnL := mkF ("seer_quotient", none) "seer_quotient" "seer_quotient" (top 36) ["offers", "many"] ["offers", "many", "seen"]
def f31 : FnL := mkF ("_law_bag", none) "_law_bag" "_law_bag" (top 38) ["script"] ["script", "cells", "cell"] (mkr := true)
def f32 : FnL := mkF ("_law_draw", none) "_law_draw" "_law_draw" (top 39) ["bag", "many"] ["bag", "many", "cell", "got"]
def f33 : FnL := mkF ("_law_gcd", none) "_law_gcd" "_law_gcd" (top 40) ["one", "two"] ["one", "two", "rest"]
def f34 : FnL := mkF ("_law_low", none) "_law_low" "_law_low" (top 41) ["x"] ["x", "by"]
def f35 : FnL := mkF ("_law_plus", none) "_law_plus" "_law_plus" (top 42) ["x", "y"] ["x", "y"]
def f36 : FnL := mkF ("_law_minus", none) "_law_minus" "_law_minus" (top 43) ["x", "y"] ["x", "y"]
def f37 : FnL := mkF ("_law_times", none) "_law_times" "_law_times" (top 44) ["x", "y"] ["x", "y"]
def f38 : FnL := mkF ("_law_over", none) "_law_over" "_law_over" (top 45) ["x", "y"] ["x", "y"]
def f39 : FnL := mkF ("_law_below", none) "_law_below" "_law_below" (top 46) ["x", "y"] ["x", "y"]
def f40 : FnL := mkF ("_law_equal", none) "_law_equal" "_law_equal" (top 47) ["x", "y"] ["x", "y"]
def f41 : FnL := mkF ("_law_greater", none) "_law_greater" "_law_greater" (top 48) ["x", "y"] ["x", "y"]
def f42 : FnL := mkF ("_law_pair", none) "_law_pair" "_law_pair" (top 49) ["value"] ["value"]
def f43 : FnL := mkF ("_law_pairs", none) "_law_pairs" "_law_pairs" (top 50) ["values", "many"] ["values", "many", "found", "value"]
def f44 : FnL := mkF ("_law_is", none) "_law_is" "_law_is" (top 51) ["value", "due"] ["value", "due", "found"]
def f45 : FnL := mkF ("_law_offer", none) "_law_offer" "_law_offer" (top 52) ["bag"] ["bag", "rows", "k", "worth", "row"]
def f46 : FnL := mkF ("_law_offered", none) "_law_offered" "_law_offered" (top 53) ["bag", "offers"] ["bag", "offers", "found", "offer", "rows", "weight", "worth", "value", "row"]
def f47 : FnL := mkF ("_law_turns", none) "_law_turns" "_law_turns" (top 54) ["offers", "many"] ["offers", "many", "rows", "offer", "ahead", "fresh", "left", "total_v", "weight", "worth", "best"]
def f48 : FnL := mkF ("_law_frac", none) "_law_frac" "_law_frac" (top 55) ["pair"] ["pair"]
def f49 : FnL := mkF ("_law_ways", none) "_law_ways" "_law_ways" (top 56) ["offers"] ["offers", "found", "offer", "longer", "share", "worths", "weight", "worth"]
def f50 : FnL := mkF ("_law_top", none) "_law_top" "_law_top" (top 57) ["worths", "many"] ["worths", "many", "left", "total_v", "k", "best", "at"]
def f51 : FnL := mkF ("_law_seer", none) "_law_seer" "_law_seer" (top 58) ["offers", "many"] ["offers", "many", "total_v", "share", "worths"]
def f52 : FnL := mkF ("_law_steady", none) "_law_steady" "_law_steady" (top 59) ["offers", "bar"] ["offers", "bar", "total_v", "open_share", "offer", "left", "weight", "worth", "part"]
def f53 : FnL := mkF ("_law_nothing", none) "_law_nothing" "_law_nothing" (top 60) ["bag"] ["bag", "rows", "k"]
def f54 : FnL := mkF ("law", none) "law" "law" (top 61) ["script"] ["script", "bag", "own", "offers", "many", "seer", "one", "turn", "half", "steady", "k", "offer", "bar", "told"]
def fns0 : List FnL := [f0, f1, f2, f3, f4, f5, f6, f7, f8, f9, f10, f11, f12, f13, f14, f15, f16, f17, f18, f19]
def fns1 : List FnL := [f20, f21, f22, f23, f24, f25, f26, f27, f28, f29, f30, f31, f32, f33, f34, f35, f36, f37, f38, f39]
def fns2 : List FnL := [f40, f41, f42, f43, f44, f45, f46, f47, f48, f49, f50, f51, f52, f53, f54]
def cls : List ClL := [
  { name := "Frac", flds := [0, 1], init := some 4, meths := [(1, 5), (2, 6), (3, 7), (0, 8), (6, 9), (7, 10), (8, 11)] },
  { name := "Offers", flds := [2], init := some 18, meths := [(4, 19), (0, 20)] }]
def gs0 : List (PySem.Str × Gk) := [
  ("is_integer", .fn 0 1 []),
  ("is_between", .fn 1 3 []),
  ("is_sequence", .fn 2 1 []),
  ("integer_told", .fn 3 1 []),
  ("as_frac", .fn 12 1 []),
  ("greatest_of", .fn 13 1 []),
  ("total", .fn 14 1 []),
  ("is_amount", .fn 15 1 []),
  ("is_shown", .fn 16 1 []),
  ("is_offer", .fn 17 1 []),
  ("shown_shares", .fn 21 1 []),
  ("row_before", .fn 22 3 []),
  ("turn_rows", .fn 23 2 []),
  ("turn_worth", .fn 24 2 []),
  ("worths_shown", .fn 25 1 []),
  ("mean_at_least", .fn 26 3 []),
  ("seer_worth", .fn 27 2 []),
  ("steady_worth", .fn 28 2 []),
  ("steady_threshold", .fn 29 1 []),
  ("seer_quotient", .fn 30 2 []),
  ("_law_bag", .fnN 31 1 []),
  ("_law_draw", .fn 32 2 [0]),
  ("_law_gcd", .fn 33 2 []),
  ("_law_low", .fn 34 1 []),
  ("_law_plus", .fn 35 2 []),
  ("_law_minus", .fn 36 2 []),
  ("_law_times", .fn 37 2 []),
  ("_law_over", .fn 38 2 []),
  ("_law_below", .fn 39 2 []),
  ("_law_equal", .fn 40 2 [])]
def gs1 : List (PySem.Str × Gk) := [
  ("_law_greater", .fn 41 2 []),
  ("_law_pair", .fn 42 1 []),
  ("_law_pairs", .fn 43 2 []),
  ("_law_is", .fn 44 2 []),
  ("_law_offer", .fn 45 1 [0]),
  ("_law_offered", .fn 46 2 [0]),
  ("_law_turns", .fn 47 2 []),
  ("_law_frac", .fn 48 1 []),
  ("_law_ways", .fn 49 1 []),
  ("_law_top", .fn 50 2 []),
  ("_law_seer", .fn 51 2 []),
  ("_law_steady", .fn 52 2 []),
  ("_law_nothing", .fn 53 1 [0]),
  ("law", .fn 54 1 []),
  ("Frac", .mk 0 4 3),
  ("Offers", .mk 1 18 2),
  ("len", .bi .len),
  ("int", .bi .int),
  ("abs", .bi .abs),
  ("sum", .bi .sum),
  ("min", .bi .min),
  ("all", .bi .all),
  ("tuple", .bi .tuple),
  ("str", .bi .str),
  ("isinstance", .isi),
  ("list", .lst),
  ("bool", .ty 1),
  ("range", .rng),
  ("enumerate", .enu),
  ("reversed", .rev)]
def gs2 : List (PySem.Str × Gk) := [
  ("gcd", .bi .gcd),
  ("DIGITS", .cst (.str "0123456789")),
  ("MOST_OVER", .cst (.int (9999))),
  ("MOST_UNDER", .cst (.int (99))),
  ("MOST_OFFERS", .cst (.int (8))),
  ("MOST_SHOWN", .cst (.int (6))),
  ("MOST_SHOWN_WEIGHT", .cst (.int (99)))]
def L : LawD := { nm := ["num", "den", "rows"], mn := ["__eq__", "__add__", "__sub__", "__mul__", "__len__", "__contains__", "is_below", "divided_by", "text"], fns := fns0 ++ fns1 ++ fns2, cls := cls, gs := gs0 ++ gs1 ++ gs2 }
theorem bd0 : Bind1 f0 := bind0 rfl rfl fun _ _ _ _ _ _ us hl => match us, hl with | [_], _ => rfl
theorem bd1 : Bind1 f1 := bind0 rfl rfl fun _ _ _ _ _ _ us hl => match us, hl with | [_, _, _], _ => rfl
theorem bd2 : Bind1 f2 := bind0 rfl rfl fun _ _ _ _ _ _ us hl => match us, hl with | [_], _ => rfl
theorem bd3 : Bind1 f3 := bind0 rfl rfl fun _ _ _ _ _ _ us hl => match us, hl with | [_], _ => rfl
theorem bd4 : Bind1 f4 := bindM (by simp [f4, mkF]) fun j hj => match j, hj with
  | 0, _ => ⟨2, rfl, fun _ _ _ _ _ _ _ us its l1 l2 => match us, l1, its, l2 with | [_, _], _, [_], _ => ⟨_, rfl, rfl⟩⟩
  | 1, _ => ⟨3, rfl, fun _ _ _ _ _ _ _ us its l1 l2 => match us, l1, its, l2 with | [_, _, _], _, [_], _ => ⟨_, rfl, rfl⟩⟩
theorem bd5 : Bind1 f5 := bind0 rfl rfl fun _ _ _ _ _ _ us hl => match us, hl with | [_, _], _ => rfl
theorem bd6 : Bind1 f6 := bind0 rfl rfl fun _ _ _ _ _ _ us hl => match us, hl with | [_, _], _ => rfl
theorem bd7 : Bind1 f7 := bind0 rfl rfl fun _ _ _ _ _ _ us hl => match us, hl with | [_, _], _ => rfl
theorem bd8 : Bind1 f8 := bind0 rfl rfl fun _ _ _ _ _ _ us hl => match us, hl with | [_, _], _ => rfl
theorem bd9 : Bind1 f9 := bind0 rfl rfl fun _ _ _ _ _ _ us hl => match us, hl with | [_, _], _ => rfl
theorem bd10 : Bind1 f10 := bind0 rfl rfl fun _ _ _ _ _ _ us hl => match us, hl with | [_, _], _ => rfl
theorem bd11 : Bind1 f11 := bind0 rfl rfl fun _ _ _ _ _ _ us hl => match us, hl with | [_], _ => rfl
theorem bd12 : Bind1 f12 := bind0 rfl rfl fun _ _ _ _ _ _ us hl => match us, hl with | [_], _ => rfl
theorem bd13 : Bind1 f13 := bind0 rfl rfl fun _ _ _ _ _ _ us hl => match us, hl with | [_], _ => rfl
theorem bd14 : Bind1 f14 := bind0 rfl rfl fun _ _ _ _ _ _ us hl => match us, hl with | [_], _ => rfl
theorem bd15 : Bind1 f15 := bind0 rfl rfl fun _ _ _ _ _ _ us hl => match us, hl with | [_], _ => rfl
theorem bd16 : Bind1 f16 := bind0 rfl rfl fun _ _ _ _ _ _ us hl => match us, hl with | [_], _ => rfl
theorem bd17 : Bind1 f17 := bind0 rfl rfl fun _ _ _ _ _ _ us hl => match us, hl with | [_], _ => rfl
theorem bd18 : Bind1 f18 := bind0 rfl rfl fun _ _ _ _ _ _ us hl => match us, hl with | [_, _], _ => rfl
theorem bd19 : Bind1 f19 := bind0 rfl rfl fun _ _ _ _ _ _ us hl => match us, hl with | [_], _ => rfl
theorem bd20 : Bind1 f20 := bind0 rfl rfl fun _ _ _ _ _ _ us hl => match us, hl with | [_, _], _ => rfl
theorem bd21 : Bind1 f21 := bind0 rfl rfl fun _ _ _ _ _ _ us hl => match us, hl with | [_], _ => rfl
theorem bd22 : Bind1 f22 := bind0 rfl rfl fun _ _ _ _ _ _ us hl => match us, hl with | [_, _, _], _ => rfl
theorem bd23 : Bind1 f23 := bind0 rfl rfl fun _ _ _ _ _ _ us hl => match us, hl with | [_, _], _ => rfl
theorem bd24 : Bind1 f24 := bind0 rfl rfl fun _ _ _ _ _ _ us hl => match us, hl with | [_, _], _ => rfl
theorem bd25 : Bind1 f25 := bind0 rfl rfl fun _ _ _ _ _ _ us hl => match us, hl with | [_], _ => rfl
theorem bd26 : Bind1 f26 := bind0 rfl rfl fun _ _ _ _ _ _ us hl => match us, hl with | [_, _, _], _ => rfl
theorem bd27 : Bind1 f27 := bind0 rfl rfl fun _ _ _ _ _ _ us hl => match us, hl with | [_, _], _ => rfl
theorem bd28 : Bind1 f28 := bind0 rfl rfl fun _ _ _ _ _ _ us hl => match us, hl with | [_, _], _ => rfl
theorem bd29 : Bind1 f29 := bind0 rfl rfl fun _ _ _ _ _ _ us hl => match us, hl with | [_], _ => rfl
theorem bd30 : Bind1 f30 := bind0 rfl rfl fun _ _ _ _ _ _ us hl => match us, hl with | [_, _], _ => rfl
theorem bd31 : Bind1 f31 := bind0 rfl rfl fun _ _ _ _ _ _ us hl => match us, hl with | [_], _ => rfl
theorem bd32 : Bind1 f32 := bind0 rfl rfl fun _ _ _ _ _ _ us hl => match us, hl with | [_, _], _ => rfl
theorem bd33 : Bind1 f33 := bind0 rfl rfl fun _ _ _ _ _ _ us hl => match us, hl with | [_, _], _ => rfl
theorem bd34 : Bind1 f34 := bind0 rfl rfl fun _ _ _ _ _ _ us hl => match us, hl with | [_], _ => rfl
theorem bd35 : Bind1 f35 := bind0 rfl rfl fun _ _ _ _ _ _ us hl => match us, hl with | [_, _], _ => rfl
theorem bd36 : Bind1 f36 := bind0 rfl rfl fun _ _ _ _ _ _ us hl => match us, hl with | [_, _], _ => rfl
theorem bd37 : Bind1 f37 := bind0 rfl rfl fun _ _ _ _ _ _ us hl => match us, hl with | [_, _], _ => rfl
theorem bd38 : Bind1 f38 := bind0 rfl rfl fun _ _ _ _ _ _ us hl => match us, hl with | [_, _], _ => rfl
theorem bd39 : Bind1 f39 := bind0 rfl rfl fun _ _ _ _ _ _ us hl => match us, hl with | [_, _], _ => rfl
theorem bd40 : Bind1 f40 := bind0 rfl rfl fun _ _ _ _ _ _ us hl => match us, hl with | [_, _], _ => rfl
theorem bd41 : Bind1 f41 := bind0 rfl rfl fun _ _ _ _ _ _ us hl => match us, hl with | [_, _], _ => rfl
theorem bd42 : Bind1 f42 := bind0 rfl rfl fun _ _ _ _ _ _ us hl => match us, hl with | [_], _ => rfl
theorem bd43 : Bind1 f43 := bind0 rfl rfl fun _ _ _ _ _ _ us hl => match us, hl with | [_, _], _ => rfl
theorem bd44 : Bind1 f44 := bind0 rfl rfl fun _ _ _ _ _ _ us hl => match us, hl with | [_, _], _ => rfl
theorem bd45 : Bind1 f45 := bind0 rfl rfl fun _ _ _ _ _ _ us hl => match us, hl with | [_], _ => rfl
theorem bd46 : Bind1 f46 := bind0 rfl rfl fun _ _ _ _ _ _ us hl => match us, hl with | [_, _], _ => rfl
theorem bd47 : Bind1 f47 := bind0 rfl rfl fun _ _ _ _ _ _ us hl => match us, hl with | [_, _], _ => rfl
theorem bd48 : Bind1 f48 := bind0 rfl rfl fun _ _ _ _ _ _ us hl => match us, hl with | [_], _ => rfl
theorem bd49 : Bind1 f49 := bind0 rfl rfl fun _ _ _ _ _ _ us hl => match us, hl with | [_], _ => rfl
theorem bd50 : Bind1 f50 := bind0 rfl rfl fun _ _ _ _ _ _ us hl => match us, hl with | [_, _], _ => rfl
theorem bd51 : Bind1 f51 := bind0 rfl rfl fun _ _ _ _ _ _ us hl => match us, hl with | [_, _], _ => rfl
theorem bd52 : Bind1 f52 := bind0 rfl rfl fun _ _ _ _ _ _ us hl => match us, hl with | [_, _], _ => rfl
theorem bd53 : Bind1 f53 := bind0 rfl rfl fun _ _ _ _ _ _ us hl => match us, hl with | [_], _ => rfl
theorem bd54 : Bind1 f54 := bind0 rfl rfl fun _ _ _ _ _ _ us hl => match us, hl with | [_], _ => rfl
theorem bindOk : BindOk L := bindOk_of ((show AllBd fns0 from ⟨bd0, bd1, bd2, bd3, bd4, bd5, bd6, bd7, bd8, bd9, bd10, bd11, bd12, bd13, bd14, bd15, bd16, bd17, bd18, bd19, True.intro⟩).append ((show AllBd fns1 from ⟨bd20, bd21, bd22, bd23, bd24, bd25, bd26, bd27, bd28, bd29, bd30, bd31, bd32, bd33, bd34, bd35, bd36, bd37, bd38, bd39, True.intro⟩).append ((show AllBd fns2 from ⟨bd40, bd41, bd42, bd43, bd44, bd45, bd46, bd47, bd48, bd49, bd50, bd51, bd52, bd53, bd54, True.intro⟩))))
theorem dflOk : DflOk L := dflOk_of rfl
end LW
end

section
set_option Elab.async false
set_option linter.all false
set_option maxRecDepth 100000
set_option maxHeartbeats 0
namespace LW.Hd
open LW PySem PySem.W PySem.Calls PySem.Spec PyProof.Rows L2 RF
def loose0 : List PySem.Str := ["NextError", "InvalidFraction", "InvalidProject", "WrongSize", "DIGITS", "is_integer", "is_between", "is_sequence", "integer_told", "Frac", "as_frac", "greatest_of"]
def loose1 : List PySem.Str := ["total", "MOST_OVER", "MOST_UNDER", "is_amount", "MOST_OFFERS", "MOST_SHOWN", "MOST_SHOWN_WEIGHT", "is_shown", "is_offer", "Offers", "shown_shares", "row_before"]
def loose2 : List PySem.Str := ["turn_rows", "turn_worth", "worths_shown", "mean_at_least", "seer_worth", "steady_worth", "steady_threshold", "seer_quotient", "_law_bag", "_law_draw", "_law_gcd", "_law_low"]
def loose3 : List PySem.Str := ["_law_plus", "_law_minus", "_law_times", "_law_over", "_law_below", "_law_equal", "_law_greater", "_law_pair", "_law_pairs", "_law_is", "_law_offer", "_law_offered"]
def loose4 : List PySem.Str := ["_law_turns", "_law_frac", "_law_ways", "_law_top", "_law_seer", "_law_steady", "_law_nothing"]
def loose : List PySem.Str := loose0 ++ loose1 ++ loose2 ++ loose3 ++ loose4
abbrev R : PySem.W.OpenRow := PySem.W.OpenLaw.row PySem.Challenge.rw_nextprices_k69_whole_half_of_the_seer
abbrev hk : PySem.W.Hook := hookL 8 L
def frO (s : PySem.W.SharedT) : PySem.W.Frag := He.frG (HandSHeadRun.getT s) (He.asD (HandSHeadRun.getT s) 8)
def ob (s : PySem.W.SharedT) : AlL := ((lawK L (frO s) && L.gs.all (gkB L (frO s)) && L.fns.all fun d => d.d.ok (frO s)), L.fns.map fun d => He.fnW (frO s) d.d.at_)
theorem ob_eq (s : PySem.W.SharedT) : ob s = hk.obs s.abs := (show ob s = obsLG 8 L (HandSHeadRun.getT s) by unfold ob obsLG obsL RF.allB frO; rfl).trans (obsLG_eq (HandSHeadRun.getT_eq s))
abbrev vw : Program := PySem.W.view R.prog [0, 61]
noncomputable abbrev R0 (w : World) := HandSHeadRun.wholeF (fun p => HandSHeadRun.stepQ (HandSHeadRun.denQ HandSHeadRun.tabQ) p w) HandSHeadRun.fenceQ 4000 R.prog
theorem runA (w : World) : (R0 w).map (fun x => (HandSHeadRun.looksF R.prog x.1.heap x.2.abs, HandSHeadRun.seenQ vw loose (importedModules R.prog.main.body) (fun s => xlAt vw [] s && recOk R.toRowW.records s) x.2.abs)) = some (true, openGood vw loose) := by
  kernel_rfl
theorem runB (w : World) : (R0 w).map (fun x => (lawK L (frO x.2) && L.gs.all (gkB L (frO x.2)))) = some true := by
  kernel_rfl
theorem runC (w : World) : (R0 w).map (fun x => ((L.fns.all fun d => d.d.ok (frO x.2)), L.fns.map fun d => He.fnW (frO x.2) d.d.at_)) = some (valL L) := by
  kernel_rfl
theorem joinR {σ A B V : Type} {o : Option σ} {f : σ → A} {g : σ → B} {k l : σ → Bool} {v : σ → V} {a : A} {b : B} {c : V} (h1 : o.map (fun x => (f x, g x)) = some (a, b)) (h2 : o.map k = some true) (h3 : o.map (fun x => (l x, v x)) = some (true, c)) : o.map (fun x => (f x, g x, (k x && l x, v x))) = some (a, b, (true, c)) := by
  cases o with
  | none => cases h1
  | some x =>
    have e1 := Prod.ext_iff.mp (Option.some.inj h1)
    have e2 := Option.some.inj h2
    have e3 := Prod.ext_iff.mp (Option.some.inj h3)
    dsimp only at e1 e2 e3
    show some (f x, g x, (k x && l x, v x)) = _
    rw [e1.1, e1.2, e2, e3.1, e3.2]; rfl
theorem run0 (w : World) : (R0 w).map (fun x => (HandSHeadRun.looksF R.prog x.1.heap x.2.abs, HandSHeadRun.seenQ vw loose (importedModules R.prog.main.body) (fun s => xlAt vw [] s && recOk R.toRowW.records s) x.2.abs, ob x.2)) = some (true, openGood vw loose, valL L) := by
  unfold ob valL
  exact joinR (runA w) (runB w) (runC w)
theorem run (w : World) : HandSHeadRun.RunEqI R vw hk ob 4000 loose w := run0 w
end LW.Hd
end

section
set_option Elab.async false
set_option linter.all false
set_option maxRecDepth 100000
set_option maxHeartbeats 0
open PySem PySem.W PySem.Calls PyProof.Rows
theorem LW.theEnd (hv : ∀ ns : List Int, ns.length ≤ 63 → ∃ outs, RF.callN LW.L.T LW.L.fs 20 54 [.sh (.scr (ns.map .int))] = .ok (.bl true) outs) : PySem.Challenge.rw_nextprices_k69_whole_half_of_the_seer.Holds := by
  w_on; o_law
  refine HandSHeadRun.head_imp (r := OpenLaw.row PySem.Challenge.rw_nextprices_k69_whole_half_of_the_seer) (q := LW.Hd.vw) (H := LW.Hd.hk) (ob := LW.Hd.ob) (M := 4000) (loose := LW.Hd.loose) (d := HandSHeadRun.topDef (OpenLaw.row PySem.Challenge.rw_nextprices_k69_whole_half_of_the_seer).prog 61) (kwd := []) LW.Hd.ob_eq LW.Hd.run
    (by kernel_rfl) (by kernel_rfl) (by kernel_rfl) (by rfl) (by first | assumption | decide +kernel) (by decide +kernel) ⟨rfl, rfl, rfl, rfl, rfl, by decide +kernel⟩ ?hw ?hc
  case hw => w_witness2
  case hc =>
    refine RF.walkL (l := PySem.Challenge.rw_nextprices_k69_whole_half_of_the_seer) (n := 63) (k := 9 * 20) (x := "script") (CX := fun w => L2N.CX (PySem.Challenge.rw_nextprices_k69_whole_half_of_the_seer).prog w) rfl (by decide) (by kernel_rfl) ⟨rfl, by decide, by decide⟩ ?F (fun w H s e s' => RF.noCX)
    intro w mg fa h Y G hmg0
    have hmg : mg ("law" : PySem.Str) = some (.ref fa) := by
      have e : (HandSHeadRun.topDef (OpenLaw.row PySem.Challenge.rw_nextprices_k69_whole_half_of_the_seer).prog 61).name = ("law" : PySem.Str) := by kernel_rfl
      rw [← e]
      exact hmg0
    exact RF.law_F (L := LW.L) (lv := 20) (lf := 54) (d := LW.f54) (nS := 63) (by decide +kernel) (by decide +kernel) LW.bindOk LW.dflOk rfl rfl rfl (List.mem_of_getElem? (i := 43) rfl) (fun K fd F s u => L2.FunD.bindsA (ps := ["script"]) F (fun _ _ _ _ _ _ us hl => match us, hl with | [_], _ => rfl) s [u] rfl) hv w mg fa h Y G hmg
end

section
set_option linter.all false
set_option autoImplicit false
namespace VQ
/-! ### the fraction that the program makes of two integers -/
theorem gcd_pos {a b : Int} (hb : b ≠ 0) : 0 < Nat.gcd a.natAbs b.natAbs := Nat.gcd_pos_of_pos_right _ (Int.natAbs_pos.mpr hb)
theorem fd_num {a b : Int} (hb : b ≠ 0) : a.fdiv (if b < 0 then -((Nat.gcd a.natAbs b.natAbs : Nat) : Int) else ((Nat.gcd a.natAbs b.natAbs : Nat) : Int)) = (Rat.divInt a b).num := by
  have g := gcd_pos (a := a) hb
  rw [Rat.num_divInt]
  have e : b.gcd a = Nat.gcd a.natAbs b.natAbs := by rw [Int.gcd, Nat.gcd_comm]
  rw [e]
  generalize hg : Nat.gcd a.natAbs b.natAbs = n at *
  have da : (n : Int) ∣ a := Int.ofNat_dvd_left.mpr (hg ▸ Nat.gcd_dvd_left ..)
  obtain ⟨k, rfl⟩ := da
  have n0 : (n : Int) ≠ 0 := by omega
  by_cases h : b < 0
  · rw [if_pos h, Int.sign_eq_neg_one_of_neg h]
    rw [Int.fdiv_eq_ediv_of_dvd (by exact (Int.neg_dvd).mpr ⟨k, rfl⟩)]
    rw [Int.ediv_neg, Int.mul_ediv_cancel_left _ n0]
    rw [show (-1 : Int) * (n * k) = n * (-k) from by grind, Int.mul_ediv_cancel_left _ n0]
  · rw [if_neg h, Int.sign_eq_one_of_pos (by omega)]
    rw [Int.fdiv_eq_ediv_of_dvd ⟨k, rfl⟩, Int.one_mul]
theorem fd_den {a b : Int} (hb : b ≠ 0) : b.fdiv (if b < 0 then -((Nat.gcd a.natAbs b.natAbs : Nat) : Int) else ((Nat.gcd a.natAbs b.natAbs : Nat) : Int)) = ((Rat.divInt a b).den : Int) := by
  have g := gcd_pos (a := a) hb
  rw [Rat.den_divInt, if_neg hb]
  have e : b.gcd a = Nat.gcd a.natAbs b.natAbs := by rw [Int.gcd, Nat.gcd_comm]
  rw [e]
  generalize hg : Nat.gcd a.natAbs b.natAbs = n at *
  have db : (n : Int) ∣ b := Int.ofNat_dvd_left.mpr (hg ▸ Nat.gcd_dvd_right ..)
  obtain ⟨k, rfl⟩ := db
  have n0 : (n : Int) ≠ 0 := by omega
  have hk : ((n : Int) * k).natAbs / n = k.natAbs := by
    rw [Int.natAbs_mul, Int.natAbs_natCast, Nat.mul_div_cancel_left _ g]
  rw [hk]
  by_cases h : (n : Int) * k < 0
  · rw [if_pos h]
    rw [Int.fdiv_eq_ediv_of_dvd (by exact (Int.neg_dvd).mpr ⟨k, rfl⟩)]
    rw [Int.ediv_neg, Int.mul_ediv_cancel_left _ n0]
    have : k < 0 := by
      by_cases z : k < 0
      · exact z
      · exfalso
        have := Int.mul_nonneg (show (0 : Int) ≤ n by omega) (show 0 ≤ k by omega)
        omega
    omega
  · rw [if_neg h]
    rw [Int.fdiv_eq_ediv_of_dvd ⟨k, rfl⟩, Int.mul_ediv_cancel_left _ n0]
    have : 0 ≤ k := by
      by_cases z : k < 0
      · exfalso
        have := Int.mul_neg_of_pos_of_neg (show (0 : Int) < n by omega) z
        omega
      · omega
    omega
theorem div_add (p q : Rat) : Rat.divInt (p.num * q.den + q.num * p.den) ((p.den : Int) * q.den) = p + q := by
  have hp : ((p.den : Int)) ≠ 0 := by exact_mod_cast p.den_nz
  have hq : ((q.den : Int)) ≠ 0 := by exact_mod_cast q.den_nz
  rw [← Rat.divInt_add_divInt _ _ hp hq, Rat.num_divInt_den, Rat.num_divInt_den]
theorem div_sub (p q : Rat) : Rat.divInt (p.num * q.den - q.num * p.den) ((p.den : Int) * q.den) = p - q := by
  have hp : ((p.den : Int)) ≠ 0 := by exact_mod_cast p.den_nz
  have hq : ((q.den : Int)) ≠ 0 := by exact_mod_cast q.den_nz
  rw [← Rat.divInt_sub_divInt _ _ hp hq, Rat.num_divInt_den, Rat.num_divInt_den]
theorem div_mul (p q : Rat) : Rat.divInt (p.num * q.num) ((p.den : Int) * q.den) = p * q := by
  rw [← Rat.divInt_mul_divInt, Rat.num_divInt_den, Rat.num_divInt_den]
theorem div_div (p q : Rat) : Rat.divInt (p.num * q.den) ((p.den : Int) * q.num) = p / q := by
  rw [← Rat.divInt_mul_divInt, Rat.num_divInt_den, ← Rat.inv_divInt, Rat.num_divInt_den, Rat.div_def]
theorem div_int (a : Int) : Rat.divInt a 1 = (a : Rat) := by
  rw [Rat.divInt_eq_div]; simp; grind
theorem den_pos (q : Rat) : 0 < (q.den : Int) := by have := q.den_nz; omega
/-! ### bounds: multiples of 1/D whose numerator over D is at most N -/
def Qn (D N : Nat) (q : Rat) : Prop := ∃ k : Int, q * (D : Rat) = (k : Rat) ∧ k.natAbs ≤ N
theorem Qn.add {D N M : Nat} {p q : Rat} (h : Qn D N p) (g : Qn D M q) : Qn D (N + M) (p + q) := by
  obtain ⟨a, h1, h2⟩ := h
  obtain ⟨b, g1, g2⟩ := g
  refine ⟨a + b, ?_, by omega⟩
  rw [Rat.add_mul, h1, g1, Rat.intCast_add]
theorem Qn.sub {D N M : Nat} {p q : Rat} (h : Qn D N p) (g : Qn D M q) : Qn D (N + M) (p - q) := by
  obtain ⟨a, h1, h2⟩ := h
  obtain ⟨b, g1, g2⟩ := g
  refine ⟨a - b, ?_, by omega⟩
  rw [Rat.intCast_sub, ← h1, ← g1]; grind
theorem Qn.mul {D E N M : Nat} {p q : Rat} (h : Qn D N p) (g : Qn E M q) : Qn (D * E) (N * M) (p * q) := by
  obtain ⟨a, h1, h2⟩ := h
  obtain ⟨b, g1, g2⟩ := g
  refine ⟨a * b, ?_, ?_⟩
  · rw [Rat.intCast_mul, ← h1, ← g1, Rat.natCast_mul]; grind
  · rw [Int.natAbs_mul]; exact Nat.mul_le_mul h2 g2
theorem Qn.mono {D N M : Nat} {p : Rat} (h : Qn D N p) (g : N ≤ M) : Qn D M p := let ⟨a, h1, h2⟩ := h; ⟨a, h1, by omega⟩
theorem Qn.up {D N : Nat} {p : Rat} (E : Nat) (h : Qn D N p) : Qn (D * E) (N * E) p := by
  obtain ⟨a, h1, h2⟩ := h
  refine ⟨a * (E : Nat), ?_, ?_⟩
  · rw [Rat.intCast_mul, ← h1, Rat.natCast_mul, Rat.intCast_natCast]; grind
  · rw [Int.natAbs_mul]; exact Nat.mul_le_mul h2 (by simp)
theorem Qn.int {N : Nat} {a : Int} (h : a.natAbs ≤ N) : Qn 1 N (a : Rat) := ⟨a, by simp, h⟩
theorem Qn.divI {a b : Int} {N : Nat} (hb : 0 < b) (h : a.natAbs ≤ N) : Qn b.toNat N (Rat.divInt a b) := by
  refine ⟨a, ?_, h⟩
  rw [Rat.divInt_eq_div]
  have : ((b.toNat : Nat) : Rat) = (b : Rat) := by
    have e : ((b.toNat : Nat) : Int) = b := by omega
    rw [← Rat.intCast_natCast, e]
  rw [this]
  exact Rat.div_mul_cancel (by have := Rat.intCast_pos.mpr hb; grind)
theorem dvd_of_mul {q : Rat} {D : Nat} {k : Int} (h : q * (D : Rat) = (k : Rat)) : q.den ∣ D ∧ (D ≠ 0 → q.num.natAbs ≤ k.natAbs) := by
  have e : q.num * D = k * q.den := by
    have h2 : q = (q.num : Rat) / (q.den : Rat) := by
      have := Rat.num_divInt_den q
      rw [Rat.divInt_eq_div] at this
      rw [Rat.intCast_natCast] at this
      exact this.symm
    have hd : (q.den : Rat) ≠ 0 := by
      have := q.den_nz
      have : 0 < (q.den : Rat) := Rat.natCast_pos.mpr (by omega)
      grind
    have : (q.num : Rat) * (D : Rat) = (k : Rat) * (q.den : Rat) := by
      rw [← h]
      have h3 : q * (q.den : Rat) = (q.num : Rat) := (congrArg (· * (q.den : Rat)) h2).trans (Rat.div_mul_cancel hd)
      rw [← h3]; grind
    have := this
    rw [← Rat.intCast_natCast, ← Rat.intCast_natCast, ← Rat.intCast_mul, ← Rat.intCast_mul] at this
    exact Rat.intCast_inj.mp this
  have e2 : q.num.natAbs * D = k.natAbs * q.den := by
    have := congrArg Int.natAbs e
    simpa [Int.natAbs_mul] using this
  have c := q.reduced
  refine ⟨?_, fun hD => ?_⟩
  · exact Nat.Coprime.dvd_of_dvd_mul_left (Nat.Coprime.symm c) ⟨k.natAbs, by rw [e2, Nat.mul_comm]⟩
  · have hd : q.num.natAbs ∣ k.natAbs := Nat.Coprime.dvd_of_dvd_mul_right c ⟨D, e2.symm⟩
    by_cases z : k.natAbs = 0
    · rw [z, Nat.zero_mul] at e2
      rcases Nat.mul_eq_zero.mp e2 with h | h
      · omega
      · exact absurd h hD
    · exact Nat.le_of_dvd (by omega) hd
theorem Qn.den {D N : Nat} {q : Rat} (h : Qn D N q) (hD : D ≠ 0) : q.den ≤ D := Nat.le_of_dvd (by omega) (dvd_of_mul h.choose_spec.1).1
theorem Qn.num {D N : Nat} {q : Rat} (h : Qn D N q) (hD : D ≠ 0) : q.num.natAbs ≤ N := Nat.le_trans ((dvd_of_mul h.choose_spec.1).2 hD) h.choose_spec.2
/-- small enough to be reckoned with -/
def Sm (q : Rat) : Prop := q.num.natAbs.log2 ≤ 4000 ∧ q.den.log2 ≤ 4000
theorem log2_mono {a b : Nat} (h : a ≤ b) : a.log2 ≤ b.log2 := by
  by_cases z : a = 0
  · subst z; simp
  · exact (Nat.le_log2 (by omega)).mpr (Nat.le_trans (Nat.log2_self_le z) h)
theorem Qn.sm {D N : Nat} {q : Rat} (h : Qn D N q) (hD : D ≠ 0) (h1 : D.log2 ≤ 4000) (h2 : N.log2 ≤ 4000) : Sm q :=
  ⟨Nat.le_trans (log2_mono (h.num hD)) h2, Nat.le_trans (log2_mono (h.den hD)) h1⟩
theorem log2_mul (a b : Nat) : (a * b).log2 ≤ a.log2 + b.log2 + 1 := by
  by_cases ha : a = 0
  · subst ha; simp
  by_cases hb : b = 0
  · subst hb; simp
  have h1 : a < 2 ^ (a.log2 + 1) := Nat.lt_log2_self
  have h2 : b < 2 ^ (b.log2 + 1) := Nat.lt_log2_self
  have h3 : a * b < 2 ^ (a.log2 + 1 + (b.log2 + 1)) := by
    rw [Nat.pow_add]; exact Nat.mul_lt_mul'' h1 h2
  have := (Nat.log2_lt (by exact Nat.mul_ne_zero ha hb)).mpr h3
  omega
theorem gcd_small {a b : Int} {k : Nat} (hb : b ≠ 0) (h : b.natAbs.log2 < k) : (Nat.gcd a.natAbs b.natAbs).log2 < k :=
  Nat.lt_of_le_of_lt (log2_mono (Nat.le_of_dvd (Int.natAbs_pos.mpr hb) (Nat.gcd_dvd_right ..))) h
theorem den_ne (q : Rat) : (q.den : Int) ≠ 0 := by have := q.den_nz; omega
theorem dd_ne (p q : Rat) : (p.den : Int) * q.den ≠ 0 := Int.mul_ne_zero (den_ne p) (den_ne q)
theorem dd_small {p q : Rat} (hp : Sm p) (hq : Sm q) : ((p.den : Int) * q.den).natAbs.log2 < 9000 := by
  rw [Int.natAbs_mul]
  have := log2_mul (p.den : Int).natAbs (q.den : Int).natAbs
  have h1 := hp.2; have h2 := hq.2
  simp only [Int.natAbs_natCast] at this ⊢
  omega
theorem dn_small {p q : Rat} (hp : Sm p) (hq : Sm q) : ((p.den : Int) * q.num).natAbs.log2 < 9000 := by
  rw [Int.natAbs_mul]
  have := log2_mul (p.den : Int).natAbs q.num.natAbs
  have h1 := hp.2; have h2 := hq.1
  simp only [Int.natAbs_natCast] at this ⊢
  omega
theorem sm_int {a : Int} (h : a.natAbs.log2 ≤ 4000) : Sm (a : Rat) := ⟨h, by show Nat.log2 1 ≤ 4000; decide⟩
theorem frac_eq (p q : Rat) : (p.num = q.num ∧ (p.den : Int) = q.den) ↔ p = q := by
  constructor
  · rintro ⟨h1, h2⟩
    exact Rat.ext h1 (by omega)
  · rintro rfl; exact ⟨rfl, rfl⟩
/-! sums, greatest ones -/
def sumR (qs : List Rat) : Rat := qs.foldl (· + ·) 0
theorem sumR_from (qs : List Rat) : ∀ a : Rat, qs.foldl (· + ·) a = a + sumR qs := by
  induction qs with
  | nil => intro a; simp [sumR, Rat.add_zero]
  | cons q r ih =>
    intro a
    unfold sumR
    rw [List.foldl_cons, List.foldl_cons, ih, ih (0 + q), Rat.zero_add, Rat.add_assoc]
@[simp] theorem sumR_nil : sumR [] = 0 := rfl
@[simp] theorem sumR_cons (q : Rat) (r : List Rat) : sumR (q :: r) = q + sumR r := by
  unfold sumR; rw [List.foldl_cons, sumR_from, Rat.zero_add]; rfl
theorem sumR_append (a b : List Rat) : sumR (a ++ b) = sumR a + sumR b := by
  induction a with
  | nil => simp [Rat.zero_add]
  | cons q r ih => rw [List.cons_append, sumR_cons, sumR_cons, ih, Rat.add_assoc]
theorem Qn.sum {D N : Nat} : ∀ {qs : List Rat}, (∀ q ∈ qs, Qn D N q) → Qn D (qs.length * N) (sumR qs)
  | [], _ => ⟨0, by simp, by simp⟩
  | q :: r, h => by
    rw [sumR_cons, List.length_cons, Nat.succ_mul, Nat.add_comm]
    exact (h q List.mem_cons_self).add (Qn.sum fun x hx => h x (List.mem_cons_of_mem _ hx))
def gmax (a : Rat) (qs : List Rat) : Rat := qs.foldl (fun f o => if f < o then o else f) a
end VQ
end

section
set_option linter.all false
set_option autoImplicit false
namespace VQ
/-! pairs of integers as fractions, not in lowest terms -/
abbrev Pr : Type := Int × Int
def PB (d e : Nat) (p : Pr) (q : Rat) : Prop := 0 < p.2 ∧ p.2.natAbs ≤ 2 ^ d ∧ p.1.natAbs ≤ 2 ^ e ∧ (p.1 : Rat) = q * (p.2 : Rat)
def plusP (x y : Pr) : Pr := (x.1 * y.2 + y.1 * x.2, x.2 * y.2)
def minusP (x y : Pr) : Pr := (x.1 * y.2 - y.1 * x.2, x.2 * y.2)
def timesP (x y : Pr) : Pr := (x.1 * y.1, x.2 * y.2)
def lowP (q : Rat) : Pr := (q.num, (q.den : Int))
theorem pow_le {a b : Nat} (h : a ≤ b) : 2 ^ a ≤ 2 ^ b := Nat.pow_le_pow_right (by decide) h
theorem mul_le2 {a b : Int} {d e : Nat} (h : a.natAbs ≤ 2 ^ d) (g : b.natAbs ≤ 2 ^ e) : (a * b).natAbs ≤ 2 ^ (d + e) := by
  rw [Int.natAbs_mul, Nat.pow_add]; exact Nat.mul_le_mul h g
theorem add_le2 {a b : Int} {d e f : Nat} (h : a.natAbs ≤ 2 ^ d) (g : b.natAbs ≤ 2 ^ e) (hd : d + 1 ≤ f) (he : e + 1 ≤ f) : (a + b).natAbs ≤ 2 ^ f ∧ (a - b).natAbs ≤ 2 ^ f := by
  have h1 := Nat.le_trans h (pow_le (show d ≤ f - 1 by omega))
  have h2 := Nat.le_trans g (pow_le (show e ≤ f - 1 by omega))
  have h3 : 2 ^ f = 2 ^ (f - 1) + 2 ^ (f - 1) := by
    have : f = (f - 1) + 1 := by omega
    conv => lhs; rw [this, Nat.pow_succ]
    omega
  constructor <;> omega
theorem log_of {a : Int} {d : Nat} (h : a.natAbs ≤ 2 ^ d) : a.natAbs.log2 ≤ d := Nat.le_trans (log2_mono h) (by rw [Nat.log2_two_pow]; exact Nat.le_refl _)
section
variable {d e d' e' : Nat} {p p' : Pr} {q q' : Rat}
theorem PB.pos (h : PB d e p q) : (0 : Rat) < (p.2 : Rat) := Rat.intCast_pos.mpr h.1
theorem PB.mono {D E : Nat} (h : PB d e p q) (hd : d ≤ D) (he : e ≤ E) : PB D E p q := ⟨h.1, Nat.le_trans h.2.1 (pow_le hd), Nat.le_trans h.2.2.1 (pow_le he), h.2.2.2⟩
theorem PB.plus {D E : Nat} (h : PB d e p q) (g : PB d' e' p' q') (h1 : d + d' ≤ D) (h2 : e + d' + 1 ≤ E) (h3 : e' + d + 1 ≤ E) : PB D E (plusP p p') (q + q') := by
  obtain ⟨a1, a2, a3, a4⟩ := h
  obtain ⟨b1, b2, b3, b4⟩ := g
  refine ⟨Int.mul_pos a1 b1, Nat.le_trans (mul_le2 a2 b2) (pow_le h1), (add_le2 (mul_le2 a3 b2) (mul_le2 b3 a2) h2 h3).1, ?_⟩
  show ((p.1 * p'.2 + p'.1 * p.2 : Int) : Rat) = (q + q') * ((p.2 * p'.2 : Int) : Rat)
  rw [Rat.intCast_add, Rat.intCast_mul, Rat.intCast_mul, Rat.intCast_mul, a4, b4]
  grind
theorem PB.minus {D E : Nat} (h : PB d e p q) (g : PB d' e' p' q') (h1 : d + d' ≤ D) (h2 : e + d' + 1 ≤ E) (h3 : e' + d + 1 ≤ E) : PB D E (minusP p p') (q - q') := by
  obtain ⟨a1, a2, a3, a4⟩ := h
  obtain ⟨b1, b2, b3, b4⟩ := g
  refine ⟨Int.mul_pos a1 b1, Nat.le_trans (mul_le2 a2 b2) (pow_le h1), (add_le2 (mul_le2 a3 b2) (mul_le2 b3 a2) h2 h3).2, ?_⟩
  show ((p.1 * p'.2 - p'.1 * p.2 : Int) : Rat) = (q - q') * ((p.2 * p'.2 : Int) : Rat)
  rw [Rat.intCast_sub, Rat.intCast_mul, Rat.intCast_mul, Rat.intCast_mul, a4, b4]
  grind
theorem PB.times {D E : Nat} (h : PB d e p q) (g : PB d' e' p' q') (h1 : d + d' ≤ D) (h2 : e + e' ≤ E) : PB D E (timesP p p') (q * q') := by
  obtain ⟨a1, a2, a3, a4⟩ := h
  obtain ⟨b1, b2, b3, b4⟩ := g
  refine ⟨Int.mul_pos a1 b1, Nat.le_trans (mul_le2 a2 b2) (pow_le h1), Nat.le_trans (mul_le2 a3 b3) (pow_le h2), ?_⟩
  show ((p.1 * p'.1 : Int) : Rat) = (q * q') * ((p.2 * p'.2 : Int) : Rat)
  rw [Rat.intCast_mul, Rat.intCast_mul, a4, b4]
  grind
theorem PB.below (h : PB d e p q) (g : PB d' e' p' q') : p.1 * p'.2 < p'.1 * p.2 ↔ q < q' := by
  have x := h.pos
  have y := g.pos
  rw [← Rat.intCast_lt_intCast, Rat.intCast_mul, Rat.intCast_mul, h.2.2.2, g.2.2.2]
  have e1 : q * (p.2 : Rat) * (p'.2 : Rat) = q * ((p.2 : Rat) * (p'.2 : Rat)) := by grind
  have e2 : q' * (p'.2 : Rat) * (p.2 : Rat) = q' * ((p.2 : Rat) * (p'.2 : Rat)) := by grind
  rw [e1, e2]
  exact Rat.mul_lt_mul_right (Rat.mul_pos x y)
theorem PB.same (h : PB d e p q) (g : PB d' e' p' q') : p.1 * p'.2 = p'.1 * p.2 ↔ q = q' := by
  have a := h.below g
  have b := g.below h
  constructor
  · intro z
    rcases (Rat.le_total : q ≤ q' ∨ q' ≤ q) with k | k
    · rcases Rat.le_iff_lt_or_eq.mp k with k | k
      · have := a.mpr k; omega
      · exact k
    · rcases Rat.le_iff_lt_or_eq.mp k with k | k
      · have := b.mpr k; omega
      · exact k.symm
  · intro z
    subst z
    have a1 : ¬ p.1 * p'.2 < p'.1 * p.2 := fun k => Rat.lt_irrefl (a.mp k)
    have b1 : ¬ p'.1 * p.2 < p.1 * p'.2 := fun k => Rat.lt_irrefl (b.mp k)
    omega
theorem PB.div (h : PB d e p q) : Rat.divInt p.1 p.2 = q := by
  rw [Rat.divInt_eq_div, h.2.2.2]
  exact Rat.mul_div_cancel (by have := h.pos; grind)
theorem PB.qn (h : PB d e p q) : Qn p.2.natAbs p.1.natAbs q := by
  refine ⟨p.1, ?_, Nat.le_refl _⟩
  have e1 : ((p.2.natAbs : Nat) : Rat) = (p.2 : Rat) := by
    have := h.1
    have e2 : ((p.2.natAbs : Nat) : Int) = p.2 := by omega
    rw [← Rat.intCast_natCast, e2]
  rw [e1]; exact h.2.2.2.symm
theorem PB.low (h : PB d e p q) : PB d e (lowP q) q := by
  have h1 := h.qn
  have h0 : p.2.natAbs ≠ 0 := by have := h.1; omega
  have hd := q.den_nz
  refine ⟨den_pos q, ?_, Nat.le_trans (h1.num h0) h.2.2.1, ?_⟩
  · show ((q.den : Int)).natAbs ≤ _
    rw [Int.natAbs_natCast]
    exact Nat.le_trans (h1.den h0) h.2.1
  · show (q.num : Rat) = q * ((q.den : Int) : Rat)
    rw [Rat.intCast_natCast]
    have h2 := Rat.num_divInt_den q
    rw [Rat.divInt_eq_div, Rat.intCast_natCast] at h2
    have hd2 : (q.den : Rat) ≠ 0 := by
      have : 0 < (q.den : Rat) := Rat.natCast_pos.mpr (by omega)
      grind
    conv => rhs; lhs; rw [← h2]
    exact (Rat.div_mul_cancel hd2).symm
end
theorem PB.int {a : Int} {e : Nat} (h : a.natAbs ≤ 2 ^ e) : PB 0 e (a, 1) (a : Rat) := ⟨Int.one_pos, Nat.le_refl _, h, by simp⟩
theorem PB.zero : PB 0 0 (0, 1) 0 := ⟨by decide, by decide, by decide, by simp⟩
theorem PB.ratio {a b : Int} {d e : Nat} (hb : 0 < b) (h1 : b.natAbs ≤ 2 ^ d) (h2 : a.natAbs ≤ 2 ^ e) : PB d e (a, b) (Rat.divInt a b) := by
  refine ⟨hb, h1, h2, ?_⟩
  rw [Rat.divInt_eq_div]
  exact (Rat.div_mul_cancel (by have := Rat.intCast_pos.mpr hb; grind)).symm
end VQ
end

section
set_option Elab.async false
set_option linter.all false
set_option autoImplicit false
/-! V0: words for reckoning with the meaning. -/
namespace RV
open RF
variable {T : Tb} {Φ : Fn} {α β : Type}
@[simp] theorem at_zero (s : S) (ρ : Env) : Env.at (s :: ρ) 0 = s := (rfl)
@[simp] theorem at_succ (s : S) (ρ : Env) (i : Nat) : Env.at (s :: ρ) (i + 1) = Env.at ρ i := (rfl)
@[simp] theorem bind_ok (a : α) (f : α → R β) : R.bind (.ok a) f = f a := (rfl)
@[simp] theorem bind_bad (f : α → R β) : R.bind .bad f = .bad := (rfl)
@[simp] theorem bind_exc (c : Nat) (es : List D) (ρ : Env) (f : α → R β) : R.bind (.exc c es ρ) f = .exc c es ρ := (rfl)
@[simp] theorem to_ok (a : α) (f : α → SR) : R.to (.ok a) f = f a := (rfl)
@[simp] theorem to_bad (f : α → SR) : R.to (.bad : R α) f = .bad := (rfl)
@[simp] theorem to_exc (c : Nat) (es : List D) (ρ : Env) (f : α → SR) : R.to (.exc c es ρ : R α) f = .exc c es ρ := (rfl)
@[simp] theorem seq_nx (ρ : Env) (f : Env → SR) : SR.seq (.nx ρ) f = f ρ := (rfl)
@[simp] theorem seq_ret (d : D) (ρ : Env) (f : Env → SR) : SR.seq (.ret d ρ) f = .ret d ρ := (rfl)
@[simp] theorem seq_bad (f : Env → SR) : SR.seq .bad f = .bad := (rfl)
@[simp] theorem seq_brk (ρ : Env) (f : Env → SR) : SR.seq (.brk ρ) f = .brk ρ := (rfl)
@[simp] theorem seq_cnt (ρ : Env) (f : Env → SR) : SR.seq (.cnt ρ) f = .cnt ρ := (rfl)
@[simp] theorem seq_exc (c : Nat) (es : List D) (ρ : Env) (f : Env → SR) : SR.seq (.exc c es ρ) f = .exc c es ρ := (rfl)
@[simp] theorem calm_ok (a : α) : R.calm (.ok a) = .ok a := (rfl)
theorem callN_succ {fs : Nat → Option Fd} {n f : Nat} {fd : Fd} {xs : List A} (h : fs f = some fd) (hl : xs.length = fd.pars) : callN T fs (n + 1) f xs = runF T (callN T fs n) fd xs := by
  show (match fs f with | none => FR.bad | some fd => if xs.length = fd.pars then runF T (callN T fs n) fd xs else .bad) = _
  rw [h]
  exact if_pos hl
theorem call_at {fs : Nat → Option Fd} {N k f : Nat} {fd : Fd} {xs : List A} {r : FR} (hN : k + 1 ≤ N) (h : fs f = some fd) (hl : xs.length = fd.pars) (q : ∀ n, k ≤ n → runF T (callN T fs n) fd xs = r) : callN T fs N f xs = r := by
  obtain ⟨n, rfl⟩ : ∃ n, N = n + 1 := ⟨N - 1, by omega⟩
  rw [callN_succ h hl]
  exact q n (by omega)

/-! what stands behind waits: W keeps f as it is -/
inductive Wt {α : Sort _} (f : α) : Type where | mk
def bindP (r : R α) (f : α → R β) (w : Wt f) : R β := R.bind r f
def toP (r : R α) (f : α → SR) (w : Wt f) : SR := R.to r f
def seqP (r : SR) (f : Env → SR) (w : Wt f) : SR := SR.seq r f
def calmP (r : R α) : R α := R.calm r
@[simp] theorem bindP_ok (a : α) (f : α → R β) (w : Wt f) : bindP (.ok a) f w = f a := (rfl)
@[simp] theorem bindP_bad (f : α → R β) (w : Wt f) : bindP .bad f w = .bad := (rfl)
@[simp] theorem bindP_exc (c : Nat) (es : List D) (ρ : Env) (f : α → R β) (w : Wt f) : bindP (.exc c es ρ) f w = .exc c es ρ := (rfl)
@[simp] theorem toP_ok (a : α) (f : α → SR) (w : Wt f) : toP (.ok a) f w = f a := (rfl)
@[simp] theorem toP_bad (f : α → SR) (w : Wt f) : toP .bad f w = .bad := (rfl)
@[simp] theorem toP_exc (c : Nat) (es : List D) (ρ : Env) (f : α → SR) (w : Wt f) : toP (.exc c es ρ) f w = .exc c es ρ := (rfl)
@[simp] theorem seqP_nx (ρ : Env) (f : Env → SR) (w : Wt f) : seqP (.nx ρ) f w = f ρ := (rfl)
@[simp] theorem seqP_ret (d : D) (ρ : Env) (f : Env → SR) (w : Wt f) : seqP (.ret d ρ) f w = .ret d ρ := (rfl)
@[simp] theorem seqP_bad (f : Env → SR) (w : Wt f) : seqP .bad f w = .bad := (rfl)
@[simp] theorem seqP_brk (ρ : Env) (f : Env → SR) (w : Wt f) : seqP (.brk ρ) f w = .brk ρ := (rfl)
@[simp] theorem seqP_cnt (ρ : Env) (f : Env → SR) (w : Wt f) : seqP (.cnt ρ) f w = .cnt ρ := (rfl)
@[simp] theorem seqP_exc (c : Nat) (es : List D) (ρ : Env) (f : Env → SR) (w : Wt f) : seqP (.exc c es ρ) f w = .exc c es ρ := (rfl)
@[simp] theorem seqP_retN (o : O) (ρ : Env) (f : Env → SR) (w : Wt f) : seqP (.retN o ρ) f w = .retN o ρ := (rfl)
@[simp] theorem seqP_ite (c : Prop) [Decidable c] (a b : SR) (f : Env → SR) (w : Wt f) : seqP (if c then a else b) f w = if c then seqP a f w else seqP b f w := by split <;> rfl
@[simp] theorem toP_ite (c : Prop) [Decidable c] (a b : R α) (f : α → SR) (w : Wt f) : toP (if c then a else b) f w = if c then toP a f w else toP b f w := by split <;> rfl
@[simp] theorem bindP_ite (c : Prop) [Decidable c] (a b : R α) (f : α → R β) (w : Wt f) : bindP (if c then a else b) f w = if c then bindP a f w else bindP b f w := by split <;> rfl
@[simp] theorem calmP_ok (a : α) : calmP (.ok a) = .ok a := (rfl)
/-- some: the value; none: bad -/
def optR (o : Option α) (ρ : Env) : R (α × Env) := match o with | some a => .ok (a, ρ) | none => .bad
@[simp] theorem optR_some (a : α) (ρ : Env) : optR (some a) ρ = .ok (a, ρ) := (rfl)
@[simp] theorem optR_none (ρ : Env) : optR (none : Option α) ρ = .bad := (rfl)
def pkS : S → Env → R (O × Env)
  | .sh d, ρ => .ok (.lf d, ρ)
  | .ow _ o, ρ => .ok (o, ρ)
  | .un, _ => .bad
@[simp] theorem pkS_sh (d : D) (ρ : Env) : pkS (.sh d) ρ = .ok (.lf d, ρ) := (rfl)
@[simp] theorem pkS_ow (k : Nat) (o : O) (ρ : Env) : pkS (.ow k o) ρ = .ok (o, ρ) := (rfl)
def frS : S → Env → Nat → R (D × Env)
  | .sh d, ρ, _ => .ok (d, ρ)
  | .ow _ o, ρ, i => .ok (o.frz, ρ.set i (.sh o.frz))
  | .un, _, _ => .bad
@[simp] theorem frS_sh (d : D) (ρ : Env) (i : Nat) : frS (.sh d) ρ i = .ok (d, ρ) := (rfl)
@[simp] theorem frS_ow (k : Nat) (o : O) (ρ : Env) (i : Nat) : frS (.ow k o) ρ i = .ok (o.frz, ρ.set i (.sh o.frz)) := (rfl)
@[simp] theorem freeze_eq (ρ : Env) (i : Nat) : freeze ρ i = frS (ρ.at i) ρ i := by unfold freeze frS; cases ρ.at i <;> rfl
def lefR : O → Env → R (D × Env)
  | .lf d, ρ => .ok (d, ρ)
  | _, _ => .bad
@[simp] theorem lfR_lf (d : D) (ρ : Env) : lefR (.lf d) ρ = .ok (d, ρ) := (rfl)
def negR : D → Env → R (D × Env)
  | .int i, ρ => .ok (.int (-i), ρ)
  | _, _ => .bad
@[simp] theorem negR_int (i : Int) (ρ : Env) : negR (.int i) ρ = .ok (.int (-i), ρ) := (rfl)
def objF : D → Option Nat
  | .obj c _ => some c
  | _ => none
/-! places -/
@[simp] theorem evX_pk (i : Nat) (ρ : Env) : evX T Φ (.pk i) ρ = pkS (ρ.at i) ρ := by rw [evX]; unfold pkS; cases ρ.at i <;> rfl
@[simp] theorem evX_sub (p : Px) (e : Ex) (ρ : Env) : evX T Φ (.sub p e) ρ = bindP (evX T Φ p ρ) (fun r => bindP (evE T Φ e r.2) (fun s => optR (idxO r.1 s.1) s.2) .mk) .mk := by
  rw [evX]; unfold bindP; congr 1; funext r; congr 1; funext s; unfold optR; cases idxO r.1 s.1 <;> rfl
@[simp] theorem evX_fld (p : Px) (f : Nat) (ρ : Env) : evX T Φ (.fld p f) ρ = bindP (evX T Φ p ρ) (fun r => optR (fldO T r.1 f) r.2) .mk := by
  rw [evX]; unfold bindP; congr 1; funext r; unfold optR; cases fldO T r.1 f <;> rfl
@[simp] theorem evX_ex (e : Ex) (ρ : Env) : evX T Φ (.ex e) ρ = bindP (evE T Φ e ρ) (fun r => .ok (.lf r.1, r.2)) .mk := by rw [evX]; rfl
/-! expressions -/
@[simp] theorem evE_var (i : Nat) (ρ : Env) : evE T Φ (.var i) ρ = frS (ρ.at i) ρ i := by rw [evE, freeze_eq]
@[simp] theorem evE_cst (d : D) (ρ : Env) : evE T Φ (.cst d) ρ = .ok (d, ρ) := by rw [evE]
@[simp] theorem evE_bin (op : Bop) (a b : Ex) (ρ : Env) : evE T Φ (.bin op a b) ρ = bindP (evE T Φ a ρ) (fun r => bindP (evE T Φ b r.2) (fun s => binD T Φ op r.1 s.1 s.2) .mk) .mk := by rw [evE]; rfl
@[simp] theorem evE_neg (a : Ex) (ρ : Env) : evE T Φ (.neg a) ρ = bindP (evE T Φ a ρ) (fun r => negR r.1 r.2) .mk := by rw [evE]; unfold bindP; congr 1; funext r; unfold negR; cases r.1 <;> rfl
@[simp] theorem evE_cmp (op : Cop) (a b : Ex) (ρ : Env) : evE T Φ (.cmp op a b) ρ = bindP (evE T Φ a ρ) (fun r => bindP (evE T Φ b r.2) (fun s => cmpD T Φ op r.1 s.1 s.2) .mk) .mk := by rw [evE]; rfl
@[simp] theorem evE_isin (ng : Bool) (a : Ex) (b : Px) (ρ : Env) : evE T Φ (.isin ng a b) ρ = bindP (evE T Φ a ρ) (fun r => bindP (evX T Φ b r.2) (fun s => optR ((s.1.seq?.bind (inD r.1)).map fun k => .bl (if ng then !k else k)) s.2) .mk) .mk := by
  rw [evE]; unfold bindP; congr 1; funext r; congr 1; funext s; unfold optR; cases s.1.seq?.bind (inD r.1) <;> rfl
def chnR (T : Tb) (Φ : Fn) (o2 : Cop) (c : Ex) (x d : D) (ρ : Env) : R (D × Env) := match d with
  | .bl true => bindP (evE T Φ c ρ) (fun u => cmpD T Φ o2 x u.1 u.2) .mk
  | .bl false => .ok (.bl false, ρ)
  | _ => .bad
@[simp] theorem chnR_bl (o2 : Cop) (c : Ex) (x : D) (b : Bool) (ρ : Env) : chnR T Φ o2 c x (.bl b) ρ = if b then bindP (evE T Φ c ρ) (fun u => cmpD T Φ o2 x u.1 u.2) .mk else .ok (.bl false, ρ) := by cases b <;> rfl
@[simp] theorem evE_chn (o1 o2 : Cop) (a b c : Ex) (ρ : Env) : evE T Φ (.chn o1 o2 a b c) ρ = bindP (evE T Φ a ρ) (fun r => bindP (evE T Φ b r.2) (fun s => bindP (cmpD T Φ o1 r.1 s.1 s.2) (fun t => chnR T Φ o2 c s.1 t.1 t.2) .mk) .mk) .mk := by
  rw [evE]; rfl
@[simp] theorem evE_tst (t : Te) (ρ : Env) : evE T Φ (.tst t) ρ = bindP (evT T Φ t ρ) (fun r => .ok (.bl r.1, r.2)) .mk := by rw [evE]; rfl
@[simp] theorem evE_ite (t : Te) (a b : Ex) (ρ : Env) : evE T Φ (.ite t a b) ρ = bindP (evT T Φ t ρ) (fun r => if r.1 then evE T Φ a r.2 else evE T Φ b r.2) .mk := by rw [evE]; rfl
@[simp] theorem evE_tup (as : Exs) (ρ : Env) : evE T Φ (.tup as) ρ = bindP (evEs T Φ as ρ) (fun r => if r.1.length ≤ lim then .ok (.tup r.1, r.2) else .bad) .mk := by rw [evE]; rfl
@[simp] theorem evE_new (n : Nx) (ρ : Env) : evE T Φ (.new n) ρ = bindP (evN T Φ n ρ) (fun r => .ok (r.1.frz, r.2)) .mk := by rw [evE]; rfl
@[simp] theorem evE_rd (p : Px) (ρ : Env) : evE T Φ (.rd p) ρ = bindP (evX T Φ p ρ) (fun r => lefR r.1 r.2) .mk := by rw [evE]; unfold bindP; congr 1; funext r; unfold lefR; cases r.1 <;> rfl
@[simp] theorem evE_slc (p : Px) (lo hi : Ox) (ρ : Env) : evE T Φ (.slc p lo hi) ρ = bindP (evX T Φ p ρ) (fun r => bindP (evO T Φ lo r.2) (fun s => bindP (evO T Φ hi s.2) (fun t => optR (slcO r.1 s.1 t.1) t.2) .mk) .mk) .mk := by
  rw [evE]; unfold bindP; congr 1; funext r; congr 1; funext s; congr 1; funext t; unfold optR; cases slcO r.1 s.1 t.1 <;> rfl
def idxR : Option O → Env → R (D × Env)
  | some (.lf d), ρ => .ok (d, ρ)
  | _, _ => .bad
@[simp] theorem idxR_lf (d : D) (ρ : Env) : idxR (some (.lf d)) ρ = .ok (d, ρ) := (rfl)
@[simp] theorem evE_idx (a i : Ex) (ρ : Env) : evE T Φ (.idx a i) ρ = bindP (evE T Φ a ρ) (fun r => bindP (evE T Φ i r.2) (fun s => idxR (idxO (.lf r.1) s.1) s.2) .mk) .mk := by
  rw [evE]; unfold bindP; congr 1; funext r; congr 1; funext s; unfold idxR
  cases idxO (.lf r.1) s.1 with
  | none => rfl
  | some o => cases o <;> rfl
@[simp] theorem evE_srev (p : Px) (o : Ox) (ρ : Env) : evE T Φ (.srev p o) ρ = bindP (evX T Φ p ρ) (fun r => bindP (evO T Φ o r.2) (fun s => if s.1 = some (-1) then optR (r.1.list?.map fun ds => .lst ds.reverse) s.2 else .bad) .mk) .mk := by
  rw [evE]; unfold bindP; congr 1; funext r; congr 1; funext s; unfold optR; cases r.1.list? <;> rfl
@[simp] theorem evE_call (f n : Nat) (as : As) (ρ : Env) : evE T Φ (.call f n as) ρ = bindP (evAs T Φ as ρ) (fun r => callE T Φ f n r.1 r.2) .mk := by rw [evE]; rfl
@[simp] theorem evE_make (c n : Nat) (as : As) (ρ : Env) : evE T Φ (.make c n as) ρ = bindP (evAs T Φ as ρ) (fun r => makeE T Φ c n r.1 r.2) .mk := by rw [evE]; rfl
def methR (T : Tb) (Φ : Fn) (m n : Nat) (as : As) (d : D) (ρ : Env) : R (D × Env) := match d with
  | .obj c fs => match T.meth c m with
    | some f => bindP (evAs T Φ as ρ) (fun s => callE T Φ f n (.sh (.obj c fs) :: s.1) s.2) .mk
    | none => .bad
  | _ => .bad
@[simp] theorem methR_obj {m n c f : Nat} (as : As) (fs : List D) (ρ : Env) (h : T.meth c m = some f) : methR T Φ m n as (.obj c fs) ρ = bindP (evAs T Φ as ρ) (fun s => callE T Φ f n (.sh (.obj c fs) :: s.1) s.2) .mk := by
  unfold methR; simp only [h]
@[simp] theorem evE_meth (o : Ex) (m n : Nat) (as : As) (ρ : Env) : evE T Φ (.meth o m n as) ρ = bindP (evE T Φ o ρ) (fun r => methR T Φ m n as r.1 r.2) .mk := by
  rw [evE]; unfold bindP; congr 1
@[simp] theorem evE_bi (b : Bi) (as : Pxs) (ρ : Env) : evE T Φ (.bi b as) ρ = bindP (evPs T Φ as ρ) (fun r => biE T Φ b r.1 r.2) .mk := by rw [evE]; rfl
@[simp] theorem evE_isi (a : Ex) (cs : List Cl) (ρ : Env) : evE T Φ (.isi a cs) ρ = bindP (evE T Φ a ρ) (fun r => .ok (.bl (cs.any (inst T r.1)), r.2)) .mk := by rw [evE]; rfl
@[simp] theorem evE_andE (a b : Ex) (ρ : Env) : evE T Φ (.andE a b) ρ = bindP (evE T Φ a ρ) (fun r => bindP (optR (truO (.lf r.1)) r.2) (fun t => if t.1 then evE T Φ b t.2 else .ok (r.1, t.2)) .mk) .mk := by
  rw [evE]; unfold bindP; congr 1; funext r; obtain ⟨d, ρ1⟩ := r
  show (match truO (.lf d) with | some true => evE T Φ b ρ1 | some false => .ok (d, ρ1) | none => .bad) = _
  cases truO (.lf d) with
  | none => rfl
  | some k => cases k <;> rfl
@[simp] theorem evE_orE (a b : Ex) (ρ : Env) : evE T Φ (.orE a b) ρ = bindP (evE T Φ a ρ) (fun r => bindP (optR (truO (.lf r.1)) r.2) (fun t => if t.1 then .ok (r.1, t.2) else evE T Φ b t.2) .mk) .mk := by
  rw [evE]; unfold bindP; congr 1; funext r; obtain ⟨d, ρ1⟩ := r
  show (match truO (.lf d) with | some true => R.ok (d, ρ1) | some false => evE T Φ b ρ1 | none => .bad) = _
  cases truO (.lf d) with
  | none => rfl
  | some k => cases k <;> rfl
@[simp] theorem evE_notE (p : Px) (ρ : Env) : evE T Φ (.notE p) ρ = bindP (evX T Φ p ρ) (fun r => optR ((truO r.1).map fun k => .bl (!k)) r.2) .mk := by
  rw [evE]; unfold bindP; congr 1; funext r; unfold optR; cases truO r.1 <;> rfl
/-! tests -/
@[simp] theorem evT_val (p : Px) (ρ : Env) : evT T Φ (.val p) ρ = bindP (evX T Φ p ρ) (fun r => optR (truO r.1) r.2) .mk := by
  rw [evT]; unfold bindP; congr 1; funext r; unfold optR; cases truO r.1 <;> rfl
@[simp] theorem evT_not (t : Te) (ρ : Env) : evT T Φ (.not t) ρ = bindP (evT T Φ t ρ) (fun r => .ok (!r.1, r.2)) .mk := by rw [evT]; rfl
@[simp] theorem evT_and (a b : Te) (ρ : Env) : evT T Φ (.and a b) ρ = bindP (evT T Φ a ρ) (fun r => if r.1 then evT T Φ b r.2 else .ok (false, r.2)) .mk := by rw [evT]; rfl
@[simp] theorem evT_or (a b : Te) (ρ : Env) : evT T Φ (.or a b) ρ = bindP (evT T Φ a ρ) (fun r => if r.1 then .ok (true, r.2) else evT T Φ b r.2) .mk := by rw [evT]; rfl
@[simp] theorem evTs_nil (ρ : Env) : evTs T Φ .nil ρ = .ok (true, ρ) := by rw [evTs]
@[simp] theorem evTs_cons (t : Te) (r : Tes) (ρ : Env) : evTs T Φ (.cons t r) ρ = bindP (evT T Φ t ρ) (fun q => if q.1 then evTs T Φ r q.2 else .ok (false, q.2)) .mk := by rw [evTs]; rfl
/-! lists of expressions -/
@[simp] theorem evEs_nil (ρ : Env) : evEs T Φ .nil ρ = .ok ([], ρ) := by rw [evEs]
@[simp] theorem evEs_cons (e : Ex) (r : Exs) (ρ : Env) : evEs T Φ (.cons e r) ρ = bindP (evE T Φ e ρ) (fun q => bindP (evEs T Φ r q.2) (fun s => .ok (q.1 :: s.1, s.2)) .mk) .mk := by rw [evEs]; rfl
@[simp] theorem evPs_nil (ρ : Env) : evPs T Φ .nil ρ = .ok ([], ρ) := by rw [evPs]
@[simp] theorem evPs_cons (e : Px) (r : Pxs) (ρ : Env) : evPs T Φ (.cons e r) ρ = bindP (evX T Φ e ρ) (fun q => bindP (evPs T Φ r q.2) (fun s => .ok (q.1 :: s.1, s.2)) .mk) .mk := by rw [evPs]; rfl
@[simp] theorem evAs_nil (ρ : Env) : evAs T Φ .nil ρ = .ok ([], ρ) := by rw [evAs]
@[simp] theorem evAs_sh (e : Ex) (r : As) (ρ : Env) : evAs T Φ (.sh e r) ρ = bindP (evE T Φ e ρ) (fun q => bindP (evAs T Φ r q.2) (fun s => .ok (.sh q.1 :: s.1, s.2)) .mk) .mk := by rw [evAs]; rfl
def ioR (T : Tb) (Φ : Fn) (i : Nat) (r : As) : S → Env → R (List V1 × Env)
  | .ow k o, ρ => bindP (evAs T Φ r (ρ.set i .un)) (fun s => .ok (.io i k o :: s.1, s.2)) .mk
  | .sh d, ρ => bindP (evAs T Φ r ρ) (fun s => .ok (.sh d :: s.1, s.2)) .mk
  | .un, _ => .bad
@[simp] theorem ioR_ow (i : Nat) (r : As) (k : Nat) (o : O) (ρ : Env) : ioR T Φ i r (.ow k o) ρ = bindP (evAs T Φ r (ρ.set i .un)) (fun s => .ok (.io i k o :: s.1, s.2)) .mk := (rfl)
@[simp] theorem ioR_sh (i : Nat) (r : As) (d : D) (ρ : Env) : ioR T Φ i r (.sh d) ρ = bindP (evAs T Φ r ρ) (fun s => .ok (.sh d :: s.1, s.2)) .mk := (rfl)
@[simp] theorem evAs_io (i : Nat) (r : As) (ρ : Env) : evAs T Φ (.io i r) ρ = ioR T Φ i r (ρ.at i) ρ := by rw [evAs]; unfold ioR; cases ρ.at i <;> rfl
@[simp] theorem evO_none (ρ : Env) : evO T Φ .none ρ = .ok (none, ρ) := by rw [evO]
def intR : D → Env → R (Option Int × Env)
  | .int i, ρ => .ok (some i, ρ)
  | _, _ => .bad
@[simp] theorem intR_int (i : Int) (ρ : Env) : intR (.int i) ρ = .ok (some i, ρ) := (rfl)
@[simp] theorem evO_some (e : Ex) (ρ : Env) : evO T Φ (.some e) ρ = bindP (evE T Φ e ρ) (fun r => intR r.1 r.2) .mk := by rw [evO]; unfold bindP; congr 1; funext r; unfold intR; cases r.1 <;> rfl
/-! new objects -/
@[simp] theorem evN_lst (as : Exs) (ρ : Env) : evN T Φ (.lst as) ρ = bindP (evEs T Φ as ρ) (fun r => if r.1.length ≤ lim then .ok (.lst (r.1.map .lf), r.2) else .bad) .mk := by rw [evN]; rfl
@[simp] theorem evN_dsp (ks : List D) (vs : Exs) (ρ : Env) : evN T Φ (.dsp ks vs) ρ = bindP (evEs T Φ vs ρ) (fun r => if r.1.length = ks.length ∧ ks.length ≤ 15 then .ok (.dic ks (r.1.map .lf), r.2) else .bad) .mk := by rw [evN]; rfl
def tuC (T : Tb) (Φ : Fn) (elt : Ex) (tg : Tg) (cs : Tes) (own : List Nat) (d : D) (ρ1 : Env) : R (Option O × Env) :=
  bindP (bindT tg d ρ1) (fun ρ2 => bindP (evTs T Φ cs ρ2) (fun q => if q.1 then bindP (evE T Φ elt q.2) (fun z => .ok (some (.lf z.1), wipe z.2 own)) .mk else .ok (none, wipe q.2 own)) .mk) .mk
def tuN (T : Tb) (Φ : Fn) (elt : Nx) (tg : Tg) (cs : Tes) (own : List Nat) (d : D) (ρ1 : Env) : R (Option O × Env) :=
  bindP (bindT tg d ρ1) (fun ρ2 => bindP (evTs T Φ cs ρ2) (fun q => if q.1 then bindP (evN T Φ elt q.2) (fun z => .ok (some z.1, wipe z.2 own)) .mk else .ok (none, wipe q.2 own)) .mk) .mk
@[simp] theorem evN_cmp (elt : Ex) (tg : Tg) (it : It) (cs : Tes) (own : List Nat) (ρ : Env) : evN T Φ (.comp elt tg it cs own) ρ = bindP (evI T Φ it ρ) (fun r =>
    bindP (calmP (loopC (tuC T Φ elt tg cs own) r.1 [] (wipe r.2.2 (r.2.1 ++ own)))) (fun q => .ok (.lst q.1, unwipe q.2 r.2.2 (r.2.1 ++ own))) .mk) .mk := by rw [evN]; rfl
@[simp] theorem evN_cmN (elt : Nx) (tg : Tg) (it : It) (cs : Tes) (own : List Nat) (ρ : Env) : evN T Φ (.comN elt tg it cs own) ρ = bindP (evI T Φ it ρ) (fun r =>
    bindP (calmP (loopC (tuN T Φ elt tg cs own) r.1 [] (wipe r.2.2 (r.2.1 ++ own)))) (fun q => .ok (.lst q.1, unwipe q.2 r.2.2 (r.2.1 ++ own))) .mk) .mk := by rw [evN]; rfl
@[simp] theorem evN_lof (p : Px) (ρ : Env) : evN T Φ (.lof p) ρ = bindP (evX T Φ p ρ) (fun r => optR (r.1.seq?.map fun ds => .lst (ds.map .lf)) r.2) .mk := by
  rw [evN]; unfold bindP; congr 1; funext r; unfold optR; cases r.1.seq? <;> rfl
@[simp] theorem evN_lrev (p : Px) (ρ : Env) : evN T Φ (.lrev p) ρ = bindP (evX T Φ p ρ) (fun r => optR (r.1.list?.map fun ds => .lst (ds.reverse.map .lf)) r.2) .mk := by
  rw [evN]; unfold bindP; congr 1; funext r; unfold optR; cases r.1.list? <;> rfl
def repR (d : D) : D → Env → R (O × Env)
  | .int k, ρ => if 0 ≤ k ∧ k ≤ lim then .ok (.lst (List.replicate k.toNat (.lf d)), ρ) else .bad
  | _, _ => .bad
@[simp] theorem repR_int (d : D) (k : Int) (ρ : Env) : repR d (.int k) ρ = if 0 ≤ k ∧ k ≤ lim then .ok (.lst (List.replicate k.toNat (.lf d)), ρ) else .bad := (rfl)
@[simp] theorem evN_rep (e n : Ex) (ρ : Env) : evN T Φ (.rep e n) ρ = bindP (evE T Φ e ρ) (fun r => bindP (evE T Φ n r.2) (fun s => repR r.1 s.1 s.2) .mk) .mk := by
  rw [evN]; unfold bindP; congr 1; funext r; congr 1; funext s; unfold repR; cases s.1 <;> rfl
/-! iterators -/
def seqR (ds : Option (List D)) (l : Option (List Nat)) (ρ : Env) : R (List D × List Nat × Env) := match ds, l with
  | some ds, some l => .ok (ds, l, ρ)
  | _, _ => .bad
@[simp] theorem seqR_some (ds : List D) (l : List Nat) (ρ : Env) : seqR (some ds) (some l) ρ = .ok (ds, l, ρ) := (rfl)
@[simp] theorem evI_seq (p : Px) (ρ : Env) : evI T Φ (.seq p) ρ = bindP (evX T Φ p ρ) (fun r => seqR r.1.seq? (lockOf r.1 p) r.2) .mk := by rw [evI]; rfl
@[simp] theorem evI_rev (p : Px) (ρ : Env) : evI T Φ (.rev p) ρ = bindP (evX T Φ p ρ) (fun r => seqR (r.1.seq?.map List.reverse) (lockOf r.1 p) r.2) .mk := by
  rw [evI]; unfold bindP; congr 1; funext r; unfold seqR; cases r.1.seq? <;> cases lockOf r.1 p <;> rfl
@[simp] theorem evI_enum (p : Px) (ρ : Env) : evI T Φ (.enum p) ρ = bindP (evX T Φ p ρ) (fun r => seqR (r.1.seq?.map (enumD 0)) (lockOf r.1 p) r.2) .mk := by
  rw [evI]; unfold bindP; congr 1; funext r; unfold seqR; cases r.1.seq? <;> cases lockOf r.1 p <;> rfl
def rng1R : D → Env → R (List D × List Nat × Env)
  | .int n, ρ => if small n then .ok (rngI 0 1 n.toNat, [], ρ) else .bad
  | _, _ => .bad
@[simp] theorem rng1R_int (n : Int) (ρ : Env) : rng1R (.int n) ρ = if small n then .ok (rngI 0 1 n.toNat, [], ρ) else .bad := (rfl)
@[simp] theorem evI_rng1 (a : Ex) (ρ : Env) : evI T Φ (.rng1 a) ρ = bindP (evE T Φ a ρ) (fun r => rng1R r.1 r.2) .mk := by
  rw [evI]; unfold bindP; congr 1; funext r; unfold rng1R; cases r.1 <;> rfl
def rng2R (x y : D) (ρ : Env) : R (List D × List Nat × Env) := match two x y with
  | some (i, j) => .ok (rngI i 1 (j - i).toNat, [], ρ)
  | none => .bad
@[simp] theorem rng2R_int (i j : Int) (ρ : Env) : rng2R (.int i) (.int j) ρ = if small i && small j then .ok (rngI i 1 (j - i).toNat, [], ρ) else .bad := by
  unfold rng2R two; dsimp only
  by_cases h : (small i && small j) = true
  · rw [if_pos h, if_pos h]
  · rw [if_neg h, if_neg h]
@[simp] theorem evI_rng2 (a b : Ex) (ρ : Env) : evI T Φ (.rng2 a b) ρ = bindP (evE T Φ a ρ) (fun r => bindP (evE T Φ b r.2) (fun s => rng2R r.1 s.1 s.2) .mk) .mk := by rw [evI]; rfl
def rng3R (x y z : D) (ρ : Env) : R (List D × List Nat × Env) := match two x y, z with
  | some (i, j), .int c => if c = -1 then .ok (rngI i (-1) (i - j).toNat, [], ρ) else .bad
  | _, _ => .bad
@[simp] theorem rng3R_int (i j : Int) (ρ : Env) : rng3R (.int i) (.int j) (.int (-1)) ρ = if small i && small j then .ok (rngI i (-1) (i - j).toNat, [], ρ) else .bad := by
  unfold rng3R two; dsimp only
  by_cases h : (small i && small j) = true
  · rw [if_pos h, if_pos h]; rfl
  · rw [if_neg h, if_neg h]
@[simp] theorem evI_rng3 (a b c : Ex) (ρ : Env) : evI T Φ (.rng3 a b c) ρ = bindP (evE T Φ a ρ) (fun r => bindP (evE T Φ b r.2) (fun s => bindP (evE T Φ c s.2) (fun t => rng3R r.1 s.1 t.1 t.2) .mk) .mk) .mk := by rw [evI]; rfl
def zipR (o u : O) (ρ : Env) : R (List D × List Nat × Env) := match o, u with
  | .lf x, .lf y => match zip2 (.lf x) (.lf y) with
    | some ds => .ok (ds, [], ρ)
    | none => .bad
  | _, _ => .bad
@[simp] theorem zipR_tup (x y : List D) (ρ : Env) : zipR (.lf (.tup x)) (.lf (.tup y)) ρ = .ok (zipD x y, [], ρ) := (rfl)
@[simp] theorem zipR_lst (x y : List D) (ρ : Env) : zipR (.lf (.lst x)) (.lf (.lst y)) ρ = .ok (zipD x y, [], ρ) := (rfl)
@[simp] theorem evI_zip (p q : Px) (ρ : Env) : evI T Φ (.zip p q) ρ = bindP (evX T Φ p ρ) (fun r => bindP (evX T Φ q r.2) (fun s => zipR r.1 s.1 s.2) .mk) .mk := by rw [evI]; rfl
/-! statements -/
noncomputable def tuF (T : Tb) (Φ : Fn) (tg : Tg) (b : Sms) (d : D) (ρ1 : Env) : SR := toP (bindT tg d ρ1) (fun ρ2 => evB T Φ b ρ2) .mk
theorem turnF_eq (tg : Tg) (b : Sms) (d : D) (ρ1 : Env) : tuF T Φ tg b d ρ1 = toP (bindT tg d ρ1) (fun ρ2 => evB T Φ b ρ2) .mk := rfl
noncomputable def optS (o : Option α) (f : α → SR) : SR := match o with | some a => f a | none => .bad
@[simp] theorem optS_some (a : α) (f : α → SR) : optS (some a) f = f a := (rfl)
@[simp] theorem evB_nil (ρ : Env) : evB T Φ .nil ρ = .nx ρ := by rw [evB]
@[simp] theorem evB_cons (s : Sm) (r : Sms) (ρ : Env) : evB T Φ (.cons s r) ρ = seqP (evS T Φ s ρ) (fun ρ' => evB T Φ r ρ') .mk := by rw [evB]; rfl
@[simp] theorem evS_set (i : Nat) (e : Ex) (ρ : Env) : evS T Φ (.set i e) ρ = toP (evE T Φ e ρ) (fun r => .nx (r.2.set i (.sh r.1))) .mk := by rw [evS]; rfl
@[simp] theorem evS_own (i : Nat) (n : Nx) (ρ : Env) : evS T Φ (.own i n) ρ = toP (evN T Φ n ρ) (fun r => .nx (r.2.set i (.ow 0 r.1))) .mk := by rw [evS]; rfl
@[simp] theorem evS_unp (is : List Nat) (e : Ex) (ρ : Env) : evS T Φ (.unp is e) ρ = toP (evE T Φ e ρ) (fun r => toP (bindT (.tp is) r.1 r.2) (fun ρ' => .nx ρ') .mk) .mk := by rw [evS]; rfl
noncomputable def augS (i : Nat) (op : Bop) (x y : D) (ρ : Env) : SR := match augD op x y with
  | some d => .nx (ρ.set i (.sh d))
  | none => .bad
@[simp] theorem augS_int (i : Nat) (op : Bop) (x y : Int) (ρ : Env) : augS i op (.int x) (.int y) ρ = (match binI op x y with | some d => .nx (ρ.set i (.sh d)) | none => .bad) := (rfl)
noncomputable def shS (T : Tb) (Φ : Fn) (i : Nat) (op : Bop) (e : Ex) : S → Env → SR
  | .sh x, ρ => toP (evE T Φ e ρ) (fun r => augS i op x r.1 r.2) .mk
  | _, _ => .bad
@[simp] theorem shS_sh (i : Nat) (op : Bop) (e : Ex) (x : D) (ρ : Env) : shS T Φ i op e (.sh x) ρ = toP (evE T Φ e ρ) (fun r => augS i op x r.1 r.2) .mk := (rfl)
@[simp] theorem evS_aug (i : Nat) (op : Bop) (e : Ex) (ρ : Env) : evS T Φ (.aug i op e) ρ = shS T Φ i op e (ρ.at i) ρ := by rw [evS]; unfold shS; cases ρ.at i <;> rfl
@[simp] theorem evS_put (p : Px) (i e : Ex) (ρ : Env) : evS T Φ (.put p i e) ρ = toP (evE T Φ e ρ) (fun r => toP (evL T Φ p r.2) (fun s => toP (evE T Φ i s.2) (fun t =>
    optS ((owAt t.2 s.1.1 s.1.2).bind fun o => setO o t.1 r.1) fun n => toP (owPut t.2 s.1.1 s.1.2 n) (fun ρ' => .nx ρ') .mk) .mk) .mk) .mk := by
  rw [evS]; unfold toP; congr 1; funext r; congr 1; funext s; congr 1; funext t; unfold optS
  split <;> (split <;> simp_all)
def sflJ (x : Nat) (d : D) (k c : Nat) (os : List O) (ρ : Env) : Option Nat → SR
  | some j => if j < os.length then .nx (ρ.set x (.ow k (.obj c (os.set j (.lf d)))))
        else if j = os.length ∧ j < 900 then .nx (ρ.set x (.ow k (.obj c (os ++ [.lf d])))) else .bad
  | none => .bad
@[simp] theorem sflJ_some (x : Nat) (d : D) (k c : Nat) (os : List O) (ρ : Env) (j : Nat) : sflJ x d k c os ρ (some j) = if j < os.length then .nx (ρ.set x (.ow k (.obj c (os.set j (.lf d)))))
        else if j = os.length ∧ j < 900 then .nx (ρ.set x (.ow k (.obj c (os ++ [.lf d])))) else .bad := rfl
def sflS (T : Tb) (x f : Nat) (d : D) : S → Env → SR
  | .ow k (.obj c os), ρ => sflJ x d k c os ρ (place (T.fld c) f)
  | _, _ => .bad
@[simp] theorem sflS_obj (x f c : Nat) (d : D) (k : Nat) (os : List O) (ρ : Env) : sflS T x f d (.ow k (.obj c os)) ρ = sflJ x d k c os ρ (place (T.fld c) f) := (rfl)
@[simp] theorem evS_sfl (x f : Nat) (e : Ex) (ρ : Env) : evS T Φ (.sfl x f e) ρ = toP (evE T Φ e ρ) (fun r => sflS T x f r.1 (r.2.at x) r.2) .mk := by
  rw [evS]; unfold toP; congr 1; funext r; unfold sflS; generalize r.2.at x = q; cases q with
  | ow k o => cases o <;> rfl
  | _ => rfl
noncomputable def appS (T : Tb) (Φ : Fn) (x : Nat) (p : List Nat) (e : Ex) : Option O → Env → SR
  | some (.lst _), ρ => toP (evE T Φ e ρ) (fun r => match owAt r.2 x p with
      | some (.lst os) => if os.length < lim then (owPut r.2 x p (.lst (os ++ [.lf r.1]))).to .nx else .bad
      | _ => .bad) .mk
  | _, _ => .bad
@[simp] theorem appS_lst (x : Nat) (p : List Nat) (e : Ex) (os : List O) (ρ : Env) : appS T Φ x p e (some (.lst os)) ρ = toP (evE T Φ e ρ) (fun r => match owAt r.2 x p with
      | some (.lst os) => if os.length < lim then (owPut r.2 x p (.lst (os ++ [.lf r.1]))).to .nx else .bad
      | _ => .bad) .mk := rfl
@[simp] theorem evS_app (p : Px) (e : Ex) (ρ : Env) : evS T Φ (.app p e) ρ = toP (evL T Φ p ρ) (fun s => appS T Φ s.1.1 s.1.2 e (owAt s.2 s.1.1 s.1.2) s.2) .mk := by
  rw [evS]; unfold toP; congr 1; funext r; unfold appS toP; generalize owAt r.2 r.1.1 r.1.2 = q; cases q with
  | none => rfl
  | some o => cases o <;> rfl
noncomputable def insS (T : Tb) (Φ : Fn) (x : Nat) (p : List Nat) (i e : Ex) : Option O → Env → SR
  | some (.lst _), ρ => toP (evE T Φ i ρ) (fun q => toP (evE T Φ e q.2) (fun r => match owAt r.2 x p, q.1 with
      | some (.lst os), .int k => if os.length < lim ∧ 0 ≤ k ∧ k < 2 ^ 63 then (owPut r.2 x p (.lst (os.take k.toNat ++ [.lf r.1] ++ os.drop k.toNat))).to .nx else .bad
      | _, _ => .bad) .mk) .mk
  | _, _ => .bad
@[simp] theorem insS_lst (x : Nat) (p : List Nat) (i e : Ex) (os : List O) (ρ : Env) : insS T Φ x p i e (some (.lst os)) ρ = toP (evE T Φ i ρ) (fun q => toP (evE T Φ e q.2) (fun r => match owAt r.2 x p, q.1 with
      | some (.lst os), .int k => if os.length < lim ∧ 0 ≤ k ∧ k < 2 ^ 63 then (owPut r.2 x p (.lst (os.take k.toNat ++ [.lf r.1] ++ os.drop k.toNat))).to .nx else .bad
      | _, _ => .bad) .mk) .mk := rfl
@[simp] theorem evS_ins (p : Px) (i e : Ex) (ρ : Env) : evS T Φ (.ins p i e) ρ = toP (evL T Φ p ρ) (fun s => insS T Φ s.1.1 s.1.2 i e (owAt s.2 s.1.1 s.1.2) s.2) .mk := by
  rw [evS]; unfold toP; congr 1; funext r; unfold insS toP; generalize owAt r.2 r.1.1 r.1.2 = q; cases q with
  | none => rfl
  | some o => cases o <;> rfl
@[simp] theorem evS_exp (e : Ex) (ρ : Env) : evS T Φ (.exp e) ρ = toP (evE T Φ e ρ) (fun r => .nx r.2) .mk := by rw [evS]; rfl
@[simp] theorem evS_ret (e : Ex) (ρ : Env) : evS T Φ (.ret e) ρ = toP (evE T Φ e ρ) (fun r => .ret r.1 r.2) .mk := by rw [evS]; rfl
@[simp] theorem evS_pass (ρ : Env) : evS T Φ .pass ρ = .nx ρ := by rw [evS]
@[simp] theorem evS_brk (ρ : Env) : evS T Φ .brk ρ = .brk ρ := by rw [evS]
@[simp] theorem evS_cnt (ρ : Env) : evS T Φ .cnt ρ = .cnt ρ := by rw [evS]
@[simp] theorem evS_nope (ρ : Env) : evS T Φ .nope ρ = .bad := by rw [evS]
@[simp] theorem evS_ite (t : Te) (a b : Sms) (ρ : Env) : evS T Φ (.ite t a b) ρ = toP (evT T Φ t ρ) (fun r => if r.1 then evB T Φ a r.2 else evB T Φ b r.2) .mk := by rw [evS]; rfl
@[simp] theorem evS_for (tg : Tg) (it : It) (b : Sms) (ρ : Env) : evS T Φ (.for_ tg it b) ρ = toP (evI T Φ it ρ) (fun r => if r.2.1.isEmpty then loopF (tuF T Φ tg b) r.1 r.2.2 else .bad) .mk := by rw [evS]; rfl
@[simp] theorem evS_whl (t : Te) (b : Sms) (ρ : Env) : evS T Φ (.whl t b) ρ = whileS (evT T Φ t) (evB T Φ b) ρ := by rw [evS]
/-! places that one name owns -/
def pkL (i : Nat) : S → Env → R ((Nat × List Nat) × Env)
  | .ow _ _, ρ => .ok ((i, []), ρ)
  | _, _ => .bad
@[simp] theorem pkL_ow (i k : Nat) (o : O) (ρ : Env) : pkL i (.ow k o) ρ = .ok ((i, []), ρ) := (rfl)
@[simp] theorem evL_pk (i : Nat) (ρ : Env) : evL T Φ (.pk i) ρ = pkL i (ρ.at i) ρ := by rw [evL]; unfold pkL; cases ρ.at i <;> rfl
@[simp] theorem evL_sub (p : Px) (e : Ex) (ρ : Env) : evL T Φ (.sub p e) ρ = bindP (evL T Φ p ρ) (fun r => bindP (evE T Φ e r.2) (fun s => optR (((owAt s.2 r.1.1 r.1.2).bind fun o => kid o s.1).map fun j => (r.1.1, r.1.2 ++ [j])) s.2) .mk) .mk := by
  rw [evL]; unfold bindP; congr 1; funext r; congr 1; funext s; unfold optR; cases (owAt s.2 r.1.1 r.1.2).bind fun o => kid o s.1 <;> rfl
/-! defs -/
noncomputable def fin (xs : List A) : SR → FR
  | .nx ρ => .ok .non (outA 0 xs ρ)
  | .ret d ρ => .ok d (outA 0 xs ρ)
  | .retN o ρ => .okN o (outA 0 xs ρ)
  | .exc c es ρ => .exc c es (outA 0 xs ρ)
  | _ => .bad
@[simp] theorem fin_nx (xs : List A) (ρ : Env) : fin xs (.nx ρ) = .ok .non (outA 0 xs ρ) := (rfl)
@[simp] theorem fin_ret (xs : List A) (d : D) (ρ : Env) : fin xs (.ret d ρ) = .ok d (outA 0 xs ρ) := (rfl)
@[simp] theorem fin_retN (xs : List A) (o : O) (ρ : Env) : fin xs (.retN o ρ) = .okN o (outA 0 xs ρ) := (rfl)
@[simp] theorem fin_exc (xs : List A) (c : Nat) (es : List D) (ρ : Env) : fin xs (.exc c es ρ) = .exc c es (outA 0 xs ρ) := (rfl)
@[simp] theorem fin_ite (xs : List A) (c : Prop) [Decidable c] (a b : SR) : fin xs (if c then a else b) = if c then fin xs a else fin xs b := by split <;> rfl
theorem runF_eq (fd : Fd) (xs : List A) : runF T Φ fd xs = fin xs (evB T Φ fd.body (RF.start fd xs)) := by unfold runF fin; rfl
theorem call_at' {fs : Nat → Option Fd} {N k f : Nat} {fd : Fd} {xs : List A} {r : FR} (hN : k + 1 ≤ N) (h : fs f = some fd) (hl : xs.length = fd.pars) (q : ∀ n, k ≤ n → fin xs (evB T (callN T fs n) fd.body (RF.start fd xs)) = r) : callN T fs N f xs = r :=
  call_at hN h hl fun n hn => by rw [runF_eq]; exact q n hn
@[simp] theorem outA_nil (k : Nat) (ρ : Env) : outA k [] ρ = [] := (rfl)
@[simp] theorem outA_sh (k : Nat) (d : D) (r : List A) (ρ : Env) : outA k (.sh d :: r) ρ = .sh d :: outA (k + 1) r ρ := (rfl)
@[simp] theorem outA_un (k : Nat) (r : List A) (ρ : Env) : outA k (.un :: r) ρ = .un :: outA (k + 1) r ρ := (rfl)
def outS (k : Nat) : S → A
  | .ow j o => if j = k + 1 then .ow o else .un
  | _ => .un
@[simp] theorem outS_ow (k j : Nat) (o : O) : outS k (.ow j o) = if j = k + 1 then .ow o else .un := (rfl)
@[simp] theorem outS_sh (k : Nat) (d : D) : outS k (.sh d) = .un := (rfl)
@[simp] theorem outA_ow (k : Nat) (o : O) (r : List A) (ρ : Env) : outA k (.ow o :: r) ρ = outS k (ρ.at k) :: outA (k + 1) r ρ := by
  rw [outA]; unfold outS; cases ρ.at k <;> rfl
@[simp] theorem parS_nil (k : Nat) : parS k [] = [] := (rfl)
@[simp] theorem parS_cons (k : Nat) (a : A) (r : List A) : parS k (a :: r) = a.s k :: parS (k + 1) r := (rfl)
@[simp] theorem As_sh (k : Nat) (d : D) : A.s k (.sh d) = .sh d := (rfl)
@[simp] theorem As_ow (k : Nat) (o : O) : A.s k (.ow o) = .ow (k + 1) o := (rfl)
@[simp] theorem start_eq (fd : Fd) (xs : List A) : RF.start fd xs = parS 0 xs ++ List.replicate (fd.slots - fd.pars) .un := (rfl)
/-! calls -/
@[simp] theorem V1a_sh (d : D) : V1.a (.sh d) = .sh d := (rfl)
@[simp] theorem V1a_io (i k : Nat) (o : O) : V1.a (.io i k o) = .ow o := (rfl)
def callF (r : FR) (xs : List V1) (ρ : Env) : R (D × Env) := match r with
  | .ok d outs => .ok (d, back xs outs ρ)
  | .exc c es outs => .exc c es (back xs outs ρ)
  | _ => .bad
@[simp] theorem callF_ok (d : D) (outs : List A) (xs : List V1) (ρ : Env) : callF (.ok d outs) xs ρ = .ok (d, back xs outs ρ) := (rfl)
@[simp] theorem callF_exc (c : Nat) (es : List D) (outs : List A) (xs : List V1) (ρ : Env) : callF (.exc c es outs) xs ρ = .exc c es (back xs outs ρ) := (rfl)
theorem callE_eq (f n : Nat) (xs : List V1) (ρ : Env) : callE T Φ f n xs ρ = if (pad T f n (xs.map V1.a)).length = n then callF (Φ f (pad T f n (xs.map V1.a))) xs ρ else .bad := by
  unfold callE callF; split
  · cases Φ f (pad T f n (xs.map V1.a)) <;> rfl
  · rfl
@[simp] theorem pad_eq (f n : Nat) (xs : List A) : pad T f n xs = xs ++ ((T.dfl f).drop ((T.dfl f).length + xs.length - n)).map .sh := (rfl)
def makeF (r : FR) (xs : List V1) (ρ : Env) : R (D × Env) := match r with
  | .ok .non (.ow o :: outs) => .ok (o.frz, back xs outs ρ)
  | .exc c es (_ :: outs) => .exc c es (back xs outs ρ)
  | _ => .bad
@[simp] theorem makeF_ok (o : O) (outs : List A) (xs : List V1) (ρ : Env) : makeF (.ok .non (.ow o :: outs)) xs ρ = .ok (o.frz, back xs outs ρ) := (rfl)
theorem makeE_eq {c f : Nat} (n : Nat) (xs : List V1) (ρ : Env) (h : T.init c = some f) : makeE T Φ c n xs ρ = if (pad T f n (.ow (.obj c []) :: xs.map V1.a)).length = n then makeF (Φ f (pad T f n (.ow (.obj c []) :: xs.map V1.a))) xs ρ else .bad := by
  unfold makeE; simp only [h]; rfl
@[simp] theorem back_nil (ρ : Env) (as : List A) : back [] as ρ = ρ := by cases as <;> rfl
@[simp] theorem back_sh (d : D) (r : List V1) (a : A) (s : List A) (ρ : Env) : back (.sh d :: r) (a :: s) ρ = back r s ρ := by cases a <;> rfl
@[simp] theorem back_io (i k : Nat) (o' : O) (r : List V1) (o : O) (s : List A) (ρ : Env) : back (.io i k o' :: r) (.ow o :: s) ρ = back r s (ρ.set i (.ow k o)) := (rfl)
def callSF (r : FR) (ρ : Env) : R (D × Env) := match r with
  | .ok d _ => .ok (d, ρ)
  | .exc c es _ => .exc c es ρ
  | _ => .bad
@[simp] theorem callSF_ok (d : D) (outs : List A) (ρ : Env) : callSF (.ok d outs) ρ = .ok (d, ρ) := (rfl)
@[simp] theorem callS_eq (f : Nat) (xs : List D) (ρ : Env) : callS Φ f xs ρ = callSF (Φ f (xs.map .sh)) ρ := by
  unfold callS callSF; cases Φ f (xs.map .sh) <;> rfl
@[simp] theorem eqT_int (a b : Int) : eqT T Φ (.int a) (.int b) = some (decide (a = b)) := by simp [eqT, eqD, eqS, D.dep]
@[simp] theorem eqT_str (a b : PySem.Str) : eqT T Φ (.str a) (.str b) = some (decide (a = b)) := by simp [eqT, eqD, eqS, D.dep]
@[simp] theorem eqT_bl (a b : Bool) : eqT T Φ (.bl a) (.bl b) = some (decide (a = b)) := by simp [eqT, eqD, eqS, D.dep]
@[simp] theorem eqT_non : eqT T Φ .non .non = some true := by simp [eqT, eqD, eqS, D.dep]
def callNF (r : FR) (xs : List V1) (ρ : Env) : R (O × Env) := match r with
  | .ok d outs => .ok (.lf d, back xs outs ρ)
  | .okN o outs => .ok (o, back xs outs ρ)
  | .exc c es outs => .exc c es (back xs outs ρ)
  | .bad => .bad
@[simp] theorem callNF_ok (d : D) (outs : List A) (xs : List V1) (ρ : Env) : callNF (.ok d outs) xs ρ = .ok (.lf d, back xs outs ρ) := (rfl)
@[simp] theorem callNF_okN (o : O) (outs : List A) (xs : List V1) (ρ : Env) : callNF (.okN o outs) xs ρ = .ok (o, back xs outs ρ) := (rfl)
@[simp] theorem callNF_exc (c : Nat) (es : List D) (outs : List A) (xs : List V1) (ρ : Env) : callNF (.exc c es outs) xs ρ = .exc c es (back xs outs ρ) := (rfl)
theorem callNE_eq (f n : Nat) (xs : List V1) (ρ : Env) : callNE T Φ f n xs ρ = if (pad T f n (xs.map V1.a)).length = n then callNF (Φ f (pad T f n (xs.map V1.a))) xs ρ else .bad := by
  unfold callNE callNF; split
  · cases Φ f (pad T f n (xs.map V1.a)) <;> rfl
  · rfl
@[simp] theorem evN_cll (f n : Nat) (as : As) (ρ : Env) : evN T Φ (.call f n as) ρ = bindP (evAs T Φ as ρ) (fun r => callNE T Φ f n r.1 r.2) .mk := by rw [evN]; rfl
def mvS (i : Nat) : S → Env → R (O × Env)
  | .ow 0 o, ρ => .ok (o, ρ.set i .un)
  | _, _ => .bad
@[simp] theorem mvS_ow (i : Nat) (o : O) (ρ : Env) : mvS i (.ow 0 o) ρ = .ok (o, ρ.set i .un) := (rfl)
@[simp] theorem evN_mv (i : Nat) (ρ : Env) : evN T Φ (.mv i) ρ = mvS i (ρ.at i) ρ := by
  rw [evN]; unfold mvS; generalize ρ.at i = s; cases s with
  | ow k o => cases k <;> rfl
  | _ => rfl
@[simp] theorem evS_retO (n : Nx) (ρ : Env) : evS T Φ (.retN n) ρ = toP (evN T Φ n ρ) (fun r => .retN r.1 r.2) .mk := by rw [evS]; rfl
/-! operators -/
@[simp] theorem binD_int (op : Bop) (a b : Int) (ρ : Env) : binD T Φ op (.int a) (.int b) ρ = optR (binI op a b) ρ := by show (match binI op a b with | some d => R.ok (d, ρ) | none => .bad) = _; cases binI op a b <;> rfl
@[simp] theorem binD_tup (op : Bop) (a b : List D) (ρ : Env) : binD T Φ op (.tup a) (.tup b) ρ = if op = .add ∧ a.length + b.length ≤ lim then .ok (.tup (a ++ b), ρ) else .bad := (rfl)
@[simp] theorem binD_lst (op : Bop) (a b : List D) (ρ : Env) : binD T Φ op (.lst a) (.lst b) ρ = if op = .add ∧ a.length + b.length ≤ lim then .ok (.lst (a ++ b), ρ) else .bad := (rfl)
@[simp] theorem binD_obj {op : Bop} {c f : Nat} (a b : List D) (ρ : Env) (h : (mOf op).bind (T.meth c) = some f) : binD T Φ op (.obj c a) (.obj c b) ρ = callS Φ f [.obj c a, .obj c b] ρ := by
  unfold binD; simp only [h, if_true]
@[simp] theorem mOf_add : mOf .add = some 1 := (rfl)
@[simp] theorem mOf_sub : mOf .sub = some 2 := (rfl)
@[simp] theorem mOf_mul : mOf .mul = some 3 := (rfl)
@[simp] theorem binI_add (a b : Int) : binI .add a b = some (.int (a + b)) := (rfl)
@[simp] theorem binI_sub (a b : Int) : binI .sub a b = some (.int (a - b)) := (rfl)
@[simp] theorem binI_and (a b : Int) : binI .band a b = some (.int (PySem.Builtin.bitAnd a b)) := (rfl)
@[simp] theorem binI_or (a b : Int) : binI .bor a b = some (.int (PySem.Builtin.bitOr a b)) := (rfl)
@[simp] theorem binI_xor (a b : Int) : binI .bxor a b = some (.int (PySem.Builtin.bitXor a b)) := (rfl)
theorem binI_mul {a b : Int} (h : a.natAbs.log2 + b.natAbs.log2 < 100000000) : binI .mul a b = some (.int (a * b)) := if_pos h
theorem binI_fdiv {a b : Int} (h : b ≠ 0) (h2 : b.natAbs.log2 < 9000) : binI .fdiv a b = some (.int (a.fdiv b)) := if_pos ⟨h, h2⟩
theorem binI_mod {a b : Int} (h : b ≠ 0) : binI .mod a b = some (.int (a.fmod b)) := if_pos h
theorem binI_pow {a b : Int} (h : 0 ≤ b ∧ b ≤ 1000000 ∧ a.natAbs < 2 ^ 64) : binI .pow a b = some (.int (a ^ b.toNat)) := if_pos h
theorem binI_shl {a b : Int} (h : 0 ≤ b ∧ b ≤ 1000000 ∧ a.natAbs < 2 ^ 64) : binI .shl a b = some (.int (a * 2 ^ b.toNat)) := if_pos h
theorem binI_shr {a b : Int} (h : 0 ≤ b) : binI .shr a b = some (.int (a / 2 ^ b.toNat)) := if_pos h
def notR : D → Env → R (D × Env)
  | .bl b, ρ => .ok (.bl (!b), ρ)
  | _, _ => .bad
@[simp] theorem notR_bl (b : Bool) (ρ : Env) : notR (.bl b) ρ = .ok (.bl (!b), ρ) := (rfl)
@[simp] theorem cmp_is (x : D) (ρ : Env) : cmpD T Φ .is x .non ρ = .ok (.bl (isNon x), ρ) := (rfl)
@[simp] theorem cmp_isnot (x : D) (ρ : Env) : cmpD T Φ .isnot x .non ρ = .ok (.bl (!isNon x), ρ) := (rfl)
@[simp] theorem isNon_non : isNon .non = true := (rfl)
@[simp] theorem isNon_obj (c : Nat) (ds : List D) : isNon (.obj c ds) = false := (rfl)
@[simp] theorem isNon_int (i : Int) : isNon (.int i) = false := (rfl)
@[simp] theorem isNon_tup (ds : List D) : isNon (.tup ds) = false := (rfl)
@[simp] theorem isNon_lst (ds : List D) : isNon (.lst ds) = false := (rfl)
@[simp] theorem isNon_str (x : PySem.Str) : isNon (.str x) = false := (rfl)
@[simp] theorem isNon_bl (b : Bool) : isNon (.bl b) = false := (rfl)
@[simp] theorem cmp_lt (a b : Int) (ρ : Env) : cmpD T Φ .lt (.int a) (.int b) ρ = .ok (.bl (decide (a < b)), ρ) := (rfl)
@[simp] theorem cmp_le (a b : Int) (ρ : Env) : cmpD T Φ .le (.int a) (.int b) ρ = .ok (.bl (decide (a ≤ b)), ρ) := (rfl)
@[simp] theorem cmp_gt (a b : Int) (ρ : Env) : cmpD T Φ .gt (.int a) (.int b) ρ = .ok (.bl (decide (b < a)), ρ) := (rfl)
@[simp] theorem cmp_ge (a b : Int) (ρ : Env) : cmpD T Φ .ge (.int a) (.int b) ρ = .ok (.bl (decide (b ≤ a)), ρ) := (rfl)
@[simp] theorem cmp_eq_int (a b : Int) (ρ : Env) : cmpD T Φ .eq (.int a) (.int b) ρ = .ok (.bl (decide (a = b)), ρ) := by simp [cmpD]
@[simp] theorem cmp_eq_str (a b : PySem.Str) (ρ : Env) : cmpD T Φ .eq (.str a) (.str b) ρ = .ok (.bl (decide (a = b)), ρ) := by simp [cmpD]
@[simp] theorem cmp_ne_int (a b : Int) (ρ : Env) : cmpD T Φ .ne (.int a) (.int b) ρ = .ok (.bl (!decide (a = b)), ρ) := by simp [cmpD, eqS]
@[simp] theorem cmp_eq_obj {c f : Nat} (fs : List D) (y : D) (ρ : Env) (h : T.meth c mEq = some f) : cmpD T Φ .eq (.obj c fs) y ρ = callS Φ f [.obj c fs, y] ρ := by
  show (match T.meth c mEq with | some f => callS Φ f [.obj c fs, y] ρ | none => .bad) = _; rw [h]
@[simp] theorem cmp_ne_obj {c f : Nat} (fs : List D) (y : D) (ρ : Env) (h : T.meth c mEq = some f) : cmpD T Φ .ne (.obj c fs) y ρ = bindP (callS Φ f [.obj c fs, y] ρ) (fun r => notR r.1 r.2) .mk := by
  unfold cmpD; simp only [h]; unfold bindP; congr 1; funext r; unfold notR; cases r.1 <;> rfl
theorem cmp_eq_tup (a b : List D) (ρ : Env) : cmpD T Φ .eq (.tup a) (.tup b) ρ = optR ((eqT T Φ (.tup a) (.tup b)).map .bl) ρ := by
  show (match eqT T Φ (.tup a) (.tup b) with | some b => R.ok (D.bl b, ρ) | none => .bad) = _; cases eqT T Φ (.tup a) (.tup b) <;> rfl
@[simp] theorem mEq_0 : mEq = 0 := (rfl)
@[simp] theorem mLen_4 : mLen = 4 := (rfl)
@[simp] theorem tru_non : truO (.lf .non) = some false := (rfl)
@[simp] theorem tru_bl (b : Bool) : truO (.lf (.bl b)) = some b := (rfl)
@[simp] theorem tru_int (i : Int) : truO (.lf (.int i)) = some (i != 0) := (rfl)
@[simp] theorem tru_tup (ds : List D) : truO (.lf (.tup ds)) = some (!ds.isEmpty) := (rfl)
@[simp] theorem tru_lst (ds : List D) : truO (.lf (.lst ds)) = some (!ds.isEmpty) := (rfl)
@[simp] theorem tru_ol (os : List O) : truO (.lst os) = some (!os.isEmpty) := (rfl)
@[simp] theorem seq_ol (os : List O) : (O.lst os).seq? = O.leafs os := by unfold O.seq?; rw [show (O.lst os).list? = O.leafs os from rfl]; cases O.leafs os <;> rfl
@[simp] theorem seq_ll (ds : List D) : (O.lf (.lst ds)).seq? = some ds := (rfl)
@[simp] theorem seq_lt (ds : List D) : (O.lf (.tup ds)).seq? = some ds := (rfl)
@[simp] theorem seq_ls (ds : List D) : (O.lf (.scr ds)).seq? = some ds := (rfl)
@[simp] theorem list_ol (os : List O) : (O.lst os).list? = O.leafs os := (rfl)
@[simp] theorem list_ll (ds : List D) : (O.lf (.lst ds)).list? = some ds := (rfl)
@[simp] theorem list_lt (ds : List D) : (O.lf (.tup ds)).list? = none := (rfl)
@[simp] theorem list_ls (ds : List D) : (O.lf (.scr ds)).list? = some ds := (rfl)
@[simp] theorem tup_lt (ds : List D) : (O.lf (.tup ds)).tup? = some ds := (rfl)
@[simp] theorem leafs_nil : O.leafs [] = some [] := (rfl)
@[simp] theorem leafs_lf (x : D) (r : List O) : O.leafs (.lf x :: r) = (O.leafs r).map (x :: ·) := (rfl)
@[simp] theorem leafs_map (ds : List D) : O.leafs (ds.map .lf) = some ds := by induction ds with | nil => rfl | cons d r ih => simp [ih]
@[simp] theorem lock_lf (d : D) (p : Px) : lockOf (.lf d) p = some [] := (rfl)
@[simp] theorem lock_pk (os : List O) (i : Nat) : lockOf (.lst os) (.pk i) = some [i] := (rfl)
@[simp] theorem frz_lf (d : D) : (O.lf d).frz = d := by rw [O.frz]
@[simp] theorem frz_lst (os : List O) : (O.lst os).frz = .lst (O.frzs os) := by rw [O.frz]
@[simp] theorem frz_dic (ks : List D) (os : List O) : (O.dic ks os).frz = .dic ks (O.frzs os) := by rw [O.frz]
@[simp] theorem frz_obj (c : Nat) (os : List O) : (O.obj c os).frz = .obj c (O.frzs os) := by rw [O.frz]
@[simp] theorem frzs_nil : O.frzs [] = [] := by rw [O.frzs]
@[simp] theorem frzs_cons (o : O) (os : List O) : O.frzs (o :: os) = o.frz :: O.frzs os := by rw [O.frzs]
@[simp] theorem frzs_map (ds : List D) : O.frzs (ds.map .lf) = ds := by induction ds with | nil => simp | cons d r ih => simp [ih]
@[simp] theorem frzs_app (a b : List O) : O.frzs (a ++ b) = O.frzs a ++ O.frzs b := by induction a with | nil => simp | cons d r ih => simp [ih]
@[simp] theorem bindT_nm (i : Nat) (d : D) (ρ : Env) : bindT (.nm i) d ρ = .ok (ρ.set i (.sh d)) := (rfl)
def setR : Option Env → R Env
  | some ρ => .ok ρ
  | none => .bad
@[simp] theorem setR_some (ρ : Env) : setR (some ρ) = .ok ρ := (rfl)
@[simp] theorem bindT_tup (is : List Nat) (ds : List D) (ρ : Env) : bindT (.tp is) (.tup ds) ρ = setR (setAll is ds ρ) := by show (match setAll is ds ρ with | some ρ' => R.ok ρ' | none => .bad) = _; cases setAll is ds ρ <;> rfl
@[simp] theorem bindT_lst (is : List Nat) (ds : List D) (ρ : Env) : bindT (.tp is) (.lst ds) ρ = setR (setAll is ds ρ) := by show (match setAll is ds ρ with | some ρ' => R.ok ρ' | none => .bad) = _; cases setAll is ds ρ <;> rfl
@[simp] theorem setAll_nil (ρ : Env) : setAll [] [] ρ = some ρ := (rfl)
@[simp] theorem setAll_cons (i : Nat) (is : List Nat) (d : D) (ds : List D) (ρ : Env) : setAll (i :: is) (d :: ds) ρ = setAll is ds (ρ.set i (.sh d)) := (rfl)
@[simp] theorem wipe_nil (ρ : Env) : wipe ρ [] = ρ := (rfl)
@[simp] theorem wipe_cons (ρ : Env) (i : Nat) (is : List Nat) : wipe ρ (i :: is) = (wipe ρ is).set i .un := (rfl)
@[simp] theorem unwipe_nil (ρ ρ0 : Env) : unwipe ρ ρ0 [] = ρ := (rfl)
@[simp] theorem unwipe_cons (ρ ρ0 : Env) (i : Nat) (is : List Nat) : unwipe ρ ρ0 (i :: is) = (unwipe ρ ρ0 is).set i (ρ0.at i) := (rfl)
@[simp] theorem len_ol (os : List O) : lenO (.lst os) = some os.length := (rfl)
@[simp] theorem len_ll (ds : List D) : lenO (.lf (.lst ds)) = some ds.length := (rfl)
@[simp] theorem len_lt (ds : List D) : lenO (.lf (.tup ds)) = some ds.length := (rfl)
@[simp] theorem len_ls (ds : List D) : lenO (.lf (.scr ds)) = some ds.length := (rfl)
@[simp] theorem inst_own (c' : Nat) (fs : List D) (c : Nat) : inst T (.obj c' fs) (.own c) = T.sub c' c := (rfl)
@[simp] theorem inst_ty_int (i : Int) (k : Nat) : inst T (.int i) (.ty k) = instT 1 k := (rfl)
@[simp] theorem inst_ty_bl (b : Bool) (k : Nat) : inst T (.bl b) (.ty k) = instT 2 k := (rfl)
@[simp] theorem inst_ty_str (x : PySem.Str) (k : Nat) : inst T (.str x) (.ty k) = instT 3 k := (rfl)
@[simp] theorem inst_ty_lst (x : List D) (k : Nat) : inst T (.lst x) (.ty k) = instT 4 k := (rfl)
@[simp] theorem inst_ty_scr (x : List D) (k : Nat) : inst T (.scr x) (.ty k) = instT 4 k := (rfl)
@[simp] theorem inst_ty_tup (x : List D) (k : Nat) : inst T (.tup x) (.ty k) = instT 5 k := (rfl)
@[simp] theorem inst_ty_non (k : Nat) : inst T .non (.ty k) = instT 0 k := (rfl)
@[simp] theorem inst_ty_obj (c : Nat) (x : List D) (k : Nat) : inst T (.obj c x) (.ty k) = instT 7 k := (rfl)
@[simp] theorem inst_own_int (i : Int) (c : Nat) : inst T (.int i) (.own c) = false := (rfl)
@[simp] theorem inst_own_non (c : Nat) : inst T .non (.own c) = false := (rfl)
@[simp] theorem inst_own_tup (ds : List D) (c : Nat) : inst T (.tup ds) (.own c) = false := (rfl)
@[simp] theorem inst_own_lst (ds : List D) (c : Nat) : inst T (.lst ds) (.own c) = false := (rfl)
@[simp] theorem inst_own_bl (b : Bool) (c : Nat) : inst T (.bl b) (.own c) = false := (rfl)
@[simp] theorem idx_lst (os : List O) (i : Int) : idxO (.lst os) (.int i) = getAt os i := (rfl)
@[simp] theorem idx_ll (ds : List D) (i : Int) : idxO (.lf (.lst ds)) (.int i) = (getAt ds i).map .lf := (rfl)
@[simp] theorem idx_ls (ds : List D) (i : Int) : idxO (.lf (.scr ds)) (.int i) = (getAt ds i).map .lf := (rfl)
@[simp] theorem idx_lt (ds : List D) (i : Int) : idxO (.lf (.tup ds)) (.int i) = (getAt ds i).map .lf := (rfl)
@[simp] theorem idx_dic (ks : List D) (os : List O) (k : D) : idxO (.dic ks os) k = look ks os k := (rfl)
@[simp] theorem idx_ld (ks ds : List D) (k : D) : idxO (.lf (.dic ks ds)) k = (look ks ds k).map .lf := (rfl)
@[simp] theorem fldO_obj (c : Nat) (os : List O) (f : Nat) : fldO T (.obj c os) f = (place (T.fld c) f).bind fun j => os[j]? := (rfl)
@[simp] theorem fldO_lf (c : Nat) (ds : List D) (f : Nat) : fldO T (.lf (.obj c ds)) f = (place (T.fld c) f).bind fun j => (ds[j]?).map .lf := (rfl)
@[simp] theorem getAt_nat {xs : List α} (n : Nat) : getAt xs (n : Int) = xs[n]? := by
  unfold getAt ix
  by_cases h : n < xs.length
  · rw [if_pos (by omega), if_pos (by omega)]; simp
  · rw [if_pos (by omega), if_neg (by omega), List.getElem?_eq_none (by omega)]; rfl
@[simp] theorem getAt_lit {xs : List α} (n : Nat) : getAt xs (OfNat.ofNat n : Int) = xs[(OfNat.ofNat n : Nat)]? := getAt_nat n
@[simp] theorem getAt_succ {xs : List α} (n : Nat) : getAt xs ((n : Int) + 1) = xs[n + 1]? := getAt_nat (n + 1)
theorem getAt_of {xs : List α} {i : Int} {n : Nat} (h : i = (n : Int)) : getAt xs i = xs[n]? := by subst h; exact getAt_nat n
@[simp] theorem getAt_zero {xs : List α} : getAt xs (0 : Int) = xs[0]? := getAt_nat 0
@[simp] theorem getAt_one {xs : List α} : getAt xs (1 : Int) = xs[1]? := getAt_nat 1
@[simp] theorem place_same (g : Nat) (r : List Nat) : place (g :: r) g = some 0 := by simp [place]
@[simp] theorem place_ne {g f : Nat} (r : List Nat) (h : g ≠ f) : place (g :: r) f = (place r f).map (· + 1) := by simp [place, h]
@[simp] theorem small_true {i : Int} (h : -4611686018427387904 ≤ i ∧ i < 4611686018427387904) : small i = true := decide_eq_true h
@[simp] theorem rngI_zero (n : Nat) : rngI 0 1 n = (List.range n).map fun k => .int (k : Nat) := by unfold rngI; congr 1; funext k; congr 1; omega
theorem bi_len (o : O) (ρ : Env) (n : Nat) (h : lenO o = some n) : biE T Φ .len [o] ρ = .ok (.int n, ρ) := by
  unfold biE
  split
  · rename_i c fs e; cases e; cases h
  · rename_i hne
    have : biD .len [o] = some (.int n) := by show (lenO o).map _ = _; rw [h]; rfl
    rw [this]
def owS (p : List Nat) : S → Option O
  | .ow _ o => o.at? p
  | _ => none
@[simp] theorem owS_ow (p : List Nat) (k : Nat) (o : O) : owS p (.ow k o) = o.at? p := (rfl)
@[simp] theorem at_self (o : O) : o.at? [] = some o := by cases o <;> rfl
@[simp] theorem put_self (o n : O) : o.put [] n = some n := by cases o <;> rfl
def owPS (ρ : Env) (x : Nat) (p : List Nat) (n : O) : S → R Env
  | .ow k o => match o.put p n with
    | some o' => .ok (ρ.set x (.ow k o'))
    | none => .bad
  | _ => .bad
theorem owPS_ow {ρ : Env} {x : Nat} {p : List Nat} {n : O} {k : Nat} {o o' : O} (h : o.put p n = some o') : owPS ρ x p n (.ow k o) = .ok (ρ.set x (.ow k o')) := by unfold owPS; simp only [h]
@[simp] theorem owPS_self {ρ : Env} {x : Nat} {n : O} {k : Nat} {o : O} : owPS ρ x [] n (.ow k o) = .ok (ρ.set x (.ow k n)) := owPS_ow (put_self o n)
@[simp] theorem owPut_eq {ρ : Env} {x : Nat} {p : List Nat} {n : O} : owPut ρ x p n = owPS ρ x p n (ρ.at x) := by unfold owPut owPS; cases ρ.at x <;> rfl
@[simp] theorem bi_len_ol (os : List O) (ρ : Env) : biE T Φ .len [.lst os] ρ = .ok (.int (os.length : Nat), ρ) := bi_len _ _ _ rfl
@[simp] theorem bi_len_od (ks : List D) (os : List O) (ρ : Env) : biE T Φ .len [.dic ks os] ρ = .ok (.int (ks.length : Nat), ρ) := bi_len _ _ _ rfl
@[simp] theorem bi_len_ll (os : List D) (ρ : Env) : biE T Φ .len [.lf (.lst os)] ρ = .ok (.int (os.length : Nat), ρ) := bi_len _ _ _ rfl
@[simp] theorem bi_len_ls (os : List D) (ρ : Env) : biE T Φ .len [.lf (.scr os)] ρ = .ok (.int (os.length : Nat), ρ) := bi_len _ _ _ rfl
@[simp] theorem bi_len_lt (os : List D) (ρ : Env) : biE T Φ .len [.lf (.tup os)] ρ = .ok (.int (os.length : Nat), ρ) := bi_len _ _ _ rfl
@[simp] theorem bi_len_ld (ks os : List D) (ρ : Env) : biE T Φ .len [.lf (.dic ks os)] ρ = .ok (.int (ks.length : Nat), ρ) := bi_len _ _ _ rfl
theorem bi_ne {b : Bi} (h : b ≠ .len) (os : List O) (ρ : Env) : biE T Φ b os ρ = optR (biD b os) ρ := by
  unfold biE
  split
  · exact absurd rfl h
  · cases biD b os <;> rfl
@[simp] theorem bi_gcd (i j : Int) (ρ : Env) : biE T Φ .gcd [.lf (.int i), .lf (.int j)] ρ = .ok (.int ((Nat.gcd i.natAbs j.natAbs : Nat) : Int), ρ) := by rw [bi_ne (by decide)]; rfl
@[simp] theorem bi_int (i : Int) (ρ : Env) : biE T Φ .int [.lf (.int i)] ρ = .ok (.int i, ρ) := by rw [bi_ne (by decide)]; rfl
@[simp] theorem bi_int_bl (k : Bool) (ρ : Env) : biE T Φ .int [.lf (.bl k)] ρ = .ok (.int (if k then 1 else 0), ρ) := by rw [bi_ne (by decide)]; rfl
@[simp] theorem bi_abs (i : Int) (ρ : Env) : biE T Φ .abs [.lf (.int i)] ρ = .ok (.int (if i < 0 then -i else i), ρ) := by rw [bi_ne (by decide)]; rfl
@[simp] theorem bi_max2 (i j : Int) (ρ : Env) : biE T Φ .max [.lf (.int i), .lf (.int j)] ρ = .ok (.int (if j > i then j else i), ρ) := by
  rw [bi_ne (by decide)]; rfl
@[simp] theorem bi_min2 (i j : Int) (ρ : Env) : biE T Φ .min [.lf (.int i), .lf (.int j)] ρ = .ok (.int (if j < i then j else i), ρ) := by
  rw [bi_ne (by decide)]; rfl
@[simp] theorem intL_map (ns : List Int) : intL (ns.map .int) = some ns := by induction ns with | nil => rfl | cons i r ih => simp [intL, ih]
@[simp] theorem boolL_map (ns : List Bool) : boolL (ns.map .bl) = some ns := by induction ns with | nil => rfl | cons i r ih => simp [boolL, ih]
theorem bi_sum {o : O} {ns : List Int} (h : o.list? = some (ns.map .int)) (ρ : Env) : biE T Φ .sum [o] ρ = .ok (.int ns.sum, ρ) := by
  rw [bi_ne (by decide)]
  have : biD .sum [o] = some (.int ns.sum) := by show (intLO o).map _ = _; unfold intLO; rw [h]; simp
  rw [this]; rfl
theorem bi_all {o : O} {ns : List Bool} (h : o.list? = some (ns.map .bl)) (ρ : Env) : biE T Φ .all [o] ρ = .ok (.bl (ns.all id), ρ) := by
  rw [bi_ne (by decide)]
  have : biD .all [o] = some (.bl (ns.all id)) := by show (o.list?.bind boolL).map _ = _; rw [h]; simp
  rw [this]; rfl
theorem bi_any {o : O} {ns : List Bool} (h : o.list? = some (ns.map .bl)) (ρ : Env) : biE T Φ .any [o] ρ = .ok (.bl (ns.any id), ρ) := by
  rw [bi_ne (by decide)]
  have : biD .any [o] = some (.bl (ns.any id)) := by show (o.list?.bind boolL).map _ = _; rw [h]; simp
  rw [this]; rfl
@[simp] theorem bi_all_l {ι : Type} (p : ι → Bool) (xs : List ι) (ρ : Env) : biE T Φ .all [.lf (.lst (xs.map fun x => .bl (p x)))] ρ = .ok (.bl (xs.all p), ρ) := by
  rw [bi_all (ns := xs.map p) (by simp)]; simp
@[simp] theorem bi_any_l {ι : Type} (p : ι → Bool) (xs : List ι) (ρ : Env) : biE T Φ .any [.lf (.lst (xs.map fun x => .bl (p x)))] ρ = .ok (.bl (xs.any p), ρ) := by
  rw [bi_any (ns := xs.map p) (by simp)]; simp
@[simp] theorem bi_sum_l {ι : Type} (f : ι → Int) (xs : List ι) (ρ : Env) : biE T Φ .sum [.lf (.lst (xs.map fun x => .int (f x)))] ρ = .ok (.int (xs.map f).sum, ρ) := by
  rw [bi_sum (ns := xs.map f) (by simp)]
@[simp] theorem bi_tuple (o : O) (ρ : Env) : biE T Φ .tuple [o] ρ = optR (o.seq?.map .tup) ρ := by
  rw [bi_ne (by decide)]
  congr 1
  show (match o.list? with | some ds => some (D.tup ds) | none => o.tup?.map D.tup) = _
  unfold O.seq?
  cases o.list? <;> rfl
theorem bi_max {o : O} {n : Int} {ns : List Int} (h : o.list? = some (.int n :: ns.map .int)) (ρ : Env) : biE T Φ .max [o] ρ = .ok (.int (maxOf n ns), ρ) := by
  rw [bi_ne (by decide)]
  have e : intLO o = some (n :: ns) := by unfold intLO; rw [h]; show intL (.int n :: ns.map .int) = _; rw [intL, intL_map]; rfl
  have : biD .max [o] = some (.int (maxOf n ns)) := by
    show (match intLO o with | some (n :: ns) => some (D.int (maxOf n ns)) | _ => none) = _
    rw [e]
  rw [this]; rfl
theorem bi_min {o : O} {n : Int} {ns : List Int} (h : o.list? = some (.int n :: ns.map .int)) (ρ : Env) : biE T Φ .min [o] ρ = .ok (.int (minOf n ns), ρ) := by
  rw [bi_ne (by decide)]
  have e : intLO o = some (n :: ns) := by unfold intLO; rw [h]; show intL (.int n :: ns.map .int) = _; rw [intL, intL_map]; rfl
  have : biD .min [o] = some (.int (minOf n ns)) := by
    show (match intLO o with | some (n :: ns) => some (D.int (minOf n ns)) | _ => none) = _
    rw [e]
  rw [this]; rfl
@[simp] theorem owAt_eq {ρ : Env} {x : Nat} {p : List Nat} : owAt ρ x p = owS p (ρ.at x) := by unfold owAt owS; cases ρ.at x <;> rfl
/-! loops -/
theorem loopF_nil {t : D → Env → SR} {ρ : Env} : loopF t [] ρ = .nx ρ := rfl
theorem loopF_nx {t : D → Env → SR} {d : D} {ds : List D} {ρ ρ' : Env} (h : t d ρ = .nx ρ') : loopF t (d :: ds) ρ = loopF t ds ρ' := by
  show (match t d ρ with | .nx ρ' => loopF t ds ρ' | .cnt ρ' => loopF t ds ρ' | .brk ρ' => .nx ρ' | r => r) = _
  rw [h]
theorem loopF_cnt {t : D → Env → SR} {d : D} {ds : List D} {ρ ρ' : Env} (h : t d ρ = .cnt ρ') : loopF t (d :: ds) ρ = loopF t ds ρ' := by
  show (match t d ρ with | .nx ρ' => loopF t ds ρ' | .cnt ρ' => loopF t ds ρ' | .brk ρ' => .nx ρ' | r => r) = _
  rw [h]
theorem loopF_brk {t : D → Env → SR} {d : D} {ds : List D} {ρ ρ' : Env} (h : t d ρ = .brk ρ') : loopF t (d :: ds) ρ = .nx ρ' := by
  show (match t d ρ with | .nx ρ' => loopF t ds ρ' | .cnt ρ' => loopF t ds ρ' | .brk ρ' => .nx ρ' | r => r) = _
  rw [h]
theorem loopF_ret {t : D → Env → SR} {d x : D} {ds : List D} {ρ ρ' : Env} (h : t d ρ = .ret x ρ') : loopF t (d :: ds) ρ = .ret x ρ' := by
  show (match t d ρ with | .nx ρ' => loopF t ds ρ' | .cnt ρ' => loopF t ds ρ' | .brk ρ' => .nx ρ' | r => r) = _
  rw [h]
/-- a state that the environment tells: E s, every turn a step of it -/
theorem loopF_fold {σ ι : Type} {t : D → Env → SR} {g : ι → D} (E : σ → Env) (f : σ → ι → σ) (I : σ → Prop) : ∀ (xs : List ι) (s : σ), I s → (∀ s x, x ∈ xs → I s → t (g x) (E s) = .nx (E (f s x)) ∧ I (f s x)) → loopF t (xs.map g) (E s) = .nx (E (xs.foldl f s)) ∧ I (xs.foldl f s)
  | [], s, hi, _ => ⟨rfl, hi⟩
  | x :: xs, s, hi, h => by
    obtain ⟨h1, h2⟩ := h s x List.mem_cons_self hi
    obtain ⟨h3, h4⟩ := loopF_fold E f I xs (f s x) h2 fun s y hy => h s y (List.mem_cons_of_mem _ hy)
    exact ⟨by rw [List.map_cons, loopF_nx h1]; exact h3, h4⟩
/-- the same; the invariant tells of what is left, too -/
theorem loopF_fold2 {σ ι : Type} {t : D → Env → SR} {g : ι → D} (E : σ → Env) (f : σ → ι → σ) (I : List ι → σ → Prop) (h : ∀ x xs s, I (x :: xs) s → t (g x) (E s) = .nx (E (f s x)) ∧ I xs (f s x)) : ∀ (xs : List ι) (s : σ), I xs s → loopF t (xs.map g) (E s) = .nx (E (xs.foldl f s)) ∧ I [] (xs.foldl f s)
  | [], s, hi => ⟨rfl, hi⟩
  | x :: xs, s, hi => by
    obtain ⟨h1, h2⟩ := h x xs s hi
    obtain ⟨h3, h4⟩ := loopF_fold2 E f I h xs (f s x) h2
    exact ⟨by rw [List.map_cons, loopF_nx h1]; exact h3, h4⟩
/-- the same, with the items and the environment as they are found -/
theorem for_eq {σ ι : Type} {t : D → Env → SR} {ds : List D} {ρ : Env} (g : ι → D) (E : σ → Env) (f : σ → ι → σ) (I : List ι → σ → Prop) (xs : List ι) (s : σ) (hd : ds = xs.map g) (he : ρ = E s) (hi : I xs s)
    (h : ∀ x xs s, I (x :: xs) s → t (g x) (E s) = .nx (E (f s x)) ∧ I xs (f s x)) : loopF t ds ρ = .nx (E (xs.foldl f s)) ∧ I [] (xs.foldl f s) := by
  subst hd; subst he
  exact loopF_fold2 E f I h xs s hi
/-- an invariant over the turns -/
theorem loopF_inv {t : D → Env → SR} (I : Nat → Env → Prop) : ∀ (ds : List D) (j : Nat) (ρ : Env), I j ρ → (∀ i d ρ, ds[i]? = some d → I (j + i) ρ → ∃ ρ', t d ρ = .nx ρ' ∧ I (j + i + 1) ρ') → ∃ ρ', loopF t ds ρ = .nx ρ' ∧ I (j + ds.length) ρ'
  | [], j, ρ, hi, _ => ⟨ρ, rfl, hi⟩
  | d :: ds, j, ρ, hi, h => by
    obtain ⟨ρ1, h1, h2⟩ := h 0 d ρ rfl hi
    obtain ⟨ρ2, h3, h4⟩ := loopF_inv I ds (j + 1) ρ1 h2 fun i e ρ he hI => by
      have := h (i + 1) e ρ (by simpa using he) (by rw [show j + (i + 1) = j + 1 + i by omega]; exact hI)
      rw [show j + (i + 1) = j + 1 + i by omega] at this
      exact this
    exact ⟨ρ2, by rw [loopF_nx h1]; exact h3, by rw [List.length_cons, show j + (ds.length + 1) = j + 1 + ds.length by omega]; exact h4⟩
/-- a loop ahead of what follows: I done ρ behind the turns of done -/
theorem for_run {ι : Type} {P : SR → Prop} {t : D → Env → SR} {ds : List D} {ρ : Env} {k : Env → SR} {w : Wt k} (g : ι → D) (xs : List ι) (I : List ι → Env → Prop) (hd : ds = xs.map g) (h0 : I [] ρ)
    (h : ∀ done x rest, xs = done ++ x :: rest → ∀ ρ, I done ρ → ∃ ρ', t (g x) ρ = .nx ρ' ∧ I (done ++ [x]) ρ') (q : ∀ ρ', I xs ρ' → P (k ρ')) : P (seqP (loopF t ds ρ) k w) := by
  subst hd
  have key : ∀ (rest done : List ι) (ρ : Env), xs = done ++ rest → I done ρ → ∃ ρ', loopF t (rest.map g) ρ = .nx ρ' ∧ I xs ρ' := by
    intro rest
    induction rest with
    | nil => intro done ρ e i; rw [List.append_nil] at e; subst e; exact ⟨ρ, rfl, i⟩
    | cons x r ih =>
      intro done ρ e i
      obtain ⟨ρ1, e1, i1⟩ := h done x r e ρ i
      obtain ⟨ρ2, e2, i2⟩ := ih (done ++ [x]) ρ1 (by rw [e, List.append_assoc]; rfl) i1
      exact ⟨ρ2, by rw [List.map_cons, loopF_nx e1]; exact e2, i2⟩
  obtain ⟨ρ', e, i⟩ := key xs [] ρ rfl h0
  rw [e]
  exact q ρ' i
theorem rngI_one (n : Nat) : rngI 1 1 n = (List.range n).map fun k => .int ((k + 1 : Nat) : Int) := by unfold rngI; congr 1; funext k; congr 1; omega
/-- items that come back one after another -/
theorem loopC_map {ι : Type} {t : D → Env → R (Option O × Env)} {g : ι → D} {ρ : Env} (f : ι → Option O) : ∀ (xs : List ι) (acc : List O), (∀ x ∈ xs, t (g x) ρ = .ok (f x, ρ)) → acc.length + xs.length ≤ lim → loopC t (xs.map g) acc ρ = .ok (acc ++ xs.filterMap f, ρ)
  | [], acc, _, _ => by simp [loopC]
  | x :: xs, acc, h, hl => by
    rw [List.map_cons]
    simp only [loopC, h x List.mem_cons_self, bind_ok]
    rw [List.length_cons] at hl
    cases hf : f x with
    | none =>
      simp only [hf, List.filterMap_cons_none]
      exact loopC_map f xs acc (fun y hy => h y (List.mem_cons_of_mem _ hy)) (by omega)
    | some o =>
      simp only [hf]
      rw [if_pos (by omega)]
      rw [loopC_map f xs (acc ++ [o]) (fun y hy => h y (List.mem_cons_of_mem _ hy)) (by rw [List.length_append, List.length_singleton]; omega), List.append_assoc, List.filterMap_cons_some hf]
      rfl
/-- the same with a state that the environment tells -/
theorem loopC_fold {σ ι : Type} {t : D → Env → R (Option O × Env)} {g : ι → D} (E : σ → Env) (f : σ → ι → σ) (v : σ → ι → Option O) (I : σ → Prop) : ∀ (xs : List ι) (acc : List O) (s : σ), I s → (∀ s x, x ∈ xs → I s → t (g x) (E s) = .ok (v s x, E (f s x)) ∧ I (f s x)) → acc.length + xs.length ≤ lim →
    ∃ r : List O × σ, r = xs.foldl (fun (r : List O × σ) x => (r.1 ++ (v r.2 x).toList, f r.2 x)) (acc, s) ∧ loopC t (xs.map g) acc (E s) = .ok (r.1, E r.2) ∧ I r.2
  | [], acc, s, hi, _, _ => ⟨_, rfl, by simp [loopC], hi⟩
  | x :: xs, acc, s, hi, h, hl => by
    obtain ⟨h1, h2⟩ := h s x List.mem_cons_self hi
    rw [List.length_cons] at hl
    rw [List.map_cons]
    cases hf : v s x with
    | none =>
      obtain ⟨r, e, q, i⟩ := loopC_fold E f v I xs acc (f s x) h2 (fun s y hy => h s y (List.mem_cons_of_mem _ hy)) (by omega)
      refine ⟨r, by rw [List.foldl_cons, hf, e]; simp, ?_, i⟩
      simp only [loopC, h1, bind_ok, hf]
      exact q
    | some o =>
      obtain ⟨r, e, q, i⟩ := loopC_fold E f v I xs (acc ++ [o]) (f s x) h2 (fun s y hy => h s y (List.mem_cons_of_mem _ hy)) (by rw [List.length_append, List.length_singleton]; omega)
      refine ⟨r, by rw [List.foldl_cons, hf, e]; simp, ?_, i⟩
      simp only [loopC, h1, bind_ok, hf]
      rw [if_pos (by omega)]
      exact q
theorem comp_map {ι : Type} {g v : ι → D} {elt : Ex} {tg : Tg} {cs : Tes} {own : List Nat} {ρ : Env} {xs : List ι} (h : ∀ x ∈ xs, tuC T Φ elt tg cs own (g x) ρ = .ok (some (.lf (v x)), ρ)) (hl : xs.length ≤ lim) :
    loopC (tuC T Φ elt tg cs own) (xs.map g) [] ρ = .ok (xs.map fun x => .lf (v x), ρ) := by
  rw [loopC_map (fun x => some (.lf (v x))) xs [] h (by simpa using hl)]
  simp
theorem comp_filter {ι : Type} {g v : ι → D} (p : ι → Bool) {elt : Ex} {tg : Tg} {cs : Tes} {own : List Nat} {ρ : Env} {xs : List ι} (h : ∀ x ∈ xs, tuC T Φ elt tg cs own (g x) ρ = .ok (if p x then some (.lf (v x)) else none, ρ)) (hl : xs.length ≤ lim) :
    loopC (tuC T Φ elt tg cs own) (xs.map g) [] ρ = .ok ((xs.filter p).map fun x => .lf (v x), ρ) := by
  rw [loopC_map (fun x => if p x then some (.lf (v x)) else none) xs [] h (by simpa using hl)]
  congr 2
  rw [List.nil_append]
  clear h hl
  induction xs with
  | nil => rfl
  | cons x r ih =>
    by_cases hp : p x = true
    · simp [hp, ih]
    · simp [hp, ih]
@[simp] theorem leafs_map' {ι : Type} (v : ι → D) (xs : List ι) : O.leafs (xs.map fun x => .lf (v x)) = some (xs.map v) := by induction xs with | nil => rfl | cons d r ih => simp [ih]
@[simp] theorem frzs_map' {ι : Type} (v : ι → D) (xs : List ι) : O.frzs (xs.map fun x => .lf (v x)) = xs.map v := by induction xs with | nil => simp | cons d r ih => simp [ih]
@[simp] theorem leafs_app (a b : List O) : O.leafs (a ++ b) = (O.leafs a).bind fun x => (O.leafs b).map (x ++ ·) := by
  induction a with
  | nil => cases hb : O.leafs b <;> simp [hb]
  | cons o r ih =>
    cases o with
    | lf d =>
      simp only [List.cons_append, leafs_lf, ih]
      cases O.leafs r <;> simp
      cases O.leafs b <;> simp
    | _ => rfl
theorem foldl_fst {σ τ ι : Type} (f : σ → ι → σ) (k : ι → τ) (xs : List ι) : ∀ s : σ × τ, (xs.foldl (fun (s : σ × τ) x => (f s.1 x, k x)) s).1 = xs.foldl f s.1 := by
  induction xs with
  | nil => intro s; rfl
  | cons x r ih => intro s; rw [List.foldl_cons, ih]; rfl
@[simp] theorem nth_zero (a : α) (as : List α) : (a :: as)[0]? = some a := (rfl)
@[simp] theorem nth_succ (a : α) (as : List α) (n : Nat) : (a :: as)[n + 1]? = as[n]? := by simp
theorem foldl_snoc {σ τ ι : Type} (h : ι → τ) (k : List τ × σ → ι → σ) (xs : List ι) : ∀ s : List τ × σ, (xs.foldl (fun (s : List τ × σ) x => (s.1 ++ [h x], k s x)) s).1 = s.1 ++ xs.map h := by
  induction xs with
  | nil => intro s; simp
  | cons x r ih => intro s; rw [List.foldl_cons, ih]; simp
@[simp] theorem leafs_rev (os : List O) : O.leafs os.reverse = (O.leafs os).map List.reverse := by
  induction os with
  | nil => rfl
  | cons o r ih =>
    rw [List.reverse_cons, leafs_app, ih]
    cases o with
    | lf d => cases h : O.leafs r <;> simp [h]
    | _ => cases h : O.leafs r <;> rfl
@[simp] theorem frzs_rev (os : List O) : O.frzs os.reverse = (O.frzs os).reverse := by
  induction os with
  | nil => simp
  | cons o r ih => rw [List.reverse_cons, frzs_app, ih]; simp
@[simp] theorem setO_nat (os : List O) (n : Nat) (y : D) : setO (.lst os) (.int (n : Int)) y = if n < os.length then some (.lst (os.set n (.lf y))) else none := by
  show (ix os.length n).map _ = _
  unfold ix
  by_cases h : n < os.length
  · rw [if_pos (by omega), if_pos (by omega), if_pos h]; simp
  · rw [if_pos (by omega), if_neg (by omega), if_neg h]; rfl
@[simp] theorem look_nil (vs : List α) (x : D) : look [] vs x = none := by cases vs <;> rfl
theorem look_cons (k : D) (ks : List D) (v : α) (vs : List α) (x : D) : look (k :: ks) (v :: vs) x = if keyEq k x then some v else look ks vs x := rfl
theorem look_yes {k x : D} {ks : List D} {v : α} {vs : List α} (h : keyEq k x = true) : look (k :: ks) (v :: vs) x = some v := if_pos h
theorem look_no {k x : D} {ks : List D} {v : α} {vs : List α} (h : keyEq k x = false) : look (k :: ks) (v :: vs) x = look ks vs x := if_neg (by rw [h]; decide)
theorem limN : lim = 16777216 := rfl
theorem iterW_mono {c : Env → R (Bool × Env)} {b : Env → SR} : ∀ {n m : Nat} {ρ : Env} {r : SR}, iterW c b n ρ = some r → n ≤ m → iterW c b m ρ = some r
  | 0, _, _, _, h, _ => by cases h
  | n + 1, 0, _, _, _, h => by omega
  | n + 1, m + 1, ρ, r, h, hm => by
    unfold iterW at h ⊢
    split at h
    · rename_i ρ1 hc
      split at h
      · exact iterW_mono h (by omega)
      · exact iterW_mono h (by omega)
      · exact h
      · exact h
    · exact h
    · exact h
    · exact h
theorem whileS_of {c : Env → R (Bool × Env)} {b : Env → SR} {ρ : Env} {r : SR} {n : Nat} (h : iterW c b n ρ = some r) : whileS c b ρ = r := by
  have ex : ∃ r n, iterW c b n ρ = some r := ⟨r, n, h⟩
  unfold whileS
  rw [dif_pos ex]
  obtain ⟨m, hm⟩ := ex.choose_spec
  have h1 := iterW_mono h (Nat.le_max_left n m)
  have h2 := iterW_mono hm (Nat.le_max_right n m)
  rw [h1] at h2
  exact (Option.some.inj h2).symm
/-- a while: a state E s that every turn steps, until it ends; m falls -/
theorem whileS_fold {σ : Type} {c : Env → R (Bool × Env)} {b : Env → SR} (E : σ → Env) (go : σ → Bool) (f : σ → σ) (I : σ → Prop) (m : σ → Nat)
    (h : ∀ s, I s → c (E s) = .ok (go s, E s) ∧ (go s = true → b (E s) = .nx (E (f s)) ∧ I (f s) ∧ m (f s) < m s)) : ∀ s, I s → ∃ s', whileS c b (E s) = .nx (E s') ∧ I s' ∧ go s' = false := by
  have key : ∀ k s, m s < k → I s → ∃ s' n, iterW c b n (E s) = some (.nx (E s')) ∧ I s' ∧ go s' = false := by
    intro k
    induction k with
    | zero => intro s hs; omega
    | succ k ih =>
      intro s hs hi
      obtain ⟨h1, h2⟩ := h s hi
      cases hg : go s with
      | false => exact ⟨s, 1, by simp [iterW, h1, hg], hi, hg⟩
      | true =>
        obtain ⟨h3, h4, h5⟩ := h2 hg
        obtain ⟨s', n, h6, h7⟩ := ih (f s) (by omega) h4
        exact ⟨s', n + 1, by simp [iterW, h1, hg, h3, h6], h7⟩
  intro s hi
  obtain ⟨s', n, h1, h2, h3⟩ := key (m s + 1) s (by omega) hi
  exact ⟨s', whileS_of h1, h2, h3⟩
end RV
end

section
set_option Elab.async false
set_option linter.all false
set_option maxRecDepth 100000
set_option maxHeartbeats 0
namespace LW
open RF
def B0 : Fd := { slots := 1, pars := 1, body := Sms.cons (Sm.ret (Ex.andE (Ex.isi (Ex.var 0) [Cl.ty 0]) (Ex.notE (Px.ex (Ex.isi (Ex.var 0) [Cl.ty 1]))))) Sms.nil }
theorem e0 : L.fs 0 = some B0 := by kernel_rfl
def B1 : Fd := { slots := 3, pars := 3, body := Sms.cons (Sm.ret (Ex.andE (Ex.call 0 1 (As.sh (Ex.var 0) As.nil)) (Ex.chn Cop.le Cop.le (Ex.var 1) (Ex.var 0) (Ex.var 2)))) Sms.nil }
theorem e1 : L.fs 1 = some B1 := by kernel_rfl
def B2 : Fd := { slots := 1, pars := 1, body := Sms.cons (Sm.ret (Ex.isi (Ex.var 0) [Cl.ty 3, Cl.ty 4])) Sms.nil }
theorem e2 : L.fs 2 = some B2 := by kernel_rfl
def B3_1 : Sms := Sms.cons (Sm.ite (Te.val (Px.ex (Ex.isin true (Ex.var 1) (Px.ex (Ex.cst (D.str ("0123456789" : PySem.Str))))))) (Sms.cons (Sm.ret (Ex.cst D.non)) Sms.nil) Sms.nil) Sms.nil
def B3 : Fd := { slots := 2, pars := 1, body := Sms.cons (Sm.ite (Te.or (Te.val (Px.ex (Ex.cmp Cop.eq (Ex.var 0) (Ex.cst (D.str ("" : PySem.Str)))))) (Te.and (Te.val (Px.ex (Ex.cmp Cop.eq (Ex.rd (Px.sub (Px.pk 0) (Ex.cst (D.int 0)))) (Ex.cst (D.str ("0" : PySem.Str)))))) (Te.val (Px.ex (Ex.cmp Cop.ne (Ex.var 0) (Ex.cst (D.str ("0" : PySem.Str)))))))) (Sms.cons (Sm.ret (Ex.cst D.non)) Sms.nil) Sms.nil) (Sms.cons (Sm.for_ (Tg.nm 1) (It.seq (Px.ex (Ex.var 0))) B3_1) (Sms.cons (Sm.ret (Ex.bi Bi.int (Pxs.cons (Px.pk 0) Pxs.nil))) Sms.nil)) }
theorem e3 : L.fs 3 = some B3 := by kernel_rfl
def B4 : Fd := { slots := 4, pars := 3, body := Sms.cons (Sm.ite (Te.or (Te.not (Te.val (Px.ex (Ex.call 0 1 (As.sh (Ex.var 1) As.nil))))) (Te.or (Te.not (Te.val (Px.ex (Ex.call 0 1 (As.sh (Ex.var 2) As.nil))))) (Te.val (Px.ex (Ex.cmp Cop.eq (Ex.var 2) (Ex.cst (D.int 0))))))) (Sms.cons Sm.nope Sms.nil) Sms.nil) (Sms.cons (Sm.set 3 (Ex.bi Bi.gcd (Pxs.cons (Px.ex (Ex.var 1)) (Pxs.cons (Px.pk 2) Pxs.nil)))) (Sms.cons (Sm.ite (Te.val (Px.ex (Ex.cmp Cop.lt (Ex.var 2) (Ex.cst (D.int 0))))) (Sms.cons (Sm.set 3 (Ex.neg (Ex.var 3))) Sms.nil) Sms.nil) (Sms.cons (Sm.sfl 0 0 (Ex.bin Bop.fdiv (Ex.var 1) (Ex.var 3))) (Sms.cons (Sm.sfl 0 1 (Ex.bin Bop.fdiv (Ex.var 2) (Ex.var 3))) Sms.nil)))) }
theorem e4 : L.fs 4 = some B4 := by kernel_rfl
def B5 : Fd := { slots := 2, pars := 2, body := Sms.cons (Sm.ret (Ex.make 0 3 (As.sh (Ex.bin Bop.add (Ex.bin Bop.mul (Ex.rd (Px.fld (Px.pk 0) 0)) (Ex.rd (Px.fld (Px.pk 1) 1))) (Ex.bin Bop.mul (Ex.rd (Px.fld (Px.pk 1) 0)) (Ex.rd (Px.fld (Px.pk 0) 1)))) (As.sh (Ex.bin Bop.mul (Ex.rd (Px.fld (Px.pk 0) 1)) (Ex.rd (Px.fld (Px.pk 1) 1))) As.nil)))) Sms.nil }
theorem e5 : L.fs 5 = some B5 := by kernel_rfl
def B6 : Fd := { slots := 2, pars := 2, body := Sms.cons (Sm.ret (Ex.make 0 3 (As.sh (Ex.bin Bop.sub (Ex.bin Bop.mul (Ex.rd (Px.fld (Px.pk 0) 0)) (Ex.rd (Px.fld (Px.pk 1) 1))) (Ex.bin Bop.mul (Ex.rd (Px.fld (Px.pk 1) 0)) (Ex.rd (Px.fld (Px.pk 0) 1)))) (As.sh (Ex.bin Bop.mul (Ex.rd (Px.fld (Px.pk 0) 1)) (Ex.rd (Px.fld (Px.pk 1) 1))) As.nil)))) Sms.nil }
theorem e6 : L.fs 6 = some B6 := by kernel_rfl
def B7 : Fd := { slots := 2, pars := 2, body := Sms.cons (Sm.ret (Ex.make 0 3 (As.sh (Ex.bin Bop.mul (Ex.rd (Px.fld (Px.pk 0) 0)) (Ex.rd (Px.fld (Px.pk 1) 0))) (As.sh (Ex.bin Bop.mul (Ex.rd (Px.fld (Px.pk 0) 1)) (Ex.rd (Px.fld (Px.pk 1) 1))) As.nil)))) Sms.nil }
theorem e7 : L.fs 7 = some B7 := by kernel_rfl
def B8 : Fd := { slots := 2, pars := 2, body := Sms.cons (Sm.ret (Ex.andE (Ex.isi (Ex.var 1) [Cl.own 0]) (Ex.andE (Ex.cmp Cop.eq (Ex.rd (Px.fld (Px.pk 0) 0)) (Ex.rd (Px.fld (Px.pk 1) 0))) (Ex.cmp Cop.eq (Ex.rd (Px.fld (Px.pk 0) 1)) (Ex.rd (Px.fld (Px.pk 1) 1)))))) Sms.nil }
theorem e8 : L.fs 8 = some B8 := by kernel_rfl
def B9 : Fd := { slots := 2, pars := 2, body := Sms.cons (Sm.ret (Ex.cmp Cop.lt (Ex.bin Bop.mul (Ex.rd (Px.fld (Px.pk 0) 0)) (Ex.rd (Px.fld (Px.pk 1) 1))) (Ex.bin Bop.mul (Ex.rd (Px.fld (Px.pk 1) 0)) (Ex.rd (Px.fld (Px.pk 0) 1))))) Sms.nil }
theorem e9 : L.fs 9 = some B9 := by kernel_rfl
def B10 : Fd := { slots := 2, pars := 2, body := Sms.cons (Sm.ite (Te.or (Te.not (Te.val (Px.ex (Ex.isi (Ex.var 1) [Cl.own 0])))) (Te.val (Px.ex (Ex.cmp Cop.eq (Ex.rd (Px.fld (Px.pk 1) 0)) (Ex.cst (D.int 0)))))) (Sms.cons Sm.nope Sms.nil) Sms.nil) (Sms.cons (Sm.ret (Ex.make 0 3 (As.sh (Ex.bin Bop.mul (Ex.rd (Px.fld (Px.pk 0) 0)) (Ex.rd (Px.fld (Px.pk 1) 1))) (As.sh (Ex.bin Bop.mul (Ex.rd (Px.fld (Px.pk 0) 1)) (Ex.rd (Px.fld (Px.pk 1) 0))) As.nil)))) Sms.nil) }
theorem e10 : L.fs 10 = some B10 := by kernel_rfl
def B11 : Fd := { slots := 1, pars := 1, body := Sms.cons (Sm.ite (Te.val (Px.ex (Ex.cmp Cop.eq (Ex.rd (Px.fld (Px.pk 0) 1)) (Ex.cst (D.int 1))))) (Sms.cons (Sm.ret (Ex.bi Bi.str (Pxs.cons (Px.fld (Px.pk 0) 0) Pxs.nil))) Sms.nil) Sms.nil) (Sms.cons (Sm.ret (Ex.bin Bop.add (Ex.bin Bop.add (Ex.bi Bi.str (Pxs.cons (Px.fld (Px.pk 0) 0) Pxs.nil)) (Ex.cst (D.str ("/" : PySem.Str)))) (Ex.bi Bi.str (Pxs.cons (Px.fld (Px.pk 0) 1) Pxs.nil)))) Sms.nil) }
theorem e11 : L.fs 11 = some B11 := by kernel_rfl
def B12 : Fd := { slots := 1, pars := 1, body := Sms.cons (Sm.ite (Te.val (Px.ex (Ex.isi (Ex.var 0) [Cl.own 0]))) (Sms.cons (Sm.ret (Ex.var 0)) Sms.nil) Sms.nil) (Sms.cons (Sm.ite (Te.not (Te.val (Px.ex (Ex.call 0 1 (As.sh (Ex.var 0) As.nil))))) (Sms.cons Sm.nope Sms.nil) Sms.nil) (Sms.cons (Sm.ret (Ex.make 0 3 (As.sh (Ex.var 0) As.nil))) Sms.nil)) }
theorem e12 : L.fs 12 = some B12 := by kernel_rfl
def B13_1 : Sms := Sms.cons (Sm.ite (Te.val (Px.ex (Ex.meth (Ex.var 1) 6 2 (As.sh (Ex.var 2) As.nil)))) (Sms.cons (Sm.set 1 (Ex.var 2)) Sms.nil) Sms.nil) Sms.nil
def B13 : Fd := { slots := 3, pars := 1, body := Sms.cons (Sm.set 1 (Ex.rd (Px.sub (Px.pk 0) (Ex.cst (D.int 0))))) (Sms.cons (Sm.for_ (Tg.nm 2) (It.seq (Px.ex (Ex.var 0))) B13_1) (Sms.cons (Sm.ret (Ex.var 1)) Sms.nil)) }
theorem e13 : L.fs 13 = some B13 := by kernel_rfl
def B14_1 : Sms := Sms.cons (Sm.set 1 (Ex.bin Bop.add (Ex.var 1) (Ex.var 2))) Sms.nil
def B14 : Fd := { slots := 3, pars := 1, body := Sms.cons (Sm.set 1 (Ex.make 0 3 (As.sh (Ex.cst (D.int 0)) As.nil))) (Sms.cons (Sm.for_ (Tg.nm 2) (It.seq (Px.ex (Ex.var 0))) B14_1) (Sms.cons (Sm.ret (Ex.var 1)) Sms.nil)) }
theorem e14 : L.fs 14 = some B14 := by kernel_rfl
def B15 : Fd := { slots := 2, pars := 1, body := Sms.cons (Sm.ite (Te.and (Te.not (Te.val (Px.ex (Ex.call 0 1 (As.sh (Ex.var 0) As.nil))))) (Te.not (Te.val (Px.ex (Ex.isi (Ex.var 0) [Cl.own 0]))))) (Sms.cons (Sm.ret (Ex.cst (D.bl false))) Sms.nil) Sms.nil) (Sms.cons (Sm.set 1 (Ex.call 12 1 (As.sh (Ex.var 0) As.nil))) (Sms.cons (Sm.ret (Ex.andE (Ex.chn Cop.le Cop.le (Ex.neg (Ex.cst (D.int 9999))) (Ex.rd (Px.fld (Px.pk 1) 0)) (Ex.cst (D.int 9999))) (Ex.cmp Cop.le (Ex.rd (Px.fld (Px.pk 1) 1)) (Ex.cst (D.int 99))))) Sms.nil)) }
theorem e15 : L.fs 15 = some B15 := by kernel_rfl
def B16 : Fd := { slots := 1, pars := 1, body := Sms.cons (Sm.ite (Te.or (Te.not (Te.val (Px.ex (Ex.call 2 1 (As.sh (Ex.var 0) As.nil))))) (Te.or (Te.val (Px.ex (Ex.cmp Cop.ne (Ex.bi Bi.len (Pxs.cons (Px.pk 0) Pxs.nil)) (Ex.cst (D.int 2))))) (Te.not (Te.val (Px.ex (Ex.call 1 3 (As.sh (Ex.rd (Px.sub (Px.pk 0) (Ex.cst (D.int 0)))) (As.sh (Ex.cst (D.int 1)) (As.sh (Ex.cst (D.int 99)) As.nil))))))))) (Sms.cons (Sm.ret (Ex.cst (D.bl false))) Sms.nil) Sms.nil) (Sms.cons (Sm.ret (Ex.andE (Ex.call 15 1 (As.sh (Ex.rd (Px.sub (Px.pk 0) (Ex.cst (D.int 1)))) As.nil)) (Ex.cmp Cop.ge (Ex.rd (Px.fld (Px.ex (Ex.call 12 1 (As.sh (Ex.rd (Px.sub (Px.pk 0) (Ex.cst (D.int 1)))) As.nil))) 0)) (Ex.cst (D.int 0))))) Sms.nil) }
theorem e16 : L.fs 16 = some B16 := by kernel_rfl
def B17 : Fd := { slots := 2, pars := 1, body := Sms.cons (Sm.ret (Ex.andE (Ex.call 2 1 (As.sh (Ex.var 0) As.nil)) (Ex.andE (Ex.chn Cop.le Cop.le (Ex.cst (D.int 1)) (Ex.bi Bi.len (Pxs.cons (Px.pk 0) Pxs.nil)) (Ex.cst (D.int 6))) (Ex.bi Bi.all (Pxs.cons (Px.ex (Ex.new (Nx.comp (Ex.call 16 1 (As.sh (Ex.var 1) As.nil)) (Tg.nm 1) (It.seq (Px.pk 0)) Tes.nil [1]))) Pxs.nil))))) Sms.nil }
theorem e17 : L.fs 17 = some B17 := by kernel_rfl
def B18_1 : Sms := Sms.cons (Sm.ite (Te.not (Te.val (Px.ex (Ex.call 17 1 (As.sh (Ex.var 4) As.nil))))) (Sms.cons Sm.nope Sms.nil) Sms.nil) (Sms.cons (Sm.app (Px.pk 2) (Ex.bi Bi.tuple (Pxs.cons (Px.ex (Ex.new (Nx.comp (Ex.tup (Exs.cons (Ex.var 5) (Exs.cons (Ex.call 12 1 (As.sh (Ex.var 6) As.nil)) Exs.nil))) (Tg.tp [5, 6]) (It.seq (Px.pk 4)) Tes.nil [5, 6]))) Pxs.nil))) Sms.nil)
def B18 : Fd := { slots := 7, pars := 2, body := Sms.cons (Sm.ite (Te.not (Te.val (Px.ex (Ex.call 2 1 (As.sh (Ex.var 1) As.nil))))) (Sms.cons Sm.nope Sms.nil) Sms.nil) (Sms.cons (Sm.ite (Te.not (Te.val (Px.ex (Ex.chn Cop.le Cop.le (Ex.cst (D.int 1)) (Ex.bi Bi.len (Pxs.cons (Px.pk 1) Pxs.nil)) (Ex.cst (D.int 8)))))) (Sms.cons Sm.nope Sms.nil) Sms.nil) (Sms.cons (Sm.own 2 (Nx.lst Exs.nil)) (Sms.cons (Sm.for_ (Tg.tp [3, 4]) (It.enum (Px.ex (Ex.var 1))) B18_1) (Sms.cons (Sm.sfl 0 2 (Ex.bi Bi.tuple (Pxs.cons (Px.pk 2) Pxs.nil))) Sms.nil)))) }
theorem e18 : L.fs 18 = some B18 := by kernel_rfl
def B19 : Fd := { slots := 1, pars := 1, body := Sms.cons (Sm.ret (Ex.bi Bi.len (Pxs.cons (Px.fld (Px.pk 0) 2) Pxs.nil))) Sms.nil }
theorem e19 : L.fs 19 = some B19 := by kernel_rfl
def B20 : Fd := { slots := 2, pars := 2, body := Sms.cons (Sm.ret (Ex.andE (Ex.isi (Ex.var 1) [Cl.own 1]) (Ex.cmp Cop.eq (Ex.rd (Px.fld (Px.pk 0) 2)) (Ex.rd (Px.fld (Px.pk 1) 2))))) Sms.nil }
theorem e20 : L.fs 20 = some B20 := by kernel_rfl
def B21 : Fd := { slots := 5, pars := 1, body := Sms.cons (Sm.set 1 (Ex.bi Bi.sum (Pxs.cons (Px.ex (Ex.new (Nx.comp (Ex.var 2) (Tg.tp [2, 3]) (It.seq (Px.pk 0)) Tes.nil [2, 3]))) Pxs.nil))) (Sms.cons (Sm.ret (Ex.new (Nx.comp (Ex.tup (Exs.cons (Ex.make 0 3 (As.sh (Ex.var 2) (As.sh (Ex.var 1) As.nil))) (Exs.cons (Ex.var 4) Exs.nil))) (Tg.tp [2, 4]) (It.seq (Px.pk 0)) Tes.nil [2, 4]))) Sms.nil) }
theorem e21 : L.fs 21 = some B21 := by kernel_rfl
def B22_1 : Sms := Sms.cons (Sm.app (Px.pk 5) (Ex.bin Bop.mul (Ex.var 6) (Ex.call 13 1 (As.sh (Ex.new (Nx.lst (Exs.cons (Ex.bin Bop.add (Ex.var 7) (Ex.rd (Px.sub (Px.pk 1) (Ex.bin Bop.sub (Ex.var 4) (Ex.cst (D.int 1)))))) (Exs.cons (Ex.rd (Px.sub (Px.pk 1) (Ex.var 4))) Exs.nil)))) As.nil)))) Sms.nil
def B22_2 : Sms := Sms.cons (Sm.own 5 (Nx.lst Exs.nil)) (Sms.cons (Sm.for_ (Tg.tp [6, 7]) (It.seq (Px.ex (Ex.call 21 1 (As.sh (Ex.var 0) As.nil)))) B22_1) (Sms.cons (Sm.app (Px.pk 3) (Ex.call 14 1 (As.sh (Ex.var 5) As.nil))) Sms.nil))
def B22 : Fd := { slots := 8, pars := 3, body := Sms.cons (Sm.own 3 (Nx.lst (Exs.cons (Ex.make 0 3 (As.sh (Ex.cst (D.int 0)) As.nil)) Exs.nil))) (Sms.cons (Sm.for_ (Tg.nm 4) (It.rng2 (Ex.cst (D.int 1)) (Ex.bin Bop.add (Ex.var 2) (Ex.cst (D.int 1)))) B22_2) (Sms.cons (Sm.ret (Ex.var 3)) Sms.nil)) }
theorem e22 : L.fs 22 = some B22 := by kernel_rfl
def B23_1 : Sms := Sms.cons (Sm.app (Px.pk 2) (Ex.call 22 3 (As.sh (Ex.var 3) (As.sh (Ex.rd (Px.sub (Px.pk 2) (Ex.bin Bop.sub (Ex.bi Bi.len (Pxs.cons (Px.pk 2) Pxs.nil)) (Ex.cst (D.int 1))))) (As.sh (Ex.var 1) As.nil))))) Sms.nil
def B23 : Fd := { slots := 5, pars := 2, body := Sms.cons (Sm.own 2 (Nx.lst (Exs.cons (Ex.new (Nx.comp (Ex.make 0 3 (As.sh (Ex.cst (D.int 0)) As.nil)) (Tg.nm 4) (It.rng1 (Ex.bin Bop.add (Ex.var 1) (Ex.cst (D.int 1)))) Tes.nil [4])) Exs.nil))) (Sms.cons (Sm.for_ (Tg.nm 3) (It.rev (Px.fld (Px.pk 0) 2)) B23_1) (Sms.cons (Sm.ret (Ex.new (Nx.lrev (Px.pk 2)))) Sms.nil)) }
theorem e23 : L.fs 23 = some B23 := by kernel_rfl
def B24 : Fd := { slots := 2, pars := 2, body := Sms.cons (Sm.ret (Ex.rd (Px.sub (Px.sub (Px.ex (Ex.call 23 2 (As.sh (Ex.var 0) (As.sh (Ex.var 1) As.nil)))) (Ex.cst (D.int 0))) (Ex.var 1)))) Sms.nil }
theorem e24 : L.fs 24 = some B24 := by kernel_rfl
def B25_1 : Sms := Sms.cons (Sm.set 5 (Ex.bi Bi.len (Pxs.cons (Px.ex (Ex.new (Nx.comp (Ex.var 6) (Tg.nm 6) (It.seq (Px.pk 1)) (Tes.cons (Te.val (Px.ex (Ex.meth (Ex.var 6) 6 2 (As.sh (Ex.var 4) As.nil)))) Tes.nil) [6]))) Pxs.nil))) (Sms.cons (Sm.ite (Te.and (Te.val (Px.ex (Ex.cmp Cop.gt (Ex.rd (Px.fld (Px.pk 4) 0)) (Ex.cst (D.int 0))))) (Te.or (Te.val (Px.ex (Ex.cmp Cop.eq (Ex.var 5) (Ex.bi Bi.len (Pxs.cons (Px.pk 1) Pxs.nil))))) (Te.val (Px.ex (Ex.cmp Cop.ne (Ex.rd (Px.sub (Px.pk 1) (Ex.var 5))) (Ex.var 4)))))) (Sms.cons (Sm.ins (Px.pk 1) (Ex.var 5) (Ex.var 4)) Sms.nil) Sms.nil) Sms.nil)
def B25_2 : Sms := Sms.cons (Sm.for_ (Tg.tp [3, 4]) (It.seq (Px.ex (Ex.var 2))) B25_1) Sms.nil
def B25 : Fd := { slots := 7, pars := 1, body := Sms.cons (Sm.own 1 (Nx.lst Exs.nil)) (Sms.cons (Sm.for_ (Tg.nm 2) (It.seq (Px.fld (Px.pk 0) 2)) B25_2) (Sms.cons (Sm.ret (Ex.var 1)) Sms.nil)) }
theorem e25 : L.fs 25 = some B25 := by kernel_rfl
def B26_1 : Sms := Sms.cons (Sm.set 9 (Ex.bi Bi.min (Pxs.cons (Px.ex (Ex.var 2)) (Pxs.cons (Px.ex (Ex.bin Bop.add (Ex.var 8) (Ex.cst (D.int 1)))) Pxs.nil)))) (Sms.cons (Sm.put (Px.pk 7) (Ex.var 9) (Ex.bin Bop.add (Ex.rd (Px.sub (Px.pk 7) (Ex.var 9))) (Ex.bin Bop.mul (Ex.rd (Px.sub (Px.pk 3) (Ex.var 8))) (Ex.var 5)))) Sms.nil)
def B26_2 : Sms := Sms.cons (Sm.set 5 (Ex.call 14 1 (As.sh (Ex.new (Nx.comp (Ex.var 11) (Tg.tp [11, 12]) (It.seq (Px.ex (Ex.call 21 1 (As.sh (Ex.var 4) As.nil)))) (Tes.cons (Te.not (Te.val (Px.ex (Ex.meth (Ex.var 12) 6 2 (As.sh (Ex.var 1) As.nil))))) Tes.nil) [11, 12])) As.nil))) (Sms.cons (Sm.set 6 (Ex.bin Bop.sub (Ex.make 0 3 (As.sh (Ex.cst (D.int 1)) As.nil)) (Ex.var 5))) (Sms.cons (Sm.own 7 (Nx.comp (Ex.bin Bop.mul (Ex.var 13) (Ex.var 6)) (Tg.nm 13) (It.seq (Px.pk 3)) Tes.nil [13])) (Sms.cons (Sm.for_ (Tg.nm 8) (It.rng1 (Ex.bin Bop.add (Ex.var 2) (Ex.cst (D.int 1)))) B26_1) (Sms.cons (Sm.set 3 (Ex.var 7)) Sms.nil))))
def B26 : Fd := { slots := 14, pars := 3, body := Sms.cons (Sm.set 3 (Ex.bin Bop.add (Ex.new (Nx.lst (Exs.cons (Ex.make 0 3 (As.sh (Ex.cst (D.int 1)) As.nil)) Exs.nil))) (Ex.new (Nx.comp (Ex.make 0 3 (As.sh (Ex.cst (D.int 0)) As.nil)) (Tg.nm 10) (It.rng1 (Ex.var 2)) Tes.nil [10])))) (Sms.cons (Sm.for_ (Tg.nm 4) (It.seq (Px.fld (Px.pk 0) 2)) B26_2) (Sms.cons (Sm.ret (Ex.call 14 1 (As.sh (Ex.new (Nx.comp (Ex.bin Bop.mul (Ex.make 0 3 (As.sh (Ex.var 8) As.nil)) (Ex.var 13)) (Tg.tp [8, 13]) (It.enum (Px.pk 3)) Tes.nil [8, 13])) As.nil))) Sms.nil)) }
theorem e26 : L.fs 26 = some B26 := by kernel_rfl
def B27_1 : Sms := Sms.cons (Sm.set 2 (Ex.bin Bop.add (Ex.var 2) (Ex.bin Bop.mul (Ex.bin Bop.sub (Ex.var 4) (Ex.var 3)) (Ex.call 26 3 (As.sh (Ex.var 0) (As.sh (Ex.var 4) (As.sh (Ex.var 1) As.nil))))))) (Sms.cons (Sm.set 3 (Ex.var 4)) Sms.nil)
def B27 : Fd := { slots := 5, pars := 2, body := Sms.cons (Sm.unp [2, 3] (Ex.tup (Exs.cons (Ex.make 0 3 (As.sh (Ex.cst (D.int 0)) As.nil)) (Exs.cons (Ex.make 0 3 (As.sh (Ex.cst (D.int 0)) As.nil)) Exs.nil)))) (Sms.cons (Sm.for_ (Tg.nm 4) (It.seq (Px.ex (Ex.call 25 1 (As.sh (Ex.var 0) As.nil)))) B27_1) (Sms.cons (Sm.ret (Ex.var 2)) Sms.nil)) }
theorem e27 : L.fs 27 = some B27 := by kernel_rfl
def B28_1 : Sms := Sms.cons (Sm.own 6 (Nx.comp (Ex.tup (Exs.cons (Ex.var 7) (Exs.cons (Ex.var 8) Exs.nil))) (Tg.tp [7, 8]) (It.seq (Px.ex (Ex.call 21 1 (As.sh (Ex.var 5) As.nil)))) (Tes.cons (Te.not (Te.val (Px.ex (Ex.meth (Ex.var 8) 6 2 (As.sh (Ex.var 2) As.nil))))) Tes.nil) [7, 8])) (Sms.cons (Sm.set 3 (Ex.bin Bop.add (Ex.var 3) (Ex.bin Bop.mul (Ex.var 4) (Ex.call 14 1 (As.sh (Ex.new (Nx.comp (Ex.bin Bop.mul (Ex.var 7) (Ex.var 8)) (Tg.tp [7, 8]) (It.seq (Px.pk 6)) Tes.nil [7, 8])) As.nil))))) (Sms.cons (Sm.set 4 (Ex.bin Bop.mul (Ex.var 4) (Ex.bin Bop.sub (Ex.make 0 3 (As.sh (Ex.cst (D.int 1)) As.nil)) (Ex.call 14 1 (As.sh (Ex.new (Nx.comp (Ex.var 7) (Tg.tp [7, 9]) (It.seq (Px.pk 6)) Tes.nil [7, 9])) As.nil))))) Sms.nil))
def B28 : Fd := { slots := 10, pars := 2, body := Sms.cons (Sm.set 2 (Ex.call 12 1 (As.sh (Ex.var 1) As.nil))) (Sms.cons (Sm.unp [3, 4] (Ex.tup (Exs.cons (Ex.make 0 3 (As.sh (Ex.cst (D.int 0)) As.nil)) (Exs.cons (Ex.make 0 3 (As.sh (Ex.cst (D.int 1)) As.nil)) Exs.nil)))) (Sms.cons (Sm.for_ (Tg.nm 5) (It.seq (Px.fld (Px.pk 0) 2)) B28_1) (Sms.cons (Sm.ret (Ex.var 3)) Sms.nil))) }
theorem e28 : L.fs 28 = some B28 := by kernel_rfl
def B29 : Fd := { slots := 1, pars := 1, body := Sms.cons (Sm.ret (Ex.bin Bop.mul (Ex.call 27 2 (As.sh (Ex.var 0) (As.sh (Ex.cst (D.int 1)) As.nil))) (Ex.make 0 3 (As.sh (Ex.cst (D.int 1)) (As.sh (Ex.cst (D.int 2)) As.nil))))) Sms.nil }
theorem e29 : L.fs 29 = some B29 := by kernel_rfl
def B30 : Fd := { slots := 3, pars := 2, body := Sms.cons (Sm.set 2 (Ex.call 27 2 (As.sh (Ex.var 0) (As.sh (Ex.var 1) As.nil)))) (Sms.cons (Sm.ret (Ex.ite (Te.val (Px.ex (Ex.cmp Cop.eq (Ex.rd (Px.fld (Px.pk 2) 0)) (Ex.cst (D.int 0))))) (Ex.cst D.non) (Ex.meth (Ex.call 24 2 (As.sh (Ex.var 0) (As.sh (Ex.var 1) As.nil))) 7 2 (As.sh (Ex.var 2) As.nil)))) Sms.nil) }
theorem e30 : L.fs 30 = some B30 := by kernel_rfl
def B31 : Fd := { slots := 3, pars := 1, body := Sms.cons (Sm.own 1 (Nx.comp (Ex.bi Bi.abs (Pxs.cons (Px.ex (Ex.bi Bi.int (Pxs.cons (Px.pk 2) Pxs.nil))) Pxs.nil)) (Tg.nm 2) (It.seq (Px.pk 0)) Tes.nil [2])) (Sms.cons (Sm.retN (Nx.dsp [D.str ("cells" : PySem.Str), D.str ("at" : PySem.Str), D.str ("big" : PySem.Str), D.str ("mixed" : PySem.Str), D.str ("count" : PySem.Str)] (Exs.cons (Ex.var 1) (Exs.cons (Ex.cst (D.int 0)) (Exs.cons (Ex.cst (D.int 0)) (Exs.cons (Ex.bin Bop.add (Ex.cst (D.int 7)) (Ex.bi Bi.len (Pxs.cons (Px.pk 1) Pxs.nil))) (Exs.cons (Ex.cst (D.int 0)) Exs.nil))))))) Sms.nil) }
theorem e31 : L.fs 31 = some B31 := by kernel_rfl
def B32 : Fd := { slots := 4, pars := 2, body := Sms.cons (Sm.ite (Te.and (Te.val (Px.ex (Ex.cmp Cop.eq (Ex.rd (Px.sub (Px.pk 0) (Ex.cst (D.str ("big" : PySem.Str))))) (Ex.cst (D.int 0))))) (Te.val (Px.ex (Ex.cmp Cop.lt (Ex.rd (Px.sub (Px.pk 0) (Ex.cst (D.str ("at" : PySem.Str))))) (Ex.bi Bi.len (Pxs.cons (Px.sub (Px.pk 0) (Ex.cst (D.str ("cells" : PySem.Str)))) Pxs.nil)))))) (Sms.cons (Sm.set 2 (Ex.rd (Px.sub (Px.sub (Px.pk 0) (Ex.cst (D.str ("cells" : PySem.Str)))) (Ex.rd (Px.sub (Px.pk 0) (Ex.cst (D.str ("at" : PySem.Str)))))))) (Sms.cons (Sm.put (Px.pk 0) (Ex.cst (D.str ("at" : PySem.Str))) (Ex.bin Bop.add (Ex.rd (Px.sub (Px.pk 0) (Ex.cst (D.str ("at" : PySem.Str))))) (Ex.cst (D.int 1)))) (Sms.cons (Sm.ite (Te.val (Px.ex (Ex.cmp Cop.ge (Ex.var 2) (Ex.bin Bop.pow (Ex.cst (D.int 10)) (Ex.cst (D.int 18)))))) (Sms.cons (Sm.put (Px.pk 0) (Ex.cst (D.str ("big" : PySem.Str))) (Ex.var 2)) Sms.nil) (Sms.cons (Sm.put (Px.pk 0) (Ex.cst (D.str ("mixed" : PySem.Str))) (Ex.bin Bop.mod (Ex.bi Bi.int (Pxs.cons (Px.ex (Ex.bin Bop.add (Ex.bin Bop.add (Ex.bin Bop.mul (Ex.rd (Px.sub (Px.pk 0) (Ex.cst (D.str ("mixed" : PySem.Str))))) (Ex.rd (Px.sub (Px.pk 0) (Ex.cst (D.str ("mixed" : PySem.Str)))))) (Ex.bin Bop.mul (Ex.var 2) (Ex.cst (D.int 2654435761)))) (Ex.cst (D.int 131)))) Pxs.nil)) (Ex.cst (D.int 2305843009213693951)))) Sms.nil)) Sms.nil))) Sms.nil) (Sms.cons (Sm.ite (Te.val (Px.ex (Ex.cmp Cop.gt (Ex.rd (Px.sub (Px.pk 0) (Ex.cst (D.str ("big" : PySem.Str))))) (Ex.cst (D.int 0))))) (Sms.cons (Sm.set 3 (Ex.bin Bop.mod (Ex.bi Bi.int (Pxs.cons (Px.sub (Px.pk 0) (Ex.cst (D.str ("big" : PySem.Str)))) Pxs.nil)) (Ex.var 1))) (Sms.cons (Sm.put (Px.pk 0) (Ex.cst (D.str ("big" : PySem.Str))) (Ex.bin Bop.fdiv (Ex.bi Bi.int (Pxs.cons (Px.sub (Px.pk 0) (Ex.cst (D.str ("big" : PySem.Str)))) Pxs.nil)) (Ex.var 1))) (Sms.cons (Sm.ret (Ex.var 3)) Sms.nil))) Sms.nil) (Sms.cons (Sm.put (Px.pk 0) (Ex.cst (D.str ("count" : PySem.Str))) (Ex.bin Bop.add (Ex.rd (Px.sub (Px.pk 0) (Ex.cst (D.str ("count" : PySem.Str))))) (Ex.cst (D.int 1)))) (Sms.cons (Sm.put (Px.pk 0) (Ex.cst (D.str ("mixed" : PySem.Str))) (Ex.bin Bop.mod (Ex.bi Bi.int (Pxs.cons (Px.ex (Ex.bin Bop.add (Ex.bin Bop.add (Ex.bin Bop.mul (Ex.rd (Px.sub (Px.pk 0) (Ex.cst (D.str ("mixed" : PySem.Str))))) (Ex.rd (Px.sub (Px.pk 0) (Ex.cst (D.str ("mixed" : PySem.Str)))))) (Ex.bin Bop.mul (Ex.cst (D.int 2)) (Ex.rd (Px.sub (Px.pk 0) (Ex.cst (D.str ("count" : PySem.Str))))))) (Ex.cst (D.int 1)))) Pxs.nil)) (Ex.cst (D.int 2305843009213693951)))) (Sms.cons (Sm.ret (Ex.bin Bop.mod (Ex.bi Bi.int (Pxs.cons (Px.ex (Ex.bin Bop.fdiv (Ex.rd (Px.sub (Px.pk 0) (Ex.cst (D.str ("mixed" : PySem.Str))))) (Ex.cst (D.int 1009)))) Pxs.nil)) (Ex.var 1))) Sms.nil)))) }
theorem e32 : L.fs 32 = some B32 := by kernel_rfl
def B33_1 : Sms := Sms.cons (Sm.set 2 (Ex.bin Bop.mod (Ex.bi Bi.int (Pxs.cons (Px.pk 0) Pxs.nil)) (Ex.var 1))) (Sms.cons (Sm.set 0 (Ex.var 1)) (Sms.cons (Sm.set 1 (Ex.var 2)) Sms.nil))
def B33 : Fd := { slots := 3, pars := 2, body := Sms.cons (Sm.set 0 (Ex.bi Bi.abs (Pxs.cons (Px.pk 0) Pxs.nil))) (Sms.cons (Sm.set 1 (Ex.bi Bi.abs (Pxs.cons (Px.pk 1) Pxs.nil))) (Sms.cons (Sm.whl (Te.val (Px.ex (Ex.cmp Cop.gt (Ex.var 1) (Ex.cst (D.int 0))))) B33_1) (Sms.cons (Sm.ret (Ex.var 0)) Sms.nil))) }
theorem e33 : L.fs 33 = some B33 := by kernel_rfl
def B34 : Fd := { slots := 2, pars := 1, body := Sms.cons (Sm.set 1 (Ex.call 33 2 (As.sh (Ex.rd (Px.sub (Px.pk 0) (Ex.cst (D.int 0)))) (As.sh (Ex.rd (Px.sub (Px.pk 0) (Ex.cst (D.int 1)))) As.nil)))) (Sms.cons (Sm.ite (Te.val (Px.ex (Ex.cmp Cop.lt (Ex.rd (Px.sub (Px.pk 0) (Ex.cst (D.int 1)))) (Ex.cst (D.int 0))))) (Sms.cons (Sm.set 1 (Ex.bin Bop.sub (Ex.cst (D.int 0)) (Ex.var 1))) Sms.nil) Sms.nil) (Sms.cons (Sm.ret (Ex.tup (Exs.cons (Ex.bin Bop.fdiv (Ex.rd (Px.sub (Px.pk 0) (Ex.cst (D.int 0)))) (Ex.var 1)) (Exs.cons (Ex.bin Bop.fdiv (Ex.rd (Px.sub (Px.pk 0) (Ex.cst (D.int 1)))) (Ex.var 1)) Exs.nil)))) Sms.nil)) }
theorem e34 : L.fs 34 = some B34 := by kernel_rfl
def B35 : Fd := { slots := 2, pars := 2, body := Sms.cons (Sm.ret (Ex.tup (Exs.cons (Ex.bin Bop.add (Ex.bin Bop.mul (Ex.rd (Px.sub (Px.pk 0) (Ex.cst (D.int 0)))) (Ex.rd (Px.sub (Px.pk 1) (Ex.cst (D.int 1))))) (Ex.bin Bop.mul (Ex.rd (Px.sub (Px.pk 1) (Ex.cst (D.int 0)))) (Ex.rd (Px.sub (Px.pk 0) (Ex.cst (D.int 1)))))) (Exs.cons (Ex.bin Bop.mul (Ex.rd (Px.sub (Px.pk 0) (Ex.cst (D.int 1)))) (Ex.rd (Px.sub (Px.pk 1) (Ex.cst (D.int 1))))) Exs.nil)))) Sms.nil }
theorem e35 : L.fs 35 = some B35 := by kernel_rfl
def B36 : Fd := { slots := 2, pars := 2, body := Sms.cons (Sm.ret (Ex.tup (Exs.cons (Ex.bin Bop.sub (Ex.bin Bop.mul (Ex.rd (Px.sub (Px.pk 0) (Ex.cst (D.int 0)))) (Ex.rd (Px.sub (Px.pk 1) (Ex.cst (D.int 1))))) (Ex.bin Bop.mul (Ex.rd (Px.sub (Px.pk 1) (Ex.cst (D.int 0)))) (Ex.rd (Px.sub (Px.pk 0) (Ex.cst (D.int 1)))))) (Exs.cons (Ex.bin Bop.mul (Ex.rd (Px.sub (Px.pk 0) (Ex.cst (D.int 1)))) (Ex.rd (Px.sub (Px.pk 1) (Ex.cst (D.int 1))))) Exs.nil)))) Sms.nil }
theorem e36 : L.fs 36 = some B36 := by kernel_rfl
def B37 : Fd := { slots := 2, pars := 2, body := Sms.cons (Sm.ret (Ex.tup (Exs.cons (Ex.bin Bop.mul (Ex.rd (Px.sub (Px.pk 0) (Ex.cst (D.int 0)))) (Ex.rd (Px.sub (Px.pk 1) (Ex.cst (D.int 0))))) (Exs.cons (Ex.bin Bop.mul (Ex.rd (Px.sub (Px.pk 0) (Ex.cst (D.int 1)))) (Ex.rd (Px.sub (Px.pk 1) (Ex.cst (D.int 1))))) Exs.nil)))) Sms.nil }
theorem e37 : L.fs 37 = some B37 := by kernel_rfl
def B38 : Fd := { slots := 2, pars := 2, body := Sms.cons (Sm.ite (Te.val (Px.ex (Ex.cmp Cop.lt (Ex.rd (Px.sub (Px.pk 1) (Ex.cst (D.int 0)))) (Ex.cst (D.int 0))))) (Sms.cons (Sm.ret (Ex.tup (Exs.cons (Ex.bin Bop.sub (Ex.cst (D.int 0)) (Ex.bin Bop.mul (Ex.rd (Px.sub (Px.pk 0) (Ex.cst (D.int 0)))) (Ex.rd (Px.sub (Px.pk 1) (Ex.cst (D.int 1)))))) (Exs.cons (Ex.bin Bop.sub (Ex.cst (D.int 0)) (Ex.bin Bop.mul (Ex.rd (Px.sub (Px.pk 0) (Ex.cst (D.int 1)))) (Ex.rd (Px.sub (Px.pk 1) (Ex.cst (D.int 0)))))) Exs.nil)))) Sms.nil) Sms.nil) (Sms.cons (Sm.ret (Ex.tup (Exs.cons (Ex.bin Bop.mul (Ex.rd (Px.sub (Px.pk 0) (Ex.cst (D.int 0)))) (Ex.rd (Px.sub (Px.pk 1) (Ex.cst (D.int 1))))) (Exs.cons (Ex.bin Bop.mul (Ex.rd (Px.sub (Px.pk 0) (Ex.cst (D.int 1)))) (Ex.rd (Px.sub (Px.pk 1) (Ex.cst (D.int 0))))) Exs.nil)))) Sms.nil) }
theorem e38 : L.fs 38 = some B38 := by kernel_rfl
def B39 : Fd := { slots := 2, pars := 2, body := Sms.cons (Sm.ret (Ex.cmp Cop.lt (Ex.bin Bop.mul (Ex.rd (Px.sub (Px.pk 0) (Ex.cst (D.int 0)))) (Ex.rd (Px.sub (Px.pk 1) (Ex.cst (D.int 1))))) (Ex.bin Bop.mul (Ex.rd (Px.sub (Px.pk 1) (Ex.cst (D.int 0)))) (Ex.rd (Px.sub (Px.pk 0) (Ex.cst (D.int 1))))))) Sms.nil }
theorem e39 : L.fs 39 = some B39 := by kernel_rfl
def B40 : Fd := { slots := 2, pars := 2, body := Sms.cons (Sm.ret (Ex.cmp Cop.eq (Ex.bin Bop.mul (Ex.rd (Px.sub (Px.pk 0) (Ex.cst (D.int 0)))) (Ex.rd (Px.sub (Px.pk 1) (Ex.cst (D.int 1))))) (Ex.bin Bop.mul (Ex.rd (Px.sub (Px.pk 1) (Ex.cst (D.int 0)))) (Ex.rd (Px.sub (Px.pk 0) (Ex.cst (D.int 1))))))) Sms.nil }
theorem e40 : L.fs 40 = some B40 := by kernel_rfl
def B41 : Fd := { slots := 2, pars := 2, body := Sms.cons (Sm.ite (Te.val (Px.ex (Ex.call 39 2 (As.sh (Ex.var 0) (As.sh (Ex.var 1) As.nil))))) (Sms.cons (Sm.ret (Ex.var 1)) Sms.nil) Sms.nil) (Sms.cons (Sm.ret (Ex.var 0)) Sms.nil) }
theorem e41 : L.fs 41 = some B41 := by kernel_rfl
def B42 : Fd := { slots := 1, pars := 1, body := Sms.cons (Sm.ite (Te.or (Te.not (Te.val (Px.ex (Ex.isi (Ex.var 0) [Cl.own 0])))) (Te.or (Te.val (Px.ex (Ex.isi (Ex.rd (Px.fld (Px.pk 0) 0)) [Cl.ty 1]))) (Te.val (Px.ex (Ex.isi (Ex.rd (Px.fld (Px.pk 0) 1)) [Cl.ty 1]))))) (Sms.cons (Sm.ret (Ex.cst D.non)) Sms.nil) Sms.nil) (Sms.cons (Sm.ite (Te.or (Te.not (Te.val (Px.ex (Ex.isi (Ex.rd (Px.fld (Px.pk 0) 0)) [Cl.ty 0])))) (Te.or (Te.not (Te.val (Px.ex (Ex.isi (Ex.rd (Px.fld (Px.pk 0) 1)) [Cl.ty 0])))) (Te.val (Px.ex (Ex.cmp Cop.lt (Ex.rd (Px.fld (Px.pk 0) 1)) (Ex.cst (D.int 1))))))) (Sms.cons (Sm.ret (Ex.cst D.non)) Sms.nil) Sms.nil) (Sms.cons (Sm.ite (Te.val (Px.ex (Ex.cmp Cop.ne (Ex.call 33 2 (As.sh (Ex.rd (Px.fld (Px.pk 0) 0)) (As.sh (Ex.rd (Px.fld (Px.pk 0) 1)) As.nil))) (Ex.cst (D.int 1))))) (Sms.cons (Sm.ret (Ex.cst D.non)) Sms.nil) Sms.nil) (Sms.cons (Sm.ret (Ex.tup (Exs.cons (Ex.rd (Px.fld (Px.pk 0) 0)) (Exs.cons (Ex.rd (Px.fld (Px.pk 0) 1)) Exs.nil)))) Sms.nil))) }
theorem e42 : L.fs 42 = some B42 := by kernel_rfl
def B43 : Fd := { slots := 4, pars := 2, body := Sms.cons (Sm.ite (Te.or (Te.not (Te.val (Px.ex (Ex.isi (Ex.var 0) [Cl.ty 4])))) (Te.val (Px.ex (Ex.cmp Cop.ne (Ex.bi Bi.len (Pxs.cons (Px.pk 0) Pxs.nil)) (Ex.var 1))))) (Sms.cons (Sm.ret (Ex.cst D.non)) Sms.nil) Sms.nil) (Sms.cons (Sm.own 2 (Nx.comp (Ex.call 42 1 (As.sh (Ex.var 3) As.nil)) (Tg.nm 3) (It.seq (Px.pk 0)) Tes.nil [3])) (Sms.cons (Sm.ite (Te.val (Px.ex (Ex.isin false (Ex.cst D.non) (Px.pk 2)))) (Sms.cons (Sm.ret (Ex.cst D.non)) Sms.nil) Sms.nil) (Sms.cons (Sm.ret (Ex.var 2)) Sms.nil))) }
theorem e43 : L.fs 43 = some B43 := by kernel_rfl
def B44 : Fd := { slots := 3, pars := 2, body := Sms.cons (Sm.set 2 (Ex.call 42 1 (As.sh (Ex.var 0) As.nil))) (Sms.cons (Sm.ret (Ex.andE (Ex.cmp Cop.isnot (Ex.var 2) (Ex.cst D.non)) (Ex.call 40 2 (As.sh (Ex.var 2) (As.sh (Ex.var 1) As.nil))))) Sms.nil) }
theorem e44 : L.fs 44 = some B44 := by kernel_rfl
def B45_1 : Sms := Sms.cons (Sm.set 3 (Ex.tup (Exs.cons (Ex.call 32 2 (As.io 0 (As.sh (Ex.cst (D.int 9)) As.nil))) (Exs.cons (Ex.cst (D.int 1)) Exs.nil)))) (Sms.cons (Sm.ite (Te.val (Px.ex (Ex.cmp Cop.eq (Ex.call 32 2 (As.io 0 (As.sh (Ex.cst (D.int 3)) As.nil))) (Ex.cst (D.int 0))))) (Sms.cons (Sm.set 3 (Ex.call 34 1 (As.sh (Ex.tup (Exs.cons (Ex.call 32 2 (As.io 0 (As.sh (Ex.cst (D.int 30)) As.nil))) (Exs.cons (Ex.bin Bop.add (Ex.cst (D.int 1)) (Ex.call 32 2 (As.io 0 (As.sh (Ex.cst (D.int 6)) As.nil)))) Exs.nil))) As.nil))) Sms.nil) Sms.nil) (Sms.cons (Sm.app (Px.pk 1) (Ex.new (Nx.lst (Exs.cons (Ex.bin Bop.add (Ex.cst (D.int 1)) (Ex.call 32 2 (As.io 0 (As.sh (Ex.cst (D.int 5)) As.nil)))) (Exs.cons (Ex.var 3) Exs.nil))))) Sms.nil))
def B45 : Fd := { slots := 5, pars := 1, body := Sms.cons (Sm.own 1 (Nx.lst Exs.nil)) (Sms.cons (Sm.for_ (Tg.nm 2) (It.rng1 (Ex.bin Bop.add (Ex.cst (D.int 1)) (Ex.call 32 2 (As.io 0 (As.sh (Ex.cst (D.int 3)) As.nil))))) B45_1) (Sms.cons (Sm.ret (Ex.new (Nx.dsp [D.str ("rows" : PySem.Str), D.str ("all" : PySem.Str)] (Exs.cons (Ex.var 1) (Exs.cons (Ex.bi Bi.sum (Pxs.cons (Px.ex (Ex.new (Nx.comp (Ex.rd (Px.sub (Px.pk 4) (Ex.cst (D.int 0)))) (Tg.nm 4) (It.seq (Px.pk 1)) Tes.nil [4]))) Pxs.nil)) Exs.nil))))) Sms.nil)) }
theorem e45 : L.fs 45 = some B45 := by kernel_rfl
def B46_1 : Sms := Sms.cons (Sm.set 7 (Ex.make 0 3 (As.sh (Ex.rd (Px.sub (Px.pk 6) (Ex.cst (D.int 0)))) (As.sh (Ex.rd (Px.sub (Px.pk 6) (Ex.cst (D.int 1)))) As.nil)))) (Sms.cons (Sm.ite (Te.and (Te.val (Px.ex (Ex.cmp Cop.eq (Ex.rd (Px.sub (Px.pk 6) (Ex.cst (D.int 1)))) (Ex.cst (D.int 1))))) (Te.val (Px.ex (Ex.cmp Cop.eq (Ex.call 32 2 (As.io 0 (As.sh (Ex.cst (D.int 2)) As.nil))) (Ex.cst (D.int 0)))))) (Sms.cons (Sm.set 7 (Ex.rd (Px.sub (Px.pk 6) (Ex.cst (D.int 0))))) Sms.nil) Sms.nil) (Sms.cons (Sm.app (Px.pk 4) (Ex.new (Nx.lst (Exs.cons (Ex.var 5) (Exs.cons (Ex.var 7) Exs.nil))))) Sms.nil))
def B46_2 : Sms := Sms.cons (Sm.own 4 (Nx.lst Exs.nil)) (Sms.cons (Sm.for_ (Tg.tp [5, 6]) (It.seq (Px.sub (Px.pk 3) (Ex.cst (D.str ("rows" : PySem.Str))))) B46_1) (Sms.cons (Sm.ite (Te.val (Px.ex (Ex.cmp Cop.eq (Ex.call 32 2 (As.io 0 (As.sh (Ex.cst (D.int 2)) As.nil))) (Ex.cst (D.int 0))))) (Sms.cons (Sm.set 4 (Ex.bi Bi.tuple (Pxs.cons (Px.ex (Ex.new (Nx.comp (Ex.bi Bi.tuple (Pxs.cons (Px.pk 8) Pxs.nil)) (Tg.nm 8) (It.seq (Px.pk 4)) Tes.nil [8]))) Pxs.nil))) Sms.nil) Sms.nil) (Sms.cons (Sm.app (Px.pk 2) (Ex.var 4)) Sms.nil)))
def B46 : Fd := { slots := 9, pars := 2, body := Sms.cons (Sm.own 2 (Nx.lst Exs.nil)) (Sms.cons (Sm.for_ (Tg.nm 3) (It.seq (Px.ex (Ex.var 1))) B46_2) (Sms.cons (Sm.ite (Te.val (Px.ex (Ex.cmp Cop.eq (Ex.call 32 2 (As.io 0 (As.sh (Ex.cst (D.int 2)) As.nil))) (Ex.cst (D.int 0))))) (Sms.cons (Sm.ret (Ex.bi Bi.tuple (Pxs.cons (Px.pk 2) Pxs.nil))) Sms.nil) Sms.nil) (Sms.cons (Sm.ret (Ex.var 2)) Sms.nil))) }
theorem e46 : L.fs 46 = some B46 := by kernel_rfl
def B47_1 : Sms := Sms.cons (Sm.set 10 (Ex.call 41 2 (As.sh (Ex.call 35 2 (As.sh (Ex.var 9) (As.sh (Ex.rd (Px.sub (Px.pk 4) (Ex.bin Bop.sub (Ex.var 6) (Ex.cst (D.int 1))))) As.nil))) (As.sh (Ex.rd (Px.sub (Px.pk 4) (Ex.var 6))) As.nil)))) (Sms.cons (Sm.set 7 (Ex.call 35 2 (As.sh (Ex.var 7) (As.sh (Ex.call 37 2 (As.sh (Ex.tup (Exs.cons (Ex.var 8) (Exs.cons (Ex.rd (Px.sub (Px.pk 3) (Ex.cst (D.str ("all" : PySem.Str))))) Exs.nil))) (As.sh (Ex.var 10) As.nil))) As.nil)))) Sms.nil)
def B47_2 : Sms := Sms.cons (Sm.set 7 (Ex.tup (Exs.cons (Ex.cst (D.int 0)) (Exs.cons (Ex.cst (D.int 1)) Exs.nil)))) (Sms.cons (Sm.for_ (Tg.tp [8, 9]) (It.seq (Px.sub (Px.pk 3) (Ex.cst (D.str ("rows" : PySem.Str))))) B47_1) (Sms.cons (Sm.app (Px.pk 5) (Ex.call 34 1 (As.sh (Ex.var 7) As.nil))) Sms.nil))
def B47_3 : Sms := Sms.cons (Sm.set 4 (Ex.rd (Px.sub (Px.pk 2) (Ex.cst (D.int 0))))) (Sms.cons (Sm.own 5 (Nx.lst (Exs.cons (Ex.tup (Exs.cons (Ex.cst (D.int 0)) (Exs.cons (Ex.cst (D.int 1)) Exs.nil))) Exs.nil))) (Sms.cons (Sm.for_ (Tg.nm 6) (It.rng2 (Ex.cst (D.int 1)) (Ex.bin Bop.add (Ex.var 1) (Ex.cst (D.int 1)))) B47_2) (Sms.cons (Sm.set 2 (Ex.bin Bop.add (Ex.new (Nx.lst (Exs.cons (Ex.var 5) Exs.nil))) (Ex.var 2))) Sms.nil)))
def B47 : Fd := { slots := 11, pars := 2, body := Sms.cons (Sm.own 2 (Nx.lst (Exs.cons (Ex.new (Nx.rep (Ex.tup (Exs.cons (Ex.cst (D.int 0)) (Exs.cons (Ex.cst (D.int 1)) Exs.nil))) (Ex.bin Bop.add (Ex.var 1) (Ex.cst (D.int 1))))) Exs.nil))) (Sms.cons (Sm.for_ (Tg.nm 3) (It.seq (Px.ex (Ex.srev (Px.pk 0) (Ox.some (Ex.neg (Ex.cst (D.int 1))))))) B47_3) (Sms.cons (Sm.ret (Ex.var 2)) Sms.nil)) }
theorem e47 : L.fs 47 = some B47 := by kernel_rfl
def B48 : Fd := { slots := 1, pars := 1, body := Sms.cons (Sm.ret (Ex.make 0 3 (As.sh (Ex.rd (Px.sub (Px.pk 0) (Ex.cst (D.int 0)))) (As.sh (Ex.rd (Px.sub (Px.pk 0) (Ex.cst (D.int 1)))) As.nil)))) Sms.nil }
theorem e48 : L.fs 48 = some B48 := by kernel_rfl
def B49_1 : Sms := Sms.cons (Sm.app (Px.pk 3) (Ex.tup (Exs.cons (Ex.call 34 1 (As.sh (Ex.call 37 2 (As.sh (Ex.var 4) (As.sh (Ex.tup (Exs.cons (Ex.var 6) (Exs.cons (Ex.rd (Px.sub (Px.pk 2) (Ex.cst (D.str ("all" : PySem.Str))))) Exs.nil))) As.nil))) As.nil)) (Exs.cons (Ex.bin Bop.add (Ex.var 5) (Ex.new (Nx.lst (Exs.cons (Ex.var 7) Exs.nil)))) Exs.nil)))) Sms.nil
def B49_2 : Sms := Sms.cons (Sm.for_ (Tg.tp [6, 7]) (It.seq (Px.sub (Px.pk 2) (Ex.cst (D.str ("rows" : PySem.Str))))) B49_1) Sms.nil
def B49_3 : Sms := Sms.cons (Sm.own 3 (Nx.lst Exs.nil)) (Sms.cons (Sm.for_ (Tg.tp [4, 5]) (It.seq (Px.ex (Ex.var 1))) B49_2) (Sms.cons (Sm.own 1 (Nx.lof (Px.pk 3))) Sms.nil))
def B49 : Fd := { slots := 8, pars := 1, body := Sms.cons (Sm.own 1 (Nx.lst (Exs.cons (Ex.tup (Exs.cons (Ex.tup (Exs.cons (Ex.cst (D.int 1)) (Exs.cons (Ex.cst (D.int 1)) Exs.nil))) (Exs.cons (Ex.new (Nx.lst Exs.nil)) Exs.nil))) Exs.nil))) (Sms.cons (Sm.for_ (Tg.nm 2) (It.seq (Px.ex (Ex.var 0))) B49_3) (Sms.cons (Sm.ret (Ex.var 1)) Sms.nil)) }
theorem e49 : L.fs 49 = some B49 := by kernel_rfl
def B50_1 : Sms := Sms.cons (Sm.ite (Te.val (Px.ex (Ex.call 39 2 (As.sh (Ex.rd (Px.sub (Px.pk 2) (Ex.var 5))) (As.sh (Ex.rd (Px.sub (Px.pk 2) (Ex.var 6))) As.nil))))) (Sms.cons (Sm.set 5 (Ex.var 6)) Sms.nil) Sms.nil) Sms.nil
def B50_2 : Sms := Sms.cons (Sm.set 5 (Ex.cst (D.int 0))) (Sms.cons (Sm.for_ (Tg.nm 6) (It.rng1 (Ex.bi Bi.len (Pxs.cons (Px.pk 2) Pxs.nil))) B50_1) (Sms.cons (Sm.set 3 (Ex.call 35 2 (As.sh (Ex.var 3) (As.sh (Ex.rd (Px.sub (Px.pk 2) (Ex.var 5))) As.nil)))) (Sms.cons (Sm.set 2 (Ex.bin Bop.add (Ex.slc (Px.pk 2) Ox.none (Ox.some (Ex.var 5))) (Ex.slc (Px.pk 2) (Ox.some (Ex.bin Bop.add (Ex.var 5) (Ex.cst (D.int 1)))) Ox.none))) Sms.nil)))
def B50 : Fd := { slots := 7, pars := 2, body := Sms.cons (Sm.own 2 (Nx.lof (Px.pk 0))) (Sms.cons (Sm.set 3 (Ex.tup (Exs.cons (Ex.cst (D.int 0)) (Exs.cons (Ex.cst (D.int 1)) Exs.nil)))) (Sms.cons (Sm.for_ (Tg.nm 4) (It.rng1 (Ex.bi Bi.min (Pxs.cons (Px.ex (Ex.var 1)) (Pxs.cons (Px.ex (Ex.bi Bi.len (Pxs.cons (Px.pk 0) Pxs.nil))) Pxs.nil)))) B50_2) (Sms.cons (Sm.ret (Ex.var 3)) Sms.nil))) }
theorem e50 : L.fs 50 = some B50 := by kernel_rfl
def B51_1 : Sms := Sms.cons (Sm.set 2 (Ex.call 34 1 (As.sh (Ex.call 35 2 (As.sh (Ex.var 2) (As.sh (Ex.call 37 2 (As.sh (Ex.var 3) (As.sh (Ex.call 50 2 (As.sh (Ex.var 4) (As.sh (Ex.var 1) As.nil))) As.nil))) As.nil))) As.nil))) Sms.nil
def B51 : Fd := { slots := 5, pars := 2, body := Sms.cons (Sm.set 2 (Ex.tup (Exs.cons (Ex.cst (D.int 0)) (Exs.cons (Ex.cst (D.int 1)) Exs.nil)))) (Sms.cons (Sm.for_ (Tg.tp [3, 4]) (It.seq (Px.ex (Ex.call 49 1 (As.sh (Ex.var 0) As.nil)))) B51_1) (Sms.cons (Sm.ret (Ex.var 2)) Sms.nil)) }
theorem e51 : L.fs 51 = some B51 := by kernel_rfl
def B52_1 : Sms := Sms.cons (Sm.ite (Te.val (Px.ex (Ex.call 39 2 (As.sh (Ex.var 7) (As.sh (Ex.var 1) As.nil))))) (Sms.cons (Sm.set 5 (Ex.bin Bop.add (Ex.var 5) (Ex.var 6))) Sms.nil) (Sms.cons (Sm.set 8 (Ex.call 37 2 (As.sh (Ex.var 3) (As.sh (Ex.tup (Exs.cons (Ex.var 6) (Exs.cons (Ex.rd (Px.sub (Px.pk 4) (Ex.cst (D.str ("all" : PySem.Str))))) Exs.nil))) As.nil)))) (Sms.cons (Sm.set 2 (Ex.call 34 1 (As.sh (Ex.call 35 2 (As.sh (Ex.var 2) (As.sh (Ex.call 37 2 (As.sh (Ex.var 8) (As.sh (Ex.var 7) As.nil))) As.nil))) As.nil))) Sms.nil))) Sms.nil
def B52_2 : Sms := Sms.cons (Sm.set 5 (Ex.cst (D.int 0))) (Sms.cons (Sm.for_ (Tg.tp [6, 7]) (It.seq (Px.sub (Px.pk 4) (Ex.cst (D.str ("rows" : PySem.Str))))) B52_1) (Sms.cons (Sm.set 3 (Ex.call 34 1 (As.sh (Ex.call 37 2 (As.sh (Ex.var 3) (As.sh (Ex.tup (Exs.cons (Ex.var 5) (Exs.cons (Ex.rd (Px.sub (Px.pk 4) (Ex.cst (D.str ("all" : PySem.Str))))) Exs.nil))) As.nil))) As.nil))) Sms.nil))
def B52 : Fd := { slots := 9, pars := 2, body := Sms.cons (Sm.set 2 (Ex.tup (Exs.cons (Ex.cst (D.int 0)) (Exs.cons (Ex.cst (D.int 1)) Exs.nil)))) (Sms.cons (Sm.set 3 (Ex.tup (Exs.cons (Ex.cst (D.int 1)) (Exs.cons (Ex.cst (D.int 1)) Exs.nil)))) (Sms.cons (Sm.for_ (Tg.nm 4) (It.seq (Px.ex (Ex.var 0))) B52_2) (Sms.cons (Sm.ret (Ex.var 2)) Sms.nil))) }
theorem e52 : L.fs 52 = some B52 := by kernel_rfl
def B53 : Fd := { slots := 3, pars := 1, body := Sms.cons (Sm.own 1 (Nx.comp (Ex.new (Nx.lst (Exs.cons (Ex.tup (Exs.cons (Ex.bin Bop.add (Ex.cst (D.int 1)) (Ex.call 32 2 (As.io 0 (As.sh (Ex.cst (D.int 9)) As.nil)))) (Exs.cons (Ex.cst (D.int 0)) Exs.nil))) Exs.nil))) (Tg.nm 2) (It.rng1 (Ex.bin Bop.add (Ex.cst (D.int 1)) (Ex.call 32 2 (As.io 0 (As.sh (Ex.cst (D.int 3)) As.nil))))) Tes.nil [2])) (Sms.cons (Sm.ret (Ex.cmp Cop.is (Ex.call 30 2 (As.sh (Ex.make 1 2 (As.sh (Ex.var 1) As.nil)) (As.sh (Ex.bin Bop.add (Ex.cst (D.int 1)) (Ex.call 32 2 (As.io 0 (As.sh (Ex.cst (D.int 4)) As.nil)))) As.nil))) (Ex.cst D.non))) Sms.nil) }
theorem e53 : L.fs 53 = some B53 := by kernel_rfl
def B54_1 : Sms := Sms.cons (Sm.set 11 (Ex.idx (Ex.var 2) (Ex.call 32 2 (As.io 1 (As.sh (Ex.bi Bi.len (Pxs.cons (Px.pk 2) Pxs.nil)) As.nil))))) (Sms.cons (Sm.set 12 (Ex.rd (Px.sub (Px.ex (Ex.idx (Ex.rd (Px.sub (Px.pk 11) (Ex.cst (D.str ("rows" : PySem.Str))))) (Ex.call 32 2 (As.io 1 (As.sh (Ex.bi Bi.len (Pxs.cons (Px.sub (Px.pk 11) (Ex.cst (D.str ("rows" : PySem.Str)))) Pxs.nil)) As.nil))))) (Ex.cst (D.int 1))))) (Sms.cons (Sm.ite (Te.val (Px.ex (Ex.cmp Cop.gt (Ex.var 10) (Ex.cst (D.int 1))))) (Sms.cons (Sm.set 12 (Ex.call 34 1 (As.sh (Ex.tup (Exs.cons (Ex.call 32 2 (As.io 1 (As.sh (Ex.cst (D.int 40)) As.nil))) (Exs.cons (Ex.bin Bop.add (Ex.cst (D.int 1)) (Ex.call 32 2 (As.io 1 (As.sh (Ex.cst (D.int 4)) As.nil)))) Exs.nil))) As.nil))) Sms.nil) Sms.nil) (Sms.cons (Sm.ite (Te.not (Te.val (Px.ex (Ex.call 44 2 (As.sh (Ex.call 28 2 (As.sh (Ex.var 3) (As.sh (Ex.call 48 1 (As.sh (Ex.var 12) As.nil)) As.nil))) (As.sh (Ex.call 52 2 (As.sh (Ex.var 2) (As.sh (Ex.var 12) As.nil))) As.nil)))))) (Sms.cons (Sm.ret (Ex.cst (D.bl false))) Sms.nil) Sms.nil) Sms.nil)))
def B54 : Fd := { slots := 14, pars := 1, body := Sms.cons (Sm.own 1 (Nx.call 31 1 (As.sh (Ex.var 0) As.nil))) (Sms.cons (Sm.own 2 (Nx.comp (Ex.call 45 1 (As.io 1 As.nil)) (Tg.nm 10) (It.rng1 (Ex.bin Bop.add (Ex.cst (D.int 1)) (Ex.call 32 2 (As.io 1 (As.sh (Ex.cst (D.int 5)) As.nil))))) Tes.nil [10])) (Sms.cons (Sm.set 3 (Ex.make 1 2 (As.sh (Ex.call 46 2 (As.io 1 (As.sh (Ex.var 2) As.nil))) As.nil))) (Sms.cons (Sm.set 4 (Ex.bin Bop.add (Ex.cst (D.int 1)) (Ex.call 32 2 (As.io 1 (As.sh (Ex.cst (D.int 4)) As.nil))))) (Sms.cons (Sm.set 5 (Ex.call 51 2 (As.sh (Ex.var 2) (As.sh (Ex.var 4) As.nil)))) (Sms.cons (Sm.set 6 (Ex.call 51 2 (As.sh (Ex.var 2) (As.sh (Ex.cst (D.int 1)) As.nil)))) (Sms.cons (Sm.set 7 (Ex.rd (Px.sub (Px.sub (Px.ex (Ex.call 47 2 (As.sh (Ex.var 2) (As.sh (Ex.var 4) As.nil)))) (Ex.cst (D.int 0))) (Ex.var 4)))) (Sms.cons (Sm.ite (Te.or (Te.not (Te.val (Px.ex (Ex.call 44 2 (As.sh (Ex.call 27 2 (As.sh (Ex.var 3) (As.sh (Ex.var 4) As.nil))) (As.sh (Ex.var 5) As.nil)))))) (Te.not (Te.val (Px.ex (Ex.call 44 2 (As.sh (Ex.call 27 2 (As.sh (Ex.var 3) (As.sh (Ex.cst (D.int 1)) As.nil))) (As.sh (Ex.var 6) As.nil))))))) (Sms.cons (Sm.ret (Ex.cst (D.bl false))) Sms.nil) Sms.nil) (Sms.cons (Sm.set 8 (Ex.call 37 2 (As.sh (Ex.var 6) (As.sh (Ex.tup (Exs.cons (Ex.cst (D.int 1)) (Exs.cons (Ex.cst (D.int 2)) Exs.nil))) As.nil)))) (Sms.cons (Sm.ite (Te.or (Te.not (Te.val (Px.ex (Ex.call 44 2 (As.sh (Ex.call 29 1 (As.sh (Ex.var 3) As.nil)) (As.sh (Ex.var 8) As.nil)))))) (Te.not (Te.val (Px.ex (Ex.call 44 2 (As.sh (Ex.call 24 2 (As.sh (Ex.var 3) (As.sh (Ex.var 4) As.nil))) (As.sh (Ex.var 7) As.nil))))))) (Sms.cons (Sm.ret (Ex.cst (D.bl false))) Sms.nil) Sms.nil) (Sms.cons (Sm.set 9 (Ex.call 52 2 (As.sh (Ex.var 2) (As.sh (Ex.var 8) As.nil)))) (Sms.cons (Sm.ite (Te.or (Te.not (Te.val (Px.ex (Ex.call 44 2 (As.sh (Ex.call 28 2 (As.sh (Ex.var 3) (As.sh (Ex.call 29 1 (As.sh (Ex.var 3) As.nil)) As.nil))) (As.sh (Ex.var 9) As.nil)))))) (Te.val (Px.ex (Ex.call 39 2 (As.sh (Ex.var 9) (As.sh (Ex.var 8) As.nil)))))) (Sms.cons (Sm.ret (Ex.cst (D.bl false))) Sms.nil) Sms.nil) (Sms.cons (Sm.ite (Te.or (Te.val (Px.ex (Ex.call 39 2 (As.sh (Ex.rd (Px.sub (Px.sub (Px.ex (Ex.call 47 2 (As.sh (Ex.var 2) (As.sh (Ex.cst (D.int 1)) As.nil)))) (Ex.cst (D.int 0))) (Ex.cst (D.int 1)))) (As.sh (Ex.var 9) As.nil))))) (Te.val (Px.ex (Ex.call 39 2 (As.sh (Ex.var 5) (As.sh (Ex.var 7) As.nil)))))) (Sms.cons (Sm.ret (Ex.cst (D.bl false))) Sms.nil) Sms.nil) (Sms.cons (Sm.for_ (Tg.nm 10) (It.rng1 (Ex.cst (D.int 4))) B54_1) (Sms.cons (Sm.set 13 (Ex.call 30 2 (As.sh (Ex.var 3) (As.sh (Ex.var 4) As.nil)))) (Sms.cons (Sm.ite (Te.val (Px.ex (Ex.cmp Cop.eq (Ex.rd (Px.sub (Px.pk 5) (Ex.cst (D.int 0)))) (Ex.cst (D.int 0))))) (Sms.cons (Sm.ret (Ex.andE (Ex.cmp Cop.is (Ex.var 13) (Ex.cst D.non)) (Ex.call 53 1 (As.io 1 As.nil)))) Sms.nil) Sms.nil) (Sms.cons (Sm.ret (Ex.andE (Ex.call 44 2 (As.sh (Ex.var 13) (As.sh (Ex.call 38 2 (As.sh (Ex.var 7) (As.sh (Ex.var 5) As.nil))) As.nil))) (Ex.andE (Ex.call 53 1 (As.io 1 As.nil)) (Ex.call 44 2 (As.sh (Ex.call 28 2 (As.sh (Ex.var 3) (As.sh (Ex.cst (D.int 10000)) As.nil))) (As.sh (Ex.tup (Exs.cons (Ex.cst (D.int 0)) (Exs.cons (Ex.cst (D.int 1)) Exs.nil))) As.nil)))))) Sms.nil)))))))))))))))) }
theorem e54 : L.fs 54 = some B54 := by kernel_rfl
end LW
end

section
set_option Elab.async false
set_option linter.all false
set_option maxRecDepth 100000
namespace LW
open RF
@[simp] theorem tb0 : L.T.meth 0 1 = some 5 := by kernel_rfl
@[simp] theorem tb1 : L.T.meth 0 2 = some 6 := by kernel_rfl
@[simp] theorem tb2 : L.T.meth 0 3 = some 7 := by kernel_rfl
@[simp] theorem tb3 : L.T.meth 0 0 = some 8 := by kernel_rfl
@[simp] theorem tb4 : L.T.meth 0 6 = some 9 := by kernel_rfl
@[simp] theorem tb5 : L.T.meth 0 7 = some 10 := by kernel_rfl
@[simp] theorem tb6 : L.T.meth 0 8 = some 11 := by kernel_rfl
@[simp] theorem tb7 : L.T.init 0 = some 4 := by kernel_rfl
@[simp] theorem tb8 : L.T.fld 0 = [0, 1] := by kernel_rfl
@[simp] theorem tb9 : L.T.meth 1 4 = some 19 := by kernel_rfl
@[simp] theorem tb10 : L.T.meth 1 0 = some 20 := by kernel_rfl
@[simp] theorem tb11 : L.T.init 1 = some 18 := by kernel_rfl
@[simp] theorem tb12 : L.T.fld 1 = [2] := by kernel_rfl
@[simp] theorem tb13 : L.T.dfl 0 = [] := by kernel_rfl
@[simp] theorem tb14 : L.T.dfl 1 = [] := by kernel_rfl
@[simp] theorem tb15 : L.T.dfl 2 = [] := by kernel_rfl
@[simp] theorem tb16 : L.T.dfl 3 = [] := by kernel_rfl
@[simp] theorem tb17 : L.T.dfl 4 = [.int (1)] := by kernel_rfl
@[simp] theorem tb18 : L.T.dfl 5 = [] := by kernel_rfl
@[simp] theorem tb19 : L.T.dfl 6 = [] := by kernel_rfl
@[simp] theorem tb20 : L.T.dfl 7 = [] := by kernel_rfl
@[simp] theorem tb21 : L.T.dfl 8 = [] := by kernel_rfl
@[simp] theorem tb22 : L.T.dfl 9 = [] := by kernel_rfl
@[simp] theorem tb23 : L.T.dfl 10 = [] := by kernel_rfl
@[simp] theorem tb24 : L.T.dfl 11 = [] := by kernel_rfl
@[simp] theorem tb25 : L.T.dfl 12 = [] := by kernel_rfl
@[simp] theorem tb26 : L.T.dfl 13 = [] := by kernel_rfl
@[simp] theorem tb27 : L.T.dfl 14 = [] := by kernel_rfl
@[simp] theorem tb28 : L.T.dfl 15 = [] := by kernel_rfl
@[simp] theorem tb29 : L.T.dfl 16 = [] := by kernel_rfl
@[simp] theorem tb30 : L.T.dfl 17 = [] := by kernel_rfl
@[simp] theorem tb31 : L.T.dfl 18 = [] := by kernel_rfl
@[simp] theorem tb32 : L.T.dfl 19 = [] := by kernel_rfl
@[simp] theorem tb33 : L.T.dfl 20 = [] := by kernel_rfl
@[simp] theorem tb34 : L.T.dfl 21 = [] := by kernel_rfl
@[simp] theorem tb35 : L.T.dfl 22 = [] := by kernel_rfl
@[simp] theorem tb36 : L.T.dfl 23 = [] := by kernel_rfl
@[simp] theorem tb37 : L.T.dfl 24 = [] := by kernel_rfl
@[simp] theorem tb38 : L.T.dfl 25 = [] := by kernel_rfl
@[simp] theorem tb39 : L.T.dfl 26 = [] := by kernel_rfl
@[simp] theorem tb40 : L.T.dfl 27 = [] := by kernel_rfl
@[simp] theorem tb41 : L.T.dfl 28 = [] := by kernel_rfl
@[simp] theorem tb42 : L.T.dfl 29 = [] := by kernel_rfl
@[simp] theorem tb43 : L.T.dfl 30 = [] := by kernel_rfl
@[simp] theorem tb44 : L.T.dfl 31 = [] := by kernel_rfl
@[simp] theorem tb45 : L.T.dfl 32 = [] := by kernel_rfl
@[simp] theorem tb46 : L.T.dfl 33 = [] := by kernel_rfl
@[simp] theorem tb47 : L.T.dfl 34 = [] := by kernel_rfl
@[simp] theorem tb48 : L.T.dfl 35 = [] := by kernel_rfl
@[simp] theorem tb49 : L.T.dfl 36 = [] := by kernel_rfl
@[simp] theorem tb50 : L.T.dfl 37 = [] := by kernel_rfl
@[simp] theorem tb51 : L.T.dfl 38 = [] := by kernel_rfl
@[simp] theorem tb52 : L.T.dfl 39 = [] := by kernel_rfl
@[simp] theorem tb53 : L.T.dfl 40 = [] := by kernel_rfl
@[simp] theorem tb54 : L.T.dfl 41 = [] := by kernel_rfl
@[simp] theorem tb55 : L.T.dfl 42 = [] := by kernel_rfl
@[simp] theorem tb56 : L.T.dfl 43 = [] := by kernel_rfl
@[simp] theorem tb57 : L.T.dfl 44 = [] := by kernel_rfl
@[simp] theorem tb58 : L.T.dfl 45 = [] := by kernel_rfl
@[simp] theorem tb59 : L.T.dfl 46 = [] := by kernel_rfl
@[simp] theorem tb60 : L.T.dfl 47 = [] := by kernel_rfl
@[simp] theorem tb61 : L.T.dfl 48 = [] := by kernel_rfl
@[simp] theorem tb62 : L.T.dfl 49 = [] := by kernel_rfl
@[simp] theorem tb63 : L.T.dfl 50 = [] := by kernel_rfl
@[simp] theorem tb64 : L.T.dfl 51 = [] := by kernel_rfl
@[simp] theorem tb65 : L.T.dfl 52 = [] := by kernel_rfl
@[simp] theorem tb66 : L.T.dfl 53 = [] := by kernel_rfl
@[simp] theorem tb67 : L.T.dfl 54 = [] := by kernel_rfl
@[simp] theorem tsub (c d : Nat) : L.T.sub c d = decide (c = d) := rfl
end LW
end

section
set_option Elab.async false
set_option linter.all false
set_option autoImplicit false
set_option maxRecDepth 100000
set_option maxHeartbeats 4000000
namespace LW
open RF RV

/-! fractions -/
def fr (q : Rat) : D := .obj 0 [.int q.num, .int (q.den : Int)]
theorem s_is_integer {n : Nat} (hn : 1 ≤ n) (d : D) : callN L.T L.fs n 0 [.sh d] = .ok (.bl (match d with | .int _ => true | _ => false)) [.sh d] := by
  refine call_at' (k := 0) hn e0 rfl fun n hn => ?_
  cases d <;> simp [B0, inst, kindD, instT]
theorem t_init {n : Nat} (hn : 2 ≤ n) {a b : Int} (hb : b ≠ 0) (hg : b.natAbs.log2 < 9000) : callN L.T L.fs n 4 [.ow (.obj 0 []), .sh (.int a), .sh (.int b)] = .ok .non [.ow (.obj 0 [.lf (.int (Rat.divInt a b).num), .lf (.int ((Rat.divInt a b).den : Int))]), .sh (.int a), .sh (.int b)] := by
  refine call_at' (k := 1) hn e4 rfl fun n hn => ?_
  have g := VQ.gcd_pos (a := a) hb
  have hg := VQ.gcd_small (a := a) hb hg
  have fn := VQ.fd_num (a := a) hb
  have fd := VQ.fd_den (a := a) hb
  by_cases h : b < 0
  · rw [if_pos h] at fn fd
    simp (disch := first | omega | (rw [Int.natAbs_neg, Int.natAbs_natCast]; assumption)) [B4, s_is_integer, callE_eq, hb, h, binI_fdiv, fn, fd]
  · rw [if_neg h] at fn fd
    simp (disch := first | omega | (rw [Int.natAbs_natCast]; assumption)) [B4, s_is_integer, callE_eq, hb, h, binI_fdiv, fn, fd]
@[simp] theorem mk_frac {n : Nat} (hn : 2 ≤ n) {a b : Int} (hb : b ≠ 0) (hg : b.natAbs.log2 < 9000) (ρ : Env) : makeE L.T (callN L.T L.fs n) 0 3 [.sh (.int a), .sh (.int b)] ρ = .ok (fr (Rat.divInt a b), ρ) := by
  rw [makeE_eq (f := 4) _ _ _ (by simp)]
  simp [t_init hn hb hg, fr]
@[simp] theorem mk_frac1 {n : Nat} (hn : 2 ≤ n) {a : Int} (ρ : Env) : makeE L.T (callN L.T L.fs n) 0 3 [.sh (.int a)] ρ = .ok (fr (a : Rat), ρ) := by
  have h1 : (1 : Int).natAbs.log2 < 9000 := by decide
  rw [makeE_eq (f := 4) _ _ _ (by simp)]
  simp [t_init hn (show (1 : Int) ≠ 0 by decide) h1, fr, VQ.div_int]
@[simp] theorem fr_num (q : Rat) : fldO L.T (.lf (fr q)) 0 = some (.lf (.int q.num)) := by simp [fr]
@[simp] theorem fr_den (q : Rat) : fldO L.T (.lf (fr q)) 1 = some (.lf (.int (q.den : Int))) := by simp [fr]
@[simp] theorem fr_non (q : Rat) : isNon (fr q) = false := rfl
@[simp] theorem fr_inst (q : Rat) : inst L.T (fr q) (.own 0) = true := by simp [fr]
@[simp] theorem fr_ty (q : Rat) (k : Nat) : inst L.T (fr q) (.ty k) = false := by simp [fr, inst, kindD, instT]
theorem t_add {n : Nat} (hn : 3 ≤ n) {p q : Rat} (hp : VQ.Sm p) (hq : VQ.Sm q) : callN L.T L.fs n 5 [.sh (fr p), .sh (fr q)] = .ok (fr (p + q)) [.sh (fr p), .sh (fr q)] := by
  refine call_at' (k := 2) hn e5 rfl fun n hn => ?_
  obtain ⟨h1, h2⟩ := hp; obtain ⟨h3, h4⟩ := hq
  have hd := VQ.dd_ne p q
  have hs := VQ.dd_small ⟨h1, h2⟩ ⟨h3, h4⟩
  simp (disch := first | assumption | omega | (simp only [Int.natAbs_natCast]; omega)) [B5, binI_mul, mk_frac, VQ.div_add]
theorem t_sub {n : Nat} (hn : 3 ≤ n) {p q : Rat} (hp : VQ.Sm p) (hq : VQ.Sm q) : callN L.T L.fs n 6 [.sh (fr p), .sh (fr q)] = .ok (fr (p - q)) [.sh (fr p), .sh (fr q)] := by
  refine call_at' (k := 2) hn e6 rfl fun n hn => ?_
  obtain ⟨h1, h2⟩ := hp; obtain ⟨h3, h4⟩ := hq
  have hd := VQ.dd_ne p q
  have hs := VQ.dd_small ⟨h1, h2⟩ ⟨h3, h4⟩
  simp (disch := first | assumption | omega | (simp only [Int.natAbs_natCast]; omega)) [B6, binI_mul, mk_frac, VQ.div_sub]
theorem t_mul {n : Nat} (hn : 3 ≤ n) {p q : Rat} (hp : VQ.Sm p) (hq : VQ.Sm q) : callN L.T L.fs n 7 [.sh (fr p), .sh (fr q)] = .ok (fr (p * q)) [.sh (fr p), .sh (fr q)] := by
  refine call_at' (k := 2) hn e7 rfl fun n hn => ?_
  obtain ⟨h1, h2⟩ := hp; obtain ⟨h3, h4⟩ := hq
  have hd := VQ.dd_ne p q
  have hs := VQ.dd_small ⟨h1, h2⟩ ⟨h3, h4⟩
  simp (disch := first | assumption | omega | (simp only [Int.natAbs_natCast]; omega)) [B7, binI_mul, mk_frac, VQ.div_mul]
theorem t_eq {n : Nat} (hn : 1 ≤ n) (p q : Rat) : callN L.T L.fs n 8 [.sh (fr p), .sh (fr q)] = .ok (.bl (decide (p = q))) [.sh (fr p), .sh (fr q)] := by
  refine call_at' (k := 0) hn e8 rfl fun n hn => ?_
  have e := VQ.frac_eq p q
  by_cases h1 : p.num = q.num
  · by_cases h2 : (p.den : Int) = q.den
    · have h := e.mp ⟨h1, h2⟩
      simp [B8, h]
    · have h : p ≠ q := fun z => h2 (e.mpr z).2
      simp [B8, h, h1, h2]
  · have h : p ≠ q := fun z => h1 (e.mpr z).1
    simp [B8, h, h1]
theorem t_below {n : Nat} (hn : 1 ≤ n) {p q : Rat} (hp : VQ.Sm p) (hq : VQ.Sm q) : callN L.T L.fs n 9 [.sh (fr p), .sh (fr q)] = .ok (.bl (decide (p < q))) [.sh (fr p), .sh (fr q)] := by
  refine call_at' (k := 0) hn e9 rfl fun n hn => ?_
  obtain ⟨h1, h2⟩ := hp; obtain ⟨h3, h4⟩ := hq
  simp (disch := first | assumption | omega | (simp only [Int.natAbs_natCast]; omega)) [B9, binI_mul, Rat.lt_iff]
@[simp] theorem bin_add {n : Nat} (hn : 3 ≤ n) {p q : Rat} (hp : VQ.Sm p) (hq : VQ.Sm q) (ρ : Env) : binD L.T (callN L.T L.fs n) .add (fr p) (fr q) ρ = .ok (fr (p + q), ρ) := by
  have := t_add hn hp hq
  unfold fr at *
  rw [binD_obj (f := 5) _ _ _ (by simp)]
  simp [this]
@[simp] theorem bin_sub {n : Nat} (hn : 3 ≤ n) {p q : Rat} (hp : VQ.Sm p) (hq : VQ.Sm q) (ρ : Env) : binD L.T (callN L.T L.fs n) .sub (fr p) (fr q) ρ = .ok (fr (p - q), ρ) := by
  have := t_sub hn hp hq
  unfold fr at *
  rw [binD_obj (f := 6) _ _ _ (by simp)]
  simp [this]
@[simp] theorem bin_mul {n : Nat} (hn : 3 ≤ n) {p q : Rat} (hp : VQ.Sm p) (hq : VQ.Sm q) (ρ : Env) : binD L.T (callN L.T L.fs n) .mul (fr p) (fr q) ρ = .ok (fr (p * q), ρ) := by
  have := t_mul hn hp hq
  unfold fr at *
  rw [binD_obj (f := 7) _ _ _ (by simp)]
  simp [this]
@[simp] theorem cmp_eq {n : Nat} (hn : 1 ≤ n) (p q : Rat) (ρ : Env) : cmpD L.T (callN L.T L.fs n) .eq (fr p) (fr q) ρ = .ok (.bl (decide (p = q)), ρ) := by
  have := t_eq hn p q
  unfold fr at *
  rw [cmp_eq_obj (f := 8) _ _ _ (by simp)]
  simp [this]
@[simp] theorem cmp_ne {n : Nat} (hn : 1 ≤ n) (p q : Rat) (ρ : Env) : cmpD L.T (callN L.T L.fs n) .ne (fr p) (fr q) ρ = .ok (.bl (!decide (p = q)), ρ) := by
  have := t_eq hn p q
  unfold fr at *
  rw [cmp_ne_obj (f := 8) _ _ _ (by simp)]
  simp [this]
@[simp] theorem meth_fr_below (k : Nat) (as : As) (q : Rat) (ρ : Env) (Φ : Fn) : methR L.T Φ 6 k as (fr q) ρ = bindP (evAs L.T Φ as ρ) (fun s => callE L.T Φ 9 k (.sh (fr q) :: s.1) s.2) .mk := by
  unfold fr; exact methR_obj _ _ _ (by simp)
@[simp] theorem meth_fr_div (k : Nat) (as : As) (q : Rat) (ρ : Env) (Φ : Fn) : methR L.T Φ 7 k as (fr q) ρ = bindP (evAs L.T Φ as ρ) (fun s => callE L.T Φ 10 k (.sh (fr q) :: s.1) s.2) .mk := by
  unfold fr; exact methR_obj _ _ _ (by simp)
@[simp] theorem call_below {n : Nat} (hn : 1 ≤ n) {p q : Rat} (hp : VQ.Sm p) (hq : VQ.Sm q) (ρ : Env) : callE L.T (callN L.T L.fs n) 9 2 [.sh (fr p), .sh (fr q)] ρ = .ok (.bl (decide (p < q)), ρ) := by
  rw [callE_eq]; simp [t_below hn hp hq]
/-! lists of fractions -/
theorem s_is_sequence {n : Nat} (hn : 1 ≤ n) (d : D) : callN L.T L.fs n 2 [.sh d] = .ok (.bl (match d with | .lst _ => true | .scr _ => true | .tup _ => true | _ => false)) [.sh d] := by
  refine call_at' (k := 0) hn e2 rfl fun n hn => ?_
  cases d <;> simp [B2, inst, kindD, instT]
theorem s_is_between {n : Nat} (hn : 2 ≤ n) (i a b : Int) : callN L.T L.fs n 1 [.sh (.int i), .sh (.int a), .sh (.int b)] = .ok (.bl (decide (a ≤ i) && decide (i ≤ b))) [.sh (.int i), .sh (.int a), .sh (.int b)] := by
  refine call_at' (k := 1) hn e1 rfl fun n hn => ?_
  by_cases h : a ≤ i <;> simp (disch := omega) [B1, callE_eq, s_is_integer, h]
theorem s_as_frac_fr {n : Nat} (hn : 3 ≤ n) (q : Rat) : callN L.T L.fs n 12 [.sh (fr q)] = .ok (fr q) [.sh (fr q)] := by
  refine call_at' (k := 2) hn e12 rfl fun n hn => ?_
  simp [B12]
theorem s_as_frac_int {n : Nat} (hn : 3 ≤ n) (i : Int) : callN L.T L.fs n 12 [.sh (.int i)] = .ok (fr (i : Rat)) [.sh (.int i)] := by
  refine call_at' (k := 2) hn e12 rfl fun n hn => ?_
  simp (disch := omega) [B12, callE_eq, s_is_integer]
theorem s_greatest {n : Nat} (hn : 2 ≤ n) (q : Rat) (qs : List Rat) (h : ∀ x ∈ q :: qs, VQ.Sm x) : callN L.T L.fs n 13 [.sh (.lst ((q :: qs).map fr))] = .ok (fr (VQ.gmax q (q :: qs))) [.sh (.lst ((q :: qs).map fr))] := by
  refine call_at' (k := 1) hn e13 rfl fun n hn => ?_
  simp [B13]
  rw [← List.map_cons (f := fr)]
  rw [(loopF_fold2 (σ := Rat × S) (g := fr) (fun s => [.sh (.lst ((q :: qs).map fr)), .sh (fr s.1), s.2]) (fun s x => (if s.1 < x then x else s.1, .sh (fr x))) (fun xs s => VQ.Sm s.1 ∧ ∀ x ∈ xs, VQ.Sm x) ?st (q :: qs) (q, .un) ⟨h q List.mem_cons_self, h⟩).1]
  case st =>
    intro x xs s hs
    have h1 := hs.2 x List.mem_cons_self
    have h2 := hs.1
    by_cases hlt : s.1 < x
    · simp (disch := first | omega | assumption) [tuF, B13_1, hlt, h1]
      exact fun y hy => hs.2 y (List.mem_cons_of_mem _ hy)
    · simp (disch := first | omega | assumption) [tuF, B13_1, hlt, h2]
      exact fun y hy => hs.2 y (List.mem_cons_of_mem _ hy)
  simp [foldl_fst (fun (a : Rat) x => if a < x then x else a) (fun x => S.sh (fr x)), VQ.gmax]
theorem s_total {n : Nat} (hn : 4 ≤ n) {D0 N : Nat} (qs : List Rat) (h : ∀ x ∈ qs, VQ.Qn D0 N x) (hD : D0 ≠ 0) (hD2 : D0.log2 ≤ 4000) (hN : (qs.length * N).log2 ≤ 4000) : callN L.T L.fs n 14 [.sh (.lst (qs.map fr))] = .ok (fr (VQ.sumR qs)) [.sh (.lst (qs.map fr))] := by
  refine call_at' (k := 3) hn e14 rfl fun n hn => ?_
  simp (disch := omega) [B14, mk_frac1]
  rw [(loopF_fold2 (σ := Rat × S) (g := fr) (fun s => [.sh (.lst (qs.map fr)), .sh (fr s.1), s.2]) (fun s x => (s.1 + x, .sh (fr x))) (fun xs s => (∃ M, VQ.Qn D0 M s.1 ∧ M + xs.length * N ≤ qs.length * N) ∧ ∀ x ∈ xs, VQ.Qn D0 N x) ?st qs (0, .un) ⟨⟨0, ⟨0, by simp, by simp⟩, by omega⟩, h⟩).1]
  case st =>
    intro x xs s ⟨⟨M, h1, h2⟩, h3⟩
    have hx := h3 x List.mem_cons_self
    rw [List.length_cons, Nat.succ_mul] at h2
    have a1 : VQ.Sm s.1 := h1.sm hD hD2 (Nat.le_trans (VQ.log2_mono (by omega)) hN)
    have a2 : VQ.Sm x := hx.sm hD hD2 (Nat.le_trans (VQ.log2_mono (by omega)) hN)
    refine ⟨?_, ⟨M + N, h1.add hx, by omega⟩, fun y hy => h3 y (List.mem_cons_of_mem _ hy)⟩
    simp (disch := first | omega | assumption) [tuF, B14_1]
  simp [foldl_fst (fun (a : Rat) x => a + x) (fun x => S.sh (fr x)), VQ.sumR]
/-! amounts that are handed in -/
def WorthD (d : D) (q : Rat) : Prop := d = fr q ∨ ∃ i : Int, d = .int i ∧ q = (i : Rat)
def SeqD (d : D) (ds : List D) : Prop := d = .lst ds ∨ d = .tup ds
theorem s_as_frac {n : Nat} (hn : 3 ≤ n) {d : D} {q : Rat} (h : WorthD d q) : callN L.T L.fs n 12 [.sh d] = .ok (fr q) [.sh d] := by
  rcases h with rfl | ⟨i, rfl, rfl⟩
  · exact s_as_frac_fr hn q
  · exact s_as_frac_int hn i
theorem s_is_integer_fr {n : Nat} (hn : 1 ≤ n) (q : Rat) : callN L.T L.fs n 0 [.sh (fr q)] = .ok (.bl false) [.sh (fr q)] := s_is_integer hn _
theorem s_is_integer_int {n : Nat} (hn : 1 ≤ n) (i : Int) : callN L.T L.fs n 0 [.sh (.int i)] = .ok (.bl true) [.sh (.int i)] := s_is_integer hn _
theorem s_is_amount {n : Nat} (hn : 4 ≤ n) {d : D} {q : Rat} (h : WorthD d q) : callN L.T L.fs n 15 [.sh d] = .ok (.bl (decide (-9999 ≤ q.num ∧ q.num ≤ 9999 ∧ q.den ≤ 99))) [.sh d] := by
  refine call_at' (k := 3) hn e15 rfl fun n hn => ?_
  have ha := s_as_frac hn h
  rcases h with rfl | ⟨i, rfl, rfl⟩
  · by_cases h1 : -9999 ≤ q.num <;> by_cases h2 : q.num ≤ 9999 <;> first | (exfalso; omega) | (simp (disch := omega) [B15, callE_eq, s_is_integer_fr, ha, h1, h2]; done) | (simp (disch := omega) [B15, callE_eq, s_is_integer_fr, ha, h1, h2]; omega)
  · by_cases h1 : -9999 ≤ i <;> by_cases h2 : i ≤ 9999 <;> first | (exfalso; omega) | (simp (disch := omega) [B15, callE_eq, s_is_integer_int, ha, h1, h2]; done)

end LW
end

section
set_option Elab.async false
set_option linter.all false
set_option autoImplicit false
set_option maxRecDepth 100000
set_option maxHeartbeats 4000000
namespace LW
open RF RV

/-! offers: handed rows (what is handed, what it stands for) -/
abbrev Row : Type := List (Int × Rat)
abbrev HRow : Type := List (D × Int × Rat)
def PairD (p : D × Int × Rat) : Prop := ∃ d, SeqD p.1 [.int p.2.1, d] ∧ WorthD d p.2.2
structure PairOk (x : Int × Rat) : Prop where
  w1 : 1 ≤ x.1
  w2 : x.1 ≤ 99
  n1 : 0 ≤ x.2.num
  n2 : x.2.num ≤ 9999
  d2 : x.2.den ≤ 99
def rowD (r : Row) : D := .tup (r.map fun x => .tup [.int x.1, fr x.2])
def offD (rs : List Row) : D := .obj 1 [.tup (rs.map rowD)]
theorem s_is_shown {n : Nat} (hn : 5 ≤ n) {p : D × Int × Rat} (h : PairD p) (ok : PairOk p.2) : callN L.T L.fs n 16 [.sh p.1] = .ok (.bl true) [.sh p.1] := by
  refine call_at' (k := 4) hn e16 rfl fun n hn => ?_
  obtain ⟨v, w, q⟩ := p
  obtain ⟨d, hs, hw⟩ := h
  obtain ⟨w1, w2, n1, n2, d2⟩ := ok
  have ha := s_as_frac (n := n) (by omega) hw
  have hb := s_is_amount (n := n) (by omega) hw
  have n1' : 0 ≤ q := by simpa using n1
  dsimp only at *
  rcases hs with rfl | rfl <;> simp (disch := omega) [B16, callE_eq, s_is_sequence, s_is_between, ha, hb, w1, w2, n1, n1', n2, d2] <;> intro <;> omega
theorem s_is_offer {n : Nat} (hn : 6 ≤ n) {d : D} {hs : HRow} (h : SeqD d (hs.map (·.1))) (hp : ∀ p ∈ hs, PairD p ∧ PairOk p.2) (h1 : 1 ≤ hs.length) (h6 : hs.length ≤ 6) : callN L.T L.fs n 17 [.sh d] = .ok (.bl true) [.sh d] := by
  refine call_at' (k := 5) hn e17 rfl fun n hn => ?_
  have hl : hs.length ≤ lim := by rw [limN]; omega
  have h1' : (1 : Int) ≤ hs.length := by omega
  have h6' : (hs.length : Int) ≤ 6 := by omega
  rcases h with rfl | rfl
  all_goals
    simp (disch := omega) [B17, callE_eq, s_is_sequence, h1', h6']
    rw [comp_map (v := fun _ => .bl true) (fun p hp' => by
      have := s_is_shown (n := n) (by omega) (hp p hp').1 (hp p hp').2
      simp [tuC, callE_eq, this]) hl]
    simp
/-! made offers -/
structure HOk (hr : List (D × HRow)) : Prop where
  seq : ∀ r ∈ hr, SeqD r.1 (r.2.map (·.1)) ∧ (∀ p ∈ r.2, PairD p ∧ PairOk p.2) ∧ 1 ≤ r.2.length ∧ r.2.length ≤ 6
  l1 : 1 ≤ hr.length
  l8 : hr.length ≤ 8
theorem enumD_map {ι : Type} (g : ι → D) : ∀ (xs : List ι) (k : Nat), enumD k (xs.map g) = (xs.zipIdx k).map fun p => .tup [.int (p.2 : Nat), g p.1]
  | [], k => rfl
  | x :: xs, k => by simp [enumD, enumD_map g xs (k + 1)]
theorem t_offers {n : Nat} (hn : 7 ≤ n) {hr : List (D × HRow)} (ok : HOk hr) : callN L.T L.fs n 18 [.ow (.obj 1 []), .sh (.lst (hr.map (·.1)))] = .ok .non [.ow (.obj 1 [.lf (.tup (hr.map fun r => rowD (r.2.map (·.2))))]), .sh (.lst (hr.map (·.1)))] := by
  refine call_at' (k := 6) hn e18 rfl fun n hn => ?_
  have hl1 : (1 : Int) ≤ hr.length := by have := ok.l1; omega
  have hl8 : (hr.length : Int) ≤ 8 := by have := ok.l8; omega
  simp (disch := omega) [B18, callE_eq, s_is_sequence, hl1, hl8]
  rw [enumD_map]
  rw [(for_eq (σ := List Row × S × S) (fun p : (D × HRow) × Nat => .tup [.int (p.2 : Nat), p.1.1]) (fun s => [.ow 1 (.obj 1 []), .sh (.lst (hr.map (·.1))), .ow 0 (.lst (s.1.map fun r => .lf (rowD r))), s.2.1, s.2.2, .un, .un])
    (fun s x => (s.1 ++ [x.1.2.map (·.2)], .sh (.int (x.2 : Nat)), .sh x.1.1)) (fun xs s => (∀ x ∈ xs, x.1 ∈ hr) ∧ s.1.length + xs.length ≤ 8) (hr.zipIdx 0) ([], .un, .un) ?e1 ?e2 ?hi ?st).1]
  case e1 => rfl
  case e2 => rfl
  case hi =>
    refine ⟨fun x hx => ?_, by have := ok.l8; simp; exact this⟩
    have := List.mem_zipIdx hx
    rw [this.2.2]; exact List.getElem_mem _
  case st =>
    rintro ⟨⟨d, hw⟩, k⟩ xs ⟨acc, s1, s2⟩ ⟨h1, h2⟩
    obtain ⟨a1, a2, a3, a4⟩ := ok.seq _ (h1 _ List.mem_cons_self)
    have io := s_is_offer (n := n) (by omega) a1 a2 a3 a4
    rw [List.length_cons] at h2
    have hlim : acc.length < lim := by rw [limN]; dsimp only at h2; omega
    have hl2 : List.length hw ≤ lim := by rw [limN]; dsimp only at a4; omega
    refine ⟨?_, fun x hx => h1 x (List.mem_cons_of_mem _ hx), by simp; dsimp only at h2; omega⟩
    dsimp only at a1 a2 a3 a4 io
    rcases a1 with rfl | rfl
    all_goals
      simp (disch := first | omega | assumption) [tuF, B18_1, callE_eq, io]
      rw [comp_map (ι := D × Int × Rat) (v := fun p => .tup [.int p.2.1, fr p.2.2]) (fun p hp => by
        obtain ⟨v, w, q⟩ := p
        obtain ⟨⟨e, hs, hq⟩, _⟩ := a2 _ hp
        have haf := s_as_frac (n := n) (by omega) hq
        dsimp only at hs haf ⊢
        rcases hs with rfl | rfl <;> simp [tuC, callE_eq, haf, limN]) hl2]
      simp [hlim, rowD, List.map_map]
  simp
  rw [foldl_snoc (fun x : (D × HRow) × Nat => x.1.2.map (·.2)) (fun s x => (S.sh (D.int (x.2 : Nat)), S.sh x.1.1))]
  have z := congrArg (List.map (fun x : D × HRow => rowD (x.2.map (·.2)))) (List.zipIdx_map_fst 0 hr)
  rw [List.nil_append, List.map_map]
  rw [List.map_map] at z
  exact z
/-! shares -/
@[simp] theorem mk_offers {n : Nat} (hn : 7 ≤ n) {hr : List (D × HRow)} (ok : HOk hr) (ρ : Env) : makeE L.T (callN L.T L.fs n) 1 2 [.sh (.lst (hr.map (·.1)))] ρ = .ok (offD (hr.map fun r => r.2.map (·.2)), ρ) := by
  rw [makeE_eq (f := 18) _ _ _ (by simp)]
  simp [t_offers hn ok, offD, List.map_map]
def whole (r : Row) : Int := (r.map (·.1)).sum
def shareR (r : Row) (x : Int × Rat) : Rat := Rat.divInt x.1 (whole r)
theorem s_shares {n : Nat} (hn : 3 ≤ n) {r : Row} (h0 : whole r ≠ 0) (h9 : (whole r).natAbs.log2 < 9000) (hl : r.length ≤ lim) : callN L.T L.fs n 21 [.sh (rowD r)] = .ok (.lst (r.map fun x => .tup [fr (shareR r x), fr x.2])) [.sh (rowD r)] := by
  refine call_at' (k := 2) hn e21 rfl fun n hn => ?_
  simp [B21, rowD]
  rw [comp_map (ι := Int × Rat) (v := fun x => .int x.1) (fun x hx => by simp [tuC]) hl]
  simp
  rw [comp_map (ι := Int × Rat) (v := fun x => .tup [fr (shareR r x), fr x.2]) (fun x hx => by
    have := mk_frac (n := n) (by omega) (a := x.1) h0 h9
    simp [tuC, limN]
    unfold whole at this
    simp [this, shareR, whole]) hl]
  simp
/-! a row from behind -/
def rowBefore (r : Row) (later : List Rat) (many : Nat) : List Rat :=
  0 :: (List.range many).map fun l => VQ.sumR (r.map fun x => shareR r x * VQ.gmax (x.2 + later.getD l 0) [x.2 + later.getD l 0, later.getD (l + 1) 0])
structure RowOk (D0 k : Nat) (r : Row) : Prop where
  ne : r ≠ []
  l6 : r.length ≤ 6
  w : ∀ x ∈ r, 1 ≤ x.1 ∧ x.1 ≤ 99
  q : ∀ x ∈ r, VQ.Qn D0 (2 ^ k) x.2
/-- what stands behind j offers -/
def RB (D0 k j : Nat) (qs : List Rat) : Prop := ∃ E : Nat, E ≠ 0 ∧ E ≤ 2 ^ (10 * j) ∧ ∀ q ∈ qs, VQ.Qn (D0 * E) (2 ^ (k + 24 * j)) q
theorem whole_bound : ∀ (r : Row), (∀ x ∈ r, 1 ≤ x.1 ∧ x.1 ≤ 99) → (r.length : Int) ≤ whole r ∧ whole r ≤ 99 * r.length
  | [], _ => by simp [whole]
  | x :: r, h => by
    have h1 := h x List.mem_cons_self
    have h2 := whole_bound r fun y hy => h y (List.mem_cons_of_mem _ hy)
    unfold whole at *
    rw [List.map_cons, List.sum_cons, List.length_cons]
    omega
theorem RowOk.whole {D0 k : Nat} {r : Row} (h : RowOk D0 k r) : 1 ≤ LW.whole r ∧ LW.whole r ≤ 594 := by
  have h1 := whole_bound r h.w
  have h2 := h.l6
  have h3 : 0 < r.length := List.length_pos_iff.mpr h.ne
  omega
theorem share_qn {D0 k : Nat} {r : Row} (h : RowOk D0 k r) {x : Int × Rat} (hx : x ∈ r) : VQ.Qn (LW.whole r).toNat 99 (shareR r x) := by
  have := h.w x hx
  exact VQ.Qn.divI (by have := h.whole; omega) (by omega)
theorem gmax_qn {D0 N : Nat} : ∀ {qs : List Rat} {a : Rat}, VQ.Qn D0 N a → (∀ q ∈ qs, VQ.Qn D0 N q) → VQ.Qn D0 N (VQ.gmax a qs)
  | [], a, h, _ => h
  | q :: qs, a, h, g => by
    unfold VQ.gmax
    rw [List.foldl_cons]
    by_cases hl : a < q
    · rw [if_pos hl]; exact gmax_qn (g q List.mem_cons_self) fun y hy => g y (List.mem_cons_of_mem _ hy)
    · rw [if_neg hl]; exact gmax_qn h fun y hy => g y (List.mem_cons_of_mem _ hy)
theorem getD_qn {D0 N : Nat} {qs : List Rat} (h : ∀ q ∈ qs, VQ.Qn D0 N q) (i : Nat) : VQ.Qn D0 N (qs.getD i 0) := by
  rw [List.getD_eq_getElem?_getD]
  cases e : qs[i]? with
  | none => exact ⟨0, by simp, by simp⟩
  | some q => exact h q (List.mem_of_getElem? e)

end LW
end

section
set_option Elab.async false
set_option linter.all false
set_option autoImplicit false
set_option maxRecDepth 100000
set_option maxHeartbeats 4000000
namespace LW
open RF RV

theorem s_greatest2 {n : Nat} (hn : 2 ≤ n) {a b : Rat} (ha : VQ.Sm a) (hb : VQ.Sm b) : callN L.T L.fs n 13 [.sh (.lst [fr a, fr b])] = .ok (fr (VQ.gmax a [a, b])) [.sh (.lst [fr a, fr b])] :=
  s_greatest hn a [b] (by simp [ha, hb])
theorem getD_some {later : List Rat} {l : Nat} (h : l < later.length) : later[l]? = some (later.getD l 0) := by
  rw [List.getD_eq_getElem?_getD, List.getElem?_eq_getElem h]; rfl
def prodR (r : Row) (later : List Rat) (l : Nat) (x : Int × Rat) : Rat := shareR r x * VQ.gmax (x.2 + later.getD l 0) [x.2 + later.getD l 0, later.getD (l + 1) 0]
theorem rowBefore_eq (r : Row) (later : List Rat) (many : Nat) : rowBefore r later many = 0 :: (List.range many).map fun l => VQ.sumR (r.map (prodR r later l)) := rfl
theorem pow_log (k : Nat) : (2 ^ k : Nat).log2 = k := Nat.log2_two_pow
theorem log_lt {a k : Nat} (h : a < 2 ^ k) (hk : 0 < k) : a.log2 < k := by
  by_cases z : a = 0
  · subst z; simp; exact hk
  · exact (Nat.log2_lt z).mpr h
theorem up_qn {D0 E N k j : Nat} {q : Rat} (h : VQ.Qn D0 (2 ^ k) q) (hE : E ≤ 2 ^ (10 * j)) : VQ.Qn (D0 * E) (2 ^ (k + 24 * j)) q := by
  refine (h.up E).mono ?_
  rw [Nat.pow_add]
  exact Nat.mul_le_mul_left _ (Nat.le_trans hE (Nat.pow_le_pow_right (by omega) (by omega)))
section
variable {D0 k j : Nat} {r : Row} {later : List Rat}
theorem prod_qn {E : Nat} (hr : RowOk D0 k r) (hE : E ≤ 2 ^ (10 * j)) (hq : ∀ q ∈ later, VQ.Qn (D0 * E) (2 ^ (k + 24 * j)) q) (l : Nat) {x : Int × Rat} (hx : x ∈ r) :
    VQ.Qn (D0 * (E * (whole r).toNat)) (99 * (2 * 2 ^ (k + 24 * j))) (prodR r later l x) ∧ VQ.Qn (D0 * E) (2 * 2 ^ (k + 24 * j)) (VQ.gmax (x.2 + later.getD l 0) [x.2 + later.getD l 0, later.getD (l + 1) 0]) ∧ VQ.Qn (D0 * E) (2 * 2 ^ (k + 24 * j)) (x.2 + later.getD l 0) := by
  have h1 := share_qn hr hx
  have h2 := up_qn (N := 0) (hr.q x hx) hE
  have h3 := getD_qn hq l
  have h4 := getD_qn hq (l + 1)
  have h5 : VQ.Qn (D0 * E) (2 * 2 ^ (k + 24 * j)) (x.2 + later.getD l 0) := (h2.add h3).mono (by omega)
  have h6 : VQ.Qn (D0 * E) (2 * 2 ^ (k + 24 * j)) (VQ.gmax (x.2 + later.getD l 0) [x.2 + later.getD l 0, later.getD (l + 1) 0]) := gmax_qn h5 (by
    intro q hq
    rcases List.mem_cons.mp hq with rfl | hq
    · exact h5
    · rw [List.mem_singleton.mp hq]; exact h4.mono (by omega))
  refine ⟨?_, h6, h5⟩
  have h7 := h1.mul h6
  have e : (whole r).toNat * (D0 * E) = D0 * (E * (whole r).toNat) := by rw [Nat.mul_comm, Nat.mul_assoc]
  rw [e] at h7
  exact h7
theorem RB.next (hr : RowOk D0 k r) (hb : RB D0 k j later) (many : Nat) : RB D0 k (j + 1) (rowBefore r later many) := by
  obtain ⟨E, e0, hE, hq⟩ := hb
  have hw := hr.whole
  refine ⟨E * (whole r).toNat, Nat.mul_ne_zero e0 (by omega), ?_, ?_⟩
  · rw [show 10 * (j + 1) = 10 * j + 10 by omega, Nat.pow_add]
    exact Nat.mul_le_mul hE (by omega)
  · intro q hq'
    rw [rowBefore_eq] at hq'
    rcases List.mem_cons.mp hq' with rfl | hq'
    · exact ⟨0, by simp, by simp⟩
    · obtain ⟨l, _, rfl⟩ := List.mem_map.mp hq'
      have := VQ.Qn.sum (qs := r.map (prodR r later l)) (D := D0 * (E * (whole r).toNat)) (N := 99 * (2 * 2 ^ (k + 24 * j))) (by
        intro q h
        obtain ⟨x, hx, rfl⟩ := List.mem_map.mp h
        exact (prod_qn hr hE hq l hx).1)
      refine this.mono ?_
      rw [List.length_map, show k + 24 * (j + 1) = k + 24 * j + 24 by omega, Nat.pow_add _ _ 24]
      have := hr.l6
      have : r.length * (99 * (2 * 2 ^ (k + 24 * j))) ≤ 6 * (99 * (2 * 2 ^ (k + 24 * j))) := Nat.mul_le_mul_right _ this
      generalize 2 ^ (k + 24 * j) = P at *
      omega
end
theorem s_row_before {n : Nat} (hn : 5 ≤ n) {D0 k j : Nat} {r : Row} {later : List Rat} {many : Nat} (hr : RowOk D0 k r) (hb : RB D0 k j later) (hlen : later.length = many + 1) (hm : many ≤ 1000) (hD : D0 ≠ 0) (hD2 : D0.log2 ≤ 2000) (hk : k + 24 * j ≤ 1000) (hj : j ≤ 50) :
    callN L.T L.fs n 22 [.sh (rowD r), .sh (.lst (later.map fr)), .sh (.int many)] = .ok (.lst ((rowBefore r later many).map fr)) [.sh (rowD r), .sh (.lst (later.map fr)), .sh (.int many)] := by
  refine call_at' (k := 4) hn e22 rfl fun n hn => ?_
  obtain ⟨E, e0, hE, hq⟩ := hb
  have hw := hr.whole
  have hl6 := hr.l6
  -- sizes
  have lE : E.log2 ≤ 500 := by
    have := VQ.log2_mono hE
    rw [pow_log] at this; omega
  have lW : (whole r).toNat.log2 ≤ 10 := by
    have := log_lt (a := (whole r).toNat) (k := 11) (by omega) (by omega); omega
  have lEW := VQ.log2_mul E (whole r).toNat
  have lD1 := VQ.log2_mul D0 E
  have lD2 := VQ.log2_mul D0 (E * (whole r).toNat)
  have nD1 : D0 * E ≠ 0 := Nat.mul_ne_zero hD e0
  have nD2 : D0 * (E * (whole r).toNat) ≠ 0 := Nat.mul_ne_zero hD (Nat.mul_ne_zero e0 (by omega))
  have lN : ∀ c, c ≤ 6 * 99 * 2 → (c * 2 ^ (k + 24 * j)).log2 ≤ 2000 := by
    intro c hc
    have h1 := VQ.log2_mul c (2 ^ (k + 24 * j))
    have h2 : c.log2 ≤ 11 := by have := log_lt (a := c) (k := 12) (by omega) (by omega); omega
    rw [pow_log] at h1; omega
  have sm1 : ∀ l, ∀ x ∈ r, VQ.Sm (x.2 + later.getD l 0) := fun l x hx => (prod_qn hr hE hq l hx).2.2.sm nD1 (by omega) (by have := lN 2 (by omega); omega)
  have sm2 : ∀ l, ∀ x ∈ r, VQ.Sm (VQ.gmax (x.2 + later.getD l 0) [x.2 + later.getD l 0, later.getD (l + 1) 0]) := fun l x hx => (prod_qn hr hE hq l hx).2.1.sm nD1 (by omega) (by have := lN 2 (by omega); omega)
  have sm3 : ∀ l, VQ.Sm (later.getD l 0) := fun l => (getD_qn hq l).sm nD1 (by omega) (by rw [pow_log]; omega)
  have sm4 : ∀ x ∈ r, VQ.Sm x.2 := fun x hx => (hr.q x hx).sm hD (by omega) (by rw [pow_log]; omega)
  have sm5 : ∀ x ∈ r, VQ.Sm (shareR r x) := fun x hx => (share_qn hr hx).sm (by omega) (by omega) (by have := log_lt (a := 99) (k := 7) (by omega) (by omega); omega)
  have hsh := s_shares (n := n) (by omega) (r := r) (by omega) (by have := log_lt (a := (whole r).natAbs) (k := 10) (by omega) (by omega); omega) (by rw [limN]; omega)
  simp (disch := omega) [B22, limN, rngI_one]
  refine for_run (P := fun s => fin _ s = _) (fun l : Nat => .int ((l : Int) + 1)) (List.range many) (fun done ρ => ∃ t4 t5 t6 t7, ρ = [.sh (rowD r), .sh (.lst (later.map fr)), .sh (.int many), .ow 0 (.lst ((0 :: done.map fun l => VQ.sumR (r.map (prodR r later l))).map fun q => .lf (fr q))), t4, t5, t6, t7]) rfl ⟨_, _, _, _, rfl⟩ ?st ?en
  case en =>
    rintro ρ' ⟨t4, t5, t6, t7, rfl⟩
    simp [rowBefore_eq, List.map_map, Function.comp_def]
  case st =>
    rintro done l rest hx ρ ⟨t4, t5, t6, t7, rfl⟩
    have hlm : l < many := by
      have : l ∈ List.range many := by rw [hx]; simp
      exact List.mem_range.mp this
    have hdl : done.length < 1000 := by
      have := congrArg List.length hx
      rw [List.length_range, List.length_append, List.length_cons] at this; omega
    have g1 := getD_some (later := later) (l := l) (by omega)
    have g2 := getD_some (later := later) (l := l + 1) (by omega)
    obtain ⟨I, hI⟩ : ∃ I : Env → Prop, I = fun ρ => ∃ t4 t5 t6 t7, ρ = [.sh (rowD r), .sh (.lst (later.map fr)), .sh (.int many), .ow 0 (.lst ((0 :: (done ++ [l]).map fun l => VQ.sumR (r.map (prodR r later l))).map fun q => .lf (fr q))), t4, t5, t6, t7] := ⟨_, rfl⟩
    show ∃ ρ', _ = SR.nx ρ' ∧ (∃ t4 t5 t6 t7, ρ' = _)
    suffices h : ∃ ρ', tuF L.T (callN L.T L.fs n) (.nm 4) B22_2 (.int ((l : Int) + 1)) [.sh (rowD r), .sh (.lst (later.map fr)), .sh (.int many), .ow 0 (.lst ((0 :: done.map fun l => VQ.sumR (r.map (prodR r later l))).map fun q => .lf (fr q))), t4, t5, t6, t7] = .nx ρ' ∧ I ρ' by
      rw [hI] at h; exact h
    simp (disch := omega) [tuF, B22_2, callE_eq, hsh]
    refine for_run (P := fun s => ∃ ρ', s = SR.nx ρ' ∧ I ρ') (fun x : Int × Rat => .tup [fr (shareR r x), fr x.2]) r (fun dn ρ => ∃ t6 t7, ρ = [.sh (rowD r), .sh (.lst (later.map fr)), .sh (.int many), .ow 0 (.lst ((0 :: done.map fun l => VQ.sumR (r.map (prodR r later l))).map fun q => .lf (fr q))), .sh (.int ((l : Int) + 1)), .ow 0 (.lst (dn.map fun x => .lf (fr (prodR r later l x)))), t6, t7]) rfl ⟨t6, t7, by simp⟩ ?st2 ?en2
    case st2 =>
      rintro dn x rst hxx ρ ⟨t6, t7, rfl⟩
      have hxr : x ∈ r := by rw [hxx]; simp
      have hdn : dn.length < 1000 := by
        have := congrArg List.length hxx
        rw [List.length_append, List.length_cons] at this; omega
      have a1 := sm1 l x hxr
      have a2 := sm2 l x hxr
      have a3 := sm3 l
      have a4 := sm4 x hxr
      have a5 := sm5 x hxr
      have a6 := sm3 (l + 1)
      have hp : prodR r later l x = shareR r x * VQ.gmax (x.2 + later.getD l 0) [x.2 + later.getD l 0, later.getD (l + 1) 0] := rfl
      generalize later.getD l 0 = v0 at *
      generalize later.getD (l + 1) 0 = v1 at *
      refine ⟨[.sh (rowD r), .sh (.lst (later.map fr)), .sh (.int many), .ow 0 (.lst ((0 :: done.map fun l => VQ.sumR (r.map (prodR r later l))).map fun q => .lf (fr q))), .sh (.int ((l : Int) + 1)), .ow 0 (.lst ((dn ++ [x]).map fun x => .lf (fr (prodR r later l x)))), .sh (fr (shareR r x)), .sh (fr x.2)], ?_, ⟨_, _, rfl⟩⟩
      have hdl2 : dn.length < 16777216 := by omega
      simp (disch := first | omega | assumption) [-getElem?_pos, -List.getElem?_eq_getElem, tuF, B22_1, callE_eq, g1, g2, s_greatest2, limN, hp, hdl2]
    case en2 =>
      rintro ρ' ⟨t6, t7, rfl⟩
      have hT := s_total (n := n) (by omega) (D0 := D0 * (E * (whole r).toNat)) (N := 99 * (2 * 2 ^ (k + 24 * j))) (r.map (prodR r later l)) (by
        intro q h
        obtain ⟨x, hx, rfl⟩ := List.mem_map.mp h
        exact (prod_qn hr hE hq l hx).1) nD2 (by omega) (by
          rw [List.length_map]
          have := lN (r.length * 198) (by omega)
          rw [show r.length * (99 * (2 * 2 ^ (k + 24 * j))) = r.length * 198 * 2 ^ (k + 24 * j) by rw [Nat.mul_assoc]; congr 1; omega]
          omega)
      rw [List.map_map] at hT
      have hT2 : callN L.T L.fs n 14 [.sh (.lst (r.map fun x => fr (prodR r later l x)))] = .ok (fr (VQ.sumR (r.map (prodR r later l)))) [.sh (.lst (r.map fun x => fr (prodR r later l x)))] := hT
      have hdl2 : done.length + 1 < 16777216 := by omega
      refine ⟨[.sh (rowD r), .sh (.lst (later.map fr)), .sh (.int many), .ow 0 (.lst ((0 :: (done ++ [l]).map fun l => VQ.sumR (r.map (prodR r later l))).map fun q => .lf (fr q))), .sh (.int ((l : Int) + 1)), .sh (.lst (r.map fun x => fr (prodR r later l x))), t6, t7], ?_, by rw [hI]; exact ⟨_, _, _, _, rfl⟩⟩
      simp (disch := first | omega | assumption) [callE_eq, hT2, limN, hdl2]

end LW
end

section
set_option Elab.async false
set_option linter.all false
set_option autoImplicit false
set_option maxRecDepth 100000
set_option maxHeartbeats 4000000
namespace LW
open RF RV
def turnRows (many : Nat) : List Row → List (List Rat)
  | [] => [List.replicate (many + 1) 0]
  | r :: rs => rowBefore r ((turnRows many rs).headD []) many :: turnRows many rs
theorem rowBefore_len (r : Row) (later : List Rat) (many : Nat) : (rowBefore r later many).length = many + 1 := by simp [rowBefore]
theorem turnRows_cons (many : Nat) (rs : List Row) : ∃ h t, turnRows many rs = h :: t ∧ h.length = many + 1 ∧ t.length = rs.length := by
  induction rs with
  | nil => exact ⟨_, _, rfl, by simp, rfl⟩
  | cons r rs ih =>
    obtain ⟨h, t, e, _, l⟩ := ih
    exact ⟨_, _, rfl, rowBefore_len .., by rw [e]; simp [l]⟩
theorem turnRows_RB {D0 k : Nat} {many : Nat} : ∀ (rs : List Row), (∀ r ∈ rs, RowOk D0 k r) → RB D0 k rs.length ((turnRows many rs).headD [])
  | [], _ => ⟨1, by decide, by simp, fun q hq => by
    have : q = 0 := by simp [turnRows] at hq; exact hq
    subst this
    exact ⟨0, by simp, by simp⟩⟩
  | r :: rs, h => (turnRows_RB rs fun r hr => h r (List.mem_cons_of_mem _ hr)).next (h r List.mem_cons_self) many
def rowsD (rows : List (List Rat)) : D := .lst (rows.map fun q => .lst (q.map fr))
theorem s_turn_rows {n : Nat} (hn : 6 ≤ n) {D0 k : Nat} {rs : List Row} {many : Nat} (hr : ∀ r ∈ rs, RowOk D0 k r) (hl : rs.length ≤ 8) (hm : many ≤ 1000) (hD : D0 ≠ 0) (hD2 : D0.log2 ≤ 2000) (hk : k ≤ 500) :
    callN L.T L.fs n 23 [.sh (offD rs), .sh (.int many)] = .ok (rowsD (turnRows many rs)) [.sh (offD rs), .sh (.int many)] := by
  refine call_at' (k := 5) hn e23 rfl fun n hn => ?_
  have hm2 : (many : Int) ≤ 1000 := by omega
  have e0 : ((many : Int) + 1).toNat = many + 1 := by omega
  have ho : fldO L.T (.lf (offD rs)) 2 = some (.lf (.tup (rs.map rowD))) := by simp [offD]
  simp (disch := omega) [B23, limN, rngI_zero, e0]
  rw [comp_map (ι := Nat) (v := fun _ => fr 0) (fun x hx => by simp (disch := omega) [tuC]) (by simp [limN]; omega)]
  simp (disch := omega) [limN, ho]
  refine for_run (P := fun s => fin _ s = _) rowD rs.reverse (fun done ρ => ∃ t3 t4, ρ = [.sh (offD rs), .sh (.int many), .ow 0 (.lst ((turnRows many done.reverse).reverse.map fun q => .lf (.lst (q.map fr)))), t3, t4]) (by simp) ⟨.un, .un, by simp [turnRows, List.map_const']⟩ ?st ?en
  case en =>
    rintro ρ' ⟨t3, t4, rfl⟩
    simp [rowsD, Function.comp_def]
  case st =>
    rintro done r rest hx ρ ⟨t3, t4, rfl⟩
    have hr1 : r ∈ rs := by
      have : r ∈ rs.reverse := by rw [hx]; simp
      simpa using this
    have hdl : done.length ≤ 7 := by
      have := congrArg List.length hx
      rw [List.length_reverse, List.length_append, List.length_cons] at this; omega
    have hdr : ∀ x ∈ done.reverse, RowOk D0 k x := fun x hx' => hr x (by
      have : x ∈ rs.reverse := by rw [hx]; simp at hx'; simp [hx']
      simpa using this)
    obtain ⟨h, t, e, e2, e3⟩ := turnRows_cons many done.reverse
    have hrb := turnRows_RB (many := many) done.reverse hdr
    rw [e, List.headD_cons] at hrb
    rw [List.length_reverse] at hrb e3
    have hcall := s_row_before (n := n) (by omega) (hr r hr1) hrb e2 hm hD hD2 (by omega) (by omega)
    refine ⟨[.sh (offD rs), .sh (.int many), .ow 0 (.lst ((turnRows many (done ++ [r]).reverse).reverse.map fun q => .lf (.lst (q.map fr)))), .sh (rowD r), t4], ?_, ⟨_, _, rfl⟩⟩
    have e4 : turnRows many (done ++ [r]).reverse = rowBefore r h many :: turnRows many done.reverse := by
      rw [List.reverse_append]
      show turnRows many (r :: done.reverse) = _
      rw [turnRows, e]; rfl
    obtain ⟨M, hM⟩ : ∃ M, M = (turnRows many done.reverse).reverse := ⟨_, rfl⟩
    have hM1 : M.length = t.length + 1 := by rw [hM, List.length_reverse, e]; rfl
    have hM2 : M[t.length]? = some h := by rw [hM, e, List.reverse_cons, List.getElem?_append_right (by simp)]; simp
    rw [e4, List.reverse_cons, ← hM]
    have hlim : t.length + 1 < 16777216 := by omega
    simp (disch := omega) [-getElem?_pos, tuF, B23_1, callE_eq, hM1, hM2, hcall, limN, hlim]
theorem s_turn_worth {n : Nat} (hn : 7 ≤ n) {D0 k : Nat} {rs : List Row} {many : Nat} (hr : ∀ r ∈ rs, RowOk D0 k r) (hl : rs.length ≤ 8) (hm : many ≤ 1000) (hD : D0 ≠ 0) (hD2 : D0.log2 ≤ 2000) (hk : k ≤ 500) :
    callN L.T L.fs n 24 [.sh (offD rs), .sh (.int many)] = .ok (fr (((turnRows many rs).headD []).getD many 0)) [.sh (offD rs), .sh (.int many)] := by
  refine call_at' (k := 6) hn e24 rfl fun n hn => ?_
  have hc := s_turn_rows (n := n) (by omega) hr hl hm hD hD2 hk
  obtain ⟨h, t, e, e2, e3⟩ := turnRows_cons many rs
  have g := getD_some (later := h) (l := many) (by omega)
  rw [e] at hc ⊢
  rw [List.headD_cons]
  generalize h.getD many 0 = v at *
  unfold rowsD at hc
  rw [List.map_cons] at hc
  simp (disch := omega) [-getElem?_pos, B24, callE_eq, hc, g]

end LW
end

section
set_option Elab.async false
set_option linter.all false
set_option autoImplicit false
set_option maxRecDepth 100000
set_option maxHeartbeats 4000000
namespace LW
open RF RV

def insW (f : List Rat) (v : Rat) : List Rat :=
  if 0 < v.num ∧ ((f.filter fun o => decide (o < v)).length = f.length ∨ f.getD (f.filter fun o => decide (o < v)).length 0 ≠ v) then f.take (f.filter fun o => decide (o < v)).length ++ [v] ++ f.drop (f.filter fun o => decide (o < v)).length else f
def worthsIn (f : List Rat) (r : Row) : List Rat := r.foldl (fun f x => insW f x.2) f
def worthsShown (rs : List Row) : List Rat := rs.foldl worthsIn []
theorem insW_mem {f : List Rat} {v q : Rat} (h : q ∈ insW f v) : q ∈ f ∨ q = v := by
  unfold insW at h
  split at h
  · rw [List.append_assoc] at h
    rcases List.mem_append.mp h with h | h
    · exact .inl (List.mem_of_mem_take h)
    · rcases List.mem_append.mp h with h | h
      · exact .inr (List.mem_singleton.mp h)
      · exact .inl (List.mem_of_mem_drop h)
  · exact .inl h
theorem insW_len (f : List Rat) (v : Rat) : (insW f v).length ≤ f.length + 1 := by
  unfold insW
  split
  · simp only [List.length_append, List.length_take, List.length_singleton, List.length_drop]
    have := List.length_filter_le (fun o => decide (o < v)) f
    omega
  · omega
theorem worthsIn_mem {P : Rat → Prop} : ∀ (r : Row) (f : List Rat), (∀ q ∈ f, P q) → (∀ x ∈ r, P x.2) → ∀ q ∈ worthsIn f r, P q
  | [], f, h, _ => h
  | x :: r, f, h, g => worthsIn_mem r (insW f x.2) (fun q hq => by
      rcases insW_mem hq with hq | rfl
      · exact h q hq
      · exact g x List.mem_cons_self) fun y hy => g y (List.mem_cons_of_mem _ hy)
theorem worthsIn_len : ∀ (r : Row) (f : List Rat), (worthsIn f r).length ≤ f.length + r.length
  | [], f => Nat.le_refl _
  | x :: r, f => by
    have h1 := worthsIn_len r (insW f x.2)
    have h2 := insW_len f x.2
    show (worthsIn (insW f x.2) r).length ≤ _
    rw [List.length_cons]; omega
theorem worths_mem {P : Rat → Prop} : ∀ (rs : List Row) (f : List Rat), (∀ q ∈ f, P q) → (∀ r ∈ rs, ∀ x ∈ r, P x.2) → ∀ q ∈ rs.foldl worthsIn f, P q
  | [], f, h, _ => h
  | r :: rs, f, h, g => worths_mem rs (worthsIn f r) (worthsIn_mem r f h (g r List.mem_cons_self)) fun y hy => g y (List.mem_cons_of_mem _ hy)
theorem worths_len : ∀ (rs : List Row) (f : List Rat), (∀ r ∈ rs, r.length ≤ 6) → (rs.foldl worthsIn f).length ≤ f.length + 6 * rs.length
  | [], f, _ => by simp
  | r :: rs, f, h => by
    have h1 := worths_len rs (worthsIn f r) fun y hy => h y (List.mem_cons_of_mem _ hy)
    have h2 := worthsIn_len r f
    have h3 := h r List.mem_cons_self
    rw [List.foldl_cons, List.length_cons]; omega
theorem s_worths_shown {n : Nat} (hn : 2 ≤ n) {rs : List Row} (hs : ∀ r ∈ rs, ∀ x ∈ r, VQ.Sm x.2) (h6 : ∀ r ∈ rs, r.length ≤ 6) (hl : rs.length ≤ 8) :
    callN L.T L.fs n 25 [.sh (offD rs)] = .ok (.lst ((worthsShown rs).map fr)) [.sh (offD rs)] := by
  refine call_at' (k := 1) hn e25 rfl fun n hn => ?_
  have ho : fldO L.T (.lf (offD rs)) 2 = some (.lf (.tup (rs.map rowD))) := by simp [offD]
  simp (disch := omega) [B25, limN, ho]
  refine for_run (P := fun s => fin _ s = _) rowD rs (fun done ρ => ∃ t2 t3 t4 t5, ρ = [.sh (offD rs), .ow 0 (.lst ((done.foldl worthsIn []).map fun q => .lf (fr q))), t2, t3, t4, t5, .un]) rfl ⟨.un, .un, .un, .un, by simp⟩ ?st ?en
  case en =>
    rintro ρ' ⟨t2, t3, t4, t5, rfl⟩
    simp [worthsShown]
  case st =>
    rintro done r rest hx ρ ⟨t2, t3, t4, t5, rfl⟩
    have hr1 : r ∈ rs := by rw [hx]; simp
    have hd1 : ∀ x ∈ done, x ∈ rs := fun x h => by rw [hx]; simp [h]
    have hdl : done.length ≤ 8 := by rw [hx, List.length_append] at hl; omega
    have f1 := worths_mem (P := VQ.Sm) done [] (by simp) fun y hy => hs y (hd1 y hy)
    have f2 := worths_len done [] fun y hy => h6 y (hd1 y hy)
    rw [List.length_nil] at f2
    obtain ⟨F, hF⟩ : ∃ F, F = done.foldl worthsIn [] := ⟨_, rfl⟩
    obtain ⟨I, hI⟩ : ∃ I : Env → Prop, I = fun ρ => ∃ t2 t3 t4 t5, ρ = [.sh (offD rs), .ow 0 (.lst (((done ++ [r]).foldl worthsIn []).map fun q => .lf (fr q))), t2, t3, t4, t5, .un] := ⟨_, rfl⟩
    show ∃ ρ', _ = SR.nx ρ' ∧ (∃ t2 t3 t4 t5, ρ' = _)
    rw [← hF] at f1 f2 ⊢
    suffices h : ∃ ρ', tuF L.T (callN L.T L.fs n) (.nm 2) B25_2 (rowD r) [.sh (offD rs), .ow 0 (.lst (F.map fun q => .lf (fr q))), t2, t3, t4, t5, .un] = .nx ρ' ∧ I ρ' by
      rw [hI] at h; exact h
    rw [List.foldl_append, List.foldl_cons, List.foldl_nil, ← hF] at hI
    have hrow : rowD r = .tup (r.map fun x => .tup [.int x.1, fr x.2]) := rfl
    simp (disch := omega) [tuF, B25_2, hrow]
    refine for_run (P := fun s => ∃ ρ', s = SR.nx ρ' ∧ I ρ') (fun x : Int × Rat => .tup [.int x.1, fr x.2]) r (fun dn ρ => ∃ t3 t4 t5, ρ = [.sh (offD rs), .ow 0 (.lst ((worthsIn F dn).map fun q => .lf (fr q))), .sh (rowD r), t3, t4, t5, .un]) rfl ⟨t3, t4, t5, rfl⟩ ?st2 ?en2
    case en2 =>
      rintro ρ' ⟨t3, t4, t5, rfl⟩
      refine ⟨[.sh (offD rs), .ow 0 (.lst ((worthsIn F r).map fun q => .lf (fr q))), .sh (rowD r), t3, t4, t5, .un], by simp, ?_⟩
      rw [hI]; exact ⟨_, _, _, _, rfl⟩
    case st2 =>
      rintro dn x rst hxx ρ ⟨t3, t4, t5, rfl⟩
      have hxr : x ∈ r := by rw [hxx]; simp
      have hdr : ∀ y ∈ dn, y ∈ r := fun y h => by rw [hxx]; simp [h]
      have hdn : dn.length ≤ 6 := by
        have := h6 r hr1
        rw [hxx, List.length_append] at this; omega
      have g1 := worthsIn_mem (P := VQ.Sm) dn F f1 fun y hy => hs r hr1 y (hdr y hy)
      have g2 := worthsIn_len dn F
      have g3 := hs r hr1 x hxr
      have e1 : worthsIn F (dn ++ [x]) = insW (worthsIn F dn) x.2 := by unfold worthsIn; rw [List.foldl_append]; rfl
      obtain ⟨G, hG⟩ : ∃ G, G = worthsIn F dn := ⟨_, rfl⟩
      rw [e1]
      rw [← hG] at g1 g2 ⊢
      have g4 := List.length_filter_le (fun o => decide (o < x.2)) G
      refine ⟨[.sh (offD rs), .ow 0 (.lst ((insW G x.2).map fun q => .lf (fr q))), .sh (rowD r), .sh (.int x.1), .sh (fr x.2), .sh (.int ((G.filter fun o => decide (o < x.2)).length : Nat)), .un], ?_, ⟨_, _, _, rfl⟩⟩
      simp (disch := omega) [tuF, B25_1, callE_eq]
      rw [comp_filter (ι := Rat) (v := fr) (fun o => decide (o < x.2)) (fun o ho => by
        have := g1 o ho
        by_cases hlt : o < x.2 <;> simp (disch := first | omega | assumption) [tuC, hlt]) (by rw [limN]; omega)]
      have lim1 : G.length < 16777216 := by omega
      have lim2 : (G.filter fun o => decide (o < x.2)).length < 9223372036854775808 := by omega
      generalize hp : (G.filter fun o => decide (o < x.2)).length = p at *
      have l3 : (p : Int) < 9223372036854775808 := by omega
      have l4 : (G.length : Int) < 9223372036854775808 := by omega
      by_cases c1 : 0 < x.2.num
      · by_cases c2 : p = G.length
        · have e2 : insW G x.2 = G.take p ++ [x.2] ++ G.drop p := by unfold insW; rw [hp, if_pos ⟨c1, .inl c2⟩]
          simp (disch := omega) [hp, c1, c2, limN, lim1, e2, l4]
          rw [List.take_of_length_le (by simp), List.drop_eq_nil_of_le (by simp)]
        · have c3 : p < G.length := by omega
          have c6 : ¬ (p : Int) = (G.length : Int) := by omega
          have c4 := getD_some (later := G) c3
          by_cases c5 : G.getD p 0 = x.2
          · have e2 : insW G x.2 = G := by unfold insW; rw [hp, if_neg]; rintro ⟨_, h | h⟩; exact c2 h; exact h c5
            rw [c5] at c4
            simp (disch := omega) [-getElem?_pos, hp, c1, c2, limN, lim1, e2, c4, c6]
          · have e2 : insW G x.2 = G.take p ++ [x.2] ++ G.drop p := by unfold insW; rw [hp, if_pos ⟨c1, .inr c5⟩]
            generalize G.getD p 0 = v at *
            simp (disch := omega) [-getElem?_pos, hp, c1, c2, limN, lim1, e2, c4, c5, c6, l3, List.map_take, List.map_drop]
      · have e2 : insW G x.2 = G := by unfold insW; rw [if_neg]; exact fun h => c1 h.1
        simp (disch := omega) [hp, c1, limN, lim1, e2]

end LW
end

section
set_option Elab.async false
set_option linter.all false
set_option autoImplicit false
set_option maxRecDepth 100000
set_option maxHeartbeats 4000000
namespace LW
open RF RV

/-- the chance that an offer shows at least v -/
def highR (v : Rat) (r : Row) : Rat := VQ.sumR ((r.filter fun x => !decide (x.2 < v)).map (shareR r))
def stepC (h : Rat) (many : Nat) (ch : List Rat) (lt : List Rat) (i : Nat) : List Rat := lt.set (min many (i + 1)) (lt.getD (min many (i + 1)) 0 + ch.getD i 0 * h)
def nextC (h : Rat) (many : Nat) (ch : List Rat) : List Rat := (List.range (many + 1)).foldl (stepC h many ch) (ch.map fun c => c * (1 - h))
def chancesR (v : Rat) (many : Nat) (rs : List Row) : List Rat := rs.foldl (fun ch r => nextC (highR v r) many ch) (1 :: List.replicate many 0)
def meanR (v : Rat) (many : Nat) (rs : List Row) : Rat := VQ.sumR ((chancesR v many rs).zipIdx.map fun p => ((p.2 : Nat) : Int) * p.1)
/-- chances behind j offers -/
def CB (E j many : Nat) (ch : List Rat) : Prop := ch.length = many + 1 ∧ E ≠ 0 ∧ E ≤ 2 ^ (10 * j) ∧ ∀ q ∈ ch, VQ.Qn E (2 ^ (24 * j)) q
def prodW : List Row → Nat
  | [] => 1
  | r :: rs => (whole r).toNat * prodW rs
section
variable {D0 k j many : Nat} {r : Row} {v : Rat} {ch : List Rat}
theorem high_qn (hr : RowOk D0 k r) : VQ.Qn (whole r).toNat 594 (highR v r) := by
  have h := VQ.Qn.sum (qs := (r.filter fun x => !decide (x.2 < v)).map (shareR r)) (D := (whole r).toNat) (N := 99) (by
    intro q h
    obtain ⟨x, hx, rfl⟩ := List.mem_map.mp h
    exact share_qn hr (List.mem_filter.mp hx).1)
  refine h.mono ?_
  rw [List.length_map]
  have := List.length_filter_le (fun x : Int × Rat => !decide (x.2 < v)) r
  have := hr.l6
  omega
theorem one_qn {W : Nat} : VQ.Qn W W 1 := ⟨(W : Int), by rw [Rat.one_mul, Rat.intCast_natCast], by omega⟩
theorem low_qn (hr : RowOk D0 k r) : VQ.Qn (whole r).toNat 1188 (1 - highR v r) := ((one_qn (W := (whole r).toNat)).sub (high_qn hr)).mono (by have := hr.whole; omega)
theorem stepC_len (h : Rat) (lt : List Rat) (i : Nat) : (stepC h many ch lt i).length = lt.length := by unfold stepC; rw [List.length_set]
theorem stepC_qn {h : Rat} {lt : List Rat} {i D M P : Nat} (h1 : ∀ q ∈ lt, VQ.Qn D M q) (h2 : ∀ i, VQ.Qn D P (ch.getD i 0 * h)) : ∀ q ∈ stepC h many ch lt i, VQ.Qn D (M + P) q := by
  intro q hq
  unfold stepC at hq
  rcases List.mem_or_eq_of_mem_set hq with hq | rfl
  · exact (h1 q hq).mono (by omega)
  · exact (getD_qn h1 _).add (h2 i)
theorem foldC_qn {h : Rat} {D P : Nat} (h2 : ∀ i, VQ.Qn D P (ch.getD i 0 * h)) : ∀ (is : List Nat) (lt : List Rat) (M : Nat), (∀ q ∈ lt, VQ.Qn D M q) → ∀ q ∈ is.foldl (stepC h many ch) lt, VQ.Qn D (M + is.length * P) q
  | [], lt, M, h1 => by simpa using h1
  | i :: is, lt, M, h1 => by
    have := foldC_qn h2 is (stepC h many ch lt i) (M + P) (stepC_qn h1 h2)
    intro q hq
    rw [List.length_cons, Nat.succ_mul]
    exact (this q hq).mono (by omega)
theorem foldC_len {h : Rat} : ∀ (is : List Nat) (lt : List Rat), (is.foldl (stepC h many ch) lt).length = lt.length
  | [], lt => rfl
  | i :: is, lt => by rw [List.foldl_cons, foldC_len is, stepC_len]
theorem prodC_qn (hr : RowOk D0 k r) {E : Nat} (hq : ∀ q ∈ ch, VQ.Qn E (2 ^ (24 * j)) q) : (∀ i, VQ.Qn (E * (whole r).toNat) (2 ^ (24 * j) * 594) (ch.getD i 0 * highR v r)) ∧ ∀ q ∈ ch, VQ.Qn (E * (whole r).toNat) (2 ^ (24 * j) * 1188) (q * (1 - highR v r)) :=
  ⟨fun i => (getD_qn hq i).mul (high_qn hr), fun q h => (hq q h).mul (low_qn hr)⟩
theorem CB.next {E : Nat} (hr : RowOk D0 k r) (h : CB E j many ch) (hm : many ≤ 1000) : CB (E * (whole r).toNat) (j + 1) many (nextC (highR v r) many ch) := by
  obtain ⟨hl, e0, hE, hq⟩ := h
  have hw := hr.whole
  obtain ⟨p1, p2⟩ := prodC_qn (v := v) hr hq
  refine ⟨by unfold nextC; rw [foldC_len, List.length_map, hl], Nat.mul_ne_zero e0 (by omega), ?_, ?_⟩
  · rw [show 10 * (j + 1) = 10 * j + 10 by omega, Nat.pow_add]
    exact Nat.mul_le_mul hE (by omega)
  · intro q h
    have := foldC_qn (many := many) p1 (List.range (many + 1)) (ch.map fun c => c * (1 - highR v r)) _ (by
      intro q h
      obtain ⟨c, hc, rfl⟩ := List.mem_map.mp h
      exact p2 c hc) q h
    refine this.mono ?_
    rw [List.length_range, show 24 * (j + 1) = 24 * j + 24 by omega, Nat.pow_add]
    generalize 2 ^ (24 * j) = P
    have : (many + 1) * (P * 594) ≤ 1001 * (P * 594) := Nat.mul_le_mul_right _ (by omega)
    omega
theorem chances_CB (hm : many ≤ 1000) : ∀ (rs : List Row) (E j : Nat) (ch : List Rat), (∀ r ∈ rs, RowOk D0 k r) → CB E j many ch → CB (E * prodW rs) (j + rs.length) many (rs.foldl (fun ch r => nextC (highR v r) many ch) ch)
  | [], E, j, ch, _, h => by rw [prodW, Nat.mul_one]; exact h
  | r :: rs, E, j, ch, hr, h => by
    have := chances_CB hm rs _ (j + 1) (nextC (highR v r) many ch) (fun y hy => hr y (List.mem_cons_of_mem _ hy)) (h.next (hr r List.mem_cons_self) hm)
    rw [List.length_cons, show j + (rs.length + 1) = j + 1 + rs.length by omega, prodW, ← Nat.mul_assoc]
    exact this
theorem CB_zero : CB 1 0 many (1 :: List.replicate many 0) := by
  refine ⟨by simp, by decide, by simp, fun q hq => ?_⟩
  rcases List.mem_cons.mp hq with rfl | hq
  · exact ⟨1, by simp, by simp⟩
  · rw [List.eq_of_mem_replicate hq]; exact ⟨0, by simp, by simp⟩
end
theorem s_mean {n : Nat} (hn : 5 ≤ n) {D0 k : Nat} {rs : List Row} {v : Rat} {many : Nat} (hr : ∀ r ∈ rs, RowOk D0 k r) (hl : rs.length ≤ 8) (hm : many ≤ 1000) (hD : D0 ≠ 0) (hD2 : D0.log2 ≤ 2000) (hk : k ≤ 500) (hv : VQ.Sm v) :
    callN L.T L.fs n 26 [.sh (offD rs), .sh (fr v), .sh (.int many)] = .ok (fr (meanR v many rs)) [.sh (offD rs), .sh (fr v), .sh (.int many)] := by
  refine call_at' (k := 4) hn e26 rfl fun n hn => ?_
  have ho : fldO L.T (.lf (offD rs)) 2 = some (.lf (.tup (rs.map rowD))) := by simp [offD]
  have hm2 : (many : Int) ≤ 1000 := by omega
  have hs1 : VQ.Sm 1 := VQ.sm_int (a := 1) (by decide)
  simp (disch := omega) [B26, limN, rngI_zero]
  rw [comp_map (ι := Nat) (v := fun _ => fr 0) (fun x hx => by simp (disch := omega) [tuC]) (by simp [limN]; omega)]
  have hl1 : 1 + many ≤ 16777216 := by omega
  simp (disch := omega) [limN, ho, hl1]
  refine for_run (P := fun s => fin _ s = _) rowD rs (fun done ρ => ∃ t4 t5 t6 t7 t8 t9, ρ = [.sh (offD rs), .sh (fr v), .sh (.int many), .sh (.lst ((done.foldl (fun ch r => nextC (highR v r) many ch) (1 :: List.replicate many 0)).map fr)), t4, t5, t6, t7, t8, t9, .un, .un, .un, .un]) rfl ⟨.un, .un, .un, .un, .un, .un, by simp [List.map_const']⟩ ?st ?en
  case en =>
    rintro ρ' ⟨t4, t5, t6, t7, t8, t9, rfl⟩
    obtain ⟨E, cb⟩ : ∃ E, CB E (0 + rs.length) many (rs.foldl (fun ch r => nextC (highR v r) many ch) (1 :: List.replicate many 0)) := ⟨_, chances_CB (D0 := D0) (k := k) (v := v) hm rs 1 0 _ hr CB_zero⟩
    have ce : chancesR v many rs = rs.foldl (fun ch r => nextC (highR v r) many ch) (1 :: List.replicate many 0) := rfl
    rw [← ce] at cb ⊢
    have mr : meanR v many rs = VQ.sumR ((chancesR v many rs).zipIdx.map fun p => ((p.2 : Nat) : Int) * p.1) := rfl
    rw [mr]
    generalize chancesR v many rs = C at *
    obtain ⟨cl, e0, hE, hq⟩ := cb
    simp (disch := omega) [enumD_map]
    have le : E.log2 ≤ 100 := by have := VQ.log2_mono hE; rw [pow_log] at this; omega
    have ln : (2 ^ (24 * (0 + rs.length)) : Nat).log2 ≤ 200 := by rw [pow_log]; omega
    have qn : ∀ p ∈ C.zipIdx, VQ.Qn E (1001 * 2 ^ (24 * (0 + rs.length))) (((p.2 : Nat) : Int) * p.1) ∧ VQ.Sm p.1 ∧ VQ.Sm ((p.2 : Nat) : Int) := by
      intro p hp
      obtain ⟨h1, h2, h3⟩ := List.mem_zipIdx hp
      have hm1 : p.1 ∈ C := by rw [h3]; exact List.getElem_mem _
      have q1 := hq _ hm1
      have i1 : VQ.Qn 1 1001 (((p.2 : Nat) : Int) : Rat) := VQ.Qn.int (by omega)
      have q2 := i1.mul q1
      rw [Nat.one_mul] at q2
      exact ⟨q2, q1.sm e0 (by omega) (by omega), i1.sm (by decide) (by decide) (by have := log_lt (a := 1001) (k := 10) (by omega) (by omega); omega)⟩
    rw [comp_map (ι := Rat × Nat) (v := fun p => fr (((p.2 : Nat) : Int) * p.1)) (fun p hp => by
      obtain ⟨_, q2, q3⟩ := qn p hp
      simp (disch := first | omega | assumption) [tuC]) (by rw [List.length_zipIdx, limN]; omega)]
    have hT := s_total (n := n) (by omega) (D0 := E) (N := 1001 * 2 ^ (24 * (0 + rs.length))) (C.zipIdx.map fun p => ((p.2 : Nat) : Int) * p.1) (by
      intro q h
      obtain ⟨p, hp, rfl⟩ := List.mem_map.mp h
      exact (qn p hp).1) e0 (by omega) (by
        rw [List.length_map, List.length_zipIdx, cl]
        have h1 := VQ.log2_mul (many + 1) (1001 * 2 ^ (24 * (0 + rs.length)))
        have h2 := VQ.log2_mul 1001 (2 ^ (24 * (0 + rs.length)))
        have h3 := log_lt (a := many + 1) (k := 11) (by omega) (by omega)
        have h4 := log_lt (a := 1001) (k := 11) (by omega) (by omega)
        omega)
    rw [List.map_map] at hT
    have hT2 : callN L.T L.fs n 14 [.sh (.lst (C.zipIdx.map fun p => fr (((p.2 : Nat) : Int) * p.1)))] = .ok (fr (VQ.sumR (C.zipIdx.map fun p => ((p.2 : Nat) : Int) * p.1))) [.sh (.lst (C.zipIdx.map fun p => fr (((p.2 : Nat) : Int) * p.1)))] := hT
    simp only [Rat.intCast_natCast] at hT2 ⊢
    simp (disch := omega) [callE_eq, hT2]
  case st =>
    rintro done r rest hx ρ ⟨t4, t5, t6, t7, t8, t9, rfl⟩
    have hr1 : r ∈ rs := by rw [hx]; simp
    have hro := hr r hr1
    have hd1 : ∀ x ∈ done, RowOk D0 k x := fun x h => hr x (by rw [hx]; simp [h])
    have hdl : done.length ≤ 8 := by rw [hx, List.length_append] at hl; omega
    obtain ⟨E, cb⟩ : ∃ E, CB E (0 + done.length) many (done.foldl (fun ch r => nextC (highR v r) many ch) (1 :: List.replicate many 0)) := ⟨_, chances_CB (D0 := D0) (k := k) (v := v) hm done 1 0 _ hd1 CB_zero⟩
    have hw := hro.whole
    have hl6 := hro.l6
    have hsh := s_shares (n := n) (by omega) (r := r) (by omega) (by have := log_lt (a := (whole r).natAbs) (k := 10) (by omega) (by omega); omega) (by rw [limN]; omega)
    have lW : (whole r).toNat.log2 ≤ 10 := by
      have := log_lt (a := (whole r).toNat) (k := 11) (by omega) (by omega); omega
    have sh1 : VQ.Sm (highR v r) := (high_qn hro).sm (by omega) (by omega) (by have := log_lt (a := 594) (k := 10) (by omega) (by omega); omega)
    have sh2 : VQ.Sm (1 - highR v r) := (low_qn hro).sm (by omega) (by omega) (by have := log_lt (a := 1188) (k := 11) (by omega) (by omega); omega)
    have smx : ∀ x ∈ r, VQ.Sm x.2 := fun x hx => (hro.q x hx).sm hD (by omega) (by rw [pow_log]; omega)
    obtain ⟨I, hI⟩ : ∃ I : Env → Prop, I = fun ρ => ∃ t4 t5 t6 t7 t8 t9, ρ = [.sh (offD rs), .sh (fr v), .sh (.int many), .sh (.lst (((done ++ [r]).foldl (fun ch r => nextC (highR v r) many ch) (1 :: List.replicate many 0)).map fr)), t4, t5, t6, t7, t8, t9, .un, .un, .un, .un] := ⟨_, rfl⟩
    show ∃ ρ', _ = SR.nx ρ' ∧ (∃ t4 t5 t6 t7 t8 t9, ρ' = _)
    obtain ⟨C, hC⟩ : ∃ C, C = done.foldl (fun ch r => nextC (highR v r) many ch) (1 :: List.replicate many 0) := ⟨_, rfl⟩
    rw [← hC] at cb ⊢
    suffices h : ∃ ρ', tuF L.T (callN L.T L.fs n) (.nm 4) B26_2 (rowD r) [.sh (offD rs), .sh (fr v), .sh (.int many), .sh (.lst (C.map fr)), t4, t5, t6, t7, t8, t9, .un, .un, .un, .un] = .nx ρ' ∧ I ρ' by
      rw [hI] at h; exact h
    rw [List.foldl_append, List.foldl_cons, List.foldl_nil, ← hC] at hI
    obtain ⟨cl, e0, hE, hq⟩ := cb
    have le : E.log2 ≤ 100 := by have := VQ.log2_mono hE; rw [pow_log] at this; omega
    have ln : (2 ^ (24 * (0 + done.length)) : Nat).log2 ≤ 200 := by rw [pow_log]; omega
    obtain ⟨p1, p2⟩ := prodC_qn (v := v) hro hq
    have smC : ∀ q ∈ C, VQ.Sm q := fun q h => (hq q h).sm e0 (by omega) (by omega)
    simp (disch := omega) [tuF, B26_2, callE_eq, hsh]
    rw [comp_filter (ι := Int × Rat) (v := fun x => fr (shareR r x)) (fun x => !decide (x.2 < v)) (fun x hx => by
      have := smx x hx
      by_cases hlt : x.2 < v <;> simp (disch := first | omega | assumption) [tuC, hlt]) (by rw [limN]; omega)]
    have hT := s_total (n := n) (by omega) (D0 := (whole r).toNat) (N := 99) ((r.filter fun x => !decide (x.2 < v)).map (shareR r)) (by
      intro q h
      obtain ⟨x, hx, rfl⟩ := List.mem_map.mp h
      exact share_qn hro (List.mem_filter.mp hx).1) (by omega) (by omega) (by
        rw [List.length_map]
        have := List.length_filter_le (fun x : Int × Rat => !decide (x.2 < v)) r
        have := log_lt (a := (r.filter fun x => !decide (x.2 < v)).length * 99) (k := 10) (by omega) (by omega)
        omega)
    rw [List.map_map] at hT
    have hT2 : callN L.T L.fs n 14 [.sh (.lst ((r.filter fun x => !decide (x.2 < v)).map fun x => fr (shareR r x)))] = .ok (fr (highR v r)) [.sh (.lst ((r.filter fun x => !decide (x.2 < v)).map fun x => fr (shareR r x)))] := hT
    generalize hh : highR v r = h at *
    have hlr : List.length r ≤ 16777216 := by omega
    have hs1' : VQ.Sm 1 := hs1
    have smp : ∀ q ∈ C, VQ.Sm (q * (1 - h)) := fun q hq' => (p2 q hq').sm (Nat.mul_ne_zero e0 (by omega)) (by have := VQ.log2_mul E (whole r).toNat; omega) (by
      have h1 := VQ.log2_mul (2 ^ (24 * (0 + done.length))) 1188
      have h4 := log_lt (a := 1188) (k := 11) (by omega) (by omega)
      omega)
    simp (disch := first | omega | assumption) [callE_eq, hT2]
    rw [comp_map (ι := Rat) (v := fun c => fr (c * (1 - h))) (fun c hc => by
      have := smC c hc
      simp (disch := first | omega | assumption) [tuC]) (by rw [limN]; omega)]
    have e1 : ((many : Int) + 1).toNat = many + 1 := by omega
    simp (disch := omega) [rngI_zero, e1]
    refine for_run (P := fun s => ∃ ρ', s = SR.nx ρ' ∧ I ρ') (fun i : Nat => .int (i : Nat)) (List.range (many + 1)) (fun dn ρ => ∃ t8 t9, ρ = [.sh (offD rs), .sh (fr v), .sh (.int many), .sh (.lst (C.map fr)), .sh (rowD r), .sh (fr h), .sh (fr (1 - h)), .ow 0 (.lst ((dn.foldl (stepC h many C) (C.map fun c => c * (1 - h))).map fun q => .lf (fr q))), t8, t9, .un, .un, .un, .un]) rfl ⟨t8, t9, by simp [Function.comp_def]⟩ ?st2 ?en2
    case en2 =>
      rintro ρ' ⟨t8, t9, rfl⟩
      refine ⟨[.sh (offD rs), .sh (fr v), .sh (.int many), .sh (.lst ((nextC h many C).map fr)), .sh (rowD r), .sh (fr h), .sh (fr (1 - h)), .sh (.lst ((nextC h many C).map fr)), t8, t9, .un, .un, .un, .un], ?_, ?_⟩
      · simp [nextC]
      · rw [hI]; exact ⟨_, _, _, _, _, _, rfl⟩
    case st2 =>
      rintro dn i rst hxx ρ ⟨t8, t9, rfl⟩
      have hi : i < many + 1 := by
        have : i ∈ List.range (many + 1) := by rw [hxx]; simp
        exact List.mem_range.mp this
      have hdn : dn.length ≤ 1001 := by
        have := congrArg List.length hxx
        rw [List.length_range, List.length_append] at this; omega
      have b1 := foldC_qn (many := many) p1 dn (C.map fun c => c * (1 - h)) _ (by
        intro q h
        obtain ⟨c, hc, rfl⟩ := List.mem_map.mp h
        exact p2 c hc)
      have b2 : (dn.foldl (stepC h many C) (C.map fun c => c * (1 - h))).length = many + 1 := by rw [foldC_len, List.length_map, cl]
      obtain ⟨G, hG⟩ : ∃ G, G = dn.foldl (stepC h many C) (C.map fun c => c * (1 - h)) := ⟨_, rfl⟩
      rw [List.foldl_append, List.foldl_cons, List.foldl_nil]
      rw [← hG] at b1 b2 ⊢
      have nE : E * (whole r).toNat ≠ 0 := Nat.mul_ne_zero e0 (by omega)
      have lE := VQ.log2_mul E (whole r).toNat
      have c1 := getD_some (later := G) (l := min many (i + 1)) (by omega)
      have c2 := getD_some (later := C) (l := i) (by omega)
      have s1 : VQ.Sm (G.getD (min many (i + 1)) 0) := (getD_qn b1 _).sm nE (by omega) (by
        have h0 : 2 ^ (24 * (0 + done.length)) * 1188 + dn.length * (2 ^ (24 * (0 + done.length)) * 594) ≤ 2 ^ (24 * (0 + done.length)) * 2 ^ 24 := by
          generalize 2 ^ (24 * (0 + done.length)) = P
          have : dn.length * (P * 594) ≤ 1001 * (P * 594) := Nat.mul_le_mul_right _ hdn
          omega
        have h1 := VQ.log2_mono h0
        rw [← Nat.pow_add, pow_log] at h1
        omega)
      have s2 : VQ.Sm (C.getD i 0) := (getD_qn hq _).sm e0 (by omega) (by omega)
      have s3 : VQ.Sm (C.getD i 0 * h) := (p1 i).sm nE (by omega) (by
        have h1 := VQ.log2_mul (2 ^ (24 * (0 + done.length))) 594
        have h4 := log_lt (a := 594) (k := 11) (by omega) (by omega)
        omega)
      have e2 : stepC h many C G i = G.set (min many (i + 1)) (G.getD (min many (i + 1)) 0 + C.getD i 0 * h) := rfl
      have e3 : (if (i : Int) + 1 < (many : Int) then (i : Int) + 1 else (many : Int)) = ((min many (i + 1) : Nat) : Int) := by
        split <;> omega
      have e4 : min many (i + 1) < many + 1 := by omega
      rw [e2]
      generalize G.getD (min many (i + 1)) 0 = g at *
      generalize C.getD i 0 = c at *
      generalize min many (i + 1) = to at *
      refine ⟨[.sh (offD rs), .sh (fr v), .sh (.int many), .sh (.lst (C.map fr)), .sh (rowD r), .sh (fr h), .sh (fr (1 - h)), .ow 0 (.lst ((G.set to (g + c * h)).map fun q => .lf (fr q))), .sh (.int (i : Nat)), .sh (.int (to : Nat)), .un, .un, .un, .un], ?_, ⟨_, _, rfl⟩⟩
      simp (disch := first | omega | assumption) [-getElem?_pos, tuF, B26_1, e3, c1, c2, b2, e4, List.map_set]

theorem mean_qn {D0 k many : Nat} {rs : List Row} {v : Rat} (hr : ∀ r ∈ rs, RowOk D0 k r) (hm : many ≤ 1000) : VQ.Qn (prodW rs) ((many + 1) * (1001 * 2 ^ (24 * rs.length))) (meanR v many rs) ∧ prodW rs ≠ 0 ∧ prodW rs ≤ 2 ^ (10 * rs.length) := by
  have cb := chances_CB (D0 := D0) (k := k) (v := v) hm rs 1 0 _ hr CB_zero
  rw [Nat.one_mul, Nat.zero_add] at cb
  obtain ⟨cl, e0, hE, hq⟩ := cb
  refine ⟨?_, e0, hE⟩
  have h := VQ.Qn.sum (D := prodW rs) (N := 1001 * 2 ^ (24 * rs.length)) (qs := (chancesR v many rs).zipIdx.map fun p => ((p.2 : Nat) : Int) * p.1) (by
    intro q h
    obtain ⟨p, hp, rfl⟩ := List.mem_map.mp h
    obtain ⟨h1, h2, h3⟩ := List.mem_zipIdx hp
    have hm1 : p.1 ∈ chancesR v many rs := by rw [h3]; exact List.getElem_mem _
    have q1 := hq _ hm1
    have hl : (chancesR v many rs).length = many + 1 := cl
    have i1 : VQ.Qn 1 1001 (((p.2 : Nat) : Int) : Rat) := VQ.Qn.int (by omega)
    have q2 := i1.mul q1
    rw [Nat.one_mul] at q2
    exact q2)
  rw [List.length_map, List.length_zipIdx, show (chancesR v many rs).length = many + 1 from cl] at h
  exact h
def seerR (many : Nat) (rs : List Row) : Rat := ((worthsShown rs).foldl (fun (s : Rat × Rat) w => (s.1 + (w - s.2) * meanR w many rs, w)) (0, 0)).1
theorem s_seer {n : Nat} (hn : 6 ≤ n) {D0 k : Nat} {rs : List Row} {many : Nat} (hr : ∀ r ∈ rs, RowOk D0 k r) (hl : rs.length ≤ 8) (hm : many ≤ 1000) (hD : D0 ≠ 0) (hD2 : D0.log2 ≤ 2000) (hk : k ≤ 500) :
    callN L.T L.fs n 27 [.sh (offD rs), .sh (.int many)] = .ok (fr (seerR many rs)) [.sh (offD rs), .sh (.int many)] := by
  refine call_at' (k := 5) hn e27 rfl fun n hn => ?_
  have smx : ∀ r ∈ rs, ∀ x ∈ r, VQ.Sm x.2 := fun r h x hx => ((hr r h).q x hx).sm hD (by omega) (by rw [pow_log]; omega)
  have hw := s_worths_shown (n := n) (by omega) smx (fun r h => (hr r h).l6) hl
  have hwl := worths_len rs [] fun r h => (hr r h).l6
  have hwq := worths_mem (P := VQ.Qn D0 (2 ^ k)) rs [] (by simp) fun r h x hx => (hr r h).q x hx
  have e0 : worthsShown rs = rs.foldl worthsIn [] := rfl
  rw [← e0] at hwl hwq
  rw [List.length_nil] at hwl
  have se : seerR many rs = ((worthsShown rs).foldl (fun (s : Rat × Rat) w => (s.1 + (w - s.2) * meanR w many rs, w)) (0, 0)).1 := rfl
  rw [se]
  generalize worthsShown rs = W at *
  obtain ⟨M, hM⟩ : ∃ M, M = (many + 1) * (1001 * 2 ^ (24 * rs.length)) := ⟨_, rfl⟩
  have lM : M.log2 ≤ 300 := by
    have h1 := VQ.log2_mul (many + 1) (1001 * 2 ^ (24 * rs.length))
    have h2 := VQ.log2_mul 1001 (2 ^ (24 * rs.length))
    have h3 := log_lt (a := many + 1) (k := 11) (by omega) (by omega)
    have h4 := log_lt (a := 1001) (k := 11) (by omega) (by omega)
    rw [pow_log] at h2
    rw [hM]; omega
  simp (disch := omega) [B27, callE_eq, hw, limN]
  refine for_run (P := fun s => fin _ s = _) fr W (fun done ρ => ∃ t4, ρ = [.sh (offD rs), .sh (.int many), .sh (fr (done.foldl (fun (s : Rat × Rat) w => (s.1 + (w - s.2) * meanR w many rs, w)) (0, 0)).1), .sh (fr (done.foldl (fun (s : Rat × Rat) w => (s.1 + (w - s.2) * meanR w many rs, w)) (0, 0)).2), t4] ∧
      VQ.Qn (D0 * prodW rs) (done.length * (2 * 2 ^ k * M)) (done.foldl (fun (s : Rat × Rat) w => (s.1 + (w - s.2) * meanR w many rs, w)) (0, 0)).1 ∧ VQ.Qn D0 (2 ^ k) (done.foldl (fun (s : Rat × Rat) w => (s.1 + (w - s.2) * meanR w many rs, w)) (0, 0)).2) rfl ⟨.un, by simp, ⟨0, by simp, by simp⟩, ⟨0, by simp, by simp⟩⟩ ?st ?en
  case en =>
    rintro ρ' ⟨t4, rfl, _, _⟩
    simp
  case st =>
    rintro done w rest hx ρ ⟨t4, rfl, q1, q2⟩
    have hw1 : w ∈ W := by rw [hx]; simp
    have hdl : done.length ≤ 48 := by rw [hx, List.length_append] at hwl; omega
    obtain ⟨mq, m0, m1⟩ := mean_qn (v := w) hr hm
    rw [← hM] at mq
    have q3 := hwq w hw1
    have q4 : VQ.Qn D0 (2 * 2 ^ k) (w - (done.foldl (fun (s : Rat × Rat) w => (s.1 + (w - s.2) * meanR w many rs, w)) (0, 0)).2) := (q3.sub q2).mono (by omega)
    have q5 := q4.mul mq
    have q6 := q1.add q5
    have lE : (prodW rs).log2 ≤ 80 := by have := VQ.log2_mono m1; rw [pow_log] at this; omega
    have lDE := VQ.log2_mul D0 (prodW rs)
    have nDE : D0 * prodW rs ≠ 0 := Nat.mul_ne_zero hD m0
    have l1 := VQ.log2_mul (2 * 2 ^ k) M
    have l2 := VQ.log2_mul 2 (2 ^ k)
    rw [pow_log] at l2
    have l3 : (2 : Nat).log2 = 1 := by decide
    have l4 : ∀ c, c ≤ 49 → (c * (2 * 2 ^ k * M)).log2 ≤ 2000 := by
      intro c hc
      have h1 := VQ.log2_mul c (2 * 2 ^ k * M)
      have h2 := log_lt (a := c) (k := 7) (by omega) (by omega)
      omega
    have s1 := q1.sm nDE (by omega) (by have := l4 done.length (by omega); omega)
    have s2 := q2.sm hD (by omega) (by rw [pow_log]; omega)
    have s3 := q3.sm hD (by omega) (by rw [pow_log]; omega)
    have s4 := q4.sm hD (by omega) (by omega)
    have s5 := q5.sm nDE (by omega) (by omega)
    have s6 := mq.sm m0 (by omega) (by omega)
    have hmean := s_mean (n := n) (by omega) hr hl hm hD hD2 hk s3
    rw [List.foldl_append, List.foldl_cons, List.foldl_nil]
    generalize done.foldl (fun (s : Rat × Rat) w => (s.1 + (w - s.2) * meanR w many rs, w)) (0, 0) = s at *
    refine ⟨[.sh (offD rs), .sh (.int many), .sh (fr (s.1 + (w - s.2) * meanR w many rs)), .sh (fr w), .sh (fr w)], ?_, ⟨_, rfl, ?_, q3⟩⟩
    · simp (disch := first | omega | assumption) [tuF, B27_1, callE_eq, hmean]
    · rw [List.length_append, List.length_singleton, Nat.succ_mul]; exact q6
theorem t_div {n : Nat} (hn : 3 ≤ n) {p q : Rat} (hp : VQ.Sm p) (hq : VQ.Sm q) (h0 : q ≠ 0) : callN L.T L.fs n 10 [.sh (fr p), .sh (fr q)] = .ok (fr (p / q)) [.sh (fr p), .sh (fr q)] := by
  refine call_at' (k := 2) hn e10 rfl fun n hn => ?_
  have h1' : q.num ≠ 0 := fun z => h0 (Rat.num_eq_zero.mp z)
  have hd : (p.den : Int) * q.num ≠ 0 := Int.mul_ne_zero (VQ.den_ne p) h1'
  have hs := VQ.dn_small hp hq
  obtain ⟨h1, h2⟩ := hp; obtain ⟨h3, h4⟩ := hq
  simp (disch := first | assumption | omega | (simp only [Int.natAbs_natCast]; omega)) [B10, binI_mul, mk_frac, VQ.div_div, h1', h0]
theorem s_quotient {n : Nat} (hn : 8 ≤ n) {D0 k : Nat} {rs : List Row} {many : Nat} (hr : ∀ r ∈ rs, RowOk D0 k r) (hl : rs.length ≤ 8) (hm : many ≤ 1000) (hD : D0 ≠ 0) (hD2 : D0.log2 ≤ 2000) (hk : k ≤ 500) (s1 : VQ.Sm (seerR many rs)) (s2 : VQ.Sm (((turnRows many rs).headD []).getD many 0)) (h0 : seerR many rs ≠ 0) :
    callN L.T L.fs n 30 [.sh (offD rs), .sh (.int many)] = .ok (fr (((turnRows many rs).headD []).getD many 0 / seerR many rs)) [.sh (offD rs), .sh (.int many)] := by
  refine call_at' (k := 7) hn e30 rfl fun n hn => ?_
  have h1 := s_seer (n := n) (by omega) hr hl hm hD hD2 hk
  have h2 := s_turn_worth (n := n) (by omega) hr hl hm hD hD2 hk
  have h3 := t_div (n := n) (by omega) s2 s1 h0
  have h4 : (seerR many rs).num ≠ 0 := fun z => h0 (Rat.num_eq_zero.mp z)
  generalize ((turnRows many rs).headD []).getD many 0 = tv at *
  simp [B30, callE_eq, h1, h2, h3, h4, h0]

end LW
end

section
set_option Elab.async false
set_option linter.all false
set_option autoImplicit false
set_option maxRecDepth 100000
set_option maxHeartbeats 4000000
namespace LW
open RF RV

/-! the law's draws -/
structure Bag where
  cells : List Int
  pl : Nat
  big : Int
  mixed : Int
  count : Int
def bagK : List D := [.str ("cells" : PySem.Str), .str ("at" : PySem.Str), .str ("big" : PySem.Str), .str ("mixed" : PySem.Str), .str ("count" : PySem.Str)]
def bagV (b : Bag) : List O := [.lf (.lst (b.cells.map .int)), .lf (.int (b.pl : Nat)), .lf (.int b.big), .lf (.int b.mixed), .lf (.int b.count)]
def bagO (b : Bag) : O := .dic bagK (bagV b)
structure BagOk (c : Nat) (b : Bag) : Prop where
  cells : ∀ x ∈ b.cells, 0 ≤ x
  big : 0 ≤ b.big
  m1 : 0 ≤ b.mixed
  m2 : b.mixed < 2305843009213693951
  c1 : 0 ≤ b.count
  c2 : b.count ≤ c
def drawA (b : Bag) : Bag := if b.big = 0 ∧ b.pl < b.cells.length then
    (if (1000000000000000000 : Int) ≤ b.cells.getD b.pl 0 then { b with pl := b.pl + 1, big := b.cells.getD b.pl 0 } else { b with pl := b.pl + 1, mixed := (b.mixed * b.mixed + b.cells.getD b.pl 0 * 2654435761 + 131).fmod 2305843009213693951 })
  else b
def drawC (b : Bag) (m : Int) : Int × Bag := if 0 < b.big then (b.big.fmod m, { b with big := b.big.fdiv m }) else
  (((b.mixed * b.mixed + 2 * (b.count + 1) + 1).fmod 2305843009213693951).fdiv 1009 |>.fmod m, { b with count := b.count + 1, mixed := (b.mixed * b.mixed + 2 * (b.count + 1) + 1).fmod 2305843009213693951 })
def drawB (b : Bag) (m : Int) : Int × Bag := drawC (drawA b) m
theorem fmod_in {a m : Int} (h : 0 < m) : 0 ≤ a.fmod m ∧ a.fmod m < m := ⟨Int.fmod_nonneg_of_pos a h, Int.fmod_lt_of_pos a h⟩
theorem drawA_ok {c : Nat} {b : Bag} (h : BagOk c b) : BagOk c (drawA b) := by
  unfold drawA
  split
  · rename_i h1
    have hc : 0 ≤ b.cells.getD b.pl 0 := by
      rw [List.getD_eq_getElem?_getD, List.getElem?_eq_getElem h1.2]
      exact h.cells _ (List.getElem_mem _)
    split
    · exact ⟨h.cells, hc, h.m1, h.m2, h.c1, h.c2⟩
    · have := fmod_in (a := b.mixed * b.mixed + b.cells.getD b.pl 0 * 2654435761 + 131) (m := 2305843009213693951) (by decide)
      exact ⟨h.cells, h.big, this.1, this.2, h.c1, h.c2⟩
  · exact h
theorem drawB_ok {c : Nat} {b : Bag} {m : Int} (h : BagOk c b) (hm : 0 < m) : 0 ≤ (drawB b m).1 ∧ (drawB b m).1 < m ∧ BagOk (c + 1) (drawB b m).2 := by
  have h := drawA_ok h
  unfold drawB drawC
  split
  · have := fmod_in (a := (drawA b).big) hm
    refine ⟨this.1, this.2, h.cells, ?_, h.m1, h.m2, h.c1, by have := h.c2; show (drawA b).count ≤ ((c + 1 : Nat) : Int); omega⟩
    show 0 ≤ (drawA b).big.fdiv m
    rw [Int.fdiv_eq_ediv_of_nonneg _ (by omega)]
    exact Int.ediv_nonneg h.big (by omega)
  · have := fmod_in (a := ((drawA b).mixed * (drawA b).mixed + 2 * ((drawA b).count + 1) + 1).fmod 2305843009213693951 |>.fdiv 1009) hm
    have h2 := fmod_in (a := (drawA b).mixed * (drawA b).mixed + 2 * ((drawA b).count + 1) + 1) (m := 2305843009213693951) (by decide)
    exact ⟨this.1, this.2, h.cells, h.big, h2.1, h2.2, by have := h.c1; show 0 ≤ (drawA b).count + 1; omega, by have := h.c2; show (drawA b).count + 1 ≤ ((c + 1 : Nat) : Int); omega⟩
section
variable {α : Type} (a b c d e : α)
theorem look1 : look bagK [a, b, c, d, e] (.str ("cells" : PySem.Str)) = some a := by kernel_rfl
theorem look2 : look bagK [a, b, c, d, e] (.str ("at" : PySem.Str)) = some b := by kernel_rfl
theorem look3 : look bagK [a, b, c, d, e] (.str ("big" : PySem.Str)) = some c := by kernel_rfl
theorem look4 : look bagK [a, b, c, d, e] (.str ("mixed" : PySem.Str)) = some d := by kernel_rfl
theorem look5 : look bagK [a, b, c, d, e] (.str ("count" : PySem.Str)) = some e := by kernel_rfl
end
section
variable (a b c d e : O) (y : D)
theorem put2 : setO (.dic bagK [a, b, c, d, e]) (.str ("at" : PySem.Str)) y = some (.dic bagK [a, .lf y, c, d, e]) := by kernel_rfl
theorem put3 : setO (.dic bagK [a, b, c, d, e]) (.str ("big" : PySem.Str)) y = some (.dic bagK [a, b, .lf y, d, e]) := by kernel_rfl
theorem put4 : setO (.dic bagK [a, b, c, d, e]) (.str ("mixed" : PySem.Str)) y = some (.dic bagK [a, b, c, .lf y, e]) := by kernel_rfl
theorem put5 : setO (.dic bagK [a, b, c, d, e]) (.str ("count" : PySem.Str)) y = some (.dic bagK [a, b, c, d, .lf y]) := by kernel_rfl
end
theorem natAbs_log {a : Int} {k : Nat} (h0 : 0 ≤ a) (h : a < 2 ^ (k + 1)) : a.natAbs.log2 ≤ k := by
  have h2 : a.natAbs < 2 ^ (k + 1) := by
    have e : ((2 ^ (k + 1) : Nat) : Int) = (2 : Int) ^ (k + 1) := by simp
    omega
  have := log_lt h2 (by omega)
  omega
theorem log_le_of {a : Int} {N k : Nat} (h0 : 0 ≤ a) (h : a ≤ N) (hN : N.log2 ≤ k) : a.natAbs.log2 ≤ k := Nat.le_trans (VQ.log2_mono (by omega)) hN
theorem getD_some' {α : Type} {xs : List α} {i : Nat} {d : α} (h : i < xs.length) : xs[i]? = some (xs.getD i d) := by
  rw [List.getD_eq_getElem?_getD, List.getElem?_eq_getElem h]; rfl
theorem t_draw {n : Nat} (hn : 1 ≤ n) {c : Nat} {b : Bag} {m : Int} (h : BagOk c b) (hm : 0 < m) (hm2 : m ≤ 1000000) (hc : c ≤ 1000000000) : callN L.T L.fs n 32 [.ow (bagO b), .sh (.int m)] = .ok (.int (drawB b m).1) [.ow (bagO (drawB b m).2), .sh (.int m)] := by
  refine call_at' (k := 0) hn e32 rfl fun n hn => ?_
  have hA := drawA_ok h
  obtain ⟨h1, h2, h3, h4, h5, h6⟩ := h
  have l1 : b.mixed.natAbs.log2 ≤ 61 := log_le_of (N := 2305843009213693951) h3 (by omega) (by decide)
  have l2 : b.count.natAbs.log2 ≤ 30 := log_le_of (N := 1000000000) h5 (by omega) (by decide)
  have l3 : (b.count + 1).natAbs.log2 ≤ 30 := log_le_of (N := 1000000001) (by omega) (by omega) (by decide)
  have lm : m.natAbs.log2 ≤ 20 := log_le_of (N := 1000000) (by omega) (by omega) (by decide)
  have k1 : (2654435761 : Int).natAbs.log2 = 31 := by decide
  have k2 : (2 : Int).natAbs.log2 = 1 := by decide
  have k3 : (1009 : Int).natAbs.log2 < 9000 := by decide
  have p1 : binI .pow 10 18 = some (.int 1000000000000000000) := by rw [binI_pow (by decide)]; rfl
  have hm0 : m ≠ 0 := by omega
  have c0 : ∀ n : Nat, ((n : Nat) : Int) + 1 = ((n + 1 : Nat) : Int) := fun n => by omega
  by_cases hA1 : b.big = 0 ∧ b.pl < b.cells.length
  · obtain ⟨z1, z2⟩ := hA1
    have g := getD_some' (xs := b.cells) (i := b.pl) (d := 0) z2
    by_cases z3 : (1000000000000000000 : Int) ≤ b.cells.getD b.pl 0
    · have eA : drawA b = { b with pl := b.pl + 1, big := b.cells.getD b.pl 0 } := by unfold drawA; rw [if_pos ⟨z1, z2⟩, if_pos z3]
      unfold drawB
      rw [eA]
      generalize b.cells.getD b.pl 0 = q at *
      have q0 : 0 < q := by omega
      simp (disch := first | assumption | omega) [-getElem?_pos, B32, bagO, bagV, look1, look2, look3, look4, look5, put2, put3, put4, put5, z1, z2, z3, p1, g, drawC, q0, binI_mod, binI_fdiv]
    · have eA : drawA b = { b with pl := b.pl + 1, mixed := (b.mixed * b.mixed + b.cells.getD b.pl 0 * 2654435761 + 131).fmod 2305843009213693951 } := by unfold drawA; rw [if_pos ⟨z1, z2⟩, if_neg z3]
      have q0 : 0 ≤ b.cells.getD b.pl 0 := h1 _ (by rw [List.getD_eq_getElem?_getD, List.getElem?_eq_getElem z2]; exact List.getElem_mem _)
      rw [eA] at hA
      unfold drawB
      rw [eA]
      generalize b.cells.getD b.pl 0 = q at *
      have lq : q.natAbs.log2 ≤ 60 := log_le_of (N := 1000000000000000000) q0 (by omega) (by decide)
      have hM1 : 0 ≤ (b.mixed * b.mixed + q * 2654435761 + 131).fmod 2305843009213693951 := hA.m1
      have hM2 : (b.mixed * b.mixed + q * 2654435761 + 131).fmod 2305843009213693951 < 2305843009213693951 := hA.m2
      have b1 : binI .mul b.mixed b.mixed = some (.int (b.mixed * b.mixed)) := binI_mul (by omega)
      have b2 : binI .mul q 2654435761 = some (.int (q * 2654435761)) := binI_mul (by rw [k1]; omega)
      generalize hM : (b.mixed * b.mixed + q * 2654435761 + 131).fmod 2305843009213693951 = M at *
      have lM : M.natAbs.log2 ≤ 61 := log_le_of (N := 2305843009213693951) hM1 (by omega) (by decide)
      have b3 : binI .mul M M = some (.int (M * M)) := binI_mul (by omega)
      have b4 : binI .mul 2 (b.count + 1) = some (.int (2 * (b.count + 1))) := binI_mul (by rw [k2]; omega)
      simp (disch := first | assumption | omega) [-getElem?_pos, B32, bagO, bagV, look1, look2, look3, look4, look5, put2, put3, put4, put5, z1, z2, z3, p1, g, drawC, binI_mod, binI_fdiv, b1, b2, b3, b4, hM]
  · have eA : drawA b = b := by unfold drawA; rw [if_neg hA1]
    unfold drawB
    rw [eA]
    have b3 : binI .mul b.mixed b.mixed = some (.int (b.mixed * b.mixed)) := binI_mul (by omega)
    have b4 : binI .mul 2 (b.count + 1) = some (.int (2 * (b.count + 1))) := binI_mul (by rw [k2]; omega)
    by_cases z1 : b.big = 0
    · have z2 : ¬ b.pl < b.cells.length := fun z => hA1 ⟨z1, z⟩
      simp (disch := first | assumption | omega) [B32, bagO, bagV, look1, look2, look3, look4, look5, put2, put3, put4, put5, z1, z2, drawC, binI_mod, binI_fdiv, b3, b4]
    · have q0 : 0 < b.big := by omega
      simp (disch := first | assumption | omega) [B32, bagO, bagV, look1, look2, look3, look4, look5, put2, put3, put4, put5, z1, drawC, q0, binI_mod, binI_fdiv, b3, b4]
theorem s_bag {n : Nat} (hn : 1 ≤ n) (ns : List Int) (hl : ns.length ≤ 63) : callN L.T L.fs n 31 [.sh (.scr (ns.map .int))] = .okN (bagO ⟨ns.map fun i => if i < 0 then -i else i, 0, 0, 7 + ns.length, 0⟩) [.sh (.scr (ns.map .int))] := by
  refine call_at' (k := 0) hn e31 rfl fun n hn => ?_
  simp [B31]
  rw [comp_map (ι := Int) (v := fun i => .int (if i < 0 then -i else i)) (fun i hi => by simp [tuC]) (by rw [limN]; omega)]
  simp [bagO, bagV, bagK, Function.comp_def]
theorem bag_ok (ns : List Int) (hl : ns.length ≤ 63) : BagOk 0 ⟨ns.map fun i => if i < 0 then -i else i, 0, 0, 7 + ns.length, 0⟩ := by
  refine ⟨fun x hx => ?_, by show (0 : Int) ≤ 0; omega, by show (0 : Int) ≤ 7 + ns.length; omega, by show (7 : Int) + ns.length < _; omega, by show (0 : Int) ≤ 0; omega, by show (0 : Int) ≤ ((0 : Nat) : Int); omega⟩
  obtain ⟨i, _, rfl⟩ := List.mem_map.mp hx
  split <;> omega
/-! the law's own fractions -/
theorem s_gcd {n : Nat} (hn : 1 ≤ n) (a b : Int) : callN L.T L.fs n 33 [.sh (.int a), .sh (.int b)] = .ok (.int ((Nat.gcd a.natAbs b.natAbs : Nat) : Int)) [.sh (.int a), .sh (.int b)] := by
  refine call_at' (k := 0) hn e33 rfl fun n hn => ?_
  have ea : ∀ a : Int, (if a < 0 then -a else a) = ((a.natAbs : Nat) : Int) := fun a => by split <;> omega
  simp [B33, ea]
  obtain ⟨s, e, ⟨hi, hg⟩, hgo⟩ := whileS_fold (σ := (Nat × Nat) × S) (c := evT L.T (callN L.T L.fs n) (Te.val (Px.ex (Ex.cmp Cop.gt (Ex.var 1) (Ex.cst (D.int 0)))))) (b := evB L.T (callN L.T L.fs n) B33_1)
    (fun s => [.sh (.int (s.1.1 : Nat)), .sh (.int (s.1.2 : Nat)), s.2]) (fun s => decide (0 < s.1.2)) (fun s => ((s.1.2, s.1.1 % s.1.2), .sh (.int ((s.1.1 % s.1.2 : Nat) : Int)))) (fun s => Nat.gcd s.1.1 s.1.2 = Nat.gcd a.natAbs b.natAbs ∧ True) (fun s => s.1.2)
    (fun s hs => by
      refine ⟨by simp, fun hg => ?_⟩
      have h0 : 0 < s.1.2 := of_decide_eq_true hg
      have h1 : ((s.1.2 : Nat) : Int) ≠ 0 := by omega
      have h2 : (((s.1.1 : Nat) : Int).fmod ((s.1.2 : Nat) : Int)) = ((s.1.1 % s.1.2 : Nat) : Int) := by rw [Int.fmod_eq_emod_of_nonneg _ (by omega)]; simp
      refine ⟨?_, ⟨?_, True.intro⟩, Nat.mod_lt _ h0⟩
      · simp [B33_1, binI_mod h1, h2]
      · show Nat.gcd s.1.2 (s.1.1 % s.1.2) = _
        rw [← hs.1, Nat.gcd_comm s.1.2, ← Nat.gcd_rec, Nat.gcd_comm]) ((a.natAbs, b.natAbs), .un) ⟨rfl, True.intro⟩
  rw [e]
  have hz : s.1.2 = 0 := by
    have := of_decide_eq_false hgo
    omega
  rw [hz, Nat.gcd_zero_right] at hi
  simp [hi]
theorem s_pair {n : Nat} (hn : 2 ≤ n) (q : Rat) : callN L.T L.fs n 42 [.sh (fr q)] = .ok (.tup [.int q.num, .int (q.den : Int)]) [.sh (fr q)] := by
  refine call_at' (k := 1) hn e42 rfl fun n hn => ?_
  have h1 : ¬ ((q.den : Int) < 1) := by have := VQ.den_pos q; omega
  have h2 := s_gcd (n := n) (by omega) q.num (q.den : Int)
  have h3 : Nat.gcd q.num.natAbs (q.den : Int).natAbs = 1 := q.reduced
  rw [h3] at h2
  simp [B42, h1, callE_eq, h2, instT, limN]

end LW
end

section
set_option Elab.async false
set_option linter.all false
set_option autoImplicit false
set_option maxRecDepth 100000
set_option maxHeartbeats 4000000
namespace LW
open RF RV

/-! the law's own fractions, as pairs -/
open VQ (Pr PB plusP minusP timesP lowP)
def pD (p : Pr) : D := .tup [.int p.1, .int p.2]
def lowD (q : Rat) : D := pD (lowP q)
section
variable {n d e d' e' : Nat} {p p' : Pr} {q q' : Rat}
theorem s_low (hn : 2 ≤ n) (h : PB d e p q) (hd : d < 9000) : callN L.T L.fs n 34 [.sh (pD p)] = .ok (lowD q) [.sh (pD p)] := by
  refine call_at' (k := 1) hn e34 rfl fun n hn => ?_
  have hb : p.2 ≠ 0 := by have := h.1; omega
  have hl : ¬ p.2 < 0 := by have := h.1; omega
  have hg : p.2.natAbs.log2 < 9000 := by have := VQ.log_of h.2.1; omega
  have g := VQ.gcd_pos (a := p.1) hb
  have hg := VQ.gcd_small (a := p.1) hb hg
  have fn := VQ.fd_num (a := p.1) hb
  have fd := VQ.fd_den (a := p.1) hb
  rw [if_neg hl] at fn fd
  rw [h.div] at fn fd
  have hc := s_gcd (n := n) (by omega) p.1 p.2
  obtain ⟨a, b⟩ := p
  dsimp only at *
  generalize Nat.gcd a.natAbs b.natAbs = k at *
  have k0 : ((k : Nat) : Int) ≠ 0 := by omega
  have kl : ((k : Nat) : Int).natAbs.log2 < 9000 := by rw [Int.natAbs_natCast]; exact hg
  have f1 := binI_fdiv (a := a) k0 kl
  have f2 := binI_fdiv (a := b) k0 kl
  rw [fn] at f1
  rw [fd] at f2
  simp [B34, pD, lowD, lowP, callE_eq, hc, hl, f1, f2, limN]
theorem s_plus (hn : 1 ≤ n) (h : PB d e p q) (g : PB d' e' p' q') (h1 : d + d' < 100000000) (h2 : e + d' < 100000000) (h3 : e' + d < 100000000) : callN L.T L.fs n 35 [.sh (pD p), .sh (pD p')] = .ok (pD (plusP p p')) [.sh (pD p), .sh (pD p')] := by
  refine call_at' (k := 0) hn e35 rfl fun n hn => ?_
  have a1 := VQ.log_of h.2.1
  have a2 := VQ.log_of h.2.2.1
  have b1 := VQ.log_of g.2.1
  have b2 := VQ.log_of g.2.2.1
  obtain ⟨a, b⟩ := p
  obtain ⟨a', b'⟩ := p'
  dsimp only at *
  have m1 : binI .mul a b' = some (.int (a * b')) := binI_mul (by omega)
  have m2 : binI .mul a' b = some (.int (a' * b)) := binI_mul (by omega)
  have m3 : binI .mul b b' = some (.int (b * b')) := binI_mul (by omega)
  simp [B35, pD, plusP, m1, m2, m3, limN]
theorem s_times (hn : 1 ≤ n) (h : PB d e p q) (g : PB d' e' p' q') (h1 : d + d' < 100000000) (h2 : e + e' < 100000000) : callN L.T L.fs n 37 [.sh (pD p), .sh (pD p')] = .ok (pD (timesP p p')) [.sh (pD p), .sh (pD p')] := by
  refine call_at' (k := 0) hn e37 rfl fun n hn => ?_
  have a1 := VQ.log_of h.2.1
  have a2 := VQ.log_of h.2.2.1
  have b1 := VQ.log_of g.2.1
  have b2 := VQ.log_of g.2.2.1
  obtain ⟨a, b⟩ := p
  obtain ⟨a', b'⟩ := p'
  dsimp only at *
  have m1 : binI .mul a a' = some (.int (a * a')) := binI_mul (by omega)
  have m3 : binI .mul b b' = some (.int (b * b')) := binI_mul (by omega)
  simp [B37, pD, timesP, m1, m3, limN]
theorem s_below (hn : 1 ≤ n) (h : PB d e p q) (g : PB d' e' p' q') (h2 : e + d' < 100000000) (h3 : e' + d < 100000000) : callN L.T L.fs n 39 [.sh (pD p), .sh (pD p')] = .ok (.bl (decide (q < q'))) [.sh (pD p), .sh (pD p')] := by
  refine call_at' (k := 0) hn e39 rfl fun n hn => ?_
  have a1 := VQ.log_of h.2.1
  have a2 := VQ.log_of h.2.2.1
  have b1 := VQ.log_of g.2.1
  have b2 := VQ.log_of g.2.2.1
  have z := h.below g
  obtain ⟨a, b⟩ := p
  obtain ⟨a', b'⟩ := p'
  dsimp only at *
  have m1 : binI .mul a b' = some (.int (a * b')) := binI_mul (by omega)
  have m2 : binI .mul a' b = some (.int (a' * b)) := binI_mul (by omega)
  simp [B39, pD, m1, m2, z]
theorem s_same (hn : 1 ≤ n) (h : PB d e p q) (g : PB d' e' p' q') (h2 : e + d' < 100000000) (h3 : e' + d < 100000000) : callN L.T L.fs n 40 [.sh (pD p), .sh (pD p')] = .ok (.bl (decide (q = q'))) [.sh (pD p), .sh (pD p')] := by
  refine call_at' (k := 0) hn e40 rfl fun n hn => ?_
  have a1 := VQ.log_of h.2.1
  have a2 := VQ.log_of h.2.2.1
  have b1 := VQ.log_of g.2.1
  have b2 := VQ.log_of g.2.2.1
  have z := h.same g
  obtain ⟨a, b⟩ := p
  obtain ⟨a', b'⟩ := p'
  dsimp only at *
  have m1 : binI .mul a b' = some (.int (a * b')) := binI_mul (by omega)
  have m2 : binI .mul a' b = some (.int (a' * b)) := binI_mul (by omega)
  simp [B40, pD, m1, m2, z]
theorem s_greater (hn : 2 ≤ n) (h : PB d e p q) (g : PB d' e' p' q') (h2 : e + d' < 100000000) (h3 : e' + d < 100000000) : callN L.T L.fs n 41 [.sh (pD p), .sh (pD p')] = .ok (pD (if q < q' then p' else p)) [.sh (pD p), .sh (pD p')] := by
  refine call_at' (k := 1) hn e41 rfl fun n hn => ?_
  have hb := s_below (n := n) (by omega) h g h2 h3
  by_cases z : q < q' <;> simp [B41, callE_eq, hb, z]
theorem s_is (hn : 3 ≤ n) (q : Rat) (g : PB d' e' p' q') (h : PB d e (lowP q) q) (h2 : e + d' < 100000000) (h3 : e' + d < 100000000) : callN L.T L.fs n 44 [.sh (fr q), .sh (pD p')] = .ok (.bl (decide (q = q'))) [.sh (fr q), .sh (pD p')] := by
  refine call_at' (k := 2) hn e44 rfl fun n hn => ?_
  have h1 := s_pair (n := n) (by omega) q
  have hs := s_same (n := n) (by omega) h g h2 h3
  have e1 : lowD q = .tup [.int q.num, .int (q.den : Int)] := rfl
  rw [show pD (lowP q) = lowD q from rfl, e1] at hs
  simp [B44, callE_eq, h1, hs]
end

end LW
end

section
set_option Elab.async false
set_option linter.all false
set_option autoImplicit false
set_option maxRecDepth 100000
set_option maxHeartbeats 4000000
namespace LW
open RF RV

/-! the worth with so many left, by plain sums -/
def mx (a b : Rat) : Rat := if a < b then b else a
def Sh (r : Row) (f : Int × Rat → Rat) : Rat := VQ.sumR (r.map fun x => shareR r x * f x)
def W : List Row → Nat → Rat
  | [], _ => 0
  | _ :: _, 0 => 0
  | r :: rs, l + 1 => Sh r fun x => mx (x.2 + W rs l) (W rs (l + 1))
def wrow (many : Nat) (t : List Row) : List Rat := (List.range (many + 1)).map (W t)
theorem W_zero (rs : List Row) : W rs 0 = 0 := by cases rs <;> rfl
theorem wrow_get {many l : Nat} (t : List Row) (h : l ≤ many) : (wrow many t)[l]? = some (W t l) := by
  unfold wrow
  rw [List.getElem?_map, List.getElem?_range (by omega)]; rfl
theorem wrow_getD {many l : Nat} (t : List Row) (h : l ≤ many) : (wrow many t).getD l 0 = W t l := by
  rw [List.getD_eq_getElem?_getD, wrow_get t h]; rfl
theorem gmax_two (a b : Rat) : VQ.gmax a [a, b] = mx a b := by
  simp [VQ.gmax, mx, Rat.lt_irrefl]
theorem rowBefore_W (many : Nat) (r : Row) (rs : List Row) : rowBefore r (wrow many rs) many = wrow many (r :: rs) := by
  rw [rowBefore_eq]
  conv => rhs; unfold wrow
  rw [List.range_succ_eq_map, List.map_cons, List.map_map]
  congr 1
  refine List.map_congr_left fun l hl => ?_
  have := List.mem_range.mp hl
  show VQ.sumR (r.map (prodR r (wrow many rs) l)) = W (r :: rs) (l + 1)
  rw [W, Sh]
  congr 1
  refine List.map_congr_left fun x hx => ?_
  unfold prodR
  rw [wrow_getD rs (by omega), wrow_getD rs (by omega), gmax_two]
theorem turnRows_W (many : Nat) : ∀ rs : List Row, turnRows many rs = (List.range (rs.length + 1)).map fun i => wrow many (rs.drop i)
  | [] => by simp [turnRows, wrow, W, List.map_const']
  | r :: rs => by
    have ih := turnRows_W many rs
    rw [turnRows, List.length_cons, List.range_succ_eq_map (n := rs.length + 1), List.map_cons, List.map_map]
    congr 1
    · rw [ih, List.range_succ_eq_map, List.map_cons, List.headD_cons]
      exact rowBefore_W many r rs
theorem turnRows_head (many : Nat) (rs : List Row) : ((turnRows many rs).headD []).getD many 0 = W rs many := by
  rw [turnRows_W, List.range_succ_eq_map, List.map_cons, List.headD_cons]
  exact wrow_getD rs (Nat.le_refl _)
/-! sums with shares -/
structure ROk (r : Row) : Prop where
  w : ∀ x ∈ r, 1 ≤ x.1
  q : ∀ x ∈ r, 0 ≤ x.2
  ne : r ≠ []
theorem sum_pos : ∀ {r : Row}, (∀ x ∈ r, 1 ≤ x.1) → (r.length : Int) ≤ whole r
  | [], _ => by simp [whole]
  | x :: r, h => by
    have h1 := h x List.mem_cons_self
    have h2 := sum_pos (r := r) fun y hy => h y (List.mem_cons_of_mem _ hy)
    unfold whole at *
    rw [List.map_cons, List.sum_cons, List.length_cons]; omega
theorem ROk.whole {r : Row} (h : ROk r) : 0 < LW.whole r := by
  have h1 := sum_pos h.w
  have : 0 < r.length := List.length_pos_iff.mpr h.ne
  omega
theorem ROk.share {r : Row} (h : ROk r) {x : Int × Rat} (hx : x ∈ r) : 0 ≤ shareR r x := by
  unfold shareR
  exact Rat.divInt_nonneg (by have := h.w x hx; omega) (by have := h.whole; omega)
theorem sumR_cons (a : Rat) (qs : List Rat) : VQ.sumR (a :: qs) = a + VQ.sumR qs := VQ.sumR_cons a qs
theorem sum_le {ι : Type} {f g : ι → Rat} : ∀ {xs : List ι}, (∀ x ∈ xs, f x ≤ g x) → VQ.sumR (xs.map f) ≤ VQ.sumR (xs.map g)
  | [], _ => Rat.le_refl
  | x :: xs, h => by
    rw [List.map_cons, List.map_cons, sumR_cons, sumR_cons]
    have h1 := h x List.mem_cons_self
    have h2 := sum_le (xs := xs) fun y hy => h y (List.mem_cons_of_mem _ hy)
    grind
theorem sum_add {ι : Type} (f g : ι → Rat) : ∀ xs : List ι, VQ.sumR (xs.map fun x => f x + g x) = VQ.sumR (xs.map f) + VQ.sumR (xs.map g)
  | [] => by simp [VQ.sumR, Rat.add_zero]
  | x :: xs => by
    rw [List.map_cons, List.map_cons, List.map_cons, sumR_cons, sumR_cons, sumR_cons, sum_add f g xs]
    grind
theorem sum_scale {ι : Type} (f : ι → Rat) (c : Rat) : ∀ xs : List ι, VQ.sumR (xs.map fun x => f x * c) = VQ.sumR (xs.map f) * c
  | [] => by simp [VQ.sumR]
  | x :: xs => by
    rw [List.map_cons, List.map_cons, sumR_cons, sumR_cons, sum_scale f c xs]
    grind
theorem sum_ratio (w : Int) (hw : 0 < w) : ∀ r : Row, VQ.sumR (r.map fun x => Rat.divInt x.1 w) = Rat.divInt (whole r) w
  | [] => by simp [VQ.sumR, whole]
  | x :: r => by
    rw [List.map_cons, sumR_cons, sum_ratio w hw r]
    unfold whole
    rw [List.map_cons, List.sum_cons, Rat.divInt_eq_div, Rat.divInt_eq_div, Rat.divInt_eq_div, Rat.intCast_add, Rat.div_def, Rat.div_def, Rat.div_def]
    grind
theorem ROk.one {r : Row} (h : ROk r) : VQ.sumR (r.map (shareR r)) = 1 := by
  have := sum_ratio (LW.whole r) h.whole r
  show VQ.sumR (r.map fun x => Rat.divInt x.1 (LW.whole r)) = 1
  rw [this, Rat.divInt_eq_div]
  have hw := Rat.intCast_pos.mpr h.whole
  rw [Rat.div_def]
  exact Rat.mul_inv_cancel _ (by grind)
theorem Sh_le {r : Row} (h : ROk r) {f g : Int × Rat → Rat} (k : ∀ x ∈ r, f x ≤ g x) : Sh r f ≤ Sh r g :=
  sum_le fun x hx => Rat.mul_le_mul_of_nonneg_left (k x hx) (h.share hx)
theorem Sh_congr {r : Row} {f g : Int × Rat → Rat} (k : ∀ x ∈ r, f x = g x) : Sh r f = Sh r g := by
  unfold Sh
  congr 1
  exact List.map_congr_left fun x hx => by rw [k x hx]
theorem Sh_add {r : Row} (h : ROk r) (f : Int × Rat → Rat) (c : Rat) : Sh r (fun x => f x + c) = Sh r f + c := by
  unfold Sh
  have e : (fun x => shareR r x * (f x + c)) = fun x => shareR r x * f x + shareR r x * c := by funext x; grind
  rw [e, sum_add, sum_scale, h.one]
  grind
theorem Sh_zero {r : Row} : Sh r (fun _ => 0) = 0 := by
  unfold Sh
  rw [sum_scale]; grind
theorem mx_l (a b : Rat) : a ≤ mx a b ∧ b ≤ mx a b := by unfold mx; split <;> constructor <;> grind
theorem mx_le {a b c : Rat} (h1 : a ≤ c) (h2 : b ≤ c) : mx a b ≤ c := by unfold mx; split <;> assumption
section
variable {rs : List Row}
theorem W_nonneg : ∀ {rs : List Row}, (∀ r ∈ rs, ROk r) → ∀ l, 0 ≤ W rs l
  | [], _, l => Rat.le_refl
  | r :: rs, h, 0 => Rat.le_refl
  | r :: rs, h, l + 1 => by
    rw [W, ← Sh_zero (r := r)]
    refine Sh_le (h r List.mem_cons_self) fun x hx => ?_
    have := W_nonneg (rs := rs) (fun y hy => h y (List.mem_cons_of_mem _ hy)) (l + 1)
    exact Rat.le_trans this (mx_l _ _).2
theorem W_mono : ∀ {rs : List Row}, (∀ r ∈ rs, ROk r) → ∀ l, W rs l ≤ W rs (l + 1)
  | [], _, l => Rat.le_refl
  | r :: rs, h, 0 => by rw [W_zero]; exact W_nonneg h 1
  | r :: rs, h, l + 1 => by
    rw [W, W]
    refine Sh_le (h r List.mem_cons_self) fun x hx => ?_
    have h1 := W_mono (rs := rs) (fun y hy => h y (List.mem_cons_of_mem _ hy)) l
    have h2 := W_mono (rs := rs) (fun y hy => h y (List.mem_cons_of_mem _ hy)) (l + 1)
    have h3 := mx_l (x.2 + W rs (l + 1)) (W rs (l + 1 + 1))
    exact mx_le (by grind) (by grind)
def totR : List Row → Rat
  | [] => 0
  | r :: rs => Sh r (·.2) + totR rs
theorem W_all : ∀ {rs : List Row}, (∀ r ∈ rs, ROk r) → ∀ l, rs.length ≤ l → W rs l = totR rs
  | [], _, l, _ => rfl
  | r :: rs, h, 0, z => by simp at z
  | r :: rs, h, l + 1, z => by
    have hr := h r List.mem_cons_self
    have hs : ∀ y ∈ rs, ROk y := fun y hy => h y (List.mem_cons_of_mem _ hy)
    rw [List.length_cons] at z
    rw [W, totR, ← Sh_add hr, W_all hs l (by omega), W_all hs (l + 1) (by omega)]
    refine Sh_congr fun x hx => ?_
    have := hr.q x hx
    unfold mx
    rw [if_neg (by grind)]
/-! what bars earn -/
def Ea : List Row → List (List Rat) → Nat → Rat
  | r :: rs, b :: bs, l + 1 => Sh r fun x => if x.2 < b.getD l 0 then Ea rs bs (l + 1) else x.2 + Ea rs bs l
  | _, _, _ => 0
def barsR (many : Nat) : List Row → List (List Rat)
  | [] => []
  | _ :: rs => ((List.range many).map fun l => W rs (l + 1) - W rs l) :: barsR many rs
theorem Ea_zero (rs : List Row) (bs : List (List Rat)) : Ea rs bs 0 = 0 := by cases rs <;> cases bs <;> rfl
theorem Ea_bars (many : Nat) : ∀ (rs : List Row) (l : Nat), l ≤ many → Ea rs (barsR many rs) l = W rs l
  | [], l, _ => by cases l <;> rfl
  | r :: rs, 0, _ => rfl
  | r :: rs, l + 1, h => by
    rw [barsR, Ea, W]
    refine Sh_congr fun x hx => ?_
    rw [Ea_bars many rs l (by omega), Ea_bars many rs (l + 1) h]
    have e : ((List.range many).map fun l => W rs (l + 1) - W rs l).getD l 0 = W rs (l + 1) - W rs l := by
      rw [List.getD_eq_getElem?_getD, List.getElem?_map, List.getElem?_range (by omega)]; rfl
    rw [e]
    unfold mx
    by_cases z : x.2 < W rs (l + 1) - W rs l
    · rw [if_pos z, if_pos (by grind)]
    · rw [if_neg z, if_neg (by grind)]
theorem Ea_le : ∀ {rs : List Row}, (∀ r ∈ rs, ROk r) → ∀ (bs : List (List Rat)) (l : Nat), Ea rs bs l ≤ W rs l
  | [], _, bs, l => by cases l <;> exact Rat.le_refl
  | r :: rs, h, [], l => by
    have := W_nonneg h l
    cases l <;> exact this
  | r :: rs, h, b :: bs, 0 => Rat.le_refl
  | r :: rs, h, b :: bs, l + 1 => by
    have hs : ∀ y ∈ rs, ROk y := fun y hy => h y (List.mem_cons_of_mem _ hy)
    rw [Ea, W]
    refine Sh_le (h r List.mem_cons_self) fun x hx => ?_
    have h1 := Ea_le hs bs l
    have h2 := Ea_le hs bs (l + 1)
    have h3 := mx_l (x.2 + W rs l) (W rs (l + 1))
    split <;> grind
end

end LW
end

section
set_option Elab.async false
set_option linter.all false
set_option autoImplicit false
set_option maxRecDepth 100000
set_option maxHeartbeats 4000000
namespace LW
open RF RV

open VQ (Pr PB plusP minusP timesP lowP)

/-! the law's offers -/
theorem call_ex {T : Tb} {fs : Nat → Option Fd} {N k f : Nat} {fd : Fd} {xs : List A} {P : FR → Prop} (hN : k + 1 ≤ N) (h : fs f = some fd) (hl : xs.length = fd.pars) (q : ∀ n, k ≤ n → P (fin xs (evB T (callN T fs n) fd.body (RF.start fd xs)))) : P (callN T fs N f xs) := by
  obtain ⟨n, rfl⟩ : ∃ n, N = n + 1 := ⟨N - 1, by omega⟩
  rw [callN_succ h hl, runF_eq]
  exact q n (by omega)
theorem draw_ex {n : Nat} (hn : 1 ≤ n) {c : Nat} {b : Bag} {m : Int} (h : BagOk c b) (hm : 0 < m) (hm2 : m ≤ 1000000) (hc : c ≤ 1000000000) : ∃ (v : Int) (b' : Bag), callN L.T L.fs n 32 [.ow (bagO b), .sh (.int m)] = .ok (.int v) [.ow (bagO b'), .sh (.int m)] ∧ 0 ≤ v ∧ v < m ∧ BagOk (c + 1) b' :=
  ⟨_, _, t_draw hn h hm hm2 hc, (drawB_ok h hm).1, (drawB_ok h hm).2.1, (drawB_ok h hm).2.2⟩
def offK : List D := [.str ("rows" : PySem.Str), .str ("all" : PySem.Str)]
def itemD (x : Int × Rat) : D := .lst [.int x.1, lowD x.2]
def lofD (r : Row) : D := .dic offK [.lst (r.map itemD), .int (whole r)]
theorem lookR {α : Type} (a b : α) : look offK [a, b] (.str ("rows" : PySem.Str)) = some a := by kernel_rfl
theorem lookA {α : Type} (a b : α) : look offK [a, b] (.str ("all" : PySem.Str)) = some b := by kernel_rfl
structure LX (x : Int × Rat) : Prop where
  w1 : 1 ≤ x.1
  w5 : x.1 ≤ 5
  q0 : 0 ≤ x.2
  pb : PB 3 5 (lowP x.2) x.2
structure LOk (r : Row) : Prop where
  l1 : 1 ≤ r.length
  l3 : r.length ≤ 3
  x : ∀ x ∈ r, LX x
theorem lowD_int (v : Int) : lowD (v : Rat) = .tup [.int v, .int 1] := by simp [lowD, pD, lowP]
theorem lowD_zero : lowD 0 = .tup [.int 0, .int 1] := lowD_int 0
def OfferP (c : Nat) (z : FR) : Prop := ∃ r b', z = .ok (lofD r) [.ow (bagO b')] ∧ LOk r ∧ BagOk (c + 20) b'
theorem s_offer {n : Nat} (hn : 4 ≤ n) {c : Nat} {b : Bag} (h : BagOk c b) (hc : c ≤ 100000) : OfferP c (callN L.T L.fs n 45 [.ow (bagO b)]) := by
  refine call_ex (k := 3) hn e45 rfl fun n hn => ?_
  obtain ⟨v0, b0, e0, p0, q0, k0⟩ := draw_ex (n := n) (by omega) h (m := 3) (by decide) (by decide) (by omega)
  have t0 : (1 + v0).toNat ≤ 3 ∧ 1 ≤ (1 + v0).toNat := by omega
  simp (disch := omega) [B45, callE_eq, e0]
  refine for_run (P := fun s => OfferP c (fin _ s)) (fun i : Nat => D.int i) (List.range (1 + v0).toNat) (fun done ρ => ∃ r b t2 t3, ρ = [.ow 1 (bagO b), .ow 0 (.lst (r.map fun x => .lf (itemD x))), t2, t3, .un] ∧ r.length = done.length ∧ (∀ x ∈ r, LX x) ∧ BagOk (c + 1 + 5 * done.length) b) rfl ⟨[], b0, .un, .un, rfl, rfl, (fun x hx => nomatch hx), k0⟩ ?st ?en
  case en =>
    rintro ρ' ⟨r, b, t2, t3, rfl, hl, hx, hb⟩
    rw [List.length_range] at hl hb
    have hlim : r.length ≤ lim := by rw [limN]; omega
    simp [itemD]
    rw [comp_map (ι := Int × Rat) (v := fun x => .int x.1) (fun x hx => by simp [tuC]) hlim]
    simp
    refine ⟨r, b, ?_, ⟨by omega, by omega, hx⟩, ?_⟩
    · simp [lofD, whole, offK, itemD, Function.comp_def]
    · exact ⟨hb.cells, hb.big, hb.m1, hb.m2, hb.c1, by have := hb.c2; omega⟩
  case st =>
    rintro done i rest hd ρ ⟨r, b, t2, t3, rfl, hl, hx, hb⟩
    have hdl : done.length + 1 ≤ 3 := by
      have := congrArg List.length hd
      rw [List.length_range, List.length_append, List.length_cons] at this; omega
    obtain ⟨v1, b1, e1, p1, q1, k1⟩ := draw_ex (n := n) (by omega) hb (m := 9) (by decide) (by decide) (by omega)
    obtain ⟨v2, b2, e2, p2, q2, k2⟩ := draw_ex (n := n) (by omega) k1 (m := 3) (by decide) (by decide) (by omega)
    have hlim : r.length < 16777216 := by omega
    rw [List.length_append, List.length_singleton]
    by_cases z : v2 = 0
    · obtain ⟨v3, b3, e3, p3, q3, k3⟩ := draw_ex (n := n) (by omega) k2 (m := 30) (by decide) (by decide) (by omega)
      obtain ⟨v4, b4, e4, p4, q4, k4⟩ := draw_ex (n := n) (by omega) k3 (m := 6) (by decide) (by decide) (by omega)
      obtain ⟨v5, b5, e5, p5, q5, k5⟩ := draw_ex (n := n) (by omega) k4 (m := 5) (by decide) (by decide) (by omega)
      have pb : PB 3 5 (v3, 1 + v4) (Rat.divInt v3 (1 + v4)) := VQ.PB.ratio (by omega) (by have : (2 : Nat) ^ 3 = 8 := rfl; omega) (by have : (2 : Nat) ^ 5 = 32 := rfl; omega)
      have lo := s_low (n := n) (by omega) pb (by decide)
      rw [pD] at lo
      refine ⟨_, ?_, r ++ [(1 + v5, Rat.divInt v3 (1 + v4))], b5, .sh (.int i), .sh (lowD (Rat.divInt v3 (1 + v4))), rfl, by simp [hl], fun x hx' => ?_, ?_⟩
      · simp (disch := omega) [tuF, B45_1, callE_eq, e1, e2, e3, e4, e5, z, lo, limN, hlim, itemD]
      · rcases List.mem_append.mp hx' with m | m
        · exact hx x m
        · rw [List.mem_singleton.mp m]
          exact ⟨by show 1 ≤ 1 + v5; omega, by show 1 + v5 ≤ 5; omega, Rat.divInt_nonneg p3 (by omega), pb.low⟩
      · exact ⟨k5.cells, k5.big, k5.m1, k5.m2, k5.c1, by have := k5.c2; omega⟩
    · obtain ⟨v5, b5, e5, p5, q5, k5⟩ := draw_ex (n := n) (by omega) k2 (m := 5) (by decide) (by decide) (by omega)
      have pb : PB 0 5 (v1, 1) ((v1 : Int) : Rat) := VQ.PB.int (by have : (2 : Nat) ^ 5 = 32 := rfl; omega)
      have li := lowD_int v1
      refine ⟨_, ?_, r ++ [(1 + v5, (v1 : Rat))], b5, .sh (.int i), .sh (lowD (v1 : Rat)), rfl, by simp [hl], fun x hx' => ?_, ?_⟩
      · simp (disch := omega) [tuF, B45_1, callE_eq, e1, e2, e5, z, limN, hlim, itemD, li]
      · rcases List.mem_append.mp hx' with m | m
        · exact hx x m
        · rw [List.mem_singleton.mp m]
          exact ⟨by show 1 ≤ 1 + v5; omega, by show 1 + v5 ≤ 5; omega, Rat.intCast_nonneg.mpr p1, (pb.mono (by decide) (Nat.le_refl _)).low⟩
      · exact ⟨k5.cells, k5.big, k5.m1, k5.m2, k5.c1, by have := k5.c2; omega⟩

end LW
end

section
set_option Elab.async false
set_option linter.all false
set_option autoImplicit false
set_option maxRecDepth 100000
set_option maxHeartbeats 4000000
namespace LW
open RF RV

/-! offers handed as a tuple -/
theorem t_offersT {n : Nat} (hn : 7 ≤ n) {hr : List (D × HRow)} (ok : HOk hr) : callN L.T L.fs n 18 [.ow (.obj 1 []), .sh (.tup (hr.map (·.1)))] = .ok .non [.ow (.obj 1 [.lf (.tup (hr.map fun r => rowD (r.2.map (·.2))))]), .sh (.tup (hr.map (·.1)))] := by
  refine call_at' (k := 6) hn e18 rfl fun n hn => ?_
  have hl1 : (1 : Int) ≤ hr.length := by have := ok.l1; omega
  have hl8 : (hr.length : Int) ≤ 8 := by have := ok.l8; omega
  simp (disch := omega) [B18, callE_eq, s_is_sequence, hl1, hl8]
  rw [enumD_map]
  rw [(for_eq (σ := List Row × S × S) (fun p : (D × HRow) × Nat => .tup [.int (p.2 : Nat), p.1.1]) (fun s => [.ow 1 (.obj 1 []), .sh (.tup (hr.map (·.1))), .ow 0 (.lst (s.1.map fun r => .lf (rowD r))), s.2.1, s.2.2, .un, .un])
    (fun s x => (s.1 ++ [x.1.2.map (·.2)], .sh (.int (x.2 : Nat)), .sh x.1.1)) (fun xs s => (∀ x ∈ xs, x.1 ∈ hr) ∧ s.1.length + xs.length ≤ 8) (hr.zipIdx 0) ([], .un, .un) ?e1 ?e2 ?hi ?st).1]
  case e1 => rfl
  case e2 => rfl
  case hi =>
    refine ⟨fun x hx => ?_, by have := ok.l8; simp; exact this⟩
    have := List.mem_zipIdx hx
    rw [this.2.2]; exact List.getElem_mem _
  case st =>
    rintro ⟨⟨d, hw⟩, k⟩ xs ⟨acc, s1, s2⟩ ⟨h1, h2⟩
    obtain ⟨a1, a2, a3, a4⟩ := ok.seq _ (h1 _ List.mem_cons_self)
    have io := s_is_offer (n := n) (by omega) a1 a2 a3 a4
    rw [List.length_cons] at h2
    have hlim : acc.length < lim := by rw [limN]; dsimp only at h2; omega
    have hl2 : List.length hw ≤ lim := by rw [limN]; dsimp only at a4; omega
    refine ⟨?_, fun x hx => h1 x (List.mem_cons_of_mem _ hx), by simp; dsimp only at h2; omega⟩
    dsimp only at a1 a2 a3 a4 io
    rcases a1 with rfl | rfl
    all_goals
      simp (disch := first | omega | assumption) [tuF, B18_1, callE_eq, io]
      rw [comp_map (ι := D × Int × Rat) (v := fun p => .tup [.int p.2.1, fr p.2.2]) (fun p hp => by
        obtain ⟨v, w, q⟩ := p
        obtain ⟨⟨e, hs, hq⟩, _⟩ := a2 _ hp
        have haf := s_as_frac (n := n) (by omega) hq
        dsimp only at hs haf ⊢
        rcases hs with rfl | rfl <;> simp [tuC, callE_eq, haf, limN]) hl2]
      simp [hlim, rowD, List.map_map]
  simp
  rw [foldl_snoc (fun x : (D × HRow) × Nat => x.1.2.map (·.2)) (fun s x => (S.sh (D.int (x.2 : Nat)), S.sh x.1.1))]
  have z := congrArg (List.map (fun x : D × HRow => rowD (x.2.map (·.2)))) (List.zipIdx_map_fst 0 hr)
  rw [List.nil_append, List.map_map]
  rw [List.map_map] at z
  exact z
@[simp] theorem mk_offersT {n : Nat} (hn : 7 ≤ n) {hr : List (D × HRow)} (ok : HOk hr) (ρ : Env) : makeE L.T (callN L.T L.fs n) 1 2 [.sh (.tup (hr.map (·.1)))] ρ = .ok (offD (hr.map fun r => r.2.map (·.2)), ρ) := by
  rw [makeE_eq (f := 18) _ _ _ (by simp)]
  simp [t_offersT hn ok, offD, List.map_map]

end LW
end

section
set_option Elab.async false
set_option linter.all false
set_option autoImplicit false
set_option maxRecDepth 100000
set_option maxHeartbeats 4000000
namespace LW
open RF RV

open VQ (Pr PB plusP minusP timesP lowP)
def GoodH (r : D × HRow) : Prop := SeqD r.1 (r.2.map (·.1)) ∧ (∀ p ∈ r.2, PairD p ∧ PairOk p.2) ∧ 1 ≤ r.2.length ∧ r.2.length ≤ 6
def ItemL (p : D × Int × Rat) : Prop := (∃ d, p.1 = .lst [.int p.2.1, d] ∧ WorthD d p.2.2) ∧ PairOk p.2
def tupOf : D → D
  | .lst xs => .tup xs
  | d => d
theorem ItemL.pair {p : D × Int × Rat} (h : ItemL p) : PairD p ∧ PairOk p.2 := by
  obtain ⟨⟨d, h1, h2⟩, h3⟩ := h
  exact ⟨⟨d, .inl h1, h2⟩, h3⟩
theorem ItemL.pairT {p : D × Int × Rat} (h : ItemL p) : PairD (tupOf p.1, p.2) ∧ PairOk p.2 := by
  obtain ⟨⟨d, h1, h2⟩, h3⟩ := h
  exact ⟨⟨d, .inr (by show tupOf p.1 = _; rw [h1]; rfl), h2⟩, h3⟩
def StepP (I : Env → Prop) (s : SR) : Prop := ∃ ρ', s = .nx ρ' ∧ I ρ'
theorem LX.ok {x : Int × Rat} (h : LX x) : PairOk x := by
  obtain ⟨h1, h2, h3, p1, p2, p3, p4⟩ := h
  have e1 : (2 : Nat) ^ 3 = 8 := rfl
  have e2 : (2 : Nat) ^ 5 = 32 := rfl
  rw [e1] at p2
  rw [e2] at p3
  simp only [lowP] at p2 p3
  have := Rat.num_nonneg.mpr h3
  exact ⟨h1, by omega, this, by omega, by omega⟩
theorem mk_same {n : Nat} (hn : 2 ≤ n) {x : Int × Rat} (h : LX x) (ρ : Env) : makeE L.T (callN L.T L.fs n) 0 3 [.sh (.int x.2.num), .sh (.int (x.2.den : Int))] ρ = .ok (fr x.2, ρ) := by
  have := h.ok.d2
  rw [mk_frac hn (VQ.den_ne x.2) (by rw [Int.natAbs_natCast]; exact Nat.lt_of_le_of_lt (VQ.log2_mono this) (by decide)) ρ, Rat.num_divInt_den]
def itemI (c : Nat) (O2 : O) (rs : D) (r0 : D) (done : Row) (ρ : Env) : Prop := ∃ (hw : HRow) (b : Bag) (t5 t6 t7 : S), ρ = [.ow 1 (bagO b), .sh rs, .ow 0 O2, .sh r0, .ow 0 (.lst (hw.map fun p : D × Int × Rat => .lf p.1)), t5, t6, t7, .un] ∧ hw.map (·.2) = done ∧ (∀ p ∈ hw, ItemL p) ∧ BagOk (c + done.length) b
theorem item_step {n : Nat} (hn : 2 ≤ n) {c : Nat} (hc : c ≤ 100000) {O2 : O} {rs r0 : D} {done : Row} {x : Int × Rat} (hx : LX x) (hd : done.length ≤ 5) {ρ : Env} (h : itemI c O2 rs r0 done ρ) :
    StepP (itemI c O2 rs r0 (done ++ [x])) (tuF L.T (callN L.T L.fs n) (Tg.tp [5, 6]) B46_1 (itemD x) ρ) := by
  obtain ⟨hw, b, t5, t6, t7, rfl, hm, hi, hb⟩ := h
  have mq := fun ρ => mk_same (n := n) hn hx ρ
  have hl : hw.length = done.length := by rw [← hm, List.length_map]
  have hlim : hw.length < 16777216 := by omega
  have fin1 : ∀ (d : D) (b' : Bag), WorthD d x.2 → BagOk (c + done.length + 1) b' → itemI c O2 rs r0 (done ++ [x]) [.ow 1 (bagO b'), .sh rs, .ow 0 O2, .sh r0, .ow 0 (.lst ((hw.map fun p : D × Int × Rat => O.lf p.1) ++ [.lf (.lst [.int x.1, d])])), .sh (.int x.1), .sh (lowD x.2), .sh d, .un] := by
    intro d b' hw' hb'
    refine ⟨hw ++ [(.lst [.int x.1, d], x)], b', _, _, _, by rw [List.map_append]; rfl, by rw [List.map_append, hm]; rfl, fun p hp => ?_, by rw [List.length_append]; exact hb'⟩
    rcases List.mem_append.mp hp with m | m
    · exact hi p m
    · rw [List.mem_singleton.mp m]; exact ⟨⟨d, rfl, hw'⟩, hx.ok⟩
  obtain ⟨w, q⟩ := x
  dsimp only at *
  by_cases z : q.den = 1
  · obtain ⟨v, b1, e1, p1, q1, k1⟩ := draw_ex (n := n) (by omega) hb (m := 2) (by decide) (by decide) (by omega)
    have z' : (q.den : Int) = 1 := by omega
    have eq : q = (q.num : Rat) := by
      have := Rat.num_divInt_den q
      rw [z', VQ.div_int] at this
      exact this.symm
    by_cases y : v = 0
    · refine ⟨_, ?_, fin1 (.int q.num) b1 (.inr ⟨q.num, rfl, eq⟩) k1⟩
      rw [z'] at mq
      simp (disch := omega) [tuF, B46_1, callE_eq, itemD, lowD, pD, lowP, mq, z', e1, y, limN, hlim]
    · refine ⟨_, ?_, fin1 (fr q) b1 (.inl rfl) k1⟩
      rw [z'] at mq
      simp (disch := omega) [tuF, B46_1, callE_eq, itemD, lowD, pD, lowP, mq, z', e1, y, limN, hlim]
  · have z' : ¬ (q.den : Int) = 1 := by omega
    refine ⟨_, ?_, fin1 (fr q) b (.inl rfl) ⟨hb.cells, hb.big, hb.m1, hb.m2, hb.c1, by have := hb.c2; omega⟩⟩
    simp (disch := omega) [tuF, B46_1, callE_eq, itemD, lowD, pD, lowP, mq, z', z, limN, hlim]
def OfferedP (c : Nat) (rs : List Row) (z : FR) : Prop := ∃ (d : D) (hr : List (D × HRow)) (b' : Bag), z = .ok d [.ow (bagO b'), .sh (.lst (rs.map lofD))] ∧ SeqD d (hr.map (·.1)) ∧ hr.map (fun r : D × HRow => r.2.map (·.2)) = rs ∧ (∀ r ∈ hr, GoodH r) ∧ BagOk (c + 40) b'
def offI (c : Nat) (rs : List Row) (done : List Row) (ρ : Env) : Prop := ∃ (hr : List (D × HRow)) (b : Bag) (t3 t4 t5 t6 t7 : S), ρ = [.ow 1 (bagO b), .sh (.lst (rs.map lofD)), .ow 0 (.lst (hr.map fun r : D × HRow => .lf r.1)), t3, t4, t5, t6, t7, .un] ∧ hr.map (fun r : D × HRow => r.2.map (·.2)) = done ∧ (∀ r ∈ hr, GoodH r) ∧ BagOk (c + 5 * done.length) b
theorem s_offered {n : Nat} (hn : 3 ≤ n) {c : Nat} {b : Bag} (h : BagOk c b) (hc : c ≤ 90000) {rs : List Row} (hr : ∀ r ∈ rs, LOk r) (hl : rs.length ≤ 6) : OfferedP c rs (callN L.T L.fs n 46 [.ow (bagO b), .sh (.lst (rs.map lofD))]) := by
  refine call_ex (k := 2) hn e46 rfl fun n hn => ?_
  simp (disch := omega) [B46]
  refine for_run (P := fun s => OfferedP c rs (fin _ s)) lofD rs (offI c rs) rfl ⟨[], b, .un, .un, .un, .un, .un, rfl, rfl, (fun r hr => nomatch hr), h⟩ ?st ?en
  case en =>
    rintro ρ' ⟨hr, b, t3, t4, t5, t6, t7, rfl, hm, hg, hb⟩
    obtain ⟨v, b1, e1, p1, q1, k1⟩ := draw_ex (n := n) (by omega) hb (m := 2) (by decide) (by decide) (by omega)
    have kb : BagOk (c + 40) b1 := ⟨k1.cells, k1.big, k1.m1, k1.m2, k1.c1, by have := k1.c2; omega⟩
    by_cases z : v = 0
    · refine ⟨.tup (hr.map (·.1)), hr, b1, ?_, .inr rfl, hm, hg, kb⟩
      simp (disch := omega) [callE_eq, e1, z]
    · refine ⟨.lst (hr.map (·.1)), hr, b1, ?_, .inl rfl, hm, hg, kb⟩
      simp (disch := omega) [callE_eq, e1, z]
  case st =>
    rintro done r rest hd ρ ⟨hs, b, t3, t4, t5, t6, t7, rfl, hm, hg, hb⟩
    have hr1 : LOk r := hr r (by rw [hd]; simp)
    have hdl : done.length + 1 ≤ 6 := by
      have := congrArg List.length hd
      rw [List.length_append, List.length_cons] at this; omega
    have hsl : hs.length = done.length := by rw [← hm, List.length_map]
    have hlim : hs.length < 16777216 := by omega
    show StepP (offI c rs (done ++ [r])) _
    have l1 := fun (b : List D) => lookR (D.lst b) (.int (whole r))
    have r3 := hr1.l3
    simp (disch := omega) [tuF, B46_2, lofD, l1]
    refine for_run (P := StepP (offI c rs (done ++ [r]))) itemD r (itemI (c + 5 * done.length) (.lst (hs.map fun r : D × HRow => .lf r.1)) (.lst (rs.map lofD)) (lofD r)) rfl ⟨[], b, _, _, _, rfl, rfl, (fun p hp => nomatch hp), hb⟩ (fun d2 x r2 hd2 ρ hρ => item_step (by omega) (by omega) (hr1.x x (by rw [hd2]; simp)) (by
      have := congrArg List.length hd2
      rw [List.length_append, List.length_cons] at this; omega) hρ) ?_
    rintro ρ' ⟨hw, b2, t5, t6, t7, rfl, hm2, hi, hb2⟩
    obtain ⟨v, b1, e1, p1, q1, k1⟩ := draw_ex (n := n) (by omega) hb2 (m := 2) (by decide) (by decide) (by omega)
    have hwl : hw.length = r.length := by rw [← hm2, List.length_map]
    have kb : BagOk (c + 5 * (done ++ [r]).length) b1 := ⟨k1.cells, k1.big, k1.m1, k1.m2, k1.c1, by have := k1.c2; rw [List.length_append, List.length_singleton]; omega⟩
    have hlw : hw.length ≤ lim := by rw [limN]; omega
    have l1 := hr1.l1
    by_cases z : v = 0
    · have hc : loopC (tuC L.T (callN L.T L.fs n) (Ex.bi Bi.tuple (Pxs.cons (Px.pk 8) Pxs.nil)) (Tg.nm 8) Tes.nil [8]) (hw.map (·.1)) [] [.ow 1 (bagO b1), .sh (.lst (rs.map lofD)), .ow 0 (.lst (hs.map fun r : D × HRow => .lf r.1)), .sh (lofD r), .un, t5, t6, t7, .un] = .ok (hw.map fun p => .lf (tupOf p.1), [.ow 1 (bagO b1), .sh (.lst (rs.map lofD)), .ow 0 (.lst (hs.map fun r : D × HRow => .lf r.1)), .sh (lofD r), .un, t5, t6, t7, .un]) :=
        comp_map (ι := D × Int × Rat) (v := fun p => tupOf p.1) (fun p hp => by
          obtain ⟨⟨d, h1, h2⟩, h3⟩ := hi p hp
          rw [h1]
          simp [tuC, tupOf]) hlw
      refine ⟨_, ?_, hs ++ [(.tup (hw.map fun p => tupOf p.1), hw.map fun p => (tupOf p.1, p.2))], b1, .sh (lofD r), .sh (.tup (hw.map fun p => tupOf p.1)), t5, t6, t7, rfl, by simp [hm, hm2, Function.comp_def], fun x hx => ?_, kb⟩
      · simp (disch := omega) [callE_eq, e1, z, hc, limN, hlim]
      · rcases List.mem_append.mp hx with m | m
        · exact hg x m
        · rw [List.mem_singleton.mp m]
          refine ⟨.inr (by rw [List.map_map]; rfl), fun p hp => ?_, by show 1 ≤ (List.map _ hw).length; rw [List.length_map]; omega, by show (List.map _ hw).length ≤ 6; rw [List.length_map]; omega⟩
          obtain ⟨p', hp', rfl⟩ := List.mem_map.mp hp
          exact (hi p' hp').pairT
    · refine ⟨_, ?_, hs ++ [(.lst (hw.map (·.1)), hw)], b1, .sh (lofD r), .sh (.lst (hw.map (·.1))), t5, t6, t7, rfl, by simp [hm, hm2], fun x hx => ?_, kb⟩
      · simp (disch := omega) [callE_eq, e1, z, limN, hlim]
      · rcases List.mem_append.mp hx with m | m
        · exact hg x m
        · rw [List.mem_singleton.mp m]
          exact ⟨.inl rfl, fun p hp => (hi p hp).pair, by show 1 ≤ hw.length; omega, by show hw.length ≤ 6; omega⟩

end LW
end

section
set_option Elab.async false
set_option linter.all false
set_option autoImplicit false
set_option maxRecDepth 100000
set_option maxHeartbeats 4000000
namespace LW
open RF RV

open VQ (Pr PB plusP minusP timesP lowP)
/-! sizes -/
def dd : Nat → Nat
  | 0 => 0
  | j + 1 => 3 * (dd j + 7)
def ee : Nat → Nat
  | 0 => 0
  | j + 1 => 3 * (ee j + 11)
theorem dd_ee : ∀ j, dd j ≤ ee j
  | 0 => Nat.le_refl _
  | j + 1 => by have := dd_ee j; simp only [dd, ee]; omega
theorem dd_le {j : Nat} (h : j ≤ 6) : dd j ≤ 7644 ∧ ee j ≤ 12012 := by
  have : j = 0 ∨ j = 1 ∨ j = 2 ∨ j = 3 ∨ j = 4 ∨ j = 5 ∨ j = 6 := by omega
  rcases this with rfl | rfl | rfl | rfl | rfl | rfl | rfl <;> decide
theorem acc_pb {d e i : Nat} {p p' : Pr} {q q' : Rat} (hde : d ≤ e) (h : PB (i * (d + 7)) (i * (e + 11)) p q) (g : PB (d + 7) (e + 9) p' q') : PB ((i + 1) * (d + 7)) ((i + 1) * (e + 11)) (plusP p p') (q + q') := by
  have h1 := Nat.mul_le_mul_left i (show d + 7 ≤ e + 11 by omega)
  refine h.plus g ?_ ?_ ?_
  · rw [Nat.succ_mul]; exact Nat.le_refl _
  · rw [Nat.succ_mul]; omega
  · rw [Nat.succ_mul]; omega
theorem LOk.whole {r : Row} (h : LOk r) : 1 ≤ LW.whole r ∧ LW.whole r ≤ 15 := by
  have h1 := sum_pos (r := r) fun x hx => (h.x x hx).w1
  have h2 : ∀ r : Row, (∀ x ∈ r, x.1 ≤ 5) → LW.whole r ≤ 5 * r.length := by
    intro r
    induction r with
    | nil => intro _; simp [LW.whole]
    | cons x r ih =>
      intro hx
      have a := hx x List.mem_cons_self
      have b := ih fun y hy => hx y (List.mem_cons_of_mem _ hy)
      unfold LW.whole at *
      rw [List.map_cons, List.sum_cons, List.length_cons]; omega
  have h3 := h2 r fun x hx => (h.x x hx).w5
  have := h.l1
  have := h.l3
  omega
theorem LOk.share {r : Row} (h : LOk r) {x : Int × Rat} (hx : x ∈ r) : PB 4 3 (x.1, LW.whole r) (shareR r x) := by
  have hw := h.whole
  have h1 := (h.x x hx).w1
  have h5 := (h.x x hx).w5
  exact VQ.PB.ratio (by omega) (by have : (2 : Nat) ^ 4 = 16 := rfl; omega) (by have : (2 : Nat) ^ 3 = 8 := rfl; omega)
theorem LOk.rok {r : Row} (h : LOk r) : ROk r := ⟨fun x hx => (h.x x hx).w1, fun x hx => (h.x x hx).q0, fun z => by have := h.l1; rw [z] at this; simp at this⟩
theorem sum_pb {d e : Nat} (hde : d ≤ e) (g : Int × Rat → Rat) : ∀ (r : Row), (∀ x ∈ r, ∃ p, PB (d + 7) (e + 9) p (g x)) → ∃ p, PB (r.length * (d + 7)) (r.length * (e + 11)) p (VQ.sumR (r.map g)) := by
  intro r
  have key : ∀ (r done : Row), (∀ x ∈ r, ∃ p, PB (d + 7) (e + 9) p (g x)) → (∃ p, PB (done.length * (d + 7)) (done.length * (e + 11)) p (VQ.sumR (done.map g))) → ∃ p, PB ((done ++ r).length * (d + 7)) ((done ++ r).length * (e + 11)) p (VQ.sumR ((done ++ r).map g)) := by
    intro r
    induction r with
    | nil => intro done _ h; rw [List.append_nil]; exact h
    | cons x r ih =>
      intro done hx ⟨p, hp⟩
      obtain ⟨p', hp'⟩ := hx x List.mem_cons_self
      have := ih (done ++ [x]) (fun y hy => hx y (List.mem_cons_of_mem _ hy)) ⟨_, by
        have := acc_pb hde hp hp'
        rw [List.length_append, List.length_singleton, List.map_append, VQ.sumR_append, List.map_cons, List.map_nil, VQ.sumR_cons, VQ.sumR_nil, Rat.add_zero]
        exact this⟩
      rw [List.append_assoc] at this
      exact this
  intro h
  exact key r [] h ⟨(0, 1), by rw [List.length_nil, Nat.zero_mul, Nat.zero_mul]; exact VQ.PB.zero⟩
theorem best_pb {d e : Nat} {a b : Rat} {x : Int × Rat} (hx : LX x) (ha : PB d e (lowP a) a) (hb : PB d e (lowP b) b) (hde : d ≤ e) : PB (d + 3) (e + 6) (plusP (lowP x.2) (lowP a)) (x.2 + a) ∧ PB (d + 3) (e + 6) (lowP b) b :=
  ⟨hx.pb.plus ha (by omega) (by omega) (by omega), hb.mono (by omega) (by omega)⟩
theorem low0 : lowP 0 = (0, 1) := rfl
theorem cell_pb {d e : Nat} {r : Row} (hr : LOk r) (hde : d ≤ e) {f : Int × Rat → Rat} (h : ∀ x ∈ r, ∃ p, PB (d + 3) (e + 6) p (f x)) : PB (3 * (d + 7)) (3 * (e + 11)) (lowP (Sh r f)) (Sh r f) := by
  obtain ⟨p, hp⟩ := sum_pb hde (fun x => shareR r x * f x) r fun x hx => by
    obtain ⟨p, hp⟩ := h x hx
    exact ⟨_, (hr.share hx).times hp (by omega) (by omega)⟩
  exact (hp.mono (Nat.mul_le_mul_right _ hr.l3) (Nat.mul_le_mul_right _ hr.l3)).low
theorem W_pb : ∀ {rs : List Row}, (∀ r ∈ rs, LOk r) → ∀ l, PB (dd rs.length) (ee rs.length) (lowP (W rs l)) (W rs l)
  | [], _, l => VQ.PB.zero
  | r :: rs, h, 0 => VQ.PB.zero.mono (Nat.zero_le _) (Nat.zero_le _)
  | r :: rs, h, l + 1 => by
    have hs : ∀ y ∈ rs, LOk y := fun y hy => h y (List.mem_cons_of_mem _ hy)
    have hr := h r List.mem_cons_self
    rw [W]
    refine cell_pb hr (dd_ee _) fun x hx => ?_
    obtain ⟨h1, h2⟩ := best_pb (hr.x x hx) (W_pb hs l) (W_pb hs (l + 1)) (dd_ee _)
    unfold mx
    split
    · exact ⟨_, h2⟩
    · exact ⟨_, h1⟩
theorem Ea_pb : ∀ {rs : List Row}, (∀ r ∈ rs, LOk r) → ∀ (bs : List (List Rat)) (l : Nat), PB (dd rs.length) (ee rs.length) (lowP (Ea rs bs l)) (Ea rs bs l)
  | [], _, bs, l => by cases l <;> exact VQ.PB.zero
  | r :: rs, h, [], l => by cases l <;> exact VQ.PB.zero.mono (Nat.zero_le _) (Nat.zero_le _)
  | r :: rs, h, b :: bs, 0 => VQ.PB.zero.mono (Nat.zero_le _) (Nat.zero_le _)
  | r :: rs, h, b :: bs, l + 1 => by
    have hs : ∀ y ∈ rs, LOk y := fun y hy => h y (List.mem_cons_of_mem _ hy)
    have hr := h r List.mem_cons_self
    rw [Ea]
    refine cell_pb hr (dd_ee _) fun x hx => ?_
    obtain ⟨h1, h2⟩ := best_pb (hr.x x hx) (Ea_pb hs bs l) (Ea_pb hs bs (l + 1)) (dd_ee _)
    split
    · exact ⟨_, h2⟩
    · exact ⟨_, h1⟩
/-! the law's own table -/
def lsD (f : Nat → Rat) (k : Nat) : List D := (List.range k).map fun l => lowD (f l)
theorem lsD_get {f : Nat → Rat} {k l : Nat} (h : l < k) : (lsD f k)[l]? = some (lowD (f l)) := by
  unfold lsD; rw [List.getElem?_map, List.getElem?_range h]; rfl
theorem lsD_succ (f : Nat → Rat) (k : Nat) : lsD f (k + 1) = lsD f k ++ [lowD (f k)] := by unfold lsD; rw [List.range_succ, List.map_append]; rfl
theorem lsD_len (f : Nat → Rat) (k : Nat) : (lsD f k).length = k := by simp [lsD]
theorem pD_low (q : Rat) : pD (lowP q) = lowD q := rfl
def turnI (d e : Nat) (o m s2 t5 : S) (r : Row) (ah : List D) (l : Nat) (f : Int × Rat → Rat) (done : Row) (ρ : Env) : Prop := ∃ (p : Pr) (t8 t9 t10 : S), ρ = [o, m, s2, .sh (lofD r), .sh (.lst ah), t5, .sh (.int ((l + 1 : Nat) : Int)), .sh (pD p), t8, t9, t10] ∧ PB (done.length * (d + 7)) (done.length * (e + 11)) p (VQ.sumR (done.map fun x => shareR r x * f x))
theorem small_mul {i d e : Nat} (hi : i ≤ 2) (hd : d ≤ 7644) (he : e ≤ 12012) : i * (d + 7) ≤ 16000 ∧ i * (e + 11) ≤ 26000 := by
  have h1 := Nat.mul_le_mul hi (show d + 7 ≤ 7651 by omega)
  have h2 := Nat.mul_le_mul hi (show e + 11 ≤ 12023 by omega)
  omega
theorem turn_item {n : Nat} (hn : 2 ≤ n) {d e : Nat} (hde : d ≤ e) (hd : d ≤ 7644) (he : e ≤ 12012) {o m s2 t5 : S} {r : Row} (hr : LOk r) {ah : List D} {l : Nat} {a b : Rat} (ga : ah[l]? = some (lowD a)) (gb : ah[l + 1]? = some (lowD b)) (pa : PB d e (lowP a) a) (pb : PB d e (lowP b) b) {done : Row} {x : Int × Rat} (hx : x ∈ r) (hl : done.length ≤ 2) {ρ : Env} (h : turnI d e o m s2 t5 r ah l (fun x => mx (x.2 + a) b) done ρ) :
    StepP (turnI d e o m s2 t5 r ah l (fun x => mx (x.2 + a) b) (done ++ [x])) (tuF L.T (callN L.T L.fs n) (Tg.tp [8, 9]) B47_1 (itemD x) ρ) := by
  obtain ⟨p, t8, t9, t10, rfl, hp⟩ := h
  obtain ⟨h1, h2⟩ := best_pb (hr.x x hx) pa pb hde
  obtain ⟨m1, m2⟩ := small_mul hl hd he
  have e1 := s_plus (n := n) (by omega) (hr.x x hx).pb pa (by omega) (by omega) (by omega)
  have e2 := s_greater (n := n) (by omega) h1 h2 (by omega) (by omega)
  have hb : PB (d + 3) (e + 6) (if x.2 + a < b then lowP b else plusP (lowP x.2) (lowP a)) (mx (x.2 + a) b) := by
    unfold mx; split
    · exact h2
    · exact h1
  generalize (if x.2 + a < b then lowP b else plusP (lowP x.2) (lowP a)) = bp at *
  have e3 := s_times (n := n) (by omega) (hr.share hx) hb (by omega) (by omega)
  have ht := (hr.share hx).times (D := d + 7) (E := e + 9) hb (by omega) (by omega)
  have e4 := s_plus (n := n) (by omega) hp ht (by omega) (by omega) (by omega)
  have hq := acc_pb hde hp ht
  have lr := fun (b : D) => lookA b (.int (whole r))
  rw [pD_low, pD_low] at e1
  rw [pD_low] at e2
  have e0 : pD (x.1, whole r) = .tup [.int x.1, .int (whole r)] := rfl
  rw [e0] at e3
  refine ⟨_, ?_, plusP p (timesP (x.1, whole r) bp), .sh (.int x.1), .sh (lowD x.2), .sh (pD bp), rfl, ?_⟩
  · simp (disch := omega) [-getElem?_pos, tuF, B47_1, itemD, callE_eq, ga, gb, e1, e2, e3, e4, lofD, lr, limN]
  · rw [List.length_append, List.length_singleton, List.map_append, VQ.sumR_append, List.map_cons, List.map_nil, VQ.sumR_cons, VQ.sumR_nil, Rat.add_zero]
    exact hq
def tabD (many : Nat) : List Row → List D
  | [] => [.lst (lsD (W []) (many + 1))]
  | r :: rs => .lst (lsD (W (r :: rs)) (many + 1)) :: tabD many rs
theorem tabD_head (many : Nat) (rs : List Row) : ∃ t, tabD many rs = .lst (lsD (W rs) (many + 1)) :: t ∧ t.length = rs.length := by
  induction rs with
  | nil => exact ⟨[], rfl, rfl⟩
  | cons r rs ih =>
    obtain ⟨t, e, l⟩ := ih
    exact ⟨tabD many rs, rfl, by rw [e, List.length_cons, List.length_cons, l]⟩
theorem tabD_eq (many : Nat) : ∀ rs : List Row, tabD many rs = (List.range (rs.length + 1)).map fun i => .lst (lsD (W (rs.drop i)) (many + 1))
  | [] => rfl
  | r :: rs => by
    rw [tabD, tabD_eq many rs, List.length_cons, List.range_succ_eq_map (n := rs.length + 1), List.map_cons, List.map_map]
    rfl
theorem range_split {m : Nat} {done rest : List Nat} {k : Nat} (h : List.range m = done ++ k :: rest) : k = done.length ∧ k < m := by
  have h1 := congrArg (fun l : List Nat => l[done.length]?) h
  have hl := congrArg List.length h
  rw [List.length_range, List.length_append, List.length_cons] at hl
  rw [List.getElem?_range (by omega), List.getElem?_append_right (Nat.le_refl _), Nat.sub_self] at h1
  have := Option.some.inj h1
  omega
theorem dd_le5 {j : Nat} (h : j ≤ 5) : dd j ≤ 2541 ∧ ee j ≤ 3993 := by
  have : j = 0 ∨ j = 1 ∨ j = 2 ∨ j = 3 ∨ j = 4 ∨ j = 5 := by omega
  rcases this with rfl | rfl | rfl | rfl | rfl | rfl <;> decide
def turnsI (many : Nat) (rs : List Row) (done : List Row) (ρ : Env) : Prop := ∃ (s2 t3 t4 t5 t6 t7 t8 t9 t10 : S), ρ = [.sh (.lst (rs.map lofD)), .sh (.int many), s2, t3, t4, t5, t6, t7, t8, t9, t10] ∧ (s2 = .ow 0 (.lst ((tabD many done.reverse).map .lf)) ∨ s2 = .sh (.lst (tabD many done.reverse)))
def leftI (o m s2 : S) (r : Row) (sf : List Row) (many : Nat) (done : List Nat) (ρ : Env) : Prop := ∃ (t6 t7 t8 t9 t10 : S), ρ = [o, m, s2, .sh (lofD r), .sh (.lst (lsD (W sf) (many + 1))), .ow 0 (.lst ((lsD (W (r :: sf)) (done.length + 1)).map .lf)), t6, t7, t8, t9, t10]
theorem left_step {n : Nat} (hn : 3 ≤ n) {o m s2 : S} {r : Row} (hr : LOk r) {sf : List Row} (hs : ∀ y ∈ sf, LOk y) (hl : sf.length ≤ 5) {many : Nat} (hm : many ≤ 100) {done : List Nat} {k : Nat} (hk : k = done.length) (hk2 : k < many) {ρ : Env} (h : leftI o m s2 r sf many done ρ) :
    StepP (leftI o m s2 r sf many (done ++ [k])) (tuF L.T (callN L.T L.fs n) (Tg.nm 6) B47_2 (.int ((k + 1 : Nat) : Int)) ρ) := by
  obtain ⟨t6, t7, t8, t9, t10, rfl⟩ := h
  obtain ⟨b1, b2⟩ := dd_le5 hl
  have r3 := hr.l3
  have lr := fun (b : List D) => lookR (D.lst b) (.int (whole r))
  have lm := lookR (α := O)
  simp (disch := omega) [tuF, B47_2, lofD, lr, limN]
  refine for_run (P := StepP (leftI o m s2 r sf many (done ++ [k]))) itemD r (turnI (dd sf.length) (ee sf.length) o m s2 (.ow 0 (.lst ((lsD (W (r :: sf)) (done.length + 1)).map .lf))) r (lsD (W sf) (many + 1)) k (fun x => mx (x.2 + W sf k) (W sf (k + 1)))) rfl ⟨(0, 1), t8, t9, t10, rfl, by rw [List.length_nil, Nat.zero_mul, Nat.zero_mul]; exact VQ.PB.zero⟩ (fun d2 x r2 hd2 ρ hρ => turn_item (by omega) (dd_ee _) (by omega) (by omega) hr (lsD_get (by omega)) (lsD_get (by omega)) (W_pb hs k) (W_pb hs (k + 1)) (by rw [hd2]; simp) (by
    have := congrArg List.length hd2
    rw [List.length_append, List.length_cons] at this; omega) hρ) ?_
  rintro ρ' ⟨p, t8, t9, t10, rfl, hp⟩
  have hp2 := hp.mono (Nat.mul_le_mul_right _ r3) (Nat.mul_le_mul_right _ r3)
  have lo := s_low (n := n) (by omega) hp2 (by omega)
  have ew : VQ.sumR (r.map fun x => shareR r x * mx (x.2 + W sf k) (W sf (k + 1))) = W (r :: sf) (k + 1) := rfl
  rw [ew] at lo
  have hlim : done.length + 1 < 16777216 := by omega
  refine ⟨[o, m, s2, .sh (lofD r), .sh (.lst (lsD (W sf) (many + 1))), .ow 0 (.lst ((lsD (W (r :: sf)) ((done ++ [k]).length + 1)).map .lf)), .sh (.int ((k + 1 : Nat) : Int)), .sh (pD p), t8, t9, t10], ?_, _, _, _, _, _, rfl⟩
  rw [List.length_append, List.length_singleton, lsD_succ (W (r :: sf)) (done.length + 1), ← hk]
  rw [← hk] at hlim
  simp (disch := omega) [callE_eq, lo, limN, hlim, lsD_len]
theorem turns_step {n : Nat} (hn : 3 ≤ n) {rs : List Row} {many : Nat} (hm : many ≤ 100) {done : List Row} {x : Row} (hx : LOk x) (hs : ∀ y ∈ done.reverse, LOk y) (hdl : done.length ≤ 5) {s2 t3 t4 t5 t6 t7 t8 t9 t10 : S} (h2 : s2 = .ow 0 (.lst ((tabD many done.reverse).map .lf)) ∨ s2 = .sh (.lst (tabD many done.reverse))) :
    StepP (turnsI many rs (done ++ [x])) (tuF L.T (callN L.T L.fs n) (Tg.nm 3) B47_3 (lofD x) [.sh (.lst (rs.map lofD)), .sh (.int many), s2, t3, t4, t5, t6, t7, t8, t9, t10]) := by
  obtain ⟨t, et, tl⟩ := tabD_head many done.reverse
  rw [List.length_reverse] at tl
  have e0 : ((many : Int) + 1 - 1).toNat = many := by omega
  have z : O.lst [O.lf (D.tup [D.int 0, D.int 1])] = .lst ((lsD (W (x :: done.reverse)) (0 + 1)).map .lf) := rfl
  have go : ∀ s2 : S, (s2 = .ow 0 (.lst ((tabD many done.reverse).map .lf)) ∨ s2 = .sh (.lst (tabD many done.reverse))) → ∀ t6 t7 t8 t9 t10 : S, StepP (turnsI many rs (done ++ [x])) (seqP (loopF (tuF L.T (callN L.T L.fs n) (Tg.nm 6) B47_2) ((List.range many).map fun k => .int ((k + 1 : Nat) : Int)) [.sh (.lst (rs.map lofD)), .sh (.int many), s2, .sh (lofD x), .sh (.lst (lsD (W done.reverse) (many + 1))), .ow 0 (O.lst [O.lf (D.tup [D.int 0, D.int 1])]), t6, t7, t8, t9, t10]) (fun ρ' => evB L.T (callN L.T L.fs n) (Sms.cons (Sm.set 2 (Ex.bin Bop.add (Ex.new (Nx.lst (Exs.cons (Ex.var 5) Exs.nil))) (Ex.var 2))) Sms.nil) ρ') .mk) := by
    intro s2 h2 t6 t7 t8 t9 t10
    refine for_run (P := StepP (turnsI many rs (done ++ [x]))) (fun k : Nat => D.int ((k + 1 : Nat) : Int)) (List.range many) (leftI (.sh (.lst (rs.map lofD))) (.sh (.int many)) s2 x done.reverse many) rfl ⟨t6, t7, t8, t9, t10, by rw [z]; rfl⟩ (fun d2 k r2 hd2 ρ hρ => left_step hn hx hs (by rw [List.length_reverse]; omega) hm (range_split hd2).1 (range_split hd2).2 hρ) ?_
    rintro ρ' ⟨t6, t7, t8, t9, t10, rfl⟩
    rw [List.length_range]
    have e1 : tabD many (done ++ [x]).reverse = .lst (lsD (W (x :: done.reverse)) (many + 1)) :: tabD many done.reverse := by
      rw [List.reverse_append]; rfl
    have hl2 : (tabD many done.reverse).length = done.length + 1 := by rw [et, List.length_cons, tl]
    have hlim : 1 + (done.length + 1) ≤ 16777216 := by omega
    refine ⟨[.sh (.lst (rs.map lofD)), .sh (.int many), .sh (.lst (tabD many (done ++ [x]).reverse)), .sh (lofD x), .sh (.lst (lsD (W done.reverse) (many + 1))), .sh (.lst (lsD (W (x :: done.reverse)) (many + 1))), t6, t7, t8, t9, t10], ?_, _, _, _, _, _, _, _, _, _, rfl, .inr rfl⟩
    rw [e1]
    rcases h2 with rfl | rfl
    · simp (disch := omega) [limN, hl2, hlim]
    · simp (disch := omega) [limN, hl2, hlim]
  rcases h2 with rfl | rfl
  · have h3 := go _ (.inl rfl) t6 t7 t8 t9 t10
    rw [et] at h3 ⊢
    simp (disch := omega) [tuF, B47_3, limN, e0, rngI_one]
    exact h3
  · have h3 := go _ (.inr rfl) t6 t7 t8 t9 t10
    rw [et] at h3 ⊢
    simp (disch := omega) [tuF, B47_3, limN, e0, rngI_one]
    exact h3
theorem s_turns {n : Nat} (hn : 4 ≤ n) {rs : List Row} (hr : ∀ r ∈ rs, LOk r) (hl : rs.length ≤ 6) {many : Nat} (hm : many ≤ 100) :
    callN L.T L.fs n 47 [.sh (.lst (rs.map lofD)), .sh (.int many)] = .ok (.lst (tabD many rs)) [.sh (.lst (rs.map lofD)), .sh (.int many)] := by
  refine call_at' (k := 3) hn e47 rfl fun n hn => ?_
  have e0 : ((many : Int) + 1).toNat = many + 1 := by omega
  have hm2 : (many : Int) + 1 ≤ lim := by rw [limN]; omega
  have hm3 : (0 : Int) ≤ (many : Int) + 1 := by omega
  simp (disch := omega) [B47, limN, e0, hm2, hm3, ← List.map_reverse]
  have z0 : (List.replicate (many + 1) (O.lf (D.tup [D.int 0, D.int 1]))) = (lsD (W []) (many + 1)).map .lf := by
    unfold lsD
    rw [List.map_map]
    show _ = (List.range (many + 1)).map fun _ => O.lf (lowD 0)
    rw [List.map_const', List.length_range, lowD_zero]
  have hm4 : (many : Int) + 1 ≤ 16777216 := by omega
  rw [if_pos hm4, z0]
  simp only [frzs_map]
  refine for_run (P := fun s => fin _ s = _) lofD rs.reverse (turnsI many rs) rfl ⟨_, .un, .un, .un, .un, .un, .un, .un, .un, rfl, .inl rfl⟩ ?st ?en
  case en =>
    rintro ρ' ⟨s2, t3, t4, t5, t6, t7, t8, t9, t10, rfl, h2⟩
    rw [List.reverse_reverse] at h2
    rcases h2 with rfl | rfl <;> simp
  case st =>
    rintro done x rest hd ρ ⟨s2, t3, t4, t5, t6, t7, t8, t9, t10, rfl, h2⟩
    have hx : LOk x := hr x (by
      have : x ∈ rs.reverse := by rw [hd]; simp
      simpa using this)
    have hdl : done.length ≤ 5 := by
      have := congrArg List.length hd
      rw [List.length_reverse, List.length_append, List.length_cons] at this; omega
    have hs : ∀ y ∈ done.reverse, LOk y := fun y hy => hr y (by
      have : y ∈ rs.reverse := by rw [hd]; simp at hy; simp [hy]
      simpa using this)
    exact turns_step hn hm hx hs hdl h2

end LW
end

section
set_option Elab.async false
set_option linter.all false
set_option autoImplicit false
set_option maxRecDepth 100000
set_option maxHeartbeats 4000000
namespace LW
open RF RV

/-! one bar for all: at half of the mean of the greatest it earns no less than the bar -/
def stR (t : Rat) : List Row → Rat
  | [] => 0
  | r :: rs => Sh r fun x => if x.2 < t then stR t rs else x.2
def noR (t : Rat) : List Row → Rat
  | [] => 1
  | r :: rs => Sh r fun x => if x.2 < t then noR t rs else 0
def exR (t : Rat) : List Row → Rat
  | [] => 0
  | r :: rs => (Sh r fun x => if x.2 < t then 0 else x.2 - t) + exR t rs
def emR : List Row → Rat → Rat
  | [], a => a
  | r :: rs, a => Sh r fun x => emR rs (mx a x.2)
theorem Sh_sum (r : Row) (f g : Int × Rat → Rat) : Sh r (fun x => f x + g x) = Sh r f + Sh r g := by
  unfold Sh
  have e : (fun x => shareR r x * (f x + g x)) = fun x => shareR r x * f x + shareR r x * g x := by funext x; grind
  rw [e, sum_add]
theorem Sh_scale (r : Row) (f : Int × Rat → Rat) (c : Rat) : Sh r (fun x => f x * c) = Sh r f * c := by
  unfold Sh
  have e : (fun x => shareR r x * (f x * c)) = fun x => shareR r x * f x * c := by funext x; grind
  rw [e, sum_scale]
theorem Sh_const {r : Row} (h : ROk r) (c : Rat) : Sh r (fun _ => c) = c := by
  have := Sh_add h (fun _ => 0) c
  rw [Sh_zero] at this
  have e : (fun _ : Int × Rat => (0 : Rat) + c) = fun _ => c := by funext x; grind
  rw [e] at this
  rw [this]; grind
theorem mx_mono {a b c : Rat} (h : a ≤ b) : mx a c ≤ mx b c := mx_le (Rat.le_trans h (mx_l b c).1) (mx_l b c).2
theorem emR_mono : ∀ {rs : List Row}, (∀ r ∈ rs, ROk r) → ∀ {a b : Rat}, a ≤ b → emR rs a ≤ emR rs b
  | [], _, a, b, h => h
  | r :: rs, hr, a, b, h => Sh_le (hr r List.mem_cons_self) fun x hx => emR_mono (fun y hy => hr y (List.mem_cons_of_mem _ hy)) (mx_mono h)
theorem exR_nonneg (t : Rat) : ∀ {rs : List Row}, (∀ r ∈ rs, ROk r) → 0 ≤ exR t rs
  | [], _ => Rat.le_refl
  | r :: rs, hr => by
    have h1 := exR_nonneg t (rs := rs) fun y hy => hr y (List.mem_cons_of_mem _ hy)
    have h2 := Sh_le (hr r List.mem_cons_self) (f := fun _ => 0) (g := fun x => if x.2 < t then 0 else x.2 - t) fun x hx => by split <;> grind
    rw [Sh_zero] at h2
    rw [exR]; grind
theorem emR_le {t : Rat} : ∀ {rs : List Row}, (∀ r ∈ rs, ROk r) → ∀ a, emR rs a ≤ (if a < t then t else a) + exR t rs
  | [], _, a => by rw [emR, exR]; split <;> grind
  | r :: rs, hr, a => by
    have h0 := hr r List.mem_cons_self
    have hs : ∀ y ∈ rs, ROk y := fun y hy => hr y (List.mem_cons_of_mem _ hy)
    have h1 : emR (r :: rs) a ≤ Sh r fun x => (if x.2 < t then 0 else x.2 - t) + ((if a < t then t else a) + exR t rs) := by
      rw [emR]
      refine Sh_le h0 fun x hx => ?_
      have := emR_le hs (mx a x.2) (t := t)
      unfold mx at *
      grind
    have h2 := Sh_add h0 (fun x => if x.2 < t then 0 else x.2 - t) ((if a < t then t else a) + exR t rs)
    rw [h2] at h1
    rw [exR]; grind
theorem noR_unit (t : Rat) : ∀ {rs : List Row}, (∀ r ∈ rs, ROk r) → 0 ≤ noR t rs ∧ noR t rs ≤ 1
  | [], _ => by rw [noR]; constructor <;> grind
  | r :: rs, hr => by
    have h0 := hr r List.mem_cons_self
    obtain ⟨a, b⟩ := noR_unit t (rs := rs) fun y hy => hr y (List.mem_cons_of_mem _ hy)
    have h1 := Sh_le h0 (f := fun _ => 0) (g := fun x => if x.2 < t then noR t rs else 0) fun x hx => by split <;> grind
    have h2 := Sh_le h0 (f := fun x => if x.2 < t then noR t rs else 0) (g := fun _ => 1) fun x hx => by split <;> grind
    rw [Sh_zero] at h1
    rw [Sh_const h0] at h2
    exact ⟨h1, h2⟩
theorem stR_ge (t : Rat) : ∀ {rs : List Row}, (∀ r ∈ rs, ROk r) → t * (1 - noR t rs) + noR t rs * exR t rs ≤ stR t rs
  | [], _ => by rw [noR, exR, stR]; grind
  | r :: rs, hr => by
    have h0 := hr r List.mem_cons_self
    have hs : ∀ y ∈ rs, ROk y := fun y hy => hr y (List.mem_cons_of_mem _ hy)
    have ih := stR_ge t hs
    have h1 : (Sh r fun x => ((if x.2 < t then noR t rs else 0) * (exR t rs - t) + (if x.2 < t then 0 else x.2 - t)) + t) ≤ stR t (r :: rs) := by
      rw [stR]
      refine Sh_le h0 fun x hx => ?_
      split <;> grind
    rw [Sh_add h0, Sh_sum, Sh_scale] at h1
    have h2 := (noR_unit t hr).2
    have h3 := Sh_le h0 (f := fun _ => 0) (g := fun x => if x.2 < t then 0 else x.2 - t) fun x hx => by split <;> grind
    rw [Sh_zero] at h3
    rw [noR] at h2
    rw [noR, exR]
    generalize (Sh r fun x => if x.2 < t then noR t rs else 0) = Q at *
    generalize (Sh r fun x => if x.2 < t then 0 else x.2 - t) = g at *
    have h4 : Q * g ≤ 1 * g := Rat.mul_le_mul_of_nonneg_right h2 h3
    grind
/-- half of the mean of the greatest is reached -/
theorem half_reached {rs : List Row} (hr : ∀ r ∈ rs, ROk r) {t : Rat} (h0 : 0 ≤ t) (ht : t * 2 = emR rs 0) : t ≤ stR t rs := by
  have h1 := emR_le hr (t := t) 0
  have h2 := stR_ge t hr
  obtain ⟨h3, h4⟩ := noR_unit t hr
  have h5 : t ≤ exR t rs := by
    by_cases z : (0 : Rat) < t
    · rw [if_pos z] at h1; grind
    · rw [if_neg z] at h1; grind
  have h6 := Rat.mul_le_mul_of_nonneg_left h5 h3
  grind
theorem stR_le (t : Rat) : ∀ {rs : List Row}, (∀ r ∈ rs, ROk r) → stR t rs ≤ W rs 1
  | [], _ => Rat.le_refl
  | r :: rs, hr => by
    have hs : ∀ y ∈ rs, ROk y := fun y hy => hr y (List.mem_cons_of_mem _ hy)
    have ih := stR_le t hs
    have z := W_zero rs
    rw [stR, W]
    refine Sh_le (hr r List.mem_cons_self) fun x hx => ?_
    have h3 := mx_l (x.2 + W rs 0) (W rs (0 + 1))
    rw [z] at h3
    split <;> grind
/-- the mean over all ways -/
def Ew : List Row → (List Rat → Rat) → Rat
  | [], f => f []
  | r :: rs, f => Sh r fun x => Ew rs fun xs => f (x.2 :: xs)
theorem Ew_le : ∀ {rs : List Row}, (∀ r ∈ rs, ROk r) → ∀ {f g : List Rat → Rat}, (∀ xs, f xs ≤ g xs) → Ew rs f ≤ Ew rs g
  | [], _, f, g, h => h []
  | r :: rs, hr, f, g, h => Sh_le (hr r List.mem_cons_self) fun x hx => Ew_le (fun y hy => hr y (List.mem_cons_of_mem _ hy)) fun xs => h (x.2 :: xs)
theorem Ew_sum : ∀ (rs : List Row) (f g : List Rat → Rat), Ew rs (fun xs => f xs + g xs) = Ew rs f + Ew rs g
  | [], f, g => rfl
  | r :: rs, f, g => by
    rw [Ew, Ew, Ew, ← Sh_sum]
    exact Sh_congr fun x hx => Ew_sum rs _ _
theorem Ew_scale : ∀ (rs : List Row) (f : List Rat → Rat) (c : Rat), Ew rs (fun xs => f xs * c) = Ew rs f * c
  | [], f, c => rfl
  | r :: rs, f, c => by
    rw [Ew, Ew, ← Sh_scale]
    exact Sh_congr fun x hx => Ew_scale rs _ c
theorem Ew_const : ∀ {rs : List Row}, (∀ r ∈ rs, ROk r) → ∀ c : Rat, Ew rs (fun _ => c) = c
  | [], _, c => rfl
  | r :: rs, hr, c => by
    rw [Ew]
    have : (Sh r fun x => Ew rs fun _ => c) = Sh r fun _ => c := Sh_congr fun x hx => Ew_const (fun y hy => hr y (List.mem_cons_of_mem _ hy)) c
    rw [this, Sh_const (hr r List.mem_cons_self)]
/-! sums over ascending worths -/
def lay (F : Rat → Rat) : Rat → List Rat → Rat
  | _, [] => 0
  | p, w :: ws => (w - p) * F w + lay F w ws
def Up : Rat → List Rat → Prop
  | _, [] => True
  | p, w :: ws => p ≤ w ∧ Up w ws
theorem lay_le {F G : Rat → Rat} (h : ∀ w, F w ≤ G w) : ∀ {p : Rat} {ws : List Rat}, Up p ws → lay F p ws ≤ lay G p ws
  | p, [], _ => Rat.le_refl
  | p, w :: ws, u => by
    have h1 := lay_le h u.2
    have h2 := Rat.mul_le_mul_of_nonneg_left (h w) (show 0 ≤ w - p by have := u.1; grind)
    rw [lay, lay]; grind
theorem lay_add (F G : Rat → Rat) : ∀ (p : Rat) (ws : List Rat), lay (fun w => F w + G w) p ws = lay F p ws + lay G p ws
  | p, [] => by simp [lay, Rat.add_zero]
  | p, w :: ws => by rw [lay, lay, lay, lay_add F G w ws]; grind
theorem lay_zero {x : Rat} : ∀ {p : Rat} {ws : List Rat}, Up p ws → x ≤ p → lay (fun w => if x < w then 0 else 1) p ws = 0
  | p, [], _, _ => rfl
  | p, w :: ws, u, h => by
    have h1 := u.1
    rw [lay, lay_zero u.2 (by grind)]
    by_cases z : x < w
    · rw [if_pos z]; grind
    · rw [if_neg z]; grind
theorem lay_one {x : Rat} : ∀ {p : Rat} {ws : List Rat}, Up p ws → x ∈ ws → lay (fun w => if x < w then 0 else 1) p ws = x - p
  | p, [], _, m => nomatch m
  | p, w :: ws, u, m => by
    have key : ∀ {p : Rat} {ws : List Rat}, Up p ws → ∀ y ∈ ws, p ≤ y := by
      intro p ws
      induction ws generalizing p with
      | nil => intro _ y hy; cases hy
      | cons a as ih =>
        intro u y hy
        rcases List.mem_cons.mp hy with rfl | hy
        · exact u.1
        · exact Rat.le_trans u.1 (ih u.2 y hy)
    rw [lay]
    rcases List.mem_cons.mp m with rfl | m
    · rw [lay_zero u.2 Rat.le_refl, if_neg Rat.lt_irrefl]; grind
    · rw [lay_one u.2 m, if_neg (Rat.not_lt.mpr (key u.2 x m))]; grind
def cnt (w : Rat) (xs : List Rat) : Nat := xs.countP fun x => !decide (x < w)
def tpL (ws : List Rat) (m : Nat) (xs : List Rat) : Rat := lay (fun w => ((min m (cnt w xs) : Nat) : Rat)) 0 ws
theorem cnt_cons (w x : Rat) (xs : List Rat) : cnt w (x :: xs) = cnt w xs + if x < w then 0 else 1 := by
  unfold cnt
  rw [List.countP_cons]
  by_cases h : x < w <;> simp [h]
theorem tpL_more {ws : List Rat} (u : Up 0 ws) (m : Nat) (x : Rat) (xs : List Rat) : tpL ws m xs ≤ tpL ws m (x :: xs) := by
  refine lay_le (fun w => ?_) u
  rw [cnt_cons]
  exact Rat.natCast_le_natCast.mpr (by split <;> omega)
theorem tpL_take {ws : List Rat} (u : Up 0 ws) (m : Nat) {x : Rat} (hx : x ∈ ws) (xs : List Rat) : x + tpL ws m xs ≤ tpL ws (m + 1) (x :: xs) := by
  have h1 := lay_one (x := x) u hx
  have h2 : x = lay (fun w => if x < w then 0 else 1) 0 ws := by rw [h1]; grind
  unfold tpL
  conv => lhs; lhs; rw [h2]
  rw [← lay_add]
  refine lay_le (fun w => ?_) u
  rw [cnt_cons]
  by_cases z : x < w
  · rw [if_pos z, if_pos z, Rat.zero_add]
    exact Rat.natCast_le_natCast.mpr (by omega)
  · rw [if_neg z, if_neg z]
    have : min (m + 1) (cnt w xs + 1) = min m (cnt w xs) + 1 := by omega
    rw [this, Rat.natCast_add]
    grind
theorem lay_none : ∀ (p : Rat) (ws : List Rat), lay (fun _ => 0) p ws = 0
  | p, [] => rfl
  | p, w :: ws => by rw [lay, lay_none w ws]; grind
theorem tpL_nonneg {ws : List Rat} (u : Up 0 ws) (m : Nat) (xs : List Rat) : 0 ≤ tpL ws m xs := by
  have h := lay_le (F := fun _ => 0) (G := fun w => ((min m (cnt w xs) : Nat) : Rat)) (fun w => Rat.natCast_nonneg) u
  rw [lay_none] at h
  exact h
/-- no plan earns more than the seer -/
theorem W_seer {ws : List Rat} (u : Up 0 ws) : ∀ {rs : List Row}, (∀ r ∈ rs, ROk r) → (∀ r ∈ rs, ∀ x ∈ r, x.2 ∈ ws) → ∀ l, W rs l ≤ Ew rs (tpL ws l)
  | [], _, _, l => tpL_nonneg u l []
  | r :: rs, hr, hx, 0 => by
    have h := Ew_le hr (f := fun _ => 0) (g := tpL ws 0) fun xs => tpL_nonneg u 0 xs
    rw [Ew_const hr] at h
    rw [W_zero]; exact h
  | r :: rs, hr, hx, l + 1 => by
    have hs : ∀ y ∈ rs, ROk y := fun y hy => hr y (List.mem_cons_of_mem _ hy)
    have hxs : ∀ y ∈ rs, ∀ x ∈ y, x.2 ∈ ws := fun y hy => hx y (List.mem_cons_of_mem _ hy)
    rw [W, Ew]
    refine Sh_le (hr r List.mem_cons_self) fun x hxr => mx_le ?_ ?_
    · have h1 := W_seer u hs hxs l
      have h2 := Ew_le hs (f := fun xs => tpL ws l xs + x.2) (g := fun xs => tpL ws (l + 1) (x.2 :: xs)) fun xs => by
        have := tpL_take u l (hx r List.mem_cons_self x hxr) xs
        grind
      rw [Ew_sum rs (tpL ws l) fun _ => x.2, Ew_const hs] at h2
      have e : (Ew rs fun xs => tpL ws l xs) = Ew rs (tpL ws l) := rfl
      grind
    · exact Rat.le_trans (W_seer u hs hxs (l + 1)) (Ew_le hs fun xs => tpL_more u (l + 1) x.2 xs)

end LW
end

section
set_option Elab.async false
set_option linter.all false
set_option autoImplicit false
set_option maxRecDepth 100000
set_option maxHeartbeats 4000000
namespace LW
open RF RV

/-! the law's greatest, taken out again and again -/
theorem cnt_append (w : Rat) (xs ys : List Rat) : cnt w (xs ++ ys) = cnt w xs + cnt w ys := by unfold cnt; rw [List.countP_append]
theorem cnt_le (w : Rat) (xs : List Rat) : cnt w xs ≤ xs.length := List.countP_le_length
theorem cnt_zero {w : Rat} {xs : List Rat} (h : ∀ x ∈ xs, x < w) : cnt w xs = 0 := by
  unfold cnt
  rw [List.countP_eq_zero]
  intro x hx
  simp [h x hx]
theorem split_at {xs : List Rat} {b : Nat} {x : Rat} (h : xs[b]? = some x) : xs = xs.take b ++ x :: xs.drop (b + 1) := by
  have hb : b < xs.length := (List.getElem?_eq_some_iff.mp h).1
  have e : xs[b] = x := (List.getElem?_eq_some_iff.mp h).2
  rw [← e, List.getElem_cons_drop, List.take_append_drop]
theorem tpL_best {ws : List Rat} (u : Up 0 ws) (m : Nat) {xs : List Rat} {b : Nat} {x : Rat} (hb : xs[b]? = some x) (hx : x ∈ ws) (h : ∀ y ∈ xs, y ≤ x) : x + tpL ws m (xs.take b ++ xs.drop (b + 1)) = tpL ws (m + 1) xs := by
  have h1 := lay_one (x := x) u hx
  have h2 : x = lay (fun w => if x < w then 0 else 1) 0 ws := by rw [h1]; grind
  unfold tpL
  conv => lhs; lhs; rw [h2]
  rw [← lay_add]
  congr 1
  funext w
  have e : cnt w xs = cnt w (xs.take b ++ xs.drop (b + 1)) + if x < w then 0 else 1 := by
    conv => lhs; rw [split_at hb]
    rw [cnt_append, cnt_cons, cnt_append]; omega
  by_cases z : x < w
  · have c0 : cnt w xs = 0 := cnt_zero fun y hy => by have := h y hy; grind
    rw [if_pos z] at e ⊢
    rw [c0] at e ⊢
    have : cnt w (xs.take b ++ xs.drop (b + 1)) = 0 := by omega
    rw [this]; simp [Rat.add_zero]
  · rw [if_neg z] at e ⊢
    rw [e]
    have : min (m + 1) (cnt w (xs.take b ++ xs.drop (b + 1)) + 1) = min m (cnt w (xs.take b ++ xs.drop (b + 1))) + 1 := by omega
    rw [this, Rat.natCast_add]
    grind
theorem tpL_zero (ws xs : List Rat) : tpL ws 0 xs = 0 := by
  unfold tpL
  exact (congrArg (fun F => lay F 0 ws) (funext fun w => by simp)).trans (lay_none 0 ws)
theorem tpL_min (ws : List Rat) (m : Nat) (xs : List Rat) : tpL ws (min m xs.length) xs = tpL ws m xs := by
  unfold tpL
  congr 1
  funext w
  have := cnt_le w xs
  have : min (min m xs.length) (cnt w xs) = min m (cnt w xs) := by omega
  rw [this]
/-- the law's look for the first greatest -/
def bestF (xs : List Rat) (is : List Nat) : Nat := is.foldl (fun b a => if xs.getD b 0 < xs.getD a 0 then a else b) 0
theorem bestF_snoc (xs : List Rat) (is : List Nat) (a : Nat) : bestF xs (is ++ [a]) = if xs.getD (bestF xs is) 0 < xs.getD a 0 then a else bestF xs is := by
  unfold bestF; rw [List.foldl_append]; rfl
theorem bestF_ge (xs : List Rat) : ∀ k, 0 < k → bestF xs (List.range k) < k ∧ ∀ i < k, xs.getD i 0 ≤ xs.getD (bestF xs (List.range k)) 0
  | 0, h => absurd h (by decide)
  | k + 1, _ => by
    rw [List.range_succ, bestF_snoc]
    by_cases h0 : k = 0
    · subst h0
      have e : bestF xs (List.range 0) = 0 := rfl
      rw [e]
      have : ∀ i < 0 + 1, xs.getD i 0 ≤ xs.getD 0 0 := fun i hi => by
        have : i = 0 := by omega
        subst this; exact Rat.le_refl
      split
      · exact ⟨by omega, this⟩
      · exact ⟨by omega, this⟩
    · obtain ⟨h1, h2⟩ := bestF_ge xs k (by omega)
      split
      case isTrue z =>
        refine ⟨by omega, fun i hi => ?_⟩
        by_cases hik : i = k
        · subst hik; exact Rat.le_refl
        · exact Rat.le_trans (h2 i (by omega)) (Rat.le_of_lt z)
      case isFalse z =>
        refine ⟨by omega, fun i hi => ?_⟩
        by_cases hik : i = k
        · subst hik; exact Rat.not_lt.mp z
        · exact h2 i (by omega)
theorem bestF_all {xs : List Rat} (h : 0 < xs.length) : xs[bestF xs (List.range xs.length)]? = some (xs.getD (bestF xs (List.range xs.length)) 0) ∧ ∀ y ∈ xs, y ≤ xs.getD (bestF xs (List.range xs.length)) 0 := by
  obtain ⟨h1, h2⟩ := bestF_ge xs xs.length h
  refine ⟨getD_some h1, fun y hy => ?_⟩
  obtain ⟨i, hi, rfl⟩ := List.getElem_of_mem hy
  have := h2 i hi
  rw [List.getD_eq_getElem?_getD (l := xs) (i := i), List.getElem?_eq_getElem hi] at this
  exact this

/-! chances -/
def valA : List Rat → (Nat → Rat) → Rat
  | [], _ => 0
  | c :: ch, f => f 0 * c + valA ch fun i => f (i + 1)
theorem valA_zip (f : Nat → Rat) : ∀ (ch : List Rat) (k : Nat), VQ.sumR ((ch.zipIdx k).map fun p => f p.2 * p.1) = valA ch fun i => f (i + k)
  | [], _ => rfl
  | c :: ch, k => by
    rw [List.zipIdx_cons, List.map_cons, sumR_cons, valA_zip f ch (k + 1), valA]
    congr 1
    · simp
    · congr 1
      funext i
      congr 1; omega
theorem valA_congr {f g : Nat → Rat} : ∀ {ch : List Rat}, (∀ i < ch.length, f i = g i) → valA ch f = valA ch g
  | [], _ => rfl
  | c :: ch, h => by
    rw [valA, valA, h 0 (by simp), valA_congr (ch := ch) fun i hi => h (i + 1) (by simp; omega)]
theorem valA_set (d : Rat) : ∀ (ch : List Rat) (i : Nat) (f : Nat → Rat), i < ch.length → valA (ch.set i (ch.getD i 0 + d)) f = valA ch f + f i * d
  | [], i, f, h => by simp at h
  | c :: ch, 0, f, h => by
    rw [List.set_cons_zero, valA, valA, List.getD_cons_zero]; grind
  | c :: ch, i + 1, f, h => by
    rw [List.set_cons_succ, valA, valA, List.getD_cons_succ, valA_set d ch i _ (by simpa using h)]; grind
theorem valA_map (k : Rat) : ∀ (ch : List Rat) (f : Nat → Rat), valA (ch.map fun c => c * k) f = valA ch fun i => k * f i
  | [], f => rfl
  | c :: ch, f => by
    rw [List.map_cons, valA, valA, valA_map k ch]; grind
theorem valA_add : ∀ (ch : List Rat) (f g : Nat → Rat), valA ch (fun i => f i + g i) = valA ch f + valA ch g
  | [], f, g => by simp [valA, Rat.add_zero]
  | c :: ch, f, g => by
    rw [valA, valA, valA, valA_add ch]; grind
theorem valA_range : ∀ (ch : List Rat) (f : Nat → Rat), VQ.sumR ((List.range ch.length).map fun i => f i * ch.getD i 0) = valA ch f
  | [], f => rfl
  | c :: ch, f => by
    rw [List.length_cons, List.range_succ_eq_map, List.map_cons, sumR_cons, valA, List.map_map, ← valA_range ch]
    rfl
theorem valA_fold {h : Rat} {many : Nat} {ch : List Rat} (f : Nat → Rat) : ∀ (is : List Nat) (lt : List Rat), lt.length = many + 1 → valA (is.foldl (stepC h many ch) lt) f = valA lt f + VQ.sumR (is.map fun i => (h * f (min many (i + 1))) * ch.getD i 0)
  | [], lt, _ => by simp [VQ.sumR, Rat.add_zero]
  | i :: is, lt, hl => by
    rw [List.foldl_cons, valA_fold f is (stepC h many ch lt i) (by rw [stepC_len]; exact hl), List.map_cons, sumR_cons]
    unfold stepC
    rw [valA_set _ lt _ f (by omega)]
    grind
theorem valA_next {h : Rat} {many : Nat} {ch : List Rat} (f : Nat → Rat) (hl : ch.length = many + 1) : valA (nextC h many ch) f = valA ch fun i => (1 - h) * f i + h * f (min many (i + 1)) := by
  unfold nextC
  rw [valA_fold f _ _ (by rw [List.length_map]; exact hl), valA_map, ← hl, valA_range ch fun i => h * f (min many (i + 1)), ← valA_add]
theorem nextC_len {h : Rat} {many : Nat} {ch : List Rat} (hl : ch.length = many + 1) : (nextC h many ch).length = many + 1 := by
  unfold nextC; rw [foldC_len, List.length_map, hl]
theorem part_sum (r : Row) (v a b : Rat) : ∀ s : Row, VQ.sumR (s.map fun x => shareR r x * (if x.2 < v then a else b)) = VQ.sumR (s.map (shareR r)) * a + VQ.sumR ((s.filter fun x => !decide (x.2 < v)).map (shareR r)) * (b - a)
  | [] => by simp [VQ.sumR, Rat.add_zero]
  | x :: s => by
    rw [List.map_cons, sumR_cons, part_sum r v a b s, List.map_cons, sumR_cons]
    by_cases z : x.2 < v
    · rw [List.filter_cons_of_neg (by simp [z]), if_pos z]; grind
    · rw [List.filter_cons_of_pos (by simp [z]), if_neg z, List.map_cons, sumR_cons]; grind
theorem Sh_part {r : Row} (h : ROk r) (v a b : Rat) : (Sh r fun x => if x.2 < v then a else b) = (1 - highR v r) * a + highR v r * b := by
  have h1 := part_sum r v a b r
  rw [h.one] at h1
  unfold Sh highR
  rw [h1]; grind
theorem val_rs {v : Rat} {many : Nat} : ∀ {rs : List Row}, (∀ r ∈ rs, ROk r) → ∀ (ch : List Rat) (f : Nat → Rat), ch.length = many + 1 → valA (rs.foldl (fun ch r => nextC (highR v r) many ch) ch) f = valA ch fun i => Ew rs fun xs => f (min many (i + cnt v xs))
  | [], _, ch, f, hl => valA_congr fun i hi => by
    have hi : i < ch.length := hi
    show f i = f (min many (i + 0))
    congr 1; omega
  | r :: rs, hr, ch, f, hl => by
    have hs : ∀ y ∈ rs, ROk y := fun y hy => hr y (List.mem_cons_of_mem _ hy)
    rw [List.foldl_cons, val_rs hs _ f (nextC_len hl), valA_next _ hl]
    refine valA_congr fun i hi => ?_
    rw [Ew, ← Sh_part (hr r List.mem_cons_self)]
    refine Sh_congr fun x hx => ?_
    split
    case isTrue z =>
      congr 1; funext xs
      rw [cnt_cons, if_pos z]; rfl
    case isFalse z =>
      congr 1; funext xs
      rw [cnt_cons, if_neg z]
      congr 1; omega
theorem valA_zeros (f : Nat → Rat) : ∀ n, valA (List.replicate n 0) f = 0
  | 0 => rfl
  | n + 1 => by
    rw [List.replicate_succ, valA, valA_zeros (fun i => f (i + 1)) n]
    grind
theorem mean_Ew {rs : List Row} (hr : ∀ r ∈ rs, ROk r) (v : Rat) (many : Nat) : meanR v many rs = Ew rs fun xs => ((min many (cnt v xs) : Nat) : Rat) := by
  have h1 := valA_zip (fun i => (((i : Nat) : Int) : Rat)) (chancesR v many rs) 0
  have h2 := val_rs (v := v) (many := many) hr (1 :: List.replicate many 0) (fun i => (((i : Nat) : Int) : Rat)) (by simp)
  have h3 : meanR v many rs = valA (chancesR v many rs) fun i => (((i : Nat) : Int) : Rat) := h1
  have h4 : valA (chancesR v many rs) (fun i => (((i : Nat) : Int) : Rat)) = _ := h2
  rw [h3, h4, valA, valA_zeros]
  rw [Rat.add_zero, Rat.mul_one]
  congr 1
  funext xs
  rw [Rat.intCast_natCast, Nat.zero_add]
/-! the seer -/
theorem Ew_lay {rs : List Row} (hr : ∀ r ∈ rs, ROk r) (F : List Rat → Rat → Rat) : ∀ (p : Rat) (ws : List Rat), lay (fun w => Ew rs fun xs => F xs w) p ws = Ew rs fun xs => lay (F xs) p ws
  | p, [] => (Ew_const hr 0).symm
  | p, w :: ws => by
    rw [lay, Ew_lay hr F w ws]
    show _ = Ew rs fun xs => (w - p) * F xs w + lay (F xs) w ws
    rw [Ew_sum rs (fun xs => (w - p) * F xs w)]
    congr 1
    have : (fun xs => (w - p) * F xs w) = fun xs => F xs w * (w - p) := by funext xs; grind
    rw [this, Ew_scale]; grind
theorem lay_fold (G : Rat → Rat) : ∀ (ws : List Rat) (a p : Rat), (ws.foldl (fun (s : Rat × Rat) w => (s.1 + (w - s.2) * G w, w)) (a, p)).1 = a + lay G p ws
  | [], a, p => by rw [List.foldl_nil, lay, Rat.add_zero]
  | w :: ws, a, p => by
    rw [List.foldl_cons, lay_fold G ws, lay]; grind
theorem seer_Ew {rs : List Row} (hr : ∀ r ∈ rs, ROk r) (many : Nat) : seerR many rs = Ew rs (tpL (worthsShown rs) many) := by
  unfold seerR
  rw [lay_fold (fun w => meanR w many rs) (worthsShown rs) 0 0, Rat.zero_add]
  have : (fun w => meanR w many rs) = fun w => Ew rs fun xs => ((min many (cnt w xs) : Nat) : Rat) := by funext w; exact mean_Ew hr w many
  rw [this, Ew_lay hr fun xs w => ((min many (cnt w xs) : Nat) : Rat)]
  rfl
theorem tpL_cons0 (ws : List Rat) (m : Nat) (xs : List Rat) : tpL (0 :: ws) m xs = tpL ws m xs := by
  unfold tpL
  rw [lay]; grind
/-! worths shown: ascending, all of them -/
theorem Up_mono {p q : Rat} (h : q ≤ p) : ∀ {ws : List Rat}, Up p ws → Up q ws
  | [], _ => True.intro
  | w :: ws, u => ⟨Rat.le_trans h u.1, u.2⟩
theorem Up_ge {p : Rat} : ∀ {ws : List Rat}, Up p ws → ∀ y ∈ ws, p ≤ y
  | [], _, _, m => nomatch m
  | w :: ws, u, y, m => by
    rcases List.mem_cons.mp m with rfl | m
    · exact u.1
    · exact Rat.le_trans u.1 (Up_ge u.2 y m)
theorem below_none {v : Rat} {f : List Rat} (h : ∀ y ∈ f, v ≤ y) : (f.filter fun o => decide (o < v)).length = 0 := by
  rw [List.length_eq_zero_iff, List.filter_eq_nil_iff]
  intro y hy
  have := h y hy
  simp only [decide_eq_true_eq]
  exact Rat.not_lt.mpr this
theorem Up_ins {v : Rat} : ∀ {p : Rat} {f : List Rat}, p ≤ v → Up p f → Up p (f.take (f.filter fun o => decide (o < v)).length ++ [v] ++ f.drop (f.filter fun o => decide (o < v)).length)
  | p, [], hv, _ => ⟨hv, True.intro⟩
  | p, w :: f, hv, u => by
    by_cases z : w < v
    · rw [List.filter_cons_of_pos (by simp [z]), List.length_cons, List.take_succ_cons, List.drop_succ_cons, List.cons_append, List.cons_append]
      exact ⟨u.1, Up_ins (Rat.le_of_lt z) u.2⟩
    · have hv' : v ≤ w := Rat.not_lt.mp z
      rw [below_none fun y hy => by
        rcases List.mem_cons.mp hy with rfl | hy
        · exact hv'
        · exact Rat.le_trans hv' (Up_ge u.2 y hy)]
      exact ⟨hv, hv', u.2⟩
theorem insW_up {p v : Rat} {f : List Rat} (hp : p ≤ 0) (u : Up p f) : Up p (insW f v) := by
  unfold insW
  split
  case isTrue h => exact Up_ins (Rat.le_trans hp (Rat.num_nonneg.mp (by omega))) u
  case isFalse h => exact u
theorem insW_keep {f : List Rat} {v q : Rat} (h : q ∈ f) : q ∈ insW f v := by
  unfold insW
  split
  · generalize (f.filter fun o => decide (o < v)).length = k
    rw [← List.take_append_drop k f] at h
    rcases List.mem_append.mp h with h | h
    · exact List.mem_append_left _ (List.mem_append_left _ h)
    · exact List.mem_append_right _ h
  · exact h
theorem insW_in {f : List Rat} {v : Rat} (h : 0 < v) : v ∈ insW f v := by
  have h0 := Rat.num_nonneg.mpr (Rat.le_of_lt h)
  have h2 : v.num ≠ 0 := fun z => by rw [Rat.num_eq_zero.mp z] at h; exact Rat.lt_irrefl h
  have h1 : 0 < v.num := by omega
  unfold insW
  split
  · exact List.mem_append_left _ (List.mem_append_right _ (List.mem_singleton.mpr rfl))
  case isFalse g =>
    have g2 : ¬ ((f.filter fun o => decide (o < v)).length = f.length) := fun k => g ⟨h1, .inl k⟩
    have g3 : f.getD (f.filter fun o => decide (o < v)).length 0 = v := Decidable.byContradiction fun k => g ⟨h1, .inr k⟩
    have g4 := List.length_filter_le (fun o => decide (o < v)) f
    have g5 := getD_some (later := f) (l := (f.filter fun o => decide (o < v)).length) (by omega)
    rw [g3] at g5
    exact List.mem_of_getElem? g5
theorem worthsIn_up {p : Rat} (hp : p ≤ 0) : ∀ (r : Row) {f : List Rat}, Up p f → Up p (worthsIn f r)
  | [], f, u => u
  | x :: r, f, u => worthsIn_up hp r (insW_up hp u)
theorem worthsIn_keep : ∀ (r : Row) {f : List Rat} {q : Rat}, q ∈ f → q ∈ worthsIn f r
  | [], f, q, h => h
  | x :: r, f, q, h => worthsIn_keep r (insW_keep h)
theorem worthsIn_in : ∀ (r : Row) {f : List Rat} {x : Int × Rat}, x ∈ r → 0 < x.2 → x.2 ∈ worthsIn f r
  | y :: r, f, x, h, hx => by
    rcases List.mem_cons.mp h with rfl | h
    · exact worthsIn_keep r (insW_in hx)
    · exact worthsIn_in r h hx
theorem worths_up : ∀ (rs : List Row) {f : List Rat}, Up 0 f → Up 0 (rs.foldl worthsIn f)
  | [], f, u => u
  | r :: rs, f, u => worths_up rs (worthsIn_up Rat.le_refl r u)
theorem worths_keep : ∀ (rs : List Row) {f : List Rat} {q : Rat}, q ∈ f → q ∈ rs.foldl worthsIn f
  | [], f, q, h => h
  | r :: rs, f, q, h => worths_keep rs (worthsIn_keep r h)
theorem worths_in : ∀ (rs : List Row) {f : List Rat} {r : Row} {x : Int × Rat}, r ∈ rs → x ∈ r → 0 < x.2 → x.2 ∈ rs.foldl worthsIn f
  | s :: rs, f, r, x, h, hx, h0 => by
    rcases List.mem_cons.mp h with rfl | h
    · exact worths_keep rs (worthsIn_in r hx h0)
    · exact worths_in rs h hx h0
def wsA (rs : List Row) : List Rat := 0 :: worthsShown rs
theorem wsA_up (rs : List Row) : Up 0 (wsA rs) := ⟨Rat.le_refl, worths_up rs (f := []) True.intro⟩
theorem wsA_in {rs : List Row} (hr : ∀ r ∈ rs, ROk r) : ∀ r ∈ rs, ∀ x ∈ r, x.2 ∈ wsA rs := fun r h x hx => by
  have h0 := (hr r h).q x hx
  by_cases z : x.2 = 0
  · rw [z]; exact List.mem_cons_self
  · exact List.mem_cons_of_mem _ (worths_in rs (f := []) h hx (by grind))
theorem seer_Ew' {rs : List Row} (hr : ∀ r ∈ rs, ROk r) (many : Nat) : seerR many rs = Ew rs (tpL (wsA rs) many) := by
  rw [seer_Ew hr]
  congr 1
  funext xs
  exact (tpL_cons0 _ _ _).symm
theorem turn_le_seer {rs : List Row} (hr : ∀ r ∈ rs, ROk r) (l : Nat) : W rs l ≤ seerR l rs := by
  rw [seer_Ew' hr]
  exact W_seer (wsA_up rs) hr (wsA_in hr) l
/-- with one the seer takes the greatest -/
theorem tpL_one {ws : List Rat} (u : Up 0 ws) : ∀ (xs : List Rat), (∀ x ∈ xs, x ∈ ws) → ∀ a ∈ ws, tpL ws 1 (a :: xs) = xs.foldl mx a
  | [], _, a, ha => by
    have := tpL_best u 0 (xs := [a]) (b := 0) (x := a) rfl ha (fun y hy => by rw [List.mem_singleton.mp hy]; exact Rat.le_refl)
    rw [tpL_zero, Rat.add_zero] at this
    exact this.symm
  | x :: xs, h, a, ha => by
    have hx := h x List.mem_cons_self
    have hm : mx a x ∈ ws := by unfold mx; split <;> assumption
    rw [List.foldl_cons, ← tpL_one u xs (fun y hy => h y (List.mem_cons_of_mem _ hy)) (mx a x) hm]
    unfold tpL
    congr 1
    funext w
    have : min 1 (cnt w (a :: x :: xs)) = min 1 (cnt w (mx a x :: xs)) := by
      rw [cnt_cons, cnt_cons, cnt_cons]
      unfold mx
      by_cases z : a < x
      · rw [if_pos z]
        by_cases z1 : x < w
        · rw [if_pos z1, if_pos (by grind)]
        · rw [if_neg z1]; omega
      · rw [if_neg z]
        by_cases z1 : a < w
        · rw [if_pos z1, if_pos (by grind)]
        · rw [if_neg z1]; omega
    rw [this]
theorem tpL_nil (ws : List Rat) (m : Nat) : tpL ws m [] = 0 := by
  unfold tpL
  exact (congrArg (fun F => lay F 0 ws) (funext fun w => by simp [cnt])).trans (lay_none 0 ws)
theorem Ew_congr {P : List Rat → Prop} : ∀ {rs : List Row} {f g : List Rat → Rat}, (∀ xs, (∀ x ∈ xs, ∃ r ∈ rs, ∃ y ∈ r, x = y.2) → f xs = g xs) → Ew rs f = Ew rs g
  | [], f, g, h => h [] fun _ m => nomatch m
  | r :: rs, f, g, h => Sh_congr fun x hx => Ew_congr (P := P) fun xs hxs => h (x.2 :: xs) fun y hy => by
    rcases List.mem_cons.mp hy with rfl | hy
    · exact ⟨r, List.mem_cons_self, x, hx, rfl⟩
    · obtain ⟨r', h1, y', h2, h3⟩ := hxs y hy
      exact ⟨r', List.mem_cons_of_mem _ h1, y', h2, h3⟩
theorem emR_Ew : ∀ (rs : List Row) (a : Rat), emR rs a = Ew rs fun xs => xs.foldl mx a
  | [], a => rfl
  | r :: rs, a => by
    rw [emR, Ew]
    exact Sh_congr fun x hx => emR_Ew rs (mx a x.2)
theorem emR_mono' : ∀ {rs : List Row}, (∀ r ∈ rs, ROk r) → ∀ a, 0 ≤ a → 0 ≤ emR rs a
  | [], _, a, h => h
  | r :: rs, hr, a, h => by
    have h1 := Sh_le (hr r List.mem_cons_self) (f := fun _ => 0) (g := fun x => emR rs (mx a x.2)) fun x hx => emR_mono' (fun y hy => hr y (List.mem_cons_of_mem _ hy)) _ (Rat.le_trans h (mx_l a x.2).1)
    rw [Sh_zero] at h1
    exact h1
theorem seer_one {rs : List Row} (hr : ∀ r ∈ rs, ROk r) : seerR 1 rs = emR rs 0 := by
  rw [seer_Ew' hr, emR_Ew]
  refine Ew_congr (P := fun _ => True) fun xs hxs => ?_
  have hin : ∀ x ∈ xs, x ∈ wsA rs := fun x hx => by
    obtain ⟨r, h1, y, h2, rfl⟩ := hxs x hx
    exact wsA_in hr r h1 y h2
  cases xs with
  | nil => exact tpL_nil _ _
  | cons a xs =>
    have ha := hin a List.mem_cons_self
    have h0 := Up_ge (wsA_up rs) a ha
    rw [tpL_one (wsA_up rs) xs (fun y hy => hin y (List.mem_cons_of_mem _ hy)) a ha, List.foldl_cons]
    have : mx 0 a = a := by unfold mx; split <;> grind
    rw [this]
theorem half_ok {rs : List Row} (hr : ∀ r ∈ rs, ROk r) {t : Rat} (ht : t * 2 = seerR 1 rs) : t ≤ stR t rs := by
  rw [seer_one hr] at ht
  refine half_reached hr ?_ ht
  have h1 := emR_mono' hr 0 Rat.le_refl
  grind

end LW
end

section
set_option Elab.async false
set_option linter.all false
set_option autoImplicit false
set_option maxRecDepth 100000
set_option maxHeartbeats 4000000
namespace LW
open RF RV

open VQ (Pr PB plusP minusP timesP lowP)
/-! steady_worth of the program -/
def geR (t : Rat) (r : Row) : Row := r.filter fun x => !decide (x.2 < t)
def gotR (t : Rat) (r : Row) : Rat := VQ.sumR ((geR t r).map fun x => shareR r x * x.2)
def stS (t : Rat) (s : Rat × Rat) (r : Row) : Rat × Rat := (s.1 + s.2 * gotR t r, s.2 * (1 - highR t r))
theorem got_sum (r : Row) (v a : Rat) : ∀ s : Row, VQ.sumR (s.map fun x => shareR r x * (if x.2 < v then a else x.2)) = (VQ.sumR (s.map (shareR r)) - VQ.sumR ((s.filter fun x => !decide (x.2 < v)).map (shareR r))) * a + VQ.sumR ((s.filter fun x => !decide (x.2 < v)).map fun x => shareR r x * x.2)
  | [] => by simp only [List.map_nil, List.filter_nil, VQ.sumR_nil]; grind
  | x :: s => by
    rw [List.map_cons, sumR_cons, got_sum r v a s, List.map_cons, sumR_cons]
    by_cases z : x.2 < v
    · rw [List.filter_cons_of_neg (by simp [z]), if_pos z]; grind
    · rw [List.filter_cons_of_pos (by simp [z]), if_neg z, List.map_cons, sumR_cons, List.map_cons, sumR_cons]; grind
theorem stR_cons {r : Row} (h : ROk r) (t : Rat) (rs : List Row) : stR t (r :: rs) = (1 - highR t r) * stR t rs + gotR t r := by
  have h1 := got_sum r t (stR t rs) r
  rw [h.one] at h1
  rw [stR]; unfold Sh
  rw [h1]; rfl
theorem stS_fold (t : Rat) : ∀ {rs : List Row}, (∀ r ∈ rs, ROk r) → ∀ s : Rat × Rat, (rs.foldl (stS t) s).1 = s.1 + s.2 * stR t rs
  | [], _, s => by rw [List.foldl_nil, stR]; grind
  | r :: rs, h, s => by
    rw [List.foldl_cons, stS_fold t fun y hy => h y (List.mem_cons_of_mem _ hy), stR_cons (h r List.mem_cons_self)]
    unfold stS; grind
def SB (D0 k E j : Nat) (s : Rat × Rat) : Prop := E ≠ 0 ∧ E ≤ 2 ^ (10 * j) ∧ VQ.Qn (D0 * E) (2 ^ (k + 24 * j)) s.1 ∧ VQ.Qn E (2 ^ (24 * j)) s.2
section
variable {D0 k E j : Nat} {r : Row} {t : Rat} {s : Rat × Rat}
theorem got_qn (hr : RowOk D0 k r) : VQ.Qn ((whole r).toNat * D0) (594 * 2 ^ k) (gotR t r) := by
  have h := VQ.Qn.sum (qs := (geR t r).map fun x => shareR r x * x.2) (D := (whole r).toNat * D0) (N := 99 * 2 ^ k) (by
    intro q h
    obtain ⟨x, hx, rfl⟩ := List.mem_map.mp h
    have hx := (List.mem_filter.mp hx).1
    exact (share_qn hr hx).mul (hr.q x hx))
  refine h.mono ?_
  rw [List.length_map]
  have h1 := List.length_filter_le (fun x : Int × Rat => !decide (x.2 < t)) r
  have h2 := hr.l6
  have : (geR t r).length ≤ 6 := by unfold geR; omega
  generalize 2 ^ k = P
  have := Nat.mul_le_mul_right (99 * P) this
  omega
theorem SB.next (hr : RowOk D0 k r) (h : SB D0 k E j s) : SB D0 k (E * (whole r).toNat) (j + 1) (stS t s r) := by
  obtain ⟨e0, hE, q1, q2⟩ := h
  have hw := hr.whole
  refine ⟨Nat.mul_ne_zero e0 (by omega), ?_, ?_, ?_⟩
  · rw [show 10 * (j + 1) = 10 * j + 10 by omega, Nat.pow_add]
    exact Nat.mul_le_mul hE (by omega)
  · have a := q1.up (whole r).toNat
    have b := q2.mul (got_qn (t := t) hr)
    rw [Nat.mul_assoc] at a
    rw [show E * ((whole r).toNat * D0) = D0 * (E * (whole r).toNat) by rw [← Nat.mul_assoc, Nat.mul_comm]] at b
    refine (a.add b).mono ?_
    rw [show k + 24 * (j + 1) = (k + 24 * j) + 24 by omega, Nat.pow_add 2 (k + 24 * j), show 2 ^ (24 * j) * (594 * 2 ^ k) = 2 ^ (k + 24 * j) * 594 by rw [Nat.pow_add]; simp only [Nat.mul_comm, Nat.mul_left_comm, Nat.mul_assoc]]
    have := Nat.mul_le_mul_left (2 ^ (k + 24 * j)) (show (whole r).toNat ≤ 594 by omega)
    generalize 2 ^ (k + 24 * j) = P at *
    omega
  · refine (q2.mul (low_qn (v := t) hr)).mono ?_
    rw [show 24 * (j + 1) = 24 * j + 24 by omega, Nat.pow_add]
    exact Nat.mul_le_mul_left _ (by decide)
theorem SB.zero : SB D0 k 1 0 (0, 1) := ⟨by decide, by decide, ⟨0, by simp, by simp⟩, ⟨1, by simp, by simp⟩⟩
theorem SB.fold : ∀ {rs : List Row} {E j : Nat} {s : Rat × Rat}, (∀ r ∈ rs, RowOk D0 k r) → SB D0 k E j s → ∃ E', SB D0 k E' (j + rs.length) (rs.foldl (stS t) s)
  | [], E, j, s, _, h => ⟨E, h⟩
  | r :: rs, E, j, s, hr, h => by
    obtain ⟨E', h'⟩ := SB.fold (rs := rs) (fun y hy => hr y (List.mem_cons_of_mem _ hy)) (h.next (t := t) (hr r List.mem_cons_self))
    rw [List.length_cons, List.foldl_cons, show j + (rs.length + 1) = j + 1 + rs.length by omega]
    exact ⟨E', h'⟩
theorem SB.sm (h : SB D0 k E j s) (hD : D0 ≠ 0) (hD2 : D0.log2 ≤ 2000) (hk : k ≤ 500) (hj : j ≤ 9) : VQ.Sm s.1 ∧ VQ.Sm s.2 := by
  obtain ⟨e0, hE, q1, q2⟩ := h
  have le : E.log2 ≤ 100 := by have := VQ.log2_mono hE; rw [pow_log] at this; omega
  have := VQ.log2_mul D0 E
  exact ⟨q1.sm (Nat.mul_ne_zero hD e0) (by omega) (by rw [pow_log]; omega), q2.sm e0 (by omega) (by rw [pow_log]; omega)⟩
end
theorem s_steady {n : Nat} (hn : 6 ≤ n) {D0 k : Nat} {rs : List Row} {d : D} {t : Rat} (hr : ∀ r ∈ rs, RowOk D0 k r) (hk1 : ∀ r ∈ rs, ROk r) (hl : rs.length ≤ 8) (hD : D0 ≠ 0) (hD2 : D0.log2 ≤ 2000) (hk : k ≤ 500) (ht : WorthD d t) (hs : VQ.Sm t) :
    callN L.T L.fs n 28 [.sh (offD rs), .sh d] = .ok (fr (stR t rs)) [.sh (offD rs), .sh d] := by
  refine call_at' (k := 5) hn e28 rfl fun n hn => ?_
  have ho : fldO L.T (.lf (offD rs)) 2 = some (.lf (.tup (rs.map rowD))) := by simp [offD]
  have hf := s_as_frac (n := n) (by omega) ht
  have hs1 : VQ.Sm 1 := VQ.sm_int (a := 1) (by decide)
  have hs0 : VQ.Sm 0 := VQ.sm_int (a := 0) (by decide)
  simp (disch := omega) [B28, callE_eq, hf, limN, ho]
  have e0 : stR t rs = (rs.foldl (stS t) (0, 1)).1 := by rw [stS_fold t hk1]; grind
  rw [e0]
  refine for_run (P := fun s => fin _ s = _) rowD rs (fun done ρ => ∃ t5 t6 t7 t8 t9 : S, ρ = [.sh (offD rs), .sh d, .sh (fr t), .sh (fr (done.foldl (stS t) (0, 1)).1), .sh (fr (done.foldl (stS t) (0, 1)).2), t5, t6, t7, t8, t9]) rfl ⟨.un, .un, .un, .un, .un, by simp⟩ ?st ?en
  case en =>
    rintro ρ' ⟨t5, t6, t7, t8, t9, rfl⟩
    simp
  case st =>
    rintro done r rest hx ρ ⟨t5, t6, t7, t8, t9, rfl⟩
    have hr1 : r ∈ rs := by rw [hx]; simp
    have hro := hr r hr1
    have hd1 : ∀ x ∈ done, RowOk D0 k x := fun x h => hr x (by rw [hx]; simp [h])
    have hdl : done.length + 1 ≤ 8 := by rw [hx, List.length_append, List.length_cons] at hl; omega
    obtain ⟨E, sb⟩ := SB.fold (t := t) hd1 (SB.zero (D0 := D0) (k := k))
    rw [Nat.zero_add] at sb
    rw [List.foldl_append, List.foldl_cons, List.foldl_nil]
    generalize done.foldl (stS t) (0, 1) = s at *
    have sb2 := sb.next (t := t) hro
    obtain ⟨m1, m2⟩ := sb.sm hD hD2 hk (by omega)
    obtain ⟨m3, m4⟩ := sb2.sm hD hD2 hk (by omega)
    have hw := hro.whole
    have hl6 := hro.l6
    have hsh := s_shares (n := n) (by omega) (r := r) (by omega) (by have := log_lt (a := (whole r).natAbs) (k := 10) (by omega) (by omega); omega) (by rw [limN]; omega)
    have lW : (whole r).toNat.log2 ≤ 10 := by
      have := log_lt (a := (whole r).toNat) (k := 11) (by omega) (by omega); omega
    have smx : ∀ x ∈ r, VQ.Sm x.2 := fun x hx => (hro.q x hx).sm hD (by omega) (by rw [pow_log]; omega)
    have smh : ∀ x ∈ r, VQ.Sm (shareR r x) := fun x hx => (share_qn hro hx).sm (by omega) (by omega) (by have := log_lt (a := 99) (k := 10) (by omega) (by omega); omega)
    have smg : VQ.Sm (gotR t r) := (got_qn hro).sm (Nat.mul_ne_zero (by omega) hD) (by have := VQ.log2_mul (whole r).toNat D0; omega) (by
      have := VQ.log2_mul 594 (2 ^ k)
      have := log_lt (a := 594) (k := 11) (by omega) (by omega)
      rw [pow_log] at *; omega)
    have sh1 : VQ.Sm (highR t r) := (high_qn hro).sm (by omega) (by omega) (by have := log_lt (a := 594) (k := 10) (by omega) (by omega); omega)
    have sh2 : VQ.Sm (1 - highR t r) := (low_qn hro).sm (by omega) (by omega) (by have := log_lt (a := 1188) (k := 11) (by omega) (by omega); omega)
    have hT1 := s_total (n := n) (by omega) (D0 := (whole r).toNat * D0) (N := 99 * 2 ^ k) ((geR t r).map fun x => shareR r x * x.2) (by
      intro q h
      obtain ⟨x, hx, rfl⟩ := List.mem_map.mp h
      have hx := (List.mem_filter.mp hx).1
      exact (share_qn hro hx).mul (hro.q x hx)) (Nat.mul_ne_zero (by omega) hD) (by have := VQ.log2_mul (whole r).toNat D0; omega) (by
        rw [List.length_map]
        have h1 := List.length_filter_le (fun x : Int × Rat => !decide (x.2 < t)) r
        have h2 : (geR t r).length ≤ 6 := by unfold geR; omega
        have h3 := VQ.log2_mul (geR t r).length (99 * 2 ^ k)
        have h4 := VQ.log2_mul 99 (2 ^ k)
        have h5 := log_lt (a := 99) (k := 10) (by omega) (by omega)
        have h6 := log_lt (a := (geR t r).length) (k := 10) (by omega) (by omega)
        rw [pow_log] at h4
        omega)
    have hT2 := s_total (n := n) (by omega) (D0 := (whole r).toNat) (N := 99) ((geR t r).map (shareR r)) (by
      intro q h
      obtain ⟨x, hx, rfl⟩ := List.mem_map.mp h
      exact share_qn hro (List.mem_filter.mp hx).1) (by omega) (by omega) (by
        rw [List.length_map]
        have h1 := List.length_filter_le (fun x : Int × Rat => !decide (x.2 < t)) r
        have h2 : (geR t r).length ≤ 6 := by unfold geR; omega
        have := log_lt (a := (geR t r).length * 99) (k := 10) (by omega) (by omega)
        omega)
    have eg : VQ.sumR ((geR t r).map fun x => shareR r x * x.2) = gotR t r := rfl
    have eh : VQ.sumR ((geR t r).map (shareR r)) = highR t r := rfl
    rw [eg, List.map_map] at hT1
    rw [eh, List.map_map] at hT2
    have hT1' : callN L.T L.fs n 14 [.sh (.lst ((geR t r).map fun x => fr (shareR r x * x.2)))] = .ok (fr (gotR t r)) [.sh (.lst ((geR t r).map fun x => fr (shareR r x * x.2)))] := hT1
    have hT2' : callN L.T L.fs n 14 [.sh (.lst ((geR t r).map fun x => fr (shareR r x)))] = .ok (fr (highR t r)) [.sh (.lst ((geR t r).map fun x => fr (shareR r x)))] := hT2
    have gl : (geR t r).length ≤ 16777216 := by
      have h1 := List.length_filter_le (fun x : Int × Rat => !decide (x.2 < t)) r
      unfold geR; omega
    have gin : ∀ x ∈ geR t r, x ∈ r := fun x hx => (List.mem_filter.mp hx).1
    refine ⟨[.sh (offD rs), .sh d, .sh (fr t), .sh (fr (stS t s r).1), .sh (fr (stS t s r).2), .sh (rowD r), .ow 0 (.lst ((geR t r).map fun x => .lf (.tup [fr (shareR r x), fr x.2]))), t7, t8, t9], ?_, ⟨_, _, _, _, _, rfl⟩⟩
    simp (disch := omega) [tuF, B28_1, callE_eq, hsh]
    rw [comp_filter (ι := Int × Rat) (v := fun x => .tup [fr (shareR r x), fr x.2]) (fun x => !decide (x.2 < t)) (fun x hx => by
      have := smx x hx
      by_cases hlt : x.2 < t <;> simp (disch := first | omega | assumption) [tuC, hlt, limN]) (by rw [limN]; omega)]
    have efl : (r.filter fun x => !decide (x.2 < t)) = geR t r := rfl
    rw [efl]
    have elf : O.leafs ((geR t r).map fun x => O.lf (.tup [fr (shareR r x), fr x.2])) = some ((geR t r).map fun x => .tup [fr (shareR r x), fr x.2]) := by
      have := leafs_map ((geR t r).map fun x => D.tup [fr (shareR r x), fr x.2])
      rw [List.map_map] at this
      exact this
    simp (disch := first | omega | assumption) [elf]
    rw [comp_map (ι := Int × Rat) (v := fun x => fr (shareR r x * x.2)) (fun x hx => by
      have := smx x (gin x hx)
      have := smh x (gin x hx)
      simp (disch := first | omega | assumption) [tuC]) (by rw [limN]; exact gl)]
    have hm1 : VQ.Sm (s.2 * gotR t r) := by
      have := sb2.2.2.1
      obtain ⟨e0, hE, q1, q2⟩ := sb
      have le : E.log2 ≤ 100 := by have := VQ.log2_mono hE; rw [pow_log] at this; omega
      have := VQ.log2_mul (whole r).toNat D0
      have := VQ.log2_mul E ((whole r).toNat * D0)
      have := VQ.log2_mul (2 ^ (24 * done.length)) (594 * 2 ^ k)
      have := VQ.log2_mul 594 (2 ^ k)
      have := log_lt (a := 594) (k := 11) (by omega) (by omega)
      refine (q2.mul (got_qn (t := t) hro)).sm (Nat.mul_ne_zero e0 (Nat.mul_ne_zero (by omega) hD)) (by omega) ?_
      simp only [pow_log] at *; omega
    simp (disch := first | omega | assumption) [callE_eq, hT1', elf]
    rw [comp_map (ι := Int × Rat) (v := fun x => fr (shareR r x)) (fun x hx => by
      simp (disch := first | omega | assumption) [tuC]) (by rw [limN]; exact gl)]
    simp (disch := first | omega | assumption) [callE_eq, hT2', elf, stS]

end LW
end

section
set_option Elab.async false
set_option linter.all false
set_option autoImplicit false
set_option maxRecDepth 100000
set_option maxHeartbeats 4000000
namespace LW
open RF RV

open VQ (Pr PB plusP minusP timesP lowP)
theorem s_half {n : Nat} (hn : 7 ≤ n) {D0 k : Nat} {rs : List Row} (hr : ∀ r ∈ rs, RowOk D0 k r) (hl : rs.length ≤ 8) (hD : D0 ≠ 0) (hD2 : D0.log2 ≤ 2000) (hk : k ≤ 500) (hs : VQ.Sm (seerR 1 rs)) :
    callN L.T L.fs n 29 [.sh (offD rs)] = .ok (fr (seerR 1 rs * Rat.divInt 1 2)) [.sh (offD rs)] := by
  refine call_at' (k := 6) hn e29 rfl fun n hn => ?_
  have h1 := s_seer (n := n) (by omega) hr hl (many := 1) (by omega) hD hD2 hk
  have h2 : VQ.Sm (Rat.divInt 1 2) := by
    have : VQ.Qn 2 1 (Rat.divInt 1 2) := VQ.Qn.divI (a := 1) (b := 2) (by decide) (by decide)
    exact this.sm (by decide) (by decide) (by decide)
  have h1' : callN L.T L.fs n 27 [.sh (offD rs), .sh (.int 1)] = .ok (fr (seerR 1 rs)) [.sh (offD rs), .sh (.int 1)] := h1
  have hmk := fun ρ => mk_frac (n := n) (by omega) (a := 1) (b := 2) (by decide) (by decide) ρ
  simp (disch := first | omega | assumption) [B29, callE_eq, h1', hmk, limN]
theorem s_quotient0 {n : Nat} (hn : 8 ≤ n) {D0 k : Nat} {rs : List Row} {many : Nat} (hr : ∀ r ∈ rs, RowOk D0 k r) (hl : rs.length ≤ 8) (hm : many ≤ 1000) (hD : D0 ≠ 0) (hD2 : D0.log2 ≤ 2000) (hk : k ≤ 500) (h0 : seerR many rs = 0) :
    callN L.T L.fs n 30 [.sh (offD rs), .sh (.int many)] = .ok .non [.sh (offD rs), .sh (.int many)] := by
  refine call_at' (k := 7) hn e30 rfl fun n hn => ?_
  have h1 := s_seer (n := n) (by omega) hr hl hm hD hD2 hk
  rw [h0] at h1
  simp [B30, callE_eq, h1]
/-! the law's ways -/
abbrev Way : Type := Rat × List Rat
def wayF (ws : List Way) (r : Row) : List Way := ws.flatMap fun p => r.map fun x => (p.1 * shareR r x, p.2 ++ [x.2])
def waysR (rs : List Row) : List Way := rs.foldl wayF [(1, [])]
def sumW (ws : List Way) (F : List Rat → Rat) : Rat := VQ.sumR (ws.map fun p => p.1 * F p.2)
theorem sumW_append (a b : List Way) (F : List Rat → Rat) : sumW (a ++ b) F = sumW a F + sumW b F := by
  unfold sumW; rw [List.map_append, VQ.sumR_append]
theorem sumW_step (r : Row) (F : List Rat → Rat) : ∀ ws : List Way, sumW (wayF ws r) F = sumW ws fun xs => Sh r fun x => F (xs ++ [x.2])
  | [] => rfl
  | p :: ws => by
    have ih := sumW_step r F ws
    unfold wayF at ih ⊢
    rw [List.flatMap_cons, sumW_append, ih]
    show _ = VQ.sumR ((p :: ws).map fun p => p.1 * Sh r fun x => F (p.2 ++ [x.2]))
    rw [List.map_cons, sumR_cons]
    congr 1
    unfold sumW Sh
    rw [List.map_map]
    have : ∀ s : Row, VQ.sumR (s.map ((fun p : Way => p.1 * F p.2) ∘ fun x => (p.1 * shareR r x, p.2 ++ [x.2]))) = p.1 * VQ.sumR (s.map fun x => shareR r x * F (p.2 ++ [x.2])) := by
      intro s
      induction s with
      | nil => simp [VQ.sumR]
      | cons x s ih => rw [List.map_cons, sumR_cons, ih, List.map_cons, sumR_cons]; simp only [Function.comp]; grind
    exact this r
theorem sumW_fold (F : List Rat → Rat) : ∀ (rs : List Row) (ws : List Way), sumW (rs.foldl wayF ws) F = sumW ws fun xs => Ew rs fun ys => F (xs ++ ys)
  | [], ws => by
    rw [List.foldl_nil]
    congr 1; funext xs
    show F xs = F (xs ++ [])
    rw [List.append_nil]
  | r :: rs, ws => by
    rw [List.foldl_cons, sumW_fold F rs, sumW_step]
    congr 1; funext xs
    rw [Ew]
    congr 1; funext x
    congr 1; funext ys
    rw [List.append_assoc]; rfl
theorem waysR_sum (rs : List Row) (F : List Rat → Rat) : sumW (waysR rs) F = Ew rs F := by
  unfold waysR
  rw [sumW_fold]
  show VQ.sumR [1 * Ew rs fun ys => F ([] ++ ys)] = _
  rw [sumR_cons, VQ.sumR_nil, Rat.add_zero, Rat.one_mul]
  rfl
structure WayOk (rs : List Row) (j : Nat) (p : Way) : Prop where
  l : p.2.length = j
  s : PB (4 * j) (3 * j) (lowP p.1) p.1
  x : ∀ q ∈ p.2, ∃ r ∈ rs, ∃ x ∈ r, q = x.2
theorem wayF_ok {rs : List Row} {j : Nat} {r : Row} (hr : LOk r) (hin : r ∈ rs) {ws : List Way} (h : ∀ p ∈ ws, WayOk rs j p) : ∀ p ∈ wayF ws r, WayOk rs (j + 1) p := by
  intro p hp
  obtain ⟨q, hq, hp⟩ := List.mem_flatMap.mp hp
  obtain ⟨x, hx, rfl⟩ := List.mem_map.mp hp
  have k := h q hq
  refine ⟨by rw [List.length_append, k.l]; rfl, (k.s.times (hr.share hx) (by omega) (by omega)).low, fun y hy => ?_⟩
  rcases List.mem_append.mp hy with hy | hy
  · exact k.x y hy
  · exact ⟨r, hin, x, hx, List.mem_singleton.mp hy⟩
theorem wayF_len {r : Row} (h3 : r.length ≤ 3) : ∀ ws : List Way, (wayF ws r).length ≤ 3 * ws.length
  | [] => Nat.zero_le _
  | p :: ws => by
    have ih := wayF_len h3 ws
    unfold wayF at ih ⊢
    rw [List.flatMap_cons, List.length_append, List.length_map, List.length_cons]; omega
theorem ways_ok {R : List Row} : ∀ {rs : List Row} {j : Nat} {ws : List Way}, (∀ r ∈ rs, LOk r ∧ r ∈ R) → (∀ p ∈ ws, WayOk R j p) → (∀ p ∈ rs.foldl wayF ws, WayOk R (j + rs.length) p) ∧ (rs.foldl wayF ws).length ≤ 3 ^ rs.length * ws.length
  | [], j, ws, _, h => ⟨h, by simp⟩
  | r :: rs, j, ws, hr, h => by
    obtain ⟨a, b⟩ := hr r List.mem_cons_self
    obtain ⟨h1, h2⟩ := ways_ok (rs := rs) (fun y hy => hr y (List.mem_cons_of_mem _ hy)) (wayF_ok a b h)
    rw [List.foldl_cons, List.length_cons, show j + (rs.length + 1) = j + 1 + rs.length by omega]
    refine ⟨h1, Nat.le_trans h2 ?_⟩
    rw [Nat.pow_succ, Nat.mul_assoc]
    exact Nat.mul_le_mul_left _ (wayF_len a.l3 ws)
def wayD (p : Way) : D := .tup [lowD p.1, .lst (p.2.map lowD)]
def wayI (o of_ : S) (F : List Way) (r : Row) (p : Way) (G : List Way) (done : Row) (ρ : Env) : Prop := ∃ t6 t7 : S, ρ = [o, .sh (.lst (F.map wayD)), of_, .ow 0 (.lst ((G ++ done.map fun x => (p.1 * shareR r x, p.2 ++ [x.2])).map fun p => .lf (wayD p))), .sh (lowD p.1), .sh (.lst (p.2.map lowD)), t6, t7]
theorem way_item {n : Nat} (hn : 3 ≤ n) {R : List Row} {j : Nat} {o : S} {F G : List Way} {r : Row} (hr : LOk r) {p : Way} (hp : WayOk R j p) (hj : j ≤ 6) (hG : G.length ≤ 3000) {done : Row} {x : Int × Rat} (hx : x ∈ r) (hd : done.length ≤ 3) {ρ : Env} (h : wayI o (.sh (lofD r)) F r p G done ρ) :
    StepP (wayI o (.sh (lofD r)) F r p G (done ++ [x])) (tuF L.T (callN L.T L.fs n) (Tg.tp [6, 7]) B49_1 (itemD x) ρ) := by
  obtain ⟨t6, t7, rfl⟩ := h
  have e1 := s_times (n := n) (by omega) hp.s (hr.share hx) (by omega) (by omega)
  have tb := hp.s.times (D := 28) (E := 21) (hr.share hx) (by omega) (by omega)
  have e2 := s_low (n := n) (by omega) tb (by decide)
  have lr := fun (b : D) => lookA b (.int (whole r))
  have e0 : pD (x.1, whole r) = .tup [.int x.1, .int (whole r)] := rfl
  rw [pD_low, e0] at e1
  have hl := hp.l
  have gl : (G ++ done.map fun x => (p.1 * shareR r x, p.2 ++ [x.2])).length < 16777216 := by rw [List.length_append, List.length_map]; omega
  have hlim : p.2.length + 1 ≤ 16777216 := by omega
  refine ⟨[o, .sh (.lst (F.map wayD)), .sh (lofD r), .ow 0 (.lst ((G ++ (done ++ [x]).map fun x => (p.1 * shareR r x, p.2 ++ [x.2])).map fun p => .lf (wayD p))), .sh (lowD p.1), .sh (.lst (p.2.map lowD)), .sh (.int x.1), .sh (lowD x.2)], ?_, _, _, rfl⟩
  rw [List.map_append (l₁ := done), ← List.append_assoc]
  generalize G ++ done.map (fun x => (p.1 * shareR r x, p.2 ++ [x.2])) = M at *
  simp (disch := omega) [-getElem?_pos, tuF, B49_1, itemD, callE_eq, e1, e2, lofD, lr, limN, gl, hlim, wayD]
def waysI (o of_ : S) (F : List Way) (r : Row) (done : List Way) (ρ : Env) : Prop := ∃ t4 t5 t6 t7 : S, ρ = [o, .sh (.lst (F.map wayD)), of_, .ow 0 (.lst ((wayF done r).map fun p => .lf (wayD p))), t4, t5, t6, t7]
theorem ways_item {n : Nat} (hn : 3 ≤ n) {R : List Row} {j : Nat} {o : S} {F : List Way} {r : Row} (hr : LOk r) (hj : j ≤ 6) {done : List Way} {p : Way} (hp : WayOk R j p) (hd : done.length ≤ 800) {ρ : Env} (h : waysI o (.sh (lofD r)) F r done ρ) :
    StepP (waysI o (.sh (lofD r)) F r (done ++ [p])) (tuF L.T (callN L.T L.fs n) (Tg.tp [4, 5]) B49_2 (wayD p) ρ) := by
  obtain ⟨t4, t5, t6, t7, rfl⟩ := h
  have hG := wayF_len hr.l3 done
  have lr := fun (b : List D) => lookR (D.lst b) (.int (whole r))
  have r3 := hr.l3
  have ew : wayF (done ++ [p]) r = wayF done r ++ r.map fun x => (p.1 * shareR r x, p.2 ++ [x.2]) := by unfold wayF; rw [List.flatMap_append]; simp
  unfold waysI
  rw [ew]
  generalize wayF done r = G at *
  have hb : tuF L.T (callN L.T L.fs n) (Tg.tp [4, 5]) B49_2 (wayD p) [o, .sh (.lst (F.map wayD)), .sh (lofD r), .ow 0 (.lst (G.map fun p => .lf (wayD p))), t4, t5, t6, t7] = seqP (loopF (tuF L.T (callN L.T L.fs n) (Tg.tp [6, 7]) B49_1) (r.map itemD) [o, .sh (.lst (F.map wayD)), .sh (lofD r), .ow 0 (.lst (G.map fun p => .lf (wayD p))), .sh (lowD p.1), .sh (.lst (p.2.map lowD)), t6, t7]) (fun ρ' => evB L.T (callN L.T L.fs n) Sms.nil ρ') .mk := by
    simp (disch := omega) [tuF, B49_2, wayD, lofD, lr, limN]
  rw [hb]
  refine for_run (P := StepP _) itemD r (wayI o (.sh (lofD r)) F r p G) rfl ⟨t6, t7, by rw [List.map_nil, List.append_nil]⟩ (fun d2 x r2 hd2 ρ hρ => way_item hn hr hp hj (by omega) (by rw [hd2]; simp) (by
    have := congrArg List.length hd2
    rw [List.length_append, List.length_cons] at this; omega) hρ) ?_
  rintro ρ' ⟨t6, t7, rfl⟩
  refine ⟨[o, .sh (.lst (F.map wayD)), .sh (lofD r), .ow 0 (.lst ((G ++ r.map fun x => (p.1 * shareR r x, p.2 ++ [x.2])).map fun p => .lf (wayD p))), .sh (lowD p.1), .sh (.lst (p.2.map lowD)), t6, t7], by simp, _, _, _, _, rfl⟩

end LW
end

section
set_option Elab.async false
set_option linter.all false
set_option autoImplicit false
set_option maxRecDepth 100000
set_option maxHeartbeats 4000000
namespace LW
open RF RV

open VQ (Pr PB plusP minusP timesP lowP)
def waysO (rs : List Row) (done : List Row) (ρ : Env) : Prop := ∃ t2 t3 t4 t5 t6 t7 : S, ρ = [.sh (.lst (rs.map lofD)), .ow 0 (.lst ((waysR done).map fun p => .lf (wayD p))), t2, t3, t4, t5, t6, t7]
theorem leafs_fun {ι : Type} (f : ι → D) (xs : List ι) : O.leafs (xs.map fun x => .lf (f x)) = some (xs.map f) := by
  have := leafs_map (xs.map f)
  rw [List.map_map] at this
  exact this
theorem frzs_fun {ι : Type} (f : ι → D) (xs : List ι) : O.frzs (xs.map fun x => .lf (f x)) = xs.map f := by
  have := frzs_map (xs.map f)
  rw [List.map_map] at this
  exact this
theorem pow_le3 {k : Nat} (h : k ≤ 5) : 3 ^ k ≤ 243 := Nat.le_trans (Nat.pow_le_pow_right (by decide) h) (by decide)
theorem waysR_ok {R : List Row} {rs : List Row} (hr : ∀ r ∈ rs, LOk r ∧ r ∈ R) (hl : rs.length ≤ 5) : (∀ p ∈ waysR rs, WayOk R rs.length p) ∧ (waysR rs).length ≤ 243 := by
  obtain ⟨h1, h2⟩ := ways_ok (R := R) (rs := rs) (j := 0) (ws := [(1, [])]) hr (fun p hp => by
    rw [List.mem_singleton.mp hp]
    exact ⟨rfl, (PB.int (a := 1) (e := 0) (by decide)), fun _ m => nomatch m⟩)
  rw [Nat.zero_add] at h1
  rw [List.length_singleton, Nat.mul_one] at h2
  exact ⟨h1, Nat.le_trans h2 (pow_le3 hl)⟩
theorem ways_step {n : Nat} (hn : 3 ≤ n) {rs : List Row} (hr : ∀ r ∈ rs, LOk r) {done : List Row} {r : Row} (hin : r ∈ rs) (hd : ∀ x ∈ done, x ∈ rs) (hl : done.length ≤ 4) {ρ : Env} (h : waysO rs done ρ) :
    StepP (waysO rs (done ++ [r])) (tuF L.T (callN L.T L.fs n) (Tg.nm 2) B49_3 (lofD r) ρ) := by
  obtain ⟨t2, t3, t4, t5, t6, t7, rfl⟩ := h
  obtain ⟨h1, h2⟩ := waysR_ok (R := rs) (rs := done) (fun x hx => ⟨hr x (hd x hx), hd x hx⟩) (by omega)
  have ew : waysR (done ++ [r]) = wayF (waysR done) r := by unfold waysR; rw [List.foldl_append]; rfl
  unfold waysO
  rw [ew]
  generalize waysR done = F at *
  have hF := frzs_fun wayD F
  have hF2 := leafs_fun wayD F
  have hb : tuF L.T (callN L.T L.fs n) (Tg.nm 2) B49_3 (lofD r) [.sh (.lst (rs.map lofD)), .ow 0 (.lst (F.map fun p => .lf (wayD p))), t2, t3, t4, t5, t6, t7] = seqP (loopF (tuF L.T (callN L.T L.fs n) (Tg.tp [4, 5]) B49_2) (F.map wayD) [.sh (.lst (rs.map lofD)), .sh (.lst (F.map wayD)), .sh (lofD r), .ow 0 (.lst ([].map fun p => .lf (wayD p))), t4, t5, t6, t7]) (fun ρ' => evB L.T (callN L.T L.fs n) (Sms.cons (Sm.own 1 (Nx.lof (Px.pk 3))) Sms.nil) ρ') .mk := by
    simp (disch := omega) [tuF, B49_3, limN, hF]
  rw [hb]
  refine for_run (P := StepP _) wayD F (waysI (.sh (.lst (rs.map lofD))) (.sh (lofD r)) F r) rfl ⟨t4, t5, t6, t7, rfl⟩ (fun d2 p r2 hd2 ρ hρ => ways_item hn (hr r hin) (by omega) (h1 p (by rw [hd2]; simp)) (by
    have := congrArg List.length hd2
    rw [List.length_append, List.length_cons] at this; omega) hρ) ?_
  rintro ρ' ⟨t4, t5, t6, t7, rfl⟩
  have hG := leafs_fun wayD (wayF F r)
  refine ⟨[.sh (.lst (rs.map lofD)), .ow 0 (.lst ((wayF F r).map fun p => .lf (wayD p))), .sh (lofD r), .ow 0 (.lst ((wayF F r).map fun p => .lf (wayD p))), t4, t5, t6, t7], ?_, _, _, _, _, _, _, rfl⟩
  simp (disch := omega) [hG, Function.comp_def]
theorem s_ways {n : Nat} (hn : 4 ≤ n) {rs : List Row} (hr : ∀ r ∈ rs, LOk r) (hl : rs.length ≤ 5) : callN L.T L.fs n 49 [.sh (.lst (rs.map lofD))] = .ok (.lst ((waysR rs).map wayD)) [.sh (.lst (rs.map lofD))] := by
  refine call_at' (k := 3) hn e49 rfl fun n hn => ?_
  simp (disch := omega) [B49, limN]
  refine for_run (P := fun s => fin _ s = _) lofD rs (waysO rs) rfl ⟨.un, .un, .un, .un, .un, .un, rfl⟩ (fun done r rest hd ρ hρ => ways_step hn hr (by rw [hd]; simp) (fun x hx => by rw [hd]; simp [hx]) (by
    have := congrArg List.length hd
    rw [List.length_append, List.length_cons] at this; omega) hρ) ?_
  rintro ρ' ⟨t2, t3, t4, t5, t6, t7, rfl⟩
  have hF := frzs_fun wayD (waysR rs)
  simp [hF]
/-! the law's top -/
theorem sIx_some {n d : Nat} {v : Int} (h : 0 ≤ v) : sIx n d (some v) = min v.toNat n := by
  show (if v < 0 then _ else _) = _
  rw [if_neg (by omega)]
theorem cut_take {α : Type} (xs : List α) {b : Nat} (h : b ≤ xs.length) : RF.cut xs none (some (b : Int)) = xs.take b := by
  unfold RF.cut
  rw [sIx_some (by omega), show sIx xs.length 0 none = 0 from rfl, List.drop_zero, Nat.sub_zero, Int.toNat_natCast, Nat.min_eq_left h]
theorem cut_drop {α : Type} (xs : List α) {b : Nat} (h : b ≤ xs.length) : RF.cut xs (some (b : Int)) none = xs.drop b := by
  unfold RF.cut
  rw [sIx_some (by omega), show sIx xs.length xs.length none = xs.length from rfl, Int.toNat_natCast, Nat.min_eq_left h]
  exact List.take_of_length_le (by simp)
def SlL (s : S) (xs : List Rat) : Prop := s = .ow 0 (.lst (xs.map fun q => .lf (lowD q))) ∨ s = .sh (.lst (xs.map lowD))
def topI (o m s2 t3 t4 : S) (xs : List Rat) (done : List Nat) (ρ : Env) : Prop := ∃ t6 : S, ρ = [o, m, s2, t3, t4, .sh (.int (bestF xs done : Nat)), t6] ∧ bestF xs done < xs.length
theorem top_look {n : Nat} (hn : 1 ≤ n) {o m s2 t3 t4 : S} {xs : List Rat} (h2 : SlL s2 xs) (hx : ∀ q ∈ xs, PB 3 5 (lowP q) q) (hl : xs.length ≤ 100) {done : List Nat} {i : Nat} (hi : i < xs.length) {ρ : Env} (h : topI o m s2 t3 t4 xs done ρ) :
    StepP (topI o m s2 t3 t4 xs (done ++ [i])) (tuF L.T (callN L.T L.fs n) (Tg.nm 6) B50_1 (.int (i : Nat)) ρ) := by
  obtain ⟨t6, rfl, hb⟩ := h
  have g1 := getD_some (later := xs) hb
  have g2 := getD_some (later := xs) hi
  have p1 := hx _ (List.mem_of_getElem? g1)
  have p2 := hx _ (List.mem_of_getElem? g2)
  have e1 := s_below (n := n) (by omega) p1 p2 (by decide) (by decide)
  rw [pD_low, pD_low] at e1
  have l1 : (xs.map lowD)[bestF xs done]? = some (lowD (xs.getD (bestF xs done) 0)) := by rw [List.getElem?_map, g1]; rfl
  have l2 : (xs.map lowD)[i]? = some (lowD (xs.getD i 0)) := by rw [List.getElem?_map, g2]; rfl
  have k1 : (xs.map fun q => O.lf (lowD q))[bestF xs done]? = some (.lf (lowD (xs.getD (bestF xs done) 0))) := by rw [List.getElem?_map, g1]; rfl
  have k2 : (xs.map fun q => O.lf (lowD q))[i]? = some (.lf (lowD (xs.getD i 0))) := by rw [List.getElem?_map, g2]; rfl
  unfold topI
  unfold SlL at h2
  rw [bestF_snoc]
  generalize bestF xs done = b at *
  refine ⟨_, ?_, .sh (.int (i : Nat)), rfl, by split <;> assumption⟩
  generalize lowD (xs.getD b 0) = u at *
  generalize lowD (xs.getD i 0) = v at *
  generalize xs.map lowD = L at *
  generalize (xs.map fun q => O.lf (lowD q)) = L2 at *
  by_cases z : xs.getD b 0 < xs.getD i 0
  · rw [if_pos z]
    rw [decide_eq_true z] at e1
    rcases h2 with rfl | rfl <;> simp (disch := omega) [-getElem?_pos, -List.getElem?_map, tuF, B50_1, callE_eq, e1, l1, l2, k1, k2]
  · rw [if_neg z]
    rw [decide_eq_false z] at e1
    rcases h2 with rfl | rfl <;> simp (disch := omega) [-getElem?_pos, -List.getElem?_map, tuF, B50_1, callE_eq, e1, l1, l2, k1, k2]
/-- what is left and what was taken -/
def topsI (o m : S) (ws : List Rat) (K : Nat) (xs : List Rat) (done : List Nat) (ρ : Env) : Prop := ∃ (left : List Rat) (p : Pr) (q : Rat) (s2 t4 t5 t6 : S), ρ = [o, m, s2, .sh (pD p), t4, t5, t6] ∧ SlL s2 left ∧
  left.length + done.length = xs.length ∧ (∀ q ∈ left, q ∈ xs) ∧ PB (3 * done.length) (9 * done.length) p q ∧ q + tpL ws (K - done.length) left = tpL ws K xs
theorem top_step {n : Nat} (hn : 2 ≤ n) {o m : S} {ws : List Rat} (u : Up 0 ws) {K : Nat} {xs : List Rat} (hw : ∀ q ∈ xs, q ∈ ws) (hx : ∀ q ∈ xs, PB 3 5 (lowP q) q) (hl : xs.length ≤ 6) (hK : K ≤ xs.length) {done : List Nat} {i : Nat} (hd : done.length < K) {ρ : Env} (h : topsI o m ws K xs done ρ) :
    StepP (topsI o m ws K xs (done ++ [i])) (tuF L.T (callN L.T L.fs n) (Tg.nm 4) B50_2 (.int (i : Nat)) ρ) := by
  obtain ⟨left, p, q, s2, t4, t5, t6, rfl, h2, hlen, hin, hp, hq⟩ := h
  have go : tuF L.T (callN L.T L.fs n) (Tg.nm 4) B50_2 (.int (i : Nat)) [o, m, s2, .sh (pD p), t4, t5, t6] = seqP (loopF (tuF L.T (callN L.T L.fs n) (Tg.nm 6) B50_1) ((List.range left.length).map fun i => .int (i : Nat)) [o, m, s2, .sh (pD p), .sh (.int (i : Nat)), .sh (.int (0 : Nat)), t6]) (fun ρ' => evB L.T (callN L.T L.fs n) (Sms.cons (Sm.set 3 (Ex.call 35 2 (As.sh (Ex.var 3) (As.sh (Ex.rd (Px.sub (Px.pk 2) (Ex.var 5))) As.nil)))) (Sms.cons (Sm.set 2 (Ex.bin Bop.add (Ex.slc (Px.pk 2) Ox.none (Ox.some (Ex.var 5))) (Ex.slc (Px.pk 2) (Ox.some (Ex.bin Bop.add (Ex.var 5) (Ex.cst (D.int 1)))) Ox.none))) Sms.nil)) ρ') .mk := by
    rcases h2 with rfl | rfl <;> simp (disch := omega) [tuF, B50_2, limN]
  rw [go]
  have hpos : 0 < left.length := by omega
  refine for_run (P := StepP _) (fun i : Nat => D.int (i : Nat)) (List.range left.length) (topI o m s2 (.sh (pD p)) (.sh (.int (i : Nat))) left) rfl ⟨t6, rfl, hpos⟩ (fun d2 k r2 hd2 ρ hρ => top_look (by omega) h2 (fun q hq => hx q (hin q hq)) (by omega) (range_split hd2).2 hρ) ?_
  rintro ρ' ⟨t6, rfl, hb⟩
  obtain ⟨g1, g2⟩ := bestF_all hpos
  generalize bestF left (List.range left.length) = b at *
  have px := hx _ (hin _ (List.mem_of_getElem? g1))
  have ht := tpL_best u (K - done.length - 1) g1 (hw _ (hin _ (List.mem_of_getElem? g1))) g2
  rw [show K - done.length - 1 + 1 = K - done.length by omega] at ht
  generalize hv : left.getD b 0 = v at *
  have e1 := s_plus (n := n) (by omega) hp px (by omega) (by omega) (by omega)
  have pb := hp.plus (D := 3 * (done.length + 1)) (E := 9 * (done.length + 1)) px (by omega) (by omega) (by omega)
  rw [pD_low] at e1
  have l1 : (left.map lowD)[b]? = some (lowD v) := by rw [List.getElem?_map, g1]; rfl
  have k1 : (left.map fun q => O.lf (lowD q))[b]? = some (.lf (lowD v)) := by rw [List.getElem?_map, g1]; rfl
  have hlf := leafs_fun lowD left
  have c1 : RF.cut (left.map lowD) none (some (b : Int)) = (left.take b).map lowD := by rw [cut_take _ (by rw [List.length_map]; omega), List.map_take]
  have c2 : RF.cut (left.map lowD) (some ((b : Int) + 1)) none = (left.drop (b + 1)).map lowD := by
    rw [show ((b : Int) + 1) = ((b + 1 : Nat) : Int) by omega, cut_drop _ (by rw [List.length_map]; omega), List.map_drop]
  have hlim : b + (left.length - (b + 1)) ≤ 16777216 := by omega
  refine ⟨[o, m, .sh (.lst ((left.take b ++ left.drop (b + 1)).map lowD)), .sh (pD (plusP p (lowP v))), .sh (.int (i : Nat)), .sh (.int (b : Nat)), t6], ?_, left.take b ++ left.drop (b + 1), plusP p (lowP v), q + v, _, _, _, _, rfl, .inr rfl, ?_, ?_, ?_, ?_⟩
  · rw [List.map_append]

    rcases h2 with rfl | rfl <;> simp (disch := omega) [-getElem?_pos, -List.getElem?_map, callE_eq, e1, l1, k1, hlf, slcO, c1, c2, limN, hlim]
  · rw [List.length_append, List.length_take, List.length_drop, List.length_append, List.length_singleton]; omega
  · intro y hy
    rcases List.mem_append.mp hy with hy | hy
    · exact hin y (List.mem_of_mem_take hy)
    · exact hin y (List.mem_of_mem_drop hy)
  · rw [List.length_append, List.length_singleton]; exact pb
  · rw [List.length_append, List.length_singleton, ← hq, ← ht, show K - (done.length + 1) = K - done.length - 1 by omega]
    grind
def TopP (ws : List Rat) (m : Nat) (xs : List Rat) (z : FR) : Prop := ∃ p, z = .ok (pD p) [.sh (.lst (xs.map lowD)), .sh (.int m)] ∧ PB 15 45 p (tpL ws m xs)
theorem s_top {n : Nat} (hn : 3 ≤ n) {ws : List Rat} (u : Up 0 ws) {m : Nat} {xs : List Rat} (hw : ∀ q ∈ xs, q ∈ ws) (hx : ∀ q ∈ xs, PB 3 5 (lowP q) q) (hl : xs.length ≤ 5) (hm : m ≤ 1000) : TopP ws m xs (callN L.T L.fs n 50 [.sh (.lst (xs.map lowD)), .sh (.int m)]) := by
  refine call_ex (k := 2) hn e50 rfl fun n hn => ?_
  have e3 : (if (xs.length : Int) < (m : Int) then (xs.length : Int) else (m : Int)) = ((min m xs.length : Nat) : Int) := by split <;> omega
  have e4 : small ((min m xs.length : Nat) : Int) = true := small_true ⟨by omega, by omega⟩
  have e5 : (if xs.length < m then (xs.length : Int) else (m : Int)).toNat = min m xs.length := by split <;> omega
  simp only [B50]
  have go : evB L.T (callN L.T L.fs n) B50.body (RF.start B50 [.sh (.lst (xs.map lowD)), .sh (.int m)]) = seqP (loopF (tuF L.T (callN L.T L.fs n) (Tg.nm 4) B50_2) ((List.range (min m xs.length)).map fun i => .int (i : Nat)) [.sh (.lst (xs.map lowD)), .sh (.int m), .ow 0 (.lst (xs.map fun q => .lf (lowD q))), .sh (.tup [.int 0, .int 1]), .un, .un, .un]) (fun ρ' => evB L.T (callN L.T L.fs n) (Sms.cons (Sm.ret (Ex.var 3)) Sms.nil) ρ') .mk := by
    simp (disch := omega) [B50, limN, e3, e4, e5, Function.comp_def]
  have go2 := go
  simp only [B50] at go2
  rw [go2]
  refine for_run (P := fun s => TopP ws m xs (fin _ s)) (fun i : Nat => D.int (i : Nat)) (List.range (min m xs.length)) (topsI (.sh (.lst (xs.map lowD))) (.sh (.int m)) ws (min m xs.length) xs) rfl ⟨xs, (0, 1), 0, _, .un, .un, .un, rfl, .inl rfl, by simp, fun q h => h, PB.zero, by rw [Rat.zero_add]; rfl⟩ (fun d2 k r2 hd2 ρ hρ => top_step hn u hw hx (by omega) (by omega) (by have := range_split hd2; omega) hρ) ?_
  rintro ρ' ⟨left, p, q, s2, t4, t5, t6, rfl, h2, hlen, hin, hp, hq⟩
  rw [List.length_range] at hp hq hlen
  rw [Nat.sub_self, tpL_zero, Rat.add_zero, tpL_min] at hq
  rw [hq] at hp
  refine ⟨p, by simp, hp.mono (by omega) (by omega)⟩

end LW
end

section
set_option Elab.async false
set_option linter.all false
set_option autoImplicit false
set_option maxRecDepth 100000
set_option maxHeartbeats 4000000
namespace LW
open RF RV

open VQ (Pr PB plusP minusP timesP lowP)
/-! the law's seer -/
def seerI (o m : S) (F : List Rat → Rat) (done : List Way) (ρ : Env) : Prop := ∃ (t3 t4 : S), ρ = [o, m, .sh (lowD (sumW done F)), t3, t4] ∧ PB (35 * done.length) (80 * done.length) (lowP (sumW done F)) (sumW done F)
theorem seer_step {n : Nat} (hn : 4 ≤ n) {o : S} {rs : List Row} (hr : ∀ r ∈ rs, LOk r) {ws : List Rat} (u : Up 0 ws) {m j : Nat} (hm : m ≤ 1000) (hj : j ≤ 5) {done : List Way} {w : Way} (hw : WayOk rs j w) (hin : ∀ q ∈ w.2, q ∈ ws) (hd : done.length ≤ 242) {ρ : Env} (h : seerI o (.sh (.int m)) (tpL ws m) done ρ) :
    StepP (seerI o (.sh (.int m)) (tpL ws m) (done ++ [w])) (tuF L.T (callN L.T L.fs n) (Tg.tp [3, 4]) B51_1 (wayD w) ρ) := by
  obtain ⟨t3, t4, rfl, hp⟩ := h
  obtain ⟨p2, e1, h2⟩ := s_top (n := n) (by omega) u (m := m) (xs := w.2) hin (fun q hq => by
    obtain ⟨r, h1, x, h3, rfl⟩ := hw.x q hq
    exact ((hr r h1).x x h3).pb) (by rw [hw.l]; omega) hm
  have b1 := hw.s.times (D := 35) (E := 60) h2 (by omega) (by omega)
  have e2 := s_times (n := n) (by omega) hw.s h2 (by omega) (by omega)
  have e3 := s_plus (n := n) (by omega) hp b1 (by omega) (by omega) (by omega)
  have b2 := hp.plus (D := 35 * (done.length + 1)) (E := 80 * (done.length + 1)) b1 (by omega) (by omega) (by omega)
  have e4 := s_low (n := n) (by omega) b2 (by omega)
  have es : sumW (done ++ [w]) (tpL ws m) = sumW done (tpL ws m) + w.1 * tpL ws m w.2 := by
    rw [sumW_append]; congr 1
    show VQ.sumR [w.1 * tpL ws m w.2] = _
    rw [sumR_cons, VQ.sumR_nil, Rat.add_zero]
  rw [← es] at b2 e4
  rw [pD_low] at e2 e3
  refine ⟨_, ?_, .sh (lowD w.1), .sh (.lst (w.2.map lowD)), rfl, by rw [List.length_append, List.length_singleton]; exact b2.low⟩
  simp (disch := omega) [tuF, B51_1, wayD, callE_eq, e1, e2, e3, e4]
def LSeerP (m : Nat) (rs : List Row) (z : FR) : Prop := z = .ok (lowD (seerR m rs)) [.sh (.lst (rs.map lofD)), .sh (.int m)] ∧ PB 8600 19600 (lowP (seerR m rs)) (seerR m rs)
theorem s_lseer {n : Nat} (hn : 5 ≤ n) {rs : List Row} (hr : ∀ r ∈ rs, LOk r) (hl : rs.length ≤ 5) {m : Nat} (hm : m ≤ 1000) :
    LSeerP m rs (callN L.T L.fs n 51 [.sh (.lst (rs.map lofD)), .sh (.int m)]) := by
  have hk : ∀ r ∈ rs, ROk r := fun r h => (hr r h).rok
  obtain ⟨w1, w2⟩ := waysR_ok (R := rs) (rs := rs) (fun r h => ⟨hr r h, h⟩) hl
  have hs : sumW (waysR rs) (tpL (wsA rs) m) = seerR m rs := by rw [waysR_sum, seer_Ew' hk]
  refine call_ex (k := 4) hn e51 rfl fun n hn => ?_
  have hw := s_ways (n := n) (by omega) hr hl
  simp (disch := omega) [B51, callE_eq, hw, limN]
  refine for_run (P := fun s => LSeerP m rs (fin _ s)) wayD (waysR rs) (seerI (.sh (.lst (rs.map lofD))) (.sh (.int m)) (tpL (wsA rs) m)) rfl ⟨.un, .un, rfl, PB.zero⟩ (fun d2 w r2 hd2 ρ hρ => seer_step hn hr (wsA_up rs) hm hl (w1 w (by rw [hd2]; simp)) (fun q hq => by
    obtain ⟨r, h1, x, h3, rfl⟩ := (w1 w (by rw [hd2]; simp)).x q hq
    exact wsA_in hk r h1 x h3) (by
    have := congrArg List.length hd2
    rw [List.length_append, List.length_cons] at this; omega) hρ) ?_
  rintro ρ' ⟨t3, t4, rfl, hp⟩
  rw [hs] at hp ⊢
  exact ⟨by simp, hp.mono (by omega) (by omega)⟩
theorem seer_pb {rs : List Row} (hr : ∀ r ∈ rs, LOk r) (hl : rs.length ≤ 5) {m : Nat} (hm : m ≤ 1000) : PB 8600 19600 (lowP (seerR m rs)) (seerR m rs) := (s_lseer (n := 5) (by omega) hr hl hm).2
/-! the law's steady earner -/
def ltW (t : Rat) (r : Row) : Int := (r.map fun x => if x.2 < t then x.1 else 0).sum
theorem whole_split (t : Rat) : ∀ r : Row, whole r = ltW t r + whole (geR t r)
  | [] => rfl
  | x :: r => by
    have ih := whole_split t r
    unfold whole ltW geR at *
    rw [List.map_cons, List.sum_cons, List.map_cons, List.sum_cons]
    by_cases z : x.2 < t
    · rw [List.filter_cons_of_neg (by simp [z]), if_pos z]; omega
    · rw [List.filter_cons_of_pos (by simp [z]), if_neg z, List.map_cons, List.sum_cons]; omega
theorem low_ratio {r : Row} (h : ROk r) (t : Rat) : 1 - highR t r = Rat.divInt (ltW t r) (whole r) := by
  have hw := h.whole
  have h1 := sum_ratio (whole r) hw (geR t r)
  have h2 : highR t r = Rat.divInt (whole (geR t r)) (whole r) := h1
  have h3 := whole_split t r
  have h4 : ltW t r = whole r - whole (geR t r) := by omega
  rw [h2, h4, Rat.divInt_eq_div, Rat.divInt_eq_div, Rat.intCast_sub, Rat.div_def, Rat.div_def]
  have hp := Rat.intCast_pos.mpr hw
  have := Rat.mul_inv_cancel (whole r : Rat) (by grind)
  grind
theorem ltW_le {t : Rat} : ∀ {r : Row}, (∀ x ∈ r, LX x) → 0 ≤ ltW t r ∧ ltW t r ≤ 5 * r.length
  | [], _ => by simp [ltW]
  | x :: r, h => by
    have ih := ltW_le (t := t) (r := r) fun y hy => h y (List.mem_cons_of_mem _ hy)
    have h1 := (h x List.mem_cons_self).w1
    have h2 := (h x List.mem_cons_self).w5
    unfold ltW at *
    rw [List.map_cons, List.sum_cons, List.length_cons]
    split <;> omega
def stdV (t : Rat) (r : Row) (f q : Rat) (done : Row) : Rat := f + q * VQ.sumR ((geR t done).map fun x => shareR r x * x.2)
def stdI (o b : S) (t : Rat) (r : Row) (f q : Rat) (c : Nat) (done : Row) (ρ : Env) : Prop := ∃ (t6 t7 t8 : S), ρ = [o, b, .sh (lowD (stdV t r f q done)), .sh (lowD q), .sh (lofD r), .sh (.int (ltW t done)), t6, t7, t8] ∧ PB (30 * (c + done.length)) (60 * (c + done.length)) (lowP (stdV t r f q done)) (stdV t r f q done)
theorem std_item {n : Nat} (hn : 2 ≤ n) {o : S} {t : Rat} {db : Pr} (hb : PB 9000 20000 db t) {r : Row} (hr : LOk r) {f q : Rat} {c j : Nat} (hq : PB (4 * j) (4 * j) (lowP q) q) (hj : j ≤ 5) (hc : c ≤ 100) {done : Row} {x : Int × Rat} (hx : x ∈ r) (hd : done.length ≤ 3) {ρ : Env} (h : stdI o (.sh (pD db)) t r f q c done ρ) :
    StepP (stdI o (.sh (pD db)) t r f q c (done ++ [x])) (tuF L.T (callN L.T L.fs n) (Tg.tp [6, 7]) B52_1 (itemD x) ρ) := by
  obtain ⟨t6, t7, t8, rfl, hp⟩ := h
  have hxx := hr.x x hx
  have e1 := s_below (n := n) (by omega) hxx.pb hb (by decide) (by decide)
  rw [pD_low] at e1
  have lr := fun (b : D) => lookA b (.int (whole r))
  have e0 : pD (x.1, whole r) = .tup [.int x.1, .int (whole r)] := rfl
  by_cases z : x.2 < t
  · have ev : stdV t r f q (done ++ [x]) = stdV t r f q done := by
      unfold stdV geR; rw [List.filter_append, List.filter_cons_of_neg (by simp [z])]; simp
    have el : ltW t (done ++ [x]) = ltW t done + x.1 := by
      unfold ltW; rw [List.map_append, List.sum_append, List.map_cons, if_pos z]; simp
    unfold stdI
    rw [ev, el, List.length_append, List.length_singleton]
    rw [decide_eq_true z] at e1
    refine ⟨_, ?_, .sh (.int x.1), .sh (lowD x.2), t8, rfl, hp.mono (by omega) (by omega)⟩
    simp (disch := omega) [-getElem?_pos, tuF, B52_1, itemD, callE_eq, e1]
  · have ev : stdV t r f q (done ++ [x]) = stdV t r f q done + q * shareR r x * x.2 := by
      unfold stdV geR
      rw [List.filter_append, List.filter_cons_of_pos (by simp [z]), List.filter_nil, List.map_append, VQ.sumR_append, List.map_cons, List.map_nil, sumR_cons, VQ.sumR_nil]
      grind
    have el : ltW t (done ++ [x]) = ltW t done := by
      unfold ltW; rw [List.map_append, List.sum_append, List.map_cons, if_neg z]; simp
    unfold stdI
    rw [ev, el, List.length_append, List.length_singleton]
    rw [decide_eq_false z] at e1
    have e2 := s_times (n := n) (by omega) hq (hr.share hx) (by omega) (by omega)
    have b2 := hq.times (D := 24) (E := 23) (hr.share hx) (by omega) (by omega)
    have e3 := s_times (n := n) (by omega) b2 hxx.pb (by omega) (by omega)
    have b3 := b2.times (D := 27) (E := 28) hxx.pb (by omega) (by omega)
    have e4 := s_plus (n := n) (by omega) hp b3 (by omega) (by omega) (by omega)
    have b4 := hp.plus (D := 30 * (c + (done.length + 1))) (E := 60 * (c + (done.length + 1))) b3 (by omega) (by omega) (by omega)
    have e5 := s_low (n := n) (by omega) b4 (by omega)
    rw [pD_low, e0] at e2
    rw [pD_low] at e3 e4
    refine ⟨_, ?_, .sh (.int x.1), .sh (lowD x.2), .sh (pD (timesP (lowP q) (x.1, whole r))), rfl, b4.low⟩
    simp (disch := omega) [-getElem?_pos, tuF, B52_1, itemD, callE_eq, e1, e2, e3, e4, e5, lofD, lr, limN]
def stdO (rs : List Row) (b : S) (t : Rat) (done : List Row) (ρ : Env) : Prop := ∃ (s : Rat × Rat) (t4 t5 t6 t7 t8 : S), ρ = [.sh (.lst (rs.map lofD)), b, .sh (lowD s.1), .sh (lowD s.2), t4, t5, t6, t7, t8] ∧ s = done.foldl (stS t) (0, 1) ∧ PB (90 * done.length) (180 * done.length) (lowP s.1) s.1 ∧ PB (4 * done.length) (4 * done.length) (lowP s.2) s.2
theorem std_step {n : Nat} (hn : 2 ≤ n) {rs : List Row} {t : Rat} {db : Pr} (hb : PB 9000 20000 db t) {done : List Row} {r : Row} (hr : LOk r) (hd : done.length ≤ 4) {ρ : Env} (h : stdO rs (.sh (pD db)) t done ρ) :
    StepP (stdO rs (.sh (pD db)) t (done ++ [r])) (tuF L.T (callN L.T L.fs n) (Tg.nm 4) B52_2 (lofD r) ρ) := by
  obtain ⟨s, t4, t5, t6, t7, t8, rfl, hs, p1, p2⟩ := h
  have lr := fun (b : List D) => lookR (D.lst b) (.int (whole r))
  have la := fun (b : D) => lookA b (.int (whole r))
  have hb0 : tuF L.T (callN L.T L.fs n) (Tg.nm 4) B52_2 (lofD r) [.sh (.lst (rs.map lofD)), .sh (pD db), .sh (lowD s.1), .sh (lowD s.2), t4, t5, t6, t7, t8] = seqP (loopF (tuF L.T (callN L.T L.fs n) (Tg.tp [6, 7]) B52_1) (r.map itemD) [.sh (.lst (rs.map lofD)), .sh (pD db), .sh (lowD s.1), .sh (lowD s.2), .sh (lofD r), .sh (.int 0), t6, t7, t8]) (fun ρ' => evB L.T (callN L.T L.fs n) (Sms.cons (Sm.set 3 (Ex.call 34 1 (As.sh (Ex.call 37 2 (As.sh (Ex.var 3) (As.sh (Ex.tup (Exs.cons (Ex.var 5) (Exs.cons (Ex.rd (Px.sub (Px.pk 4) (Ex.cst (D.str ("all" : PySem.Str))))) Exs.nil))) As.nil))) As.nil))) Sms.nil) ρ') .mk := by
    simp (disch := omega) [tuF, B52_2, lofD, lr, limN]
  rw [hb0]
  have hl3 := hr.l3
  have v0 : stdV t r s.1 s.2 [] = s.1 := by unfold stdV geR; simp only [List.filter_nil, List.map_nil, VQ.sumR_nil]; grind
  refine for_run (P := StepP _) itemD r (stdI (.sh (.lst (rs.map lofD))) (.sh (pD db)) t r s.1 s.2 (3 * done.length)) rfl ⟨t6, t7, t8, by rw [v0]; rfl, by rw [v0, List.length_nil]; exact p1.mono (by omega) (by omega)⟩ (fun d2 x r2 hd2 ρ hρ => std_item hn hb hr p2 (by omega) (by omega) (by rw [hd2]; simp) (by
    have := congrArg List.length hd2
    rw [List.length_append, List.length_cons] at this; omega) hρ) ?_
  rintro ρ' ⟨t6, t7, t8, rfl, hp⟩
  have ev : stdV t r s.1 s.2 r = (stS t s r).1 := rfl
  obtain ⟨l0, l5⟩ := ltW_le (t := t) hr.x
  have hw := hr.whole
  have pr : PB 4 4 (ltW t r, whole r) (Rat.divInt (ltW t r) (whole r)) := VQ.PB.ratio (by omega) (by have : (2 : Nat) ^ 4 = 16 := rfl; omega) (by have : (2 : Nat) ^ 4 = 16 := rfl; omega)
  rw [← low_ratio hr.rok t] at pr
  have e1 := s_times (n := n) (by omega) p2 pr (by omega) (by omega)
  have b1 := p2.times (D := 4 * (done.length + 1)) (E := 4 * (done.length + 1)) pr (by omega) (by omega)
  have e2 := s_low (n := n) (by omega) b1 (by omega)
  have e0 : pD (ltW t r, whole r) = .tup [.int (ltW t r), .int (whole r)] := rfl
  rw [pD_low, e0] at e1
  have ew : s.2 * (1 - highR t r) = (stS t s r).2 := rfl
  rw [ew] at e2 b1
  rw [ev] at hp
  have es : stS t s r = (done ++ [r]).foldl (stS t) (0, 1) := by rw [List.foldl_append, ← hs]; rfl
  refine ⟨_, ?_, stS t s r, .sh (lofD r), .sh (.int (ltW t r)), t6, t7, t8, rfl, es, ?_, ?_⟩
  · rw [ev]
    simp (disch := omega) [-getElem?_pos, callE_eq, e1, e2, lofD, la, limN]
  · rw [List.length_append, List.length_singleton]; exact hp.mono (by omega) (by omega)
  · rw [List.length_append, List.length_singleton]; exact b1.low
def LStP (rs : List Row) (db : Pr) (t : Rat) (z : FR) : Prop := z = .ok (lowD (stR t rs)) [.sh (.lst (rs.map lofD)), .sh (pD db)] ∧ PB 450 900 (lowP (stR t rs)) (stR t rs)
theorem s_lsteady {n : Nat} (hn : 3 ≤ n) {rs : List Row} (hr : ∀ r ∈ rs, LOk r) (hl : rs.length ≤ 5) {t : Rat} {db : Pr} (hb : PB 9000 20000 db t) : LStP rs db t (callN L.T L.fs n 52 [.sh (.lst (rs.map lofD)), .sh (pD db)]) := by
  have hk : ∀ r ∈ rs, ROk r := fun r h => (hr r h).rok
  refine call_ex (k := 2) hn e52 rfl fun n hn => ?_
  simp (disch := omega) [B52, limN]
  refine for_run (P := fun s => LStP rs db t (fin _ s)) lofD rs (stdO rs (.sh (pD db)) t) rfl ⟨(0, 1), .un, .un, .un, .un, .un, rfl, rfl, PB.zero, (PB.int (a := 1) (e := 0) (by decide))⟩ (fun d2 r r2 hd2 ρ hρ => std_step hn hb (hr r (by rw [hd2]; simp)) (by
    have := congrArg List.length hd2
    rw [List.length_append, List.length_cons] at this; omega) hρ) ?_
  rintro ρ' ⟨s, t4, t5, t6, t7, t8, rfl, hs, p1, p2⟩
  have e : s.1 = stR t rs := by rw [hs, stS_fold t hk]; grind
  rw [e] at p1 ⊢
  exact ⟨by simp, p1.mono (by omega) (by omega)⟩

end LW
end

section
set_option Elab.async false
set_option linter.all false
set_option autoImplicit false
set_option maxRecDepth 100000
set_option maxHeartbeats 4000000
namespace LW
open RF RV

open VQ (Pr PB plusP minusP timesP lowP)
theorem LX.qn {x : Int × Rat} (h : LX x) : VQ.Qn 840 (2 ^ 15) x.2 := by
  obtain ⟨_, _, _, _, p2, p3, _⟩ := h
  have e1 : (2 : Nat) ^ 3 = 8 := rfl
  have e2 : (2 : Nat) ^ 5 = 32 := rfl
  rw [e1] at p2
  rw [e2] at p3
  simp only [lowP, Int.natAbs_natCast] at p2 p3
  have hd := x.2.den_nz
  have hdv : x.2.den ∣ 840 := by
    have : x.2.den = 1 ∨ x.2.den = 2 ∨ x.2.den = 3 ∨ x.2.den = 4 ∨ x.2.den = 5 ∨ x.2.den = 6 ∨ x.2.den = 7 ∨ x.2.den = 8 := by omega
    rcases this with h | h | h | h | h | h | h | h <;> rw [h] <;> decide
  obtain ⟨k, hk⟩ := hdv
  have hq : VQ.Qn x.2.den 32 x.2 := by
    have := VQ.Qn.divI (a := x.2.num) (b := (x.2.den : Int)) (N := 32) (by omega) p3
    rw [Rat.num_divInt_den] at this
    exact this
  have hu := hq.up k
  rw [← hk] at hu
  have hk2 : k ≤ 840 := by
    have := Nat.le_mul_of_pos_left k (show 0 < x.2.den by omega)
    omega
  exact hu.mono (by have : (2 : Nat) ^ 15 = 32768 := rfl; have := Nat.mul_le_mul_left 32 hk2; omega)
theorem LOk.rowOk {r : Row} (h : LOk r) : RowOk 840 15 r :=
  ⟨h.rok.ne, by have := h.l3; omega, fun x hx => ⟨(h.x x hx).w1, by have := (h.x x hx).w5; omega⟩, fun x hx => (h.x x hx).qn⟩
theorem W_sm {rs : List Row} (h : ∀ r ∈ rs, LOk r) (hl : rs.length ≤ 5) (l : Nat) : VQ.Sm (W rs l) := by
  obtain ⟨b1, b2⟩ := dd_le5 hl
  obtain ⟨p1, p2, p3, p4⟩ := W_pb h l
  have a1 := VQ.log_of p2
  have a2 := VQ.log_of p3
  simp only [lowP, Int.natAbs_natCast] at a1 a2
  exact ⟨by omega, by omega⟩
def diffs (many : Nat) (t : List Row) : List Rat := (List.range many).map fun l => W t (l + 1) - W t l
def thrD (many : Nat) (rs : List Row) : D := .tup ((List.range rs.length).map fun i => .tup ((diffs many (rs.drop (i + 1))).map fr))
theorem loopC_ex {ι : Type} {t : D → Env → R (Option O × Env)} {g : ι → D} (I : Nat → List O → Env → Prop) (K : Nat) (h : ∀ x k acc ρ, k < K → I k acc ρ → ∃ o ρ', t (g x) ρ = .ok (some o, ρ') ∧ I (k + 1) (acc ++ [o]) ρ') : ∀ (xs : List ι) (k : Nat) (acc : List O) (ρ : Env), I k acc ρ → k + xs.length ≤ K → acc.length + xs.length ≤ lim → ∃ acc' ρ', loopC t (xs.map g) acc ρ = .ok (acc', ρ') ∧ I (k + xs.length) acc' ρ'
  | [], k, acc, ρ, i, _, _ => ⟨acc, ρ, by simp [loopC], i⟩
  | x :: xs, k, acc, ρ, i, hk, hl => by
    rw [List.length_cons] at hk hl
    obtain ⟨o, ρ1, e1, i1⟩ := h x k acc ρ (by omega) i
    obtain ⟨a, ρ2, e2, i2⟩ := loopC_ex I K h xs (k + 1) (acc ++ [o]) ρ1 i1 (by omega) (by rw [List.length_append, List.length_singleton]; omega)
    refine ⟨a, ρ2, ?_, by rw [List.length_cons, show k + (xs.length + 1) = k + 1 + xs.length by omega]; exact i2⟩
    rw [List.map_cons]
    simp only [loopC, e1, bind_ok]
    rw [if_pos (by omega)]
    exact e2
/-! == of thresholds -/
def LawP (z : FR) : Prop := ∃ outs, z = .ok (.bl true) outs
theorem tab_first (many : Nat) (rs : List Row) : (tabD many rs)[0]? = some (.lst (lsD (W rs) (many + 1))) := by
  obtain ⟨t, e, _⟩ := tabD_head many rs
  rw [e]; rfl
theorem turn_spec {n : Nat} (hn : 7 ≤ n) {rs : List Row} (hr : ∀ r ∈ rs, LOk r) (hl : rs.length ≤ 6) {many : Nat} (hm : many ≤ 1000) :
    callN L.T L.fs n 24 [.sh (offD rs), .sh (.int many)] = .ok (fr (W rs many)) [.sh (offD rs), .sh (.int many)] := by
  have := s_turn_worth (n := n) hn (D0 := 840) (k := 15) (rs := rs) (many := many) (fun r h => (hr r h).rowOk) (by omega) hm (by decide) (by decide) (by decide)
  rw [turnRows_head] at this
  exact this
theorem low_non (q : Rat) : isNon (lowD q) = false := rfl
theorem pair_spec {n : Nat} (hn : 2 ≤ n) (q : Rat) : callN L.T L.fs n 42 [.sh (fr q)] = .ok (lowD q) [.sh (fr q)] := s_pair hn q
theorem offers_of {n : Nat} (hn : 7 ≤ n) {d : D} {hr : List (D × HRow)} {rs : List Row} (hs : SeqD d (hr.map (·.1))) (hm : hr.map (fun r : D × HRow => r.2.map (·.2)) = rs) (hg : ∀ r ∈ hr, GoodH r) (h1 : 1 ≤ rs.length) (h6 : rs.length ≤ 6) (ρ : Env) :
    makeE L.T (callN L.T L.fs n) 1 2 [.sh d] ρ = .ok (offD rs, ρ) := by
  have hl : hr.length = rs.length := by rw [← hm, List.length_map]
  have ok : HOk hr := ⟨hg, by omega, by omega⟩
  rcases hs with rfl | rfl
  · rw [mk_offers hn ok ρ, hm]
  · rw [mk_offersT hn ok ρ, hm]
/-! seer's size -/
theorem seer_qn {D0 k : Nat} {rs : List Row} (hr : ∀ r ∈ rs, RowOk D0 k r) {many : Nat} (hm : many ≤ 1000) {M : Nat} (hM : M = (many + 1) * (1001 * 2 ^ (24 * rs.length))) : ∀ (ws : List Rat) (s : Rat × Rat) (N : Nat), VQ.Qn (D0 * prodW rs) N s.1 → VQ.Qn D0 (2 ^ k) s.2 → (∀ w ∈ ws, VQ.Qn D0 (2 ^ k) w) →
    VQ.Qn (D0 * prodW rs) (N + ws.length * (2 * 2 ^ k * M)) (ws.foldl (fun (s : Rat × Rat) w => (s.1 + (w - s.2) * meanR w many rs, w)) s).1
  | [], s, N, h1, _, _ => by simpa using h1
  | w :: ws, s, N, h1, h2, h3 => by
    obtain ⟨mq, m0, m1⟩ := mean_qn (v := w) hr hm
    rw [← hM] at mq
    have q3 := h3 w List.mem_cons_self
    have q4 : VQ.Qn D0 (2 * 2 ^ k) (w - s.2) := (q3.sub h2).mono (by omega)
    have := seer_qn hr hm hM ws (s.1 + (w - s.2) * meanR w many rs, w) _ (h1.add (q4.mul mq)) q3 fun y hy => h3 y (List.mem_cons_of_mem _ hy)
    rw [List.foldl_cons, List.length_cons, Nat.succ_mul]
    exact this.mono (by omega)
theorem seer_big {D0 k : Nat} {rs : List Row} (hr : ∀ r ∈ rs, RowOk D0 k r) {many : Nat} (hm : many ≤ 1000) (hl : rs.length ≤ 8) (hD : D0 ≠ 0) (hD2 : D0.log2 ≤ 2000) (hk : k ≤ 500) : ∃ D N : Nat, VQ.Qn D N (seerR many rs) ∧ D ≠ 0 ∧ D.log2 ≤ 3500 ∧ N.log2 ≤ 3500 := by
  have hwl := worths_len rs [] fun r h => (hr r h).l6
  have hwq := worths_mem (P := VQ.Qn D0 (2 ^ k)) rs [] (by simp) fun r h x hx => (hr r h).q x hx
  obtain ⟨mq, m0, m1⟩ := mean_qn (v := 0) hr hm
  have h := seer_qn hr hm rfl (worthsShown rs) (0, 0) 0 ⟨0, by simp, by simp⟩ ⟨0, by simp, by simp⟩ hwq
  have hwl : (worthsShown rs).length ≤ 6 * rs.length := by rw [List.length_nil] at hwl; unfold worthsShown; omega
  have lE : (prodW rs).log2 ≤ 80 := by have := VQ.log2_mono m1; rw [pow_log] at this; omega
  have l0 := VQ.log2_mul D0 (prodW rs)
  have l1 := VQ.log2_mul (many + 1) (1001 * 2 ^ (24 * rs.length))
  have l2 := VQ.log2_mul 1001 (2 ^ (24 * rs.length))
  have l3 := log_lt (a := many + 1) (k := 11) (by omega) (by omega)
  have l4 := log_lt (a := 1001) (k := 11) (by omega) (by omega)
  have l5 := VQ.log2_mul (2 * 2 ^ k) ((many + 1) * (1001 * 2 ^ (24 * rs.length)))
  have l6 := VQ.log2_mul 2 (2 ^ k)
  have l7 := VQ.log2_mul (worthsShown rs).length (2 * 2 ^ k * ((many + 1) * (1001 * 2 ^ (24 * rs.length))))
  have l8 := log_lt (a := (worthsShown rs).length) (k := 7) (by omega) (by omega)
  have l9 : (2 : Nat).log2 = 1 := by decide
  rw [pow_log] at l2 l6
  rw [Nat.zero_add] at h
  exact ⟨_, _, h, Nat.mul_ne_zero hD m0, by omega, by omega⟩
theorem seer_sm {D0 k : Nat} {rs : List Row} (hr : ∀ r ∈ rs, RowOk D0 k r) {many : Nat} (hm : many ≤ 1000) (hl : rs.length ≤ 8) (hD : D0 ≠ 0) (hD2 : D0.log2 ≤ 2000) (hk : k ≤ 500) : VQ.Sm (seerR many rs) ∧ VQ.Sm (seerR many rs * Rat.divInt 1 2) := by
  obtain ⟨D, N, h, h0, h1, h2⟩ := seer_big hr hm hl hD hD2 hk
  have h3 := h.mul (show VQ.Qn 2 1 (Rat.divInt 1 2) from VQ.Qn.divI (a := 1) (b := 2) (by decide) (by decide))
  have l1 := VQ.log2_mul D 2
  have l2 : (2 : Nat).log2 = 1 := by decide
  exact ⟨h.sm h0 (by omega) (by omega), h3.sm (by omega) (by omega) (by rw [Nat.mul_one]; omega)⟩
/-! nothing -/
theorem insW_zero (f : List Rat) : insW f 0 = f := by unfold insW; rw [if_neg]; rintro ⟨h, _⟩; exact absurd h (by decide)
theorem worths_zero : ∀ (rs : List Row) (f : List Rat), (∀ r ∈ rs, ∀ x ∈ r, x.2 = 0) → rs.foldl worthsIn f = f
  | [], f, _ => rfl
  | r :: rs, f, h => by
    have : ∀ (r : Row) (f : List Rat), (∀ x ∈ r, x.2 = 0) → worthsIn f r = f := by
      intro r
      induction r with
      | nil => intro f _; rfl
      | cons x r ih =>
        intro f hx
        show worthsIn (insW f x.2) r = f
        rw [hx x List.mem_cons_self, insW_zero, ih f fun y hy => hx y (List.mem_cons_of_mem _ hy)]
    rw [List.foldl_cons, this r f (h r List.mem_cons_self), worths_zero rs f fun y hy => h y (List.mem_cons_of_mem _ hy)]
theorem seer_zero {rs : List Row} (h : ∀ r ∈ rs, ∀ x ∈ r, x.2 = 0) (m : Nat) : seerR m rs = 0 := by
  unfold seerR worthsShown
  rw [worths_zero rs [] h]; rfl
def zrow (w : Int) : Row := [(w, 0)]
def zhr (w : Int) : D × HRow := (.lst [.tup [.int w, .int 0]], [(.tup [.int w, .int 0], w, 0)])
theorem zrow_ok {w : Int} (h : 1 ≤ w ∧ w ≤ 9) : RowOk 840 15 (zrow w) := by
  refine ⟨by simp [zrow], by simp [zrow], fun x hx => ?_, fun x hx => ?_⟩
  · rw [List.mem_singleton.mp hx]; exact ⟨h.1, by show w ≤ 99; omega⟩
  · rw [List.mem_singleton.mp hx]; exact ⟨0, by simp, by simp⟩
theorem zhr_ok {w : Int} (h : 1 ≤ w ∧ w ≤ 9) : GoodH (zhr w) := by
  refine ⟨.inl rfl, fun p hp => ?_, by simp [zhr], by simp [zhr]⟩
  rw [List.mem_singleton.mp hp]
  exact ⟨⟨.int 0, .inr rfl, .inr ⟨0, rfl, rfl⟩⟩, ⟨h.1, by show w ≤ 99; omega, (show (0 : Int) ≤ (0 : Rat).num by decide), (show (0 : Rat).num ≤ 9999 by decide), (show (0 : Rat).den ≤ 99 by decide)⟩⟩
def NothP (c : Nat) (z : FR) : Prop := ∃ b', z = .ok (.bl true) [.ow (bagO b')] ∧ BagOk (c + 10) b'
theorem s_nothing {n : Nat} (hn : 9 ≤ n) {c : Nat} {b : Bag} (h : BagOk c b) (hc : c ≤ 100000) : NothP c (callN L.T L.fs n 53 [.ow (bagO b)]) := by
  refine call_ex (k := 8) hn e53 rfl fun n hn => ?_
  obtain ⟨v0, b0, e0, p0, q0, k0⟩ := draw_ex (n := n) (by omega) h (m := 3) (by decide) (by decide) (by omega)
  have t0 : (1 + v0).toNat ≤ 3 ∧ 1 ≤ (1 + v0).toNat := by omega
  obtain ⟨acc, ρ1, el, il⟩ := loopC_ex (t := tuC L.T (callN L.T L.fs n) (Ex.new (Nx.lst (Exs.cons (Ex.tup (Exs.cons (Ex.bin Bop.add (Ex.cst (D.int 1)) (Ex.call 32 2 (As.io 0 (As.sh (Ex.cst (D.int 9)) As.nil)))) (Exs.cons (Ex.cst (D.int 0)) Exs.nil))) Exs.nil))) (Tg.nm 2) Tes.nil [2]) (g := fun i : Nat => D.int i) (fun k acc ρ => ∃ (ws : List Int) (b : Bag), acc = ws.map (fun w => .lf (zhr w).1) ∧ ρ = [.ow 1 (bagO b), .un, .un] ∧ ws.length = k ∧ (∀ w ∈ ws, 1 ≤ w ∧ w ≤ 9) ∧ BagOk (c + 1 + k) b) 3 (by
    rintro x k acc ρ hk ⟨ws, b, rfl, rfl, hlen, hws, hbg⟩
    obtain ⟨v1, b1, e1, p1, q1, k1⟩ := draw_ex (n := n) (by omega) hbg (m := 9) (by decide) (by decide) (by omega)
    refine ⟨.lf (zhr (1 + v1)).1, _, ?_, ws ++ [1 + v1], b1, by simp, rfl, by simp [hlen], fun y hy => ?_, k1⟩
    · simp [tuC, callE_eq, e1, zhr, limN]
    · rcases List.mem_append.mp hy with m | m
      · exact hws y m
      · rw [List.mem_singleton.mp m]; omega) (List.range (1 + v0).toNat) 0 [] [.ow 1 (bagO b0), .un, .un] ⟨[], b0, rfl, rfl, rfl, (fun _ m => nomatch m), k0⟩ (by rw [List.length_range]; omega) (by rw [List.length_range, limN]; simp; omega)
  obtain ⟨ws, b2, rfl, rfl, hlen, hws, k2⟩ := il
  rw [List.length_range, Nat.zero_add] at hlen k2
  obtain ⟨v4, b4, e4, p4, q4, k4⟩ := draw_ex (n := n) (by omega) k2 (m := 4) (by decide) (by decide) (by omega)
  obtain ⟨many, hmany⟩ : ∃ many : Nat, 1 + v4 = (many : Int) := ⟨(1 + v4).toNat, by omega⟩
  have mk3 := fun ρ => offers_of (n := n) (by omega) (d := .lst (ws.map fun w => (zhr w).1)) (hr := ws.map zhr) (rs := ws.map zrow) (.inl (by rw [List.map_map]; rfl)) (by rw [List.map_map]; rfl) (fun r hr => by
    obtain ⟨w, hw, rfl⟩ := List.mem_map.mp hr
    exact zhr_ok (hws w hw)) (by rw [List.length_map]; omega) (by rw [List.length_map]; omega) ρ
  have hq := s_quotient0 (n := n) (by omega) (D0 := 840) (k := 15) (rs := ws.map zrow) (many := many) (fun r hr => by
    obtain ⟨w, hw, rfl⟩ := List.mem_map.mp hr
    exact zrow_ok (hws w hw)) (by rw [List.length_map]; omega) (by omega) (by decide) (by decide) (by decide) (seer_zero (fun r hr x hx => by
      obtain ⟨w, hw, rfl⟩ := List.mem_map.mp hr
      rw [List.mem_singleton.mp hx]) _)
  have hF := frzs_fun (fun w => (zhr w).1) ws
  refine ⟨b4, ?_, ⟨k4.cells, k4.big, k4.m1, k4.m2, k4.c1, by have := k4.c2; omega⟩⟩
  simp (disch := omega) [B53, callE_eq, e0, el, e4, hmany, mk3, hq, hF, limN]
/-! over -/
theorem over_pb {d e d' e' : Nat} {p p' : Pr} {q q' : Rat} (h : PB d e p q) (g : PB d' e' p' q') (h0 : 0 < q') : PB (d + e') (e + d') (p.1 * p'.2, p.2 * p'.1) (q / q') := by
  obtain ⟨a1, a2, a3, a4⟩ := h
  obtain ⟨b1, b2, b3, b4⟩ := g
  have hb : (0 : Rat) < (p'.2 : Rat) := Rat.intCast_pos.mpr b1
  have hp : 0 < p'.1 := by
    have : (0 : Rat) < (p'.1 : Rat) := by rw [b4]; exact Rat.mul_pos h0 hb
    exact Rat.intCast_pos.mp this
  refine ⟨Int.mul_pos a1 hp, VQ.mul_le2 a2 b3, VQ.mul_le2 a3 b2, ?_⟩
  show ((p.1 * p'.2 : Int) : Rat) = q / q' * ((p.2 * p'.1 : Int) : Rat)
  rw [Rat.intCast_mul, Rat.intCast_mul, a4, b4, Rat.div_def]
  have := Rat.mul_inv_cancel q' (by grind)
  grind
theorem s_over {n d e d' e' : Nat} {p p' : Pr} {q q' : Rat} (hn : 1 ≤ n) (h : PB d e p q) (g : PB d' e' p' q') (h0 : 0 < q') (h1 : e + d' < 100000000) (h2 : d + e' < 100000000) : callN L.T L.fs n 38 [.sh (pD p), .sh (pD p')] = .ok (pD (p.1 * p'.2, p.2 * p'.1)) [.sh (pD p), .sh (pD p')] := by
  refine call_at' (k := 0) hn e38 rfl fun n hn => ?_
  have a1 := VQ.log_of h.2.1
  have a2 := VQ.log_of h.2.2.1
  have b1 := VQ.log_of g.2.1
  have b2 := VQ.log_of g.2.2.1
  have hp : ¬ p'.1 < 0 := by
    have hb := g.pos
    have : (0 : Rat) < (p'.1 : Rat) := by rw [g.2.2.2]; exact Rat.mul_pos h0 hb
    have := Rat.intCast_pos.mp this
    omega
  obtain ⟨a, b⟩ := p
  obtain ⟨a', b'⟩ := p'
  dsimp only at *
  have m1 : binI .mul a b' = some (.int (a * b')) := binI_mul (by omega)
  have m2 : binI .mul b a' = some (.int (b * a')) := binI_mul (by omega)
  simp [B38, pD, m1, m2, hp, limN]
theorem s_frac {n : Nat} (hn : 3 ≤ n) {d e : Nat} {q : Rat} (h : PB d e (lowP q) q) (hd : d < 9000) : callN L.T L.fs n 48 [.sh (lowD q)] = .ok (fr q) [.sh (lowD q)] := by
  refine call_at' (k := 2) hn e48 rfl fun n hn => ?_
  have a1 := VQ.log_of h.2.1
  have hl : (q.den : Int).natAbs.log2 < 9000 := by show (lowP q).2.natAbs.log2 < 9000; omega
  have hm := fun ρ => mk_frac (n := n) hn (a := q.num) (b := (q.den : Int)) (VQ.den_ne q) hl ρ
  have e : Rat.divInt q.num (q.den : Int) = q := Rat.num_divInt_den q
  rw [e] at hm
  simp [B48, lowD, pD, lowP, hm]
theorem stR_above {t : Rat} : ∀ {rs : List Row}, (∀ r ∈ rs, ∀ x ∈ r, x.2 < t) → stR t rs = 0
  | [], _ => rfl
  | r :: rs, h => by
    rw [stR, ← Sh_zero (r := r)]
    exact Sh_congr fun x hx => by rw [if_pos (h r List.mem_cons_self x hx), stR_above fun y hy => h y (List.mem_cons_of_mem _ hy)]

end LW
end

section
set_option Elab.async false
set_option linter.all false
set_option autoImplicit false
set_option maxRecDepth 100000
set_option maxHeartbeats 4000000
namespace LW
open RF RV

open VQ (Pr PB plusP minusP timesP lowP)
theorem pb_sm {d e : Nat} {p : Pr} {q : Rat} (h : PB d e p q) (hd : d ≤ 4000) (he : e ≤ 4000) : VQ.Sm q := by
  obtain ⟨p1, p2, p3, p4⟩ := h.low
  have a1 := VQ.log_of p2
  have a2 := VQ.log_of p3
  simp only [lowP, Int.natAbs_natCast] at a1 a2
  exact ⟨by omega, by omega⟩
theorem LX.lt {x : Int × Rat} (h : LX x) : x.2 < 10000 := by
  obtain ⟨_, _, _, p1, p2, p3, p4⟩ := h
  have e2 : (2 : Nat) ^ 5 = 32 := rfl
  rw [e2] at p3
  have hp := Rat.intCast_pos.mpr p1
  simp only [lowP] at p1 p3 p4 hp
  have h1 : (1 : Rat) ≤ ((x.2.den : Int) : Rat) := by
    have : ((1 : Int) : Rat) ≤ ((x.2.den : Int) : Rat) := Rat.intCast_le_intCast.mpr (by omega)
    exact this
  have h2 : ((x.2.num : Int) : Rat) < ((10000 : Int) : Rat) := Rat.intCast_lt_intCast.mpr (by omega)
  have h3 : ((10000 : Int) : Rat) = 10000 := rfl
  by_cases z : x.2 < 10000
  · exact z
  · exfalso
    have z' := Rat.not_lt.mp z
    have h4 := Rat.mul_le_mul_of_nonneg_right z' (Rat.le_of_lt hp)
    have h5 : (10000 : Rat) ≤ 10000 * ((x.2.den : Int) : Rat) := by
      have := Rat.mul_le_mul_of_nonneg_left h1 (show (0 : Rat) ≤ 10000 by decide)
      grind
    grind
/-- the drawn bars -/
def barsI (scr of_ s4 s5 s6 s7 s8 s9 s13 : S) (rs : List Row) (c : Nat) (done : List Nat) (ρ : Env) : Prop := ∃ (b : Bag) (t10 t11 t12 : S), ρ = [scr, .ow 0 (bagO b), .sh (.lst (rs.map lofD)), of_, s4, s5, s6, s7, s8, s9, t10, t11, t12, s13] ∧ BagOk (c + 10 * done.length) b
theorem bar_end {n : Nat} (hn : 6 ≤ n) {rs : List Row} (hr : ∀ r ∈ rs, LOk r) (hl : rs.length ≤ 5) {t : Rat} (hb : PB 3 6 (lowP t) t) :
    callN L.T L.fs n 48 [.sh (lowD t)] = .ok (fr t) [.sh (lowD t)] ∧ callN L.T L.fs n 28 [.sh (offD rs), .sh (fr t)] = .ok (fr (stR t rs)) [.sh (offD rs), .sh (fr t)] ∧
    callN L.T L.fs n 52 [.sh (.lst (rs.map lofD)), .sh (lowD t)] = .ok (lowD (stR t rs)) [.sh (.lst (rs.map lofD)), .sh (lowD t)] ∧ callN L.T L.fs n 44 [.sh (fr (stR t rs)), .sh (lowD (stR t rs))] = .ok (.bl true) [.sh (fr (stR t rs)), .sh (lowD (stR t rs))] := by
  have h1 := s_steady (n := n) hn (D0 := 840) (k := 15) (fun r h => (hr r h).rowOk) (fun r h => (hr r h).rok) (by omega) (by decide) (by decide) (by decide) (d := fr t) (t := t) (.inl rfl) (pb_sm hb (by omega) (by omega))
  obtain ⟨h2, h3⟩ := s_lsteady (n := n) (by omega) hr hl (hb.mono (show 3 ≤ 9000 by decide) (show 6 ≤ 20000 by decide))
  have h4 := s_is (n := n) (by omega) (stR t rs) h3 h3 (by decide) (by decide)
  rw [pD_low, decide_eq_true rfl] at h4
  exact ⟨s_frac (by omega) hb (by decide), h1, h2, h4⟩
theorem bar_step {n : Nat} (hn : 6 ≤ n) {scr s4 s5 s6 s7 s8 s9 s13 : S} {rs : List Row} (hr : ∀ r ∈ rs, LOk r) (hl : rs.length ≤ 5) (hl1 : 1 ≤ rs.length) {c : Nat} (hc : c ≤ 10000) {done : List Nat} {i : Nat} (hd : done.length ≤ 10) {ρ : Env} (h : barsI scr (.sh (offD rs)) s4 s5 s6 s7 s8 s9 s13 rs c done ρ) :
    StepP (barsI scr (.sh (offD rs)) s4 s5 s6 s7 s8 s9 s13 rs c (done ++ [i])) (tuF L.T (callN L.T L.fs n) (Tg.nm 10) B54_1 (.int (i : Nat)) ρ) := by
  obtain ⟨b, t10, t11, t12, rfl, hk⟩ := h
  obtain ⟨v1, b1, e1, p1, q1, k1⟩ := draw_ex (n := n) (by omega) hk (m := (rs.length : Int)) (by omega) (by omega) (by omega)
  obtain ⟨j, rfl⟩ : ∃ j : Nat, v1 = (j : Int) := ⟨v1.toNat, by omega⟩
  have jb : j < rs.length := by omega
  have gj : (rs.map lofD)[j]? = some (lofD rs[j]) := by rw [List.getElem?_map, List.getElem?_eq_getElem jb]; rfl
  have hro := hr _ (List.getElem_mem jb)
  generalize rs[j] = r at *
  have r1 := hro.l1
  have r3 := hro.l3
  obtain ⟨v2, b2, e2, p2, q2, k2⟩ := draw_ex (n := n) (by omega) k1 (m := (r.length : Int)) (by omega) (by omega) (by omega)
  obtain ⟨l, rfl⟩ : ∃ l : Nat, v2 = (l : Int) := ⟨v2.toNat, by omega⟩
  have lb : l < r.length := by omega
  have gl : (r.map itemD)[l]? = some (itemD r[l]) := by rw [List.getElem?_map, List.getElem?_eq_getElem lb]; rfl
  have hx := hro.x _ (List.getElem_mem lb)
  generalize r[l] = x at *
  have lr := fun (b : D) => lookR b (.int (whole r))
  have len1 : (r.map itemD).length = r.length := List.length_map _
  have len2 : (rs.map lofD).length = rs.length := List.length_map _
  by_cases z : (i : Int) > 1
  · obtain ⟨v3, b3, e3, p3, q3, k3⟩ := draw_ex (n := n) (by omega) k2 (m := 40) (by decide) (by decide) (by omega)
    obtain ⟨v4, b4, e4, p4, q4, k4⟩ := draw_ex (n := n) (by omega) k3 (m := 4) (by decide) (by decide) (by omega)
    have pb : PB 3 6 (v3, 1 + v4) (Rat.divInt v3 (1 + v4)) := VQ.PB.ratio (by omega) (by have : (2 : Nat) ^ 3 = 8 := rfl; omega) (by have : (2 : Nat) ^ 6 = 64 := rfl; omega)
    have lo := s_low (n := n) (by omega) pb (by decide)
    rw [pD] at lo
    obtain ⟨f1, f2, f3, f4⟩ := bar_end hn hr hl pb.low
    have z2 : 1 < i := by omega
    generalize hL : rs.map lofD = Ls at *
    generalize hI : r.map itemD = Is at *
    refine ⟨_, ?_, b4, .sh (.int (i : Nat)), .sh (lofD r), .sh (lowD (Rat.divInt v3 (1 + v4))), rfl, ⟨k4.cells, k4.big, k4.m1, k4.m2, k4.c1, by have := k4.c2; rw [List.length_append, List.length_singleton]; omega⟩⟩
    simp (disch := omega) [-getElem?_pos, -List.getElem?_map, tuF, B54_1, callE_eq, e1, e2, e3, e4, gj, gl, lofD, itemD, lr, len1, len2, hL, hI, z, z2, lo, f1, f2, f3, f4, limN]
  · obtain ⟨f1, f2, f3, f4⟩ := bar_end hn hr hl (hx.pb.mono (Nat.le_refl 3) (show 5 ≤ 6 by decide))
    have z2 : ¬ 1 < i := by omega
    generalize hL : rs.map lofD = Ls at *
    generalize hI : r.map itemD = Is at *
    refine ⟨_, ?_, b2, .sh (.int (i : Nat)), .sh (lofD r), .sh (lowD x.2), rfl, ⟨k2.cells, k2.big, k2.m1, k2.m2, k2.c1, by have := k2.c2; rw [List.length_append, List.length_singleton]; omega⟩⟩
    simp (disch := omega) [-getElem?_pos, -List.getElem?_map, tuF, B54_1, callE_eq, e1, e2, gj, gl, lofD, itemD, lr, len1, len2, hL, hI, z, z2, f1, f2, f3, f4, limN]

end LW
end

section
set_option Elab.async false
set_option linter.all false
set_option autoImplicit false
set_option maxRecDepth 100000
set_option maxHeartbeats 4000000
namespace LW
open RF RV

open VQ (Pr PB plusP minusP timesP lowP)
theorem value1 (ns : List Int) (hl : ns.length ≤ 63) : LawP (callN L.T L.fs 20 54 [.sh (.scr (ns.map .int))]) := by
  refine call_ex (P := LawP) (k := 19) (by omega) e54 rfl fun n hn => ?_
  have hb := s_bag (n := n) (by omega) ns hl
  have ok0 := bag_ok ns hl
  generalize (⟨ns.map fun i => if i < 0 then -i else i, 0, 0, 7 + ns.length, 0⟩ : Bag) = b0 at *
  generalize D.scr (ns.map .int) = scr at *
  obtain ⟨v1, b1, e1, p1, q1, k1⟩ := draw_ex (n := n) (by omega) ok0 (m := 5) (by decide) (by decide) (by decide)
  have t1 : 1 ≤ (1 + v1).toNat ∧ (1 + v1).toNat ≤ 5 := by omega
  obtain ⟨acc, ρ1, el, il⟩ := loopC_ex (t := tuC L.T (callN L.T L.fs n) (Ex.call 45 1 (As.io 1 As.nil)) (Tg.nm 10) Tes.nil [10]) (g := fun i : Nat => D.int i) (fun k acc ρ => ∃ rs b, acc = rs.map (fun r => .lf (lofD r)) ∧ ρ = [.sh scr, .ow 0 (bagO b), .un, .un, .un, .un, .un, .un, .un, .un, .un, .un, .un, .un] ∧ rs.length = k ∧ (∀ r ∈ rs, LOk r) ∧ BagOk (1 + 20 * k) b) 5 (by
    rintro x k acc ρ hk ⟨rs, b, rfl, rfl, hlen, hrs, hbg⟩
    obtain ⟨r, b', e, h1, h2⟩ := s_offer (n := n) (by omega) hbg (by omega)
    refine ⟨.lf (lofD r), _, ?_, rs ++ [r], b', by simp, rfl, by simp [hlen], fun y hy => ?_, ⟨h2.cells, h2.big, h2.m1, h2.m2, h2.c1, by have := h2.c2; omega⟩⟩
    · simp [tuC, callE_eq, e]
    · rcases List.mem_append.mp hy with m | m
      · exact hrs y m
      · rw [List.mem_singleton.mp m]; exact h1) (List.range (1 + v1).toNat) 0 [] [.sh scr, .ow 0 (bagO b1), .un, .un, .un, .un, .un, .un, .un, .un, .un, .un, .un, .un] ⟨[], b1, rfl, rfl, rfl, (fun _ m => nomatch m), k1⟩ (by rw [List.length_range]; omega) (by rw [List.length_range, limN]; simp; omega)
  obtain ⟨rs, b2, rfl, rfl, hlen, hr, k2⟩ := il
  rw [List.length_range, Nat.zero_add] at hlen k2
  have hl5 : rs.length ≤ 5 := by omega
  have hl1 : 1 ≤ rs.length := by omega
  have hk : ∀ r ∈ rs, ROk r := fun r h => (hr r h).rok
  have hro : ∀ r ∈ rs, RowOk 840 15 r := fun r h => (hr r h).rowOk
  obtain ⟨d, hh, b3, e3, hsq, hmp, hgd, k3⟩ := s_offered (n := n) (by omega) k2 (by omega) hr (by omega)
  have mk3 := fun ρ => offers_of (n := n) (by omega) hsq hmp hgd hl1 (by omega) ρ
  obtain ⟨v4, b4, e4, p4, q4, k4⟩ := draw_ex (n := n) (by omega) k3 (m := 4) (by decide) (by decide) (by omega)
  obtain ⟨many, hmany⟩ : ∃ many : Nat, 1 + v4 = (many : Int) := ⟨(1 + v4).toNat, by omega⟩
  have hm4 : many ≤ 4 := by omega
  obtain ⟨f1, g1⟩ := s_lseer (n := n) (by omega) hr hl5 (m := many) (by omega)
  obtain ⟨f2, g2⟩ := s_lseer (n := n) (by omega) hr hl5 (m := 1) (by omega)
  have f2 : callN L.T L.fs n 51 [.sh (.lst (rs.map lofD)), .sh (.int 1)] = .ok (lowD (seerR 1 rs)) [.sh (.lst (rs.map lofD)), .sh (.int 1)] := f2
  have ht := s_turns (n := n) (by omega) hr (by omega) (many := many) (by omega)
  have ht1 := s_turns (n := n) (by omega) hr (by omega) (many := 1) (by omega)
  have ht1 : callN L.T L.fs n 47 [.sh (.lst (rs.map lofD)), .sh (.int 1)] = .ok (.lst (tabD 1 rs)) [.sh (.lst (rs.map lofD)), .sh (.int 1)] := ht1
  have g0 := tab_first many rs
  have g3 := lsD_get (f := W rs) (k := many + 1) (l := many) (by omega)
  have g01 := tab_first 1 rs
  have g31 := lsD_get (f := W rs) (k := 1 + 1) (l := 1) (by omega)
  have hw := turn_spec (n := n) (by omega) hr (by omega) (many := many) (by omega)
  obtain ⟨d1, d2⟩ := dd_le (j := rs.length) (by omega)
  have wpb := (W_pb hr many).mono d1 d2
  have wpb1 := (W_pb hr 1).mono d1 d2
  obtain ⟨sm1, _⟩ := seer_sm (many := many) hro (by omega) (by omega) (by decide) (by decide) (by decide)
  obtain ⟨sm2, sT⟩ := seer_sm (many := 1) hro (by omega) (by omega) (by decide) (by decide) (by decide)
  have hs1 := s_seer (n := n) (by omega) hro (by omega) (many := many) (by omega) (by decide) (by decide) (by decide)
  have hs2 := s_seer (n := n) (by omega) hro (by omega) (many := 1) (by omega) (by decide) (by decide) (by decide)
  have hs2 : callN L.T L.fs n 27 [.sh (offD rs), .sh (.int 1)] = .ok (fr (seerR 1 rs)) [.sh (offD rs), .sh (.int 1)] := hs2
  have i1 := s_is (n := n) (by omega) (seerR many rs) g1 g1 (by decide) (by decide)
  have i2 := s_is (n := n) (by omega) (seerR 1 rs) g2 g2 (by decide) (by decide)
  have i3 := s_is (n := n) (by omega) (W rs many) wpb wpb (by decide) (by decide)
  rw [pD_low, decide_eq_true rfl] at i1 i2 i3
  have ph : PB 1 0 (1, 2) (Rat.divInt 1 2) := VQ.PB.ratio (by decide) (by decide) (by decide)
  have m1 := s_times (n := n) (by omega) g2 ph (by decide) (by decide)
  have pt := g2.times (D := 9000) (E := 20000) ph (by decide) (by decide)
  have hh1 := s_half (n := n) (by omega) hro (by omega) (by decide) (by decide) (by decide) sm2
  have e0 : pD (1, 2) = .tup [.int 1, .int 2] := rfl
  rw [pD_low, e0] at m1
  obtain ⟨T, hT⟩ : ∃ T, T = seerR 1 rs * Rat.divInt 1 2 := ⟨_, rfl⟩
  have hT2 : T * 2 = seerR 1 rs := by
    have : (Rat.divInt 1 2 : Rat) * 2 = 1 := by decide +kernel
    rw [hT]; grind
  rw [← hT] at pt hh1 sT
  have i4 := s_is (n := n) (by omega) T pt pt.low (by decide) (by decide)
  rw [decide_eq_true rfl] at i4
  obtain ⟨c1, c2⟩ := s_lsteady (n := n) (by omega) hr hl5 pt
  have c3 := s_steady (n := n) (by omega) hro hk (by omega) (by decide) (by decide) (by decide) (d := fr T) (t := T) (.inl rfl) sT
  have i5 := s_is (n := n) (by omega) (stR T rs) c2 c2 (by decide) (by decide)
  rw [pD_low, decide_eq_true rfl] at i5
  have b1' := s_below (n := n) (by omega) c2 pt (by decide) (by decide)
  have b2' := s_below (n := n) (by omega) wpb1 c2 (by decide) (by decide)
  have b3' := s_below (n := n) (by omega) g1 wpb (by decide) (by decide)
  rw [pD_low, decide_eq_false (Rat.not_lt.mpr (half_ok hk hT2))] at b1'
  rw [pD_low, pD_low, decide_eq_false (Rat.not_lt.mpr (stR_le T hk))] at b2'
  rw [pD_low, pD_low, decide_eq_false (Rat.not_lt.mpr (turn_le_seer hk many))] at b3'
  generalize pD (timesP (lowP (seerR 1 rs)) (1, 2)) = hD at *
  simp (disch := omega) [-getElem?_pos, -List.getElem?_map, B54, callE_eq, callNE_eq, hb, e1, el, e3, mk3, e4, hmany, f1, f2, ht, ht1, g0, g3, g01, g31, hw, hs1, hs2, i1, i2, i3, m1, hh1, i4, c1, c3, i5, b1', b2', b3', limN]
  refine for_run (P := fun s => LawP (fin _ s)) (fun i : Nat => D.int i) (List.range 4) (barsI (.sh scr) (.sh (offD rs)) (.sh (.int many)) (.sh (lowD (seerR many rs))) (.sh (lowD (seerR 1 rs))) (.sh (lowD (W rs many))) (.sh hD) (.sh (lowD (stR T rs))) .un rs (1 + 20 * (1 + v1).toNat + 40 + 1)) (by first | rfl | simp) ⟨b4, .un, .un, .un, rfl, k4⟩ (fun d2 i r2 hd2 ρ hρ => bar_step (by omega) hr hl5 hl1 (by omega) (by have := (range_split hd2); omega) hρ) ?_
  rintro ρ' ⟨b5, t10, t11, t12, rfl, k5⟩
  obtain ⟨b6, e6, k6⟩ := s_nothing (n := n) (by omega) k5 (by rw [List.length_range]; omega)
  have nn : (seerR many rs).num = 0 ↔ seerR many rs = 0 := Rat.num_eq_zero
  by_cases z : seerR many rs = 0
  · have hq := s_quotient0 (n := n) (by omega) hro (by omega) (many := many) (by omega) (by decide) (by decide) (by decide) z
    refine ⟨[.sh scr], ?_⟩
    have z0 : lowD (seerR many rs) = .tup [.int 0, .int 1] := by rw [z]; rfl
    rw [z0]
    simp (disch := omega) [callE_eq, hq, e6]
  · have wsm := W_sm hr hl5 many
    have hq := s_quotient (n := n) (by omega) hro (by omega) (many := many) (by omega) (by decide) (by decide) (by decide) sm1 (by rw [turnRows_head]; exact wsm) z
    rw [turnRows_head] at hq
    have spos : 0 < seerR many rs := by
      have h1 := turn_le_seer hk many
      have h2 := W_nonneg hk many
      grind
    have po := over_pb wpb g1 spos
    have so := s_over (n := n) (by omega) wpb g1 spos (by decide) (by decide)
    have io := s_is (n := n) (by omega) (W rs many / seerR many rs) po po.low (by decide) (by decide)
    rw [decide_eq_true rfl] at io
    rw [pD_low, pD_low] at so
    have st0 := s_steady (n := n) (by omega) hro hk (by omega) (by decide) (by decide) (by decide) (d := .int 10000) (t := ((10000 : Int) : Rat)) (.inr ⟨10000, rfl, rfl⟩) (VQ.sm_int (by decide))
    have ez : stR ((10000 : Int) : Rat) rs = 0 := stR_above fun r h x hx => ((hr r h).x x hx).lt
    rw [ez] at st0
    have iz := s_is (n := n) (by omega) 0 PB.zero PB.zero (by decide) (by decide)
    rw [decide_eq_true rfl] at iz
    have iz : callN L.T L.fs n 44 [.sh (fr 0), .sh (.tup [.int 0, .int 1])] = .ok (.bl true) [.sh (fr 0), .sh (.tup [.int 0, .int 1])] := iz
    have zn : ¬ (seerR many rs).num = 0 := fun k => z (nn.mp k)
    have zD : lowD (seerR many rs) = .tup [.int (seerR many rs).num, .int ((seerR many rs).den : Int)] := rfl
    rw [zD] at so
    generalize pD ((lowP (W rs many)).1 * (lowP (seerR many rs)).2, (lowP (W rs many)).2 * (lowP (seerR many rs)).1) = oD at *
    refine ⟨[.sh scr], ?_⟩
    rw [zD]
    simp (disch := omega) [callE_eq, hq, e6, so, io, st0, iz, zn, limN]
theorem value (ns : List Int) (hl : ns.length ≤ 63) : ∃ outs, callN L.T L.fs 20 54 [.sh (.scr (ns.map .int))] = .ok (.bl true) outs := value1 ns hl

end LW
end
theorem PySem.Challenge.cw_nextprices_k69_whole_half_of_the_seer_holds : PySem.Challenge.rw_nextprices_k69_whole_half_of_the_seer.Holds := by
  exact LW.theEnd LW.value
