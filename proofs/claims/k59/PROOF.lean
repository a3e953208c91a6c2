import PyProof.Rows.All
import Wide.All
import OpenK.AllK
import Wide.FinOn
import HandS.ForMost
import HandS.ForExc
import HandS.Text
import KE.KeyNested
import KE.SortData
import HandS.Lambda
import HandS.TupAny
import HandS.Deep
import HandS.Flow
import HandS.Walk
import KE.KDictKeyed
import KE.KDictWalk
import KE.KEqDict
import HandS.DictComp
import PyProof.FactsAll.dict
import HandS.Zip
import HandS.Style
import KE.KDictCopyH
import HandS.IsInst
import HandS.ExcIs
import HandS.Sort
import KE.DataFind
import HandS.ExcOwn
import HandS.TryOnly
import HandS.Defaults
import HandS.HeadHook1
import HandS.HeadHook2
import HandS.HeadHook4
import HandS.RevTup
import KE.KRevSl
import HandS.Comp
import HandS.HeadWalk
import HandS.Head0
import HandS.Head1
import HandS.Head2
import HandS.HeadEnd
import PySem.Challenge.RW_turncoats_k59_what_turns_and_groups_refu
section
set_option Elab.async false
set_option linter.all false
set_option autoImplicit false
/-! values as trees, and an evaluator over them -/
namespace T
open PySem

/-- data: a dict says whether its keys are tuples -/
inductive D where
  | non | bl (b : Bool) | int (i : Int) | str (s : Str)
  | tup (xs : List D) | lst (xs : List D)
  | dct (t : Bool) (kvs : List (D × D))
  | obj (c : Nat) (fs : List (Nat × D))
  | exv (c : Nat) (fs : List (Nat × D))
  | clo (n : Nat) (cl : List (Str × Addr))
  | stt (k : Nat)
deriving Inhabited

/-! ### equality of data, as Python has it -/
mutual
def D.eqv : D → D → Bool
  | .non, .non => true
  | .bl a, .bl b => a == b
  | .bl a, .int j => (if a then 1 else 0) == j
  | .int i, .bl b => i == (if b then 1 else 0)
  | .int i, .int j => i == j
  | .str x, .str y => x == y
  | .lst xs, .lst ys => eqvs xs ys
  | .tup xs, .tup ys => eqvs xs ys
  | _, _ => false
def D.eqvs : List D → List D → Bool
  | [], [] => true
  | x :: xs, y :: ys => D.eqv x y && D.eqvs xs ys
  | _, _ => false
end

/-- the number of items is one that a list may have -/
def fits (n : Nat) : Bool := Nat.ble n 16777216

/-! ### trees of draws -/
inductive Tr (α : Type) where
  | ret (a : α)
  | draw (m : Nat) (k : Nat → Tr α)
  | bad

def Tr.bind {α β : Type} : Tr α → (α → Tr β) → Tr β
  | .ret a, f => f a
  | .draw m k, f => .draw m fun r => (k r).bind f
  | .bad, _ => .bad
def Tr.wp {α : Type} (P : α → Prop) : Tr α → Prop
  | .ret a => P a
  | .draw m k => 0 < m ∧ ∀ r, r < m → (k r).wp P
  | .bad => False
theorem Tr.wp_bind {α β : Type} {P : β → Prop} {f : α → Tr β} : ∀ {t : Tr α}, (t.bind f).wp P ↔ t.wp fun a => (f a).wp P
  | .ret a => Iff.rfl
  | .draw m k => by
    show (0 < m ∧ ∀ r, r < m → ((k r).bind f).wp P) ↔ (0 < m ∧ ∀ r, r < m → (k r).wp fun a => (f a).wp P)
    exact ⟨fun ⟨h, g⟩ => ⟨h, fun r hr => Tr.wp_bind.mp (g r hr)⟩, fun ⟨h, g⟩ => ⟨h, fun r hr => Tr.wp_bind.mpr (g r hr)⟩⟩
  | .bad => Iff.rfl
theorem Tr.wp_mono {α : Type} {P Q : α → Prop} (h : ∀ a, P a → Q a) : ∀ {t : Tr α}, t.wp P → t.wp Q
  | .ret a, g => h a g
  | .draw m k, ⟨g1, g2⟩ => ⟨g1, fun r hr => Tr.wp_mono h (g2 r hr)⟩
  | .bad, g => g

/-! ### entries, operands, outcomes -/
/-- a slot's entry: a frozen value | a container that this slot alone holds | a container that is lent -/
inductive Ent where
  | val (d : D) | own (d : D) | bor (d : D)
deriving Inhabited
abbrev Env := List (Option Ent)
def Ent.d : Ent → D
  | .val d => d | .own d => d | .bor d => d
/-- a value, a slot's container by reference, a new container -/
inductive Op where
  | v (d : D) | b (i : Nat) | f (d : D)
deriving Inhabited
structure Exc where
  c : Nat
  fs : List (Nat × D)
inductive Ou (α : Type) where
  | ok (a : α) (δ : Env)
  | exc (x : Exc) (δ : Env)
abbrev EvM (α : Type) := Env → Tr (Ou α)
def EvM.bind {α β : Type} (m : EvM α) (f : α → EvM β) : EvM β := fun δ => (m δ).bind fun o => match o with
  | .ok a δ' => f a δ'
  | .exc x δ' => .ret (.exc x δ')
def EvM.pure {α : Type} (a : α) : EvM α := fun δ => .ret (.ok a δ)
def EvM.bad {α : Type} : EvM α := fun _ => .bad
def EvM.raise {α : Type} (x : Exc) : EvM α := fun δ => .ret (.exc x δ)
def EvM.opt {α : Type} (o : Option α) : EvM α := match o with
  | some a => .pure a
  | none => .bad
instance : Monad EvM where
  pure := EvM.pure
  bind := EvM.bind

/-- what an operand holds now -/
def look (δ : Env) : Op → Option D
  | .v d => some d
  | .f d => some d
  | .b i => match δ[i]? with
    | some (some e) => some e.d
    | _ => none
def rd (o : Op) : EvM D := fun δ => match look δ o with
  | some d => .ret (.ok d δ)
  | none => .bad
def rds : List Op → EvM (List D)
  | [] => .pure []
  | o :: os => (rd o).bind fun d => (rds os).bind fun ds => .pure (d :: ds)
/-- an operand as a frozen value -/
def fz (o : Op) : EvM D := fun δ => match o with
  | .v d => .ret (.ok d δ)
  | .f d => .ret (.ok d δ)
  | .b i => match δ[i]? with
    | some (some (.val d)) => .ret (.ok d δ)
    | some (some (.own d)) => .ret (.ok d (δ.set i (some (.val d))))
    | _ => .bad

/-! ### operations on data -/
inductive Bop where
  | add | sub | mul | fdiv | mod | pow
inductive Cop where
  | eq | ne | lt | le | gt | ge | isN | notN | in_ | notIn

def big64 : Int := 18446744073709551616
def mulOk (i j : Int) : Bool := (decide (-big64 < i) && decide (i < big64)) || (decide (-big64 < j) && decide (j < big64))
/-- a op b, both read; a new list is told by the flag of Op -/
def binD : Bop → D → D → Option Op
  | .add, .int i, .int j => some (.v (.int (i + j)))
  | .sub, .int i, .int j => some (.v (.int (i - j)))
  | .mul, .int i, .int j => if mulOk i j then some (.v (.int (i * j))) else none
  | .fdiv, .int i, .int j => if decide (0 < j) && decide (j < 1073741824) then some (.v (.int (i / j))) else none
  | .mod, .int i, .int j => if decide (0 < j) then some (.v (.int (i % j))) else none
  | .pow, .int i, .int j => if decide (0 ≤ j) && decide (j ≤ 1000000) && decide (i.natAbs < 18446744073709551616) then some (.v (.int (i ^ j.toNat))) else none
  | .add, .tup xs, .tup ys => if fits (xs.length + ys.length) then some (.v (.tup (xs ++ ys))) else none
  | .add, .lst xs, .lst ys => if fits (xs.length + ys.length) then some (.f (.lst (xs ++ ys))) else none
  | .add, .str x, .str y => if fits (x.length + y.length) then some (.v (.str (x ++ y))) else none
  | .mul, .lst xs, .int k => if decide (-9223372036854775808 ≤ k) && decide (k < 9223372036854775808) && fits (xs.length * k.toNat) then some (.f (.lst (List.replicate k.toNat xs).flatten)) else none
  | _, _, _ => none

def D.truth : D → Option Bool
  | .non => some false
  | .bl b => some b
  | .int i => some (i != 0)
  | .str s => if fits s.length then some ((s.length : Int) != 0) else none
  | .tup xs => some (!xs.isEmpty)
  | .lst xs => some (!xs.isEmpty)
  | _ => none

/-! ### keys -/
mutual
def D.toNK : D → Option NestedKey
  | .non => some .none
  | .bl b => some (.num (if b then 1 else 0))
  | .int i => some (.num i)
  | .str s => some (.text s)
  | .tup xs => match D.toNKs xs with
    | some ks => some (.tup ks)
    | none => none
  | _ => none
def D.toNKs : List D → Option (List NestedKey)
  | [] => some []
  | x :: xs => match D.toNK x with
    | some k => match D.toNKs xs with
      | some ks => some (k :: ks)
      | none => none
    | none => none
end
/-- what may be a key of such a dict -/
def keyOk (t : Bool) (k : D) : Bool := match t, k with
  | false, .int _ => true
  | false, .str _ => true
  | true, .tup xs => match D.toNKs xs with
    | some ks => Nat.ble (NestedKey.tup ks).depth 8
    | none => false
  | _, _ => false
def dget (kvs : List (D × D)) (k : D) : Option D := match kvs with
  | [] => none
  | p :: r => if p.1.eqv k then some p.2 else dget r k
def dhas (kvs : List (D × D)) (k : D) : Bool := (dget kvs k).isSome
def dset (kvs : List (D × D)) (k v : D) : List (D × D) := match kvs with
  | [] => [(k, v)]
  | p :: r => if p.1.eqv k then (p.1, v) :: r else p :: dset r k v
def ddrop (kvs : List (D × D)) (k : D) : List (D × D) := match kvs with
  | [] => []
  | p :: r => if p.1.eqv k then r else p :: ddrop r k
/-- d[k] = v -/
def dput (t : Bool) (kvs : List (D × D)) (k v : D) : Option (List (D × D)) :=
  if keyOk t k && Nat.blt kvs.length 16777216 then some (dset kvs k v) else none

/-! ### indices, slices -/
def ixD {α : Type} (xs : List α) (i : Int) : Option α :=
  if 0 ≤ i then xs[i.toNat]? else if 0 ≤ i + xs.length then xs[(i + xs.length).toNat]? else none
def sgn (c : Nat) : D := .str ⟨#[c]⟩
def subD : D → D → Option D
  | .lst xs, .int i => ixD xs i
  | .tup xs, .int i => ixD xs i
  | .str s, .int i => if fits s.length then (ixD s.cps.toList i).map sgn else none
  | .dct t kvs, k => if keyOk t k then dget kvs k else none
  | _, _ => none
def sIx (n d : Nat) : Option Int → Nat
  | none => d
  | some v => if v < 0 then (v + (n : Int)).toNat else min v.toNat n
def cutL {α : Type} (xs : List α) (lo hi : Option Int) : List α := (xs.drop (sIx xs.length 0 lo)).take (sIx xs.length xs.length hi - sIx xs.length 0 lo)
def slcD : D → Option Int → Option Int → Option Op
  | .lst xs, lo, hi => some (.f (.lst (cutL xs lo hi)))
  | .tup xs, lo, hi => some (.v (.tup (cutL xs lo hi)))
  | _, _, _ => none
def revD : D → Option Op
  | .lst xs => some (.f (.lst xs.reverse))
  | .tup xs => some (.v (.tup xs.reverse))
  | _ => none

/-! ### the order of data -/
mutual
def D.py : D → PyData
  | .bl b => .bool b
  | .int i => .int i
  | .str s => .str s
  | .tup xs => .tuple (D.pys xs)
  | .lst xs => .list (D.pys xs)
  | _ => .none
def D.pys : List D → List PyData
  | [] => []
  | x :: xs => D.py x :: D.pys xs
end
/-- put in order -/
def insD (x : D) : List D → List D
  | [] => [x]
  | y :: l => match PySem.W.dataLe false D.py x y with
    | true => x :: y :: l
    | false => y :: insD x l
def sortD : List D → List D
  | [] => []
  | x :: l => insD x (sortD l)
def allAlike (xs : List D) : Bool := xs.all fun x => xs.all fun y => PySem.W.alike x.py y.py
/-- kinds of items that sorted takes -/
def tupNE : D → Bool
  | .tup (_ :: _) => true
  | _ => false
def noTup : D → Bool
  | .int _ => true
  | .bl _ => true
  | .str _ => true
  | .lst _ => true
  | _ => false
def sortable (xs : List D) : Bool := xs.all tupNE || xs.all noTup

/-! ### data to be compared -/
mutual
def D.depth : D → Nat
  | .tup xs => D.depths xs + 1
  | .lst xs => D.depths xs + 1
  | _ => 0
def D.depths : List D → Nat
  | [] => 0
  | x :: xs => max (D.depth x) (D.depths xs)
end
mutual
def D.plain : D → Bool
  | .non => true | .bl _ => true | .int _ => true | .str s => PyData.strOk s
  | .tup xs => D.plains xs
  | .lst xs => D.plains xs
  | _ => false
def D.plains : List D → Bool
  | [] => true
  | x :: xs => D.plain x && D.plains xs
end
def eqOk (d : D) : Bool := d.plain && Nat.ble d.depth 60

/-! ### types -/
inductive Ty where
  | int | bool | str | tuple | list | dict | vale | own (c : Nat)
deriving DecidableEq
/-- whether isinstance says so; sub: the subclasses; ko, kx: the classes of instances, of exceptions -/
def isTy (sub : Nat → Nat → Bool) (ko kx : Nat → Bool) (d : D) (t : Ty) : Option Bool := match d with
  | .non => some false
  | .bl _ => some (decide (t = .bool) || decide (t = .int))
  | .int _ => some (decide (t = .int))
  | .str _ => some (decide (t = .str))
  | .tup _ => some (decide (t = .tuple))
  | .lst _ => some (decide (t = .list))
  | .dct _ _ => some (decide (t = .dict))
  | .obj c _ => if ko c then (match t with
    | .own c' => some (sub c c')
    | _ => none) else none
  | .exv c fs => if kx c && fs.isEmpty then (match t with
    | .own c' => some (sub c c')
    | .vale => some true
    | _ => none) else none
  | _ => none

/-! ### the text -/
inductive Tg where
  | n (i : Nat) | t (ts : List Tg)
mutual
inductive Ex where
  | var (i : Nat)
  | cst (d : D)
  | gc (k : Nat)
  | bin (o : Bop) (a b : Ex)
  | neg (a : Ex)
  | cmp (o : Cop) (a b : Ex)
  | chain (o o' : Cop) (a b c : Ex)
  | and (es : List Ex)
  | or (es : List Ex)
  | not (a : Ex)
  | ite (c a b : Ex)
  | tup (es : List Ex)
  | lst (es : List Ex)
  | dnew (t : Bool) (ks vs : List Ex)
  | sub (a i : Ex)
  | slc (a : Ex) (lo hi : Option Ex)
  | rev (a : Ex)
  | lc (own : List Nat) (tg : Tg) (it : It) (ifs : Option Ex) (e : Ex)
  | dc (t : Bool) (own : List Nat) (tg : Tg) (it : It) (ifs : Option Ex) (k v : Ex)
  | lc2 (own : List Nat) (tg : Tg) (it : It) (tg1 : Tg) (it1 : It) (ifs : Option Ex) (e : Ex) (own1 : List Nat)
  | fld (a : Ex) (f : Nat)
  | call (k : Nat) (ms : List Bool) (es : List Ex)
  | meth (o : Ex) (m : Nat) (ms : List Bool) (es : List Ex)
  | mk (c : Nat) (ms : List Bool) (es : List Ex)
  | isi (a : Ex) (ts : List Ty)
  | blt (k : Nat) (es : List Ex)
  | rng (tq : Bool) (lo : Option Ex) (hi : Ex)
  | bm (k : Nat) (o : Ex) (es : List Ex)
  | mut (k : Nat) (i : Nat) (es : List Ex)
  | draw (s n : Ex)
  | cmpo (ne : Bool) (m : Nat) (a b : Ex)
  | lam (n : Nat)
  | act
  | wcall (k : Nat) (vs : List Nat) (a : Ex)
  | wlam (k n : Nat)
  | bad
inductive It where
  | of (e : Ex)
  | range (lo : Option Ex) (hi : Ex)
  | enum (e : Ex)
  | zip (a b : Ex)
  | items (e : Ex)
  | vals (e : Ex)
end
inductive Stm where
  | set (tg : Tg) (e : Ex)
  | par (is : List Nat) (es : List Ex)
  | setix (o i e : Ex)
  | setfld (i f : Nat) (e : Ex)
  | aug (i : Nat) (o : Bop) (e : Ex)
  | ex (e : Ex)
  | iff (c : Ex) (a b : List Stm)
  | for_ (tg : Tg) (it : It) (b : List Stm)
  | while_ (c : Ex) (b : List Stm)
  | ret (e : Ex)
  | retn
  | raise (c : Nat) (es : List Ex)
  | try_ (b : List Stm) (c : Nat) (x : Option Nat) (h : List Stm)
  | pass | cont | brk | bad

/-- what a def hands back: a value or a new container; or an exception -/
inductive Res where
  | ok (e : Ent) | exc (x : Exc)
abbrev Fnc := List Ent → Tr Res
/-- what names stand for -/
structure Sig where
  fn : Nat → Fnc
  meth : Nat → Nat → Fnc
  make : Nat → Fnc
  gc : Nat → Option D
  sub : Nat → Nat → Bool
  /-- the classes of instances, of exceptions; which fields of these may be read -/
  ko : Nat → Bool
  kx : Nat → Bool
  fo : Nat → Nat → Bool
  fx : Nat → Nat → Bool
  exc : Nat → List D → Option Exc
  /-- what a call of the thing that was handed in gives -/
  act : Tr Res
  /-- a lambda's cells, its body; defs that call what they are handed -/
  cl : Nat → List (Str × Addr)
  lamB : Nat → Ex
  lamK : Nat → Bool
  wfn : Nat → List (Str × Addr) → Nat → Tr Res → Tr Res

/-! ### comparisons -/
def allInt : List D → Option (List Int)
  | [] => some []
  | x :: r => match x, allInt r with
    | .int b, some bs => some (b :: bs)
    | _, _ => none
def D.isNon : D → Bool
  | .non => true
  | _ => false
/-- flat data -/
def D.flat : D → Bool
  | .non => true | .bl _ => true | .int _ => true | .str _ => true
  | _ => false
def cmpD : Cop → D → D → Option Bool
  | .eq, x, y => if eqOk x && eqOk y then some (D.eqv x y) else none
  | .ne, .dct _ _, .tup _ => some true
  | .ne, x, y => if eqOk x && eqOk y then some (!D.eqv x y) else none
  | .lt, .int i, .int j => some (decide (i < j))
  | .le, .int i, .int j => some (decide (i ≤ j))
  | .gt, .int i, .int j => some (decide (j < i))
  | .ge, .int i, .int j => some (decide (j ≤ i))
  | .lt, .tup xs, .tup ys => match allInt xs, allInt ys with
    | some ns, some ms => some (HT.lexLt ns ms)
    | _, _ => none
  | .isN, x, .non => some x.isNon
  | .notN, x, .non => some (!x.isNon)
  | .in_, x, .dct t kvs => if keyOk t x then some (dhas kvs x) else none
  | .notIn, x, .dct t kvs => if keyOk t x then some (!dhas kvs x) else none
  | .in_, x, .lst ys => if eqOk x && ys.all eqOk then some (ys.any fun y => D.eqv y x) else none
  | .notIn, x, .lst ys => if eqOk x && ys.all eqOk then some (!(ys.any fun y => D.eqv y x)) else none
  | .in_, x, .tup ys => if x.flat && ys.all D.flat then some (ys.any fun y => D.eqv y x) else none
  | .notIn, x, .tup ys => if x.flat && ys.all D.flat then some (!(ys.any fun y => D.eqv y x)) else none
  | .in_, .str ⟨⟨[c]⟩⟩, .str y => some (decide (c ∈ y.cps.toList))
  | _, _, _ => none

/-! ### loops of an evaluator -/
/-- a list's items, one by one -/
def lcM (f : D → EvM (Option D)) : List D → EvM (List D)
  | [] => .pure []
  | x :: r => (f x).bind fun o => (lcM f r).bind fun l => .pure (match o with
    | some y => y :: l
    | none => l)
/-- .. each giving several -/
def lcM2 (f : D → EvM (List D)) : List D → EvM (List D)
  | [] => .pure []
  | x :: r => (f x).bind fun o => (lcM2 f r).bind fun l => .pure (o ++ l)
/-- a dict's, stored one by one -/
def dcM (t : Bool) (f : D → EvM (Option (D × D))) : List D → List (D × D) → EvM (List (D × D))
  | [], acc => .pure acc
  | x :: r, acc => (f x).bind fun o => match o with
    | some p => match dput t acc p.1 p.2 with
      | some acc' => dcM t f r acc'
      | none => .bad
    | none => dcM t f r acc
def wipeE (δ : Env) : List Nat → Env
  | [] => δ
  | v :: vs => (wipeE δ vs).set v none
/-- the slots vs as they were in δ0 -/
def backE (δ0 : Env) (δ : Env) : List Nat → Env
  | [] => δ
  | v :: vs => (backE δ0 δ vs).set v (δ0.getD v none)
def calmAt (δ : Env) (v : Nat) : Bool := match δ.getD v none with
  | none => true
  | some (.val _) => true
  | _ => false
/-- no exception comes out; the slots vs are the block's own -/
def blockM {α : Type} (vs : List Nat) (m : EvM α) : EvM α := fun δ =>
  if vs.all (calmAt δ) then (m δ).bind fun o => match o with
    | .ok a δ' => .ret (.ok a (backE δ δ' vs))
    | .exc _ _ => .bad
  else .bad
mutual
/-- a target takes a value -/
def tgM : Tg → D → EvM Unit
  | .n i, d => fun δ => if i < δ.length then .ret (.ok () (δ.set i (some (.val d)))) else .bad
  | .t ts, .tup ds => tgsM ts ds
  | _, _ => .bad
def tgsM : List Tg → List D → EvM Unit
  | [], [] => .pure ()
  | t :: ts, d :: ds => (tgM t d).bind fun _ => tgsM ts ds
  | _, _ => .bad
end
/-- an operand that is walked: a slot's own container is frozen by that, a lent one stays lent -/
def io (o : Op) : EvM D := fun δ => match o with
  | .v d => .ret (.ok d δ)
  | .f d => .ret (.ok d δ)
  | .b i => match δ[i]? with
    | some (some (.val d)) => .ret (.ok d δ)
    | some (some (.own d)) => .ret (.ok d (δ.set i (some (.val d))))
    | some (some (.bor d)) => .ret (.ok d δ)
    | _ => .bad
def itemsD : D → Option (List D)
  | .lst xs => some xs
  | .tup xs => some xs
  | .dct _ kvs => some (kvs.map (·.1))
  | .str s => if fits s.length then some (s.cps.toList.map sgn) else none
  | _ => none
/-- what list, sorted take -/
def itemsT : D → Option (List D)
  | .lst xs => some xs
  | .tup xs => some xs
  | .dct _ kvs => some (kvs.map (·.1))
  | _ => none
def seqD : D → Option (List D)
  | .lst xs => some xs
  | .tup xs => some xs
  | _ => none
def big62 : Int := 4611686018427387904
def rngD (lo hi : Int) : Option (List D) :=
  if decide (-big62 ≤ lo) && decide (lo < big62) && decide (-big62 ≤ hi) && decide (hi < big62) && fits (hi - lo).toNat then
    some ((List.range (hi - lo).toNat).map fun (k : Nat) => D.int (lo + (k : Int))) else none
def intD : D → Option Int
  | .int i => some i
  | _ => none
def enumD (k : Nat) : List D → List D
  | [] => []
  | x :: r => .tup [.int k, x] :: enumD (k + 1) r
def D.isObj : D → Bool
  | .obj _ _ => true
  | _ => false
/-- a lent argument, kept as an operand -/
def noF (o : Op) : EvM Op := match o with
  | .f _ => .bad
  | o => .pure o
/-- what is lent: no instance that is a slot's own -/
def lend (o : Op) : EvM D := fun δ => match o with
  | .v d => .ret (.ok d δ)
  | .f _ => .bad
  | .b i => match δ[i]? with
    | some (some (.val d)) => .ret (.ok d δ)
    | some (some (.own d)) => if d.isObj then .bad else .ret (.ok d δ)
    | some (some (.bor d)) => if d.isObj then .bad else .ret (.ok d δ)
    | _ => .bad
def lendM : List Bool → List Op → EvM (List Ent)
  | _, [] => .pure []
  | ms, o :: os => if ms.headD false then (lend o).bind fun d => (lendM ms.tail os).bind fun es => .pure (.bor d :: es)
    else match o with
      | .v d => (lendM ms.tail os).bind fun es => .pure (.val d :: es)
      | _ => .bad
def resM (t : Tr Res) : EvM Op := fun δ => t.bind fun r => match r with
  | .ok (.val d) => .ret (.ok (.v d) δ)
  | .ok (.own d) => .ret (.ok (.f d) δ)
  | .ok (.bor _) => .bad
  | .exc x => .ret (.exc x δ)

def testO (m : EvM Op) : EvM Bool := m.bind fun o => (rd o).bind fun d => .opt d.truth
section
variable (S : Sig) (ev : Ex → EvM Op)
def evs : List Ex → EvM (List Op)
  | [] => .pure []
  | e :: es => (ev e).bind fun o => (evs es).bind fun os => .pure (o :: os)
/-- the values of several, frozen, in order as they come -/
def evsV : List Ex → EvM (List D)
  | [] => .pure []
  | e :: es => (ev e).bind fun o => (fz o).bind fun d => (evsV es).bind fun ds => .pure (d :: ds)
/-- arguments: those that are lent stay operands, the others are frozen -/
def evA : List Bool → List Ex → EvM (List Op)
  | _, [] => .pure []
  | ms, e :: es => if ms.headD false then (ev e).bind fun o => (noF o).bind fun o => (evA ms.tail es).bind fun os => .pure (o :: os)
    else (ev e).bind fun o => (fz o).bind fun d => (evA ms.tail es).bind fun os => .pure (.v d :: os)
def evD (e : Ex) : EvM D := (ev e).bind rd
/-- a test -/
def testM (e : Ex) : EvM Bool := testO (ev e)
def boolD : D → Option Bool
  | .bl b => some b
  | _ => none
/-- and, or: all but the last tell True or False -/
def andM : List Ex → EvM Op
  | [] => .bad
  | [e] => ev e
  | e :: es => (evD ev e).bind fun d => match boolD d with
    | some true => andM es
    | some false => .pure (.v (.bl false))
    | none => .bad
def orM : List Ex → EvM Op
  | [] => .bad
  | [e] => ev e
  | e :: es => (evD ev e).bind fun d => match boolD d with
    | some true => .pure (.v (.bl true))
    | some false => orM es
    | none => .bad
def optM (o : Option Ex) : EvM (Option Int) := match o with
  | none => .pure none
  | some e => (evD ev e).bind fun d => match intD d with
    | some i => .pure (some i)
    | none => .bad
/-- what a loop walks -/
def itM : It → EvM (List D)
  | .of e => (ev e).bind fun o => (io o).bind fun d => .opt (itemsD d)
  | .range none hi => (evD ev hi).bind fun d => match intD d with
    | some i => .opt (rngD 0 i)
    | none => .bad
  | .range (some lo) hi => (evD ev lo).bind fun c => (evD ev hi).bind fun d => match intD c, intD d with
    | some i, some j => .opt (rngD i j)
    | _, _ => .bad
  | .enum e => (ev e).bind fun o => (io o).bind fun d => match seqD d with
    | some xs => .pure (enumD 0 xs)
    | none => .bad
  | .zip a b => (ev a).bind fun o => (io o).bind fun c => (ev b).bind fun p => (io p).bind fun d => match c, d with
    | .lst xs, .lst ys => if fits xs.length then .pure (List.zipWith (fun x y => D.tup [x, y]) xs ys) else .bad
    | .tup xs, .tup ys => if fits xs.length then .pure (List.zipWith (fun x y => D.tup [x, y]) xs ys) else .bad
    | _, _ => .bad
  | .items e => (ev e).bind fun o => (io o).bind fun d => match d with
    | .dct _ kvs => .pure (kvs.map fun p => .tup [p.1, p.2])
    | _ => .bad
  | .vals e => (ev e).bind fun o => (io o).bind fun d => match d with
    | .dct _ kvs => .pure (kvs.map fun p => p.2)
    | _ => .bad
def ifM (o : Option Ex) : EvM Bool := match o with
  | none => .pure true
  | some e => testM ev e
/-- one turn of a comprehension -/
def turnM {α : Type} (own : List Nat) (tg : Tg) (ifs : Option Ex) (m : EvM α) (x : D) : EvM (Option α) := fun δ =>
  ((tgM tg x).bind fun _ => (ifM ev ifs).bind fun b => if b then m.bind fun y => .pure (some y) else .pure none) (wipeE δ own)
end

def blS (d : Option Bool) : Option Op := d.map fun b => .v (.bl b)
def D.isTrue : D → Option Bool
  | .bl b => some b
  | _ => none
def allBl : List D → Option (List Bool)
  | [] => some []
  | x :: r => match x, allBl r with
    | .bl b, some bs => some (b :: bs)
    | _, _ => none
def lenD : D → Option Int
  | .lst xs => some xs.length
  | .tup xs => some xs.length
  | .dct _ kvs => some kvs.length
  | .str s => if fits s.length then some s.length else none
  | _ => none
def pairD : D → Option (D × D)
  | .tup [a, b] => some (a, b)
  | _ => none
def dctOf (t : Bool) : List D → List (D × D) → Option (List (D × D))
  | [], acc => some acc
  | x :: r, acc => match pairD x with
    | some p => match dput t acc p.1 p.2 with
      | some acc' => dctOf t r acc'
      | none => none
    | none => none
def isTupKeys : List D → Bool
  | .tup (.tup _ :: _) :: _ => true
  | _ => false
def findIx (y : D) : List D → Nat → Option Nat
  | [], _ => none
  | x :: r, k => if D.eqv x y then some k else findIx y r (k + 1)
/-- built-ins by number: 0 len, 1 list, 2 tuple, 3 sorted, 4 all, 5 any, 6 sum, 7 max, 8 min (of two ints), 9 abs, 10 int (of a truth), 11 dict, 12 max of a list -/
def bltD : Nat → List D → Option Op
  | 0, [x] => (lenD x).map fun n => .v (.int n)
  | 1, [x] => (itemsT x).map fun l => .f (.lst l)
  | 2, [.tup xs] => some (.v (.tup xs))
  | 2, [.lst xs] => some (.v (.tup xs))
  | 3, [x] => match itemsT x with
    | some l => if allAlike l && sortable l && l.all eqOk then some (.f (.lst (sortD l))) else none
    | none => none
  | 4, [.lst xs] => (allBl xs).map fun bs => .v (.bl (bs.all id))
  | 5, [.lst xs] => (allBl xs).map fun bs => .v (.bl (bs.any id))
  | 6, [.lst xs] => (allInt xs).map fun is => .v (.int is.sum)
  | 7, [.int i, .int j] => some (.v (.int (if j > i then j else i)))
  | 8, [.int i, .int j] => some (.v (.int (if j < i then j else i)))
  | 9, [.int i] => some (.v (.int (if i < 0 then -i else i)))
  | 10, [.bl b] => some (.v (.int (if b then 1 else 0)))
  | 10, [.int i] => some (.v (.int i))
  | 11, [.dct t kvs] => some (.f (.dct t kvs))
  | 11, [.lst xs] => (dctOf (isTupKeys xs) xs []).map fun kvs => .f (.dct (isTupKeys xs) kvs)
  | _, _ => none
/-- methods of built-in types that only tell: 0 get(k), 1 get(k, x), 2 index(x), 3 count(x) -/
def bmD : Nat → D → List D → Option Op
  | 0, .dct t kvs, [k] => if keyOk t k then some (.v ((dget kvs k).getD .non)) else none
  | 1, .dct t kvs, [k, x] => if keyOk t k then some (.v ((dget kvs k).getD x)) else none
  | 2, .lst xs, [y] => if eqOk y && xs.all eqOk then (findIx y xs 0).map fun (k : Nat) => Op.v (.int (k : Int)) else none
  | 3, .lst xs, [y] => if eqOk y && xs.all eqOk then some (.v (.int (xs.countP fun x => D.eqv x y : Nat))) else none
  | _, _, _ => none
/-- of which kind the receiver is -/
def bmKind : Nat → D → Bool
  | 0, .dct _ _ => true
  | 1, .dct _ _ => true
  | 2, .lst _ => true
  | 3, .lst _ => true
  | _, _ => false
/-- methods that change a slot's own container: 0 append(x), 1 pop(), 2 pop(i), 3 extend(list) -/
def mutD : Nat → D → List D → Option (D × Op)
  | 0, .lst xs, [y] => if Nat.blt xs.length 16777216 then some (.lst (xs ++ [y]), .v .non) else none
  | 1, .lst xs, [] => match xs.getLast? with
    | some y => some (.lst xs.dropLast, .v y)
    | none => none
  | 2, .lst xs, [.int i] => if 0 ≤ i then (match xs[i.toNat]? with
      | some y => some (.lst (xs.eraseIdx i.toNat), .v y)
      | none => none) else none
  | 3, .lst xs, [.lst ys] => if fits (xs.length + ys.length) then some (.lst (xs ++ ys), .v .non) else none
  | _, _, _ => none
/-- the slot holds a list of its own -/
def ownL (i : Nat) : EvM Unit := fun δ => match δ[i]? with
  | some (some (.own (.lst _))) => .ret (.ok () δ)
  | _ => .bad
/-- a slot's own container is changed -/
def mutM (k i : Nat) (os : List D) : EvM Op := fun δ => match δ[i]? with
  | some (some (.own d)) => match mutD k d os with
    | some (d', o) => .ret (.ok o (δ.set i (some (.own d'))))
    | none => .bad
  | _ => .bad
/-- == and != of an instance whose class has an __eq__ (method 0) -/
def cmpM (S : Sig) (o : Cop) (x y : D) : EvM Op := match o, x with
  | .eq, .obj c fs => resM (S.meth c 0 [.val (.obj c fs), .val y])
  | .ne, .obj c fs => (resM (S.meth c 0 [.val (.obj c fs), .val y])).bind fun r => match r with
    | .v (.bl b) => .pure (.v (.bl (!b)))
    | _ => .bad
  | o, x => .opt (blS (cmpD o x y))

/-- the frozen slots alone -/
def valsE (δ : Env) : Env := δ.map fun e => match e with
  | some (.val d) => some (.val d)
  | _ => none
/-- what a lambda's body gives, the slots being δ -/
def lamT (m : EvM Op) (δ : Env) : Tr Res := (m (valsE δ)).bind fun o => match o with
  | .ok (.v d) _ => .ret (.ok (.val d))
  | .ok (.f d) _ => .ret (.ok (.own d))
  | .ok (.b _) _ => .bad
  | .exc x _ => .ret (.exc x)
def stepE (S : Sig) (ev : Ex → EvM Op) : Ex → EvM Op
  | .var i => fun δ => match δ[i]? with
    | some (some (.val d)) => .ret (.ok (.v d) δ)
    | some (some _) => .ret (.ok (.b i) δ)
    | _ => .bad
  | .cst d => .pure (.v d)
  | .gc k => (EvM.opt (S.gc k)).bind fun d => .pure (.v d)
  | .bin o a b => (ev a).bind fun p => (ev b).bind fun q => (rd p).bind fun x => (rd q).bind fun y => .opt (binD o x y)
  | .neg a => (evD ev a).bind fun d => match d with
    | .int i => .pure (.v (.int (-i)))
    | _ => .bad
  | .cmp o a b => (ev a).bind fun p => (ev b).bind fun q => (rd p).bind fun x => (rd q).bind fun y => cmpM S o x y
  | .chain o o' a b c => (ev a).bind fun p => (ev b).bind fun q => (rd p).bind fun x => (rd q).bind fun y => (EvM.opt (cmpD o x y)).bind fun r =>
      if r then (ev c).bind fun s => (rd q).bind fun y => (rd s).bind fun z => .opt (blS (cmpD o' y z)) else .pure (.v (.bl false))
  | .and es => andM ev es
  | .or es => orM ev es
  | .not a => (evD ev a).bind fun d => match boolD d with
    | some b => .pure (.v (.bl (!b)))
    | none => .bad
  | .ite c a b => (testM ev c).bind fun r => if r then ev a else ev b
  | .tup es => (evsV ev es).bind fun ds => if fits ds.length then .pure (.v (.tup ds)) else .bad
  | .lst es => (evsV ev es).bind fun ds => if fits ds.length then .pure (.f (.lst ds)) else .bad
  | .dnew t ks vs => (evsV ev ks).bind fun kd => (evsV ev vs).bind fun vd => match dctOf t (List.zipWith (fun x y => D.tup [x, y]) kd vd) [] with
    | some kvs => .pure (.f (.dct t kvs))
    | none => .bad
  | .sub a i => (ev a).bind fun p => (ev i).bind fun q => (rd p).bind fun x => (rd q).bind fun y => match subD x y with
    | some d => .pure (.v d)
    | none => .bad
  | .slc a lo hi => (ev a).bind fun p => (optM ev lo).bind fun l => (optM ev hi).bind fun h => (rd p).bind fun x => .opt (slcD x l h)
  | .rev a => (evD ev a).bind fun x => .opt (revD x)
  | .lc own tg it ifs e => (itM ev it).bind fun xs => blockM own ((lcM (turnM ev own tg ifs ((ev e).bind fz)) xs).bind fun l => .pure (.f (.lst l)))
  | .dc t own tg it ifs k v => (itM ev it).bind fun xs => blockM own ((dcM t (turnM ev own tg ifs (((ev k).bind fz).bind fun a => ((ev v).bind fz).bind fun b => .pure (a, b))) xs []).bind fun l => .pure (.f (.dct t l)))
  | .lc2 own tg it tg1 it1 ifs e own1 => (itM ev it).bind fun xs => blockM own ((lcM2 (fun x δ =>
      ((tgM tg x).bind fun _ => (itM ev it1).bind fun ys => lcM (turnM ev own1 tg1 ifs ((ev e).bind fz)) ys) (wipeE δ own)) xs).bind fun l => if fits l.length then .pure (.f (.lst l)) else .bad)
  | .fld a f => (evD ev a).bind fun x => match x with
    | .obj c fs => if S.fo c f then (match fs.lookup f with
      | some d => .pure (.v d)
      | none => .bad) else .bad
    | .exv c fs => if S.fx c f then (match fs.lookup f with
      | some d => .pure (.v d)
      | none => .bad) else .bad
    | _ => .bad
  | .call k ms es => (evA ev ms es).bind fun os => (lendM ms os).bind fun as => resM (S.fn k as)
  | .meth o m ms es => (ev o).bind fun p => (fz p).bind fun x => (evA ev ms es).bind fun os => (lendM ms os).bind fun as => match x with
    | .obj c fs => resM (S.meth c m (.val (.obj c fs) :: as))
    | _ => .bad
  | .mk c ms es => (evA ev ms es).bind fun os => (lendM ms os).bind fun as => resM (S.make c as)
  | .isi a ts => (evD ev a).bind fun x => match ts.foldl (fun (r : Option Bool) t => match r with
      | some true => some true
      | some false => isTy S.sub S.ko S.kx x t
      | none => none) (some false) with
    | some b => .pure (.v (.bl b))
    | none => .bad
  | .blt k es => (evs ev es).bind fun os => (rds os).bind fun ds => .opt (bltD k ds)
  | .rng tq lo hi => (itM ev (.range lo hi)).bind fun xs => .pure (if tq then .v (.tup xs) else .f (.lst xs))
  | .bm k o es => (ev o).bind fun p => (rd p).bind fun y => if bmKind k y then (evsV ev es).bind fun ds => (rd p).bind fun x => .opt (bmD k x ds) else .bad
  | .mut k i es => (ownL i).bind fun _ => (evsV ev es).bind fun ds => mutM k i ds
  | .draw s n => (evD ev s).bind fun a => (evD ev n).bind fun b => match a, b with
    | .stt _, .int m => fun δ => if decide (0 < m) && decide (m < 1073741824) then .draw m.toNat fun r => .ret (.ok (.v (.int (r : Int))) δ) else .bad
    | _, _ => .bad
  | .cmpo ne m a b => (ev a).bind fun p => (fz p).bind fun x => (ev b).bind fun q => (fz q).bind fun y => match x with
    | .obj c fs => (resM (S.meth c m [.val (.obj c fs), .val y])).bind fun r => match r with
      | .v (.bl b) => .pure (.v (.bl (if ne then !b else b)))
      | _ => .bad
    | _ => .bad
  | .lam n => .pure (.v (.clo n (S.cl n)))
  | .act => resM S.act
  | .wcall k vs a => (ev a).bind fun p => (fz p).bind fun x => match x with
    | .clo n cl => if S.lamK n && decide (cl = S.cl n) then fun δ => resM (S.wfn k cl n (lamT (ev (S.lamB n)) (wipeE δ vs))) δ else .bad
    | _ => .bad
  | .wlam k n => fun δ => resM (S.wfn k (S.cl n) n (lamT (ev (S.lamB n)) δ)) δ
  | .bad => .bad
def evE (S : Sig) : Nat → Ex → EvM Op
  | 0, _ => .bad
  | n + 1, e => stepE S (evE S n) e

/-! ### statements -/
inductive Fl where
  | nx | rt (e : Ent) | bk | ct
/-- a slot takes an operand -/
def putM (i : Nat) (o : Op) : EvM Unit := fun δ => if i < δ.length then (match o with
  | .v d => .ret (.ok () (δ.set i (some (.val d))))
  | .f d => .ret (.ok () (δ.set i (some (.own d))))
  | .b j => match δ[j]? with
    | some (some (.own d)) => .ret (.ok () ((δ.set j none).set i (some (.own d))))
    | some (some (.val d)) => .ret (.ok () (δ.set i (some (.val d))))
    | _ => .bad) else .bad
/-- not that slot's container -/
def notB (i : Nat) : Op → Bool
  | .b k => !Nat.beq k i
  | _ => true
def retO (o : Op) : EvM Fl := fun δ => match o with
  | .v d => .ret (.ok (.rt (.val d)) δ)
  | .f d => .ret (.ok (.rt (.own d)) δ)
  | .b i => match δ[i]? with
    | some (some (.val d)) => .ret (.ok (.rt (.val d)) δ)
    | some (some (.own d)) => .ret (.ok (.rt (.own d)) (δ.set i none))
    | _ => .bad
def ixSet (n : Nat) (i : Int) : Option Nat := if 0 ≤ i then (if i < n then some i.toNat else none) else if 0 ≤ i + n then some (i + n).toNat else none
/-- o[k] = v of a slot's own container -/
def setD (o k v : D) : Option D := match o with
  | .lst xs => match k with
    | .int i => (ixSet xs.length i).map fun j => .lst (xs.set j v)
    | _ => none
  | .dct t kvs => (dput t kvs k v).map fun kvs' => .dct t kvs'
  | _ => none
def putFd (f : Nat) (v : D) : List (Nat × D) → List (Nat × D)
  | [] => [(f, v)]
  | p :: r => if p.1 = f then (f, v) :: r else p :: putFd f v r
def setM (o : Op) (k v : D) : EvM Fl := fun δ => match o with
  | .b i => match δ[i]? with
    | some (some (.own d)) => match setD d k v with
      | some d' => .ret (.ok .nx (δ.set i (some (.own d'))))
      | none => .bad
    | _ => .bad
  | _ => .bad
def forM (body : D → EvM Fl) : List D → EvM Fl
  | [] => .pure .nx
  | x :: r => (body x).bind fun f => match f with
    | .nx => forM body r
    | .ct => forM body r
    | .bk => .pure .nx
    | .rt e => .pure (.rt e)
def whileM (c : EvM Bool) (body : EvM Fl) : Nat → EvM Fl
  | 0 => .bad
  | g + 1 => c.bind fun b => if b then body.bind fun f => match f with
      | .nx => whileM c body g
      | .ct => whileM c body g
      | .bk => .pure .nx
      | .rt e => .pure (.rt e)
    else .pure .nx
def seqM (m : EvM Fl) (r : EvM Fl) : EvM Fl := m.bind fun f => match f with
  | .nx => r
  | f => .pure f
/-- a clause: what it does with what it catches; its suite lets no exception out -/
def tryM (sub : Nat → Nat → Bool) (m : EvM Fl) (c : Nat) (x : Option Nat) (h : EvM Fl) : EvM Fl := fun δ => (m δ).bind fun o => match o with
  | .ok f δ' => .ret (.ok f δ')
  | .exc e δ' => if sub e.c c then (match x with
      | none => (h δ').bind fun o => match o with
          | .ok f δ2 => .ret (.ok f δ2)
          | .exc _ _ => .bad
      | some i => if i < δ'.length then (h (δ'.set i (some (.val (.exv e.c e.fs))))).bind fun o => match o with
          | .ok f δ2 => .ret (.ok f (δ2.set i none))
          | .exc _ _ => .bad
        else .bad)
    else .ret (.exc e δ')
def blkM (ex : Stm → EvM Fl) (b : List Stm) : EvM Fl := b.foldr (fun s m => seqM (ex s) m) (.pure .nx)
section
variable (S : Sig) (gas : Nat) (ev : Ex → EvM Op)
def stepS (ex : Stm → EvM Fl) : Stm → EvM Fl
  | .set (.n i) e => (ev e).bind fun o => (putM i o).bind fun _ => .pure .nx
  | .set (.t ts) e => (ev e).bind fun o => (rd o).bind fun d => (tgM (.t ts) d).bind fun _ => .pure .nx
  | .par is es => (evs ev es).bind fun os => match is, os with
    | [i, j], [o, p] => if notB i p then (putM i o).bind fun _ => (putM j p).bind fun _ => .pure .nx else .bad
    | [i, j, k], [o, p, q] => if notB i p && notB i q && notB j q then (putM i o).bind fun _ => (putM j p).bind fun _ => (putM k q).bind fun _ => .pure .nx else .bad
    | _, _ => .bad
  | .setix o i e => ((ev e).bind fz).bind fun v => (ev o).bind fun p => ((ev i).bind fz).bind fun k => setM p k v
  | .setfld i f e => ((ev e).bind fz).bind fun v => fun δ => match δ[i]? with
    | some (some (.own (.obj c fs))) => .ret (.ok .nx (δ.set i (some (.own (.obj c (putFd f v fs))))))
    | _ => .bad
  | .aug i o e => fun δ => match δ[i]? with
    | some (some (.val x)) => ((evD ev e).bind fun y => match x, y with
        | .int a, .int b => (EvM.opt (binD o (.int a) (.int b))).bind fun r => (putM i r).bind fun _ => .pure .nx
        | _, _ => .bad) δ
    | _ => .bad
  | .ex e => (ev e).bind fun _ => .pure .nx
  | .iff c a b => (testM ev c).bind fun r => blkM ex (if r then a else b)
  | .for_ tg it b => (itM ev it).bind fun xs => forM (fun x => (tgM tg x).bind fun _ => blkM ex b) xs
  | .while_ c b => whileM (testM ev c) (blkM ex b) gas
  | .ret e => (ev e).bind retO
  | .retn => .pure (.rt (.val .non))
  | .raise c es => (evsV ev es).bind fun ds => match S.exc c ds with
    | some x => .raise x
    | none => .bad
  | .try_ b c x h => tryM S.sub (blkM ex b) c x (blkM ex h)
  | .pass => .pure .nx
  | .cont => .pure .ct
  | .brk => .pure .bk
  | .bad => .bad
def exS : Nat → Stm → EvM Fl
  | 0, _ => .bad
  | n + 1, s => stepS S gas ev (exS n) s
end
/-- how deep a text may be nested -/
abbrev deep : Nat := 40
def bodyM (S : Sig) (gas : Nat) (b : List Stm) : EvM Fl := blkM (exS S gas (evE S deep) deep) b
/-- a def: its slots' number, its body -/
def defM (S : Sig) (gas n : Nat) (b : List Stm) : Fnc := fun es =>
  (bodyM S gas b (es.map some ++ List.replicate (n - es.length) none)).bind fun o => match o with
    | .ok (.rt (.bor _)) _ => .bad
    | .ok (.rt e) _ => .ret (.ok e)
    | .ok .nx _ => .ret (.ok (.val .non))
    | .ok _ _ => .bad
    | .exc x _ => .ret (.exc x)
end T
end
section
set_option Elab.async false
set_option linter.all false
set_option autoImplicit false
set_option maxRecDepth 100000
/-! what stands in the heap for a datum -/
namespace T
open PySem PySem.Spec PyProof.Rows L2

/-- a lambda of the text -/
structure LamD where
  qual : Str
  params : Arguments
  body : Expr
  scope : Scope
/-- what is fixed: the written part, the classes' addresses, the fields' names, program and world -/
structure Wd where
  P : Program
  w : World
  K : PySem.W.Frag
  cl : Nat → Addr
  fn : Nat → Str
  lam : Nat → LamD
  /-- the tables of code objects -/
  tb : List (Addr × Str)

/-- the very object o stands at a -/
def dObj (a : Addr) (o : Obj) : HO := .ext fun h => h.get? a = some o
/-- an exception's object at a: its class, its own dict -/
def exK (a : Addr) (cls : Value) (d : Option Addr) : HO := .ext fun h => ∃ (oe : Obj) (vs : Array Value), h.get? a = some oe ∧ Zc cls d oe ∧ oe.data = .fields vs
/-- a lambda's function at a -/
def lamO (a : Addr) (l : LamD) (cl : List (Str × Addr)) (pm : Value) (c : Addr) (ct : Value) : HO := .ext fun h => h.get? a = some (PySem.W.kla_obj "<lambda>" l.qual l.params l.body l.scope cl pm c ct)
/-- the states of draws (a list, its cells), the tables of code objects -/
structure States where
  ps : List (Addr × Addr)
  tb : List (Addr × Str)
  /-- the instance that its class's __init__ makes -/
  me : Addr
/-- no key twice -/
def NdK (kvs : List (D × D)) : Prop := (kvs.map fun p => p.1.toNK).Nodup

mutual
def Rep (W : Wd) (SS : States) (F : Hp) : D → V → Prop
  | .non, v => v = .non
  | .bl b, v => v = .bl b
  | .int i, v => v = .int i
  | .str s, v => v = .str s
  | .tup xs, v => ∃ a vs, v = .ref a ∧ SqT W.K F a vs ∧ Reps W SS F xs vs
  | .lst xs, v => ∃ a vs, v = .ref a ∧ F a = some (.lst vs) ∧ Reps W SS F xs vs
  | .dct t kvs, v => ∃ a o es ep, v = .ref a ∧ F a = some (dObj a o) ∧ o.ExactDict ∧ o.data = .dict es ep ∧ (a == sysModules) = false ∧ es.size ≤ sizeLine ∧ NdK kvs ∧ RepE W SS F t kvs es.toList
  | .obj c fs, v => ∃ a dx fvs, v = .ref a ∧ F a = some (.ins (W.cl c) dx fvs) ∧ F dx = some (.own a) ∧ RepF W SS F fs fvs
  | .exv c fs, v => ∃ a d, v = .ref a ∧ F a = some (exK a (.ref (W.cl c)) d) ∧ ((fs = [] ∧ d = none) ∨ fs ≠ [] ∧ ∃ da fvs, d = some da ∧ F da = some (.xd fvs) ∧ RepX W SS F fs fvs)
  | .clo n cl, v => ∃ a pm c ct, v = .ref a ∧ F a = some (lamO a (W.lam n) cl pm c ct) ∧ F c = some (LamX.CodeO c (W.lam n).qual)
  | .stt k, v => ∃ p, SS.ps[k]? = some p ∧ v = .ref p.1
def Reps (W : Wd) (SS : States) (F : Hp) : List D → List V → Prop
  | [], vs => vs = []
  | x :: xs, vs => ∃ v r, vs = v :: r ∧ Rep W SS F x v ∧ Reps W SS F xs r
def RepE (W : Wd) (SS : States) (F : Hp) (t : Bool) : List (D × D) → List DictEntry → Prop
  | [], es => es = []
  | (k, d) :: xs, es => ∃ e r, es = e :: r ∧ keyOk t k = true ∧ (∃ v, RelV v e.key ∧ Rep W SS F k v) ∧ (∃ nk, k.toNK = some nk ∧ e.hash = nk.hash W.w) ∧ (∃ v, RelV v e.val ∧ Rep W SS F d v) ∧ RepE W SS F t xs r
def RepF (W : Wd) (SS : States) (F : Hp) : List (Nat × D) → List (Str × V) → Prop
  | [], vs => vs = []
  | (f, d) :: xs, vs => ∃ v r, vs = (W.fn f, v) :: r ∧ Rep W SS F d v ∧ RepF W SS F xs r
def RepX (W : Wd) (SS : States) (F : Hp) : List (Nat × D) → List (Str × V) → Prop
  | [], _ => True
  | (f, d) :: xs, vs => (∃ v, vs.lookup (W.fn f) = some v ∧ Rep W SS F d v) ∧ RepX W SS F xs vs
end

/-- all that the one tells the other tells, too -/
def Sub (F H : Hp) : Prop := ∀ a o, F a = some o → H a = some o
theorem Sub.refl (F : Hp) : Sub F F := fun _ _ e => e
theorem Sub.trans {F G H : Hp} (a : Sub F G) (b : Sub G H) : Sub F H := fun c o e => b c o (a c o e)
theorem Sub.upd {F : Hp} {a : Addr} {o : HO} (h : F a = none) : Sub F (upd F a o) := fun b x e => by
  rw [upd_ne (ne_of_none e h)]; exact e
theorem Sub.sqT {K : PySem.W.Frag} {F H : Hp} {a : Addr} {vs : List V} (s : Sub F H) (h : SqT K F a vs) : SqT K H a vs := by
  rcases h with h | h
  · rcases h with h | ⟨o, h⟩
    · exact .inl (.inl (s _ _ h))
    · exact .inl (.inr ⟨o, s _ _ h⟩)
  · exact .inr h

mutual
theorem Rep.mono {W : Wd} {SS : States} {F G : Hp} (s : Sub F G) : ∀ (d : D) (v : V), Rep W SS F d v → Rep W SS G d v
  | .non, _, h => by unfold Rep at h ⊢; exact h
  | .bl _, _, h => by unfold Rep at h ⊢; exact h
  | .int _, _, h => by unfold Rep at h ⊢; exact h
  | .str _, _, h => by unfold Rep at h ⊢; exact h
  | .tup xs, _, h => by
    unfold Rep at h ⊢
    obtain ⟨a, vs, e, q, r⟩ := h
    exact ⟨a, vs, e, s.sqT q, Reps.mono s xs vs r⟩
  | .lst xs, _, h => by
    unfold Rep at h ⊢
    obtain ⟨a, vs, e, q, r⟩ := h
    exact ⟨a, vs, e, s _ _ q, Reps.mono s xs vs r⟩
  | .dct t kvs, _, h => by
    unfold Rep at h ⊢
    obtain ⟨a, o, es, ep, e, q, h1, h2, h3, h4, h5, r⟩ := h
    exact ⟨a, o, es, ep, e, s _ _ q, h1, h2, h3, h4, h5, RepE.mono s t kvs _ r⟩
  | .obj c fs, _, h => by
    unfold Rep at h ⊢
    obtain ⟨a, dx, fvs, e, q1, q2, r⟩ := h
    exact ⟨a, dx, fvs, e, s _ _ q1, s _ _ q2, RepF.mono s fs fvs r⟩
  | .exv c fs, _, h => by
    unfold Rep at h ⊢
    obtain ⟨a, d, e, q, h⟩ := h
    refine ⟨a, d, e, s _ _ q, ?_⟩
    rcases h with h | ⟨h0, da, fvs, h1, h2, h3⟩
    · exact .inl h
    · exact .inr ⟨h0, da, fvs, h1, s _ _ h2, RepX.mono s fs fvs h3⟩
  | .clo n cl, _, h => by
    unfold Rep at h ⊢
    obtain ⟨a, pm, c, ct, e, q1, q2⟩ := h
    exact ⟨a, pm, c, ct, e, s _ _ q1, s _ _ q2⟩
  | .stt _, _, h => by unfold Rep at h ⊢; exact h
theorem Reps.mono {W : Wd} {SS : States} {F G : Hp} (s : Sub F G) : ∀ (ds : List D) (vs : List V), Reps W SS F ds vs → Reps W SS G ds vs
  | [], _, h => by unfold Reps at h ⊢; exact h
  | x :: xs, _, h => by
    unfold Reps at h ⊢
    obtain ⟨v, r, e, h1, h2⟩ := h
    exact ⟨v, r, e, Rep.mono s x v h1, Reps.mono s xs r h2⟩
theorem RepE.mono {W : Wd} {SS : States} {F G : Hp} (s : Sub F G) (t : Bool) : ∀ (ds : List (D × D)) (es : List DictEntry), RepE W SS F t ds es → RepE W SS G t ds es
  | [], _, h => by unfold RepE at h ⊢; exact h
  | (k, d) :: xs, _, h => by
    unfold RepE at h ⊢
    obtain ⟨e, r, he, h1, ⟨v, h2, h3⟩, h4, ⟨u, h5, h6⟩, h7⟩ := h
    exact ⟨e, r, he, h1, ⟨v, h2, Rep.mono s k v h3⟩, h4, ⟨u, h5, Rep.mono s d u h6⟩, RepE.mono s t xs r h7⟩
theorem RepF.mono {W : Wd} {SS : States} {F G : Hp} (s : Sub F G) : ∀ (ds : List (Nat × D)) (vs : List (Str × V)), RepF W SS F ds vs → RepF W SS G ds vs
  | [], _, h => by unfold RepF at h ⊢; exact h
  | (f, d) :: xs, _, h => by
    unfold RepF at h ⊢
    obtain ⟨v, r, e, h1, h2⟩ := h
    exact ⟨v, r, e, Rep.mono s d v h1, RepF.mono s xs r h2⟩
theorem RepX.mono {W : Wd} {SS : States} {F G : Hp} (s : Sub F G) : ∀ (ds : List (Nat × D)) (vs : List (Str × V)), RepX W SS F ds vs → RepX W SS G ds vs
  | [], _, h => True.intro
  | (f, d) :: xs, vs, h => by
    unfold RepX at h ⊢
    obtain ⟨⟨v, h1, h2⟩, h3⟩ := h
    exact ⟨⟨v, h1, Rep.mono s d v h2⟩, RepX.mono s xs vs h3⟩
end

theorem Reps.length {W : Wd} {SS : States} {F : Hp} : ∀ {ds : List D} {vs : List V}, Reps W SS F ds vs → ds.length = vs.length
  | [], _, h => by unfold Reps at h; subst h; rfl
  | x :: xs, _, h => by
    unfold Reps at h
    obtain ⟨v, r, e, _, h2⟩ := h
    rw [e, List.length_cons, List.length_cons, Reps.length h2]
theorem Reps.nil {W : Wd} {SS : States} {F : Hp} : Reps W SS F [] [] := by unfold Reps; rfl
theorem Reps.cons {W : Wd} {SS : States} {F : Hp} {d : D} {v : V} {ds : List D} {vs : List V} (h : Rep W SS F d v) (t : Reps W SS F ds vs) : Reps W SS F (d :: ds) (v :: vs) := by
  unfold Reps; exact ⟨v, vs, rfl, h, t⟩
theorem Reps.cons_inv {W : Wd} {SS : States} {F : Hp} {d : D} {ds : List D} {vs : List V} (h : Reps W SS F (d :: ds) vs) : ∃ v r, vs = v :: r ∧ Rep W SS F d v ∧ Reps W SS F ds r := by
  unfold Reps at h; exact h
theorem Reps.append {W : Wd} {SS : States} {F : Hp} : ∀ {ds es : List D} {vs us : List V}, Reps W SS F ds vs → Reps W SS F es us → Reps W SS F (ds ++ es) (vs ++ us)
  | [], _, _, _, h, g => by unfold Reps at h; subst h; exact g
  | x :: xs, _, _, _, h, g => by
    obtain ⟨v, r, e, h1, h2⟩ := h.cons_inv
    subst e
    exact .cons h1 (Reps.append h2 g)
theorem Reps.get {W : Wd} {SS : States} {F : Hp} : ∀ {ds : List D} {vs : List V} {i : Nat} {d : D}, Reps W SS F ds vs → ds[i]? = some d → ∃ v, vs[i]? = some v ∧ Rep W SS F d v
  | [], _, _, _, _, h => by simp at h
  | x :: xs, _, 0, d, h, e => by
    obtain ⟨v, r, he, h1, h2⟩ := h.cons_inv
    subst he
    have q : x = d := Option.some.inj e
    subst q
    exact ⟨v, rfl, h1⟩
  | x :: xs, _, i + 1, d, h, e => by
    obtain ⟨v, r, he, h1, h2⟩ := h.cons_inv
    subst he
    exact Reps.get (i := i) h2 (by simpa using e)
theorem Reps.take {W : Wd} {SS : States} {F : Hp} : ∀ (n : Nat) {ds : List D} {vs : List V}, Reps W SS F ds vs → Reps W SS F (ds.take n) (vs.take n)
  | 0, _, _, _ => by simp [Reps.nil]
  | n + 1, [], _, h => by unfold Reps at h; subst h; simp [Reps.nil]
  | n + 1, x :: xs, _, h => by
    obtain ⟨v, r, he, h1, h2⟩ := h.cons_inv
    subst he
    exact .cons h1 (Reps.take n h2)
theorem Reps.drop {W : Wd} {SS : States} {F : Hp} : ∀ (n : Nat) {ds : List D} {vs : List V}, Reps W SS F ds vs → Reps W SS F (ds.drop n) (vs.drop n)
  | 0, _, _, h => h
  | n + 1, [], _, h => by unfold Reps at h; subst h; simp [Reps.nil]
  | n + 1, x :: xs, _, h => by
    obtain ⟨v, r, he, h1, h2⟩ := h.cons_inv
    subst he
    exact Reps.drop n h2
theorem Reps.set {W : Wd} {SS : States} {F : Hp} {d : D} {v : V} (q : Rep W SS F d v) : ∀ (n : Nat) {ds : List D} {vs : List V}, Reps W SS F ds vs → Reps W SS F (ds.set n d) (vs.set n v)
  | _, [], _, h => by unfold Reps at h; subst h; exact Reps.nil
  | 0, x :: xs, _, h => by
    obtain ⟨u, r, he, h1, h2⟩ := h.cons_inv
    subst he
    exact .cons q h2
  | n + 1, x :: xs, _, h => by
    obtain ⟨u, r, he, h1, h2⟩ := h.cons_inv
    subst he
    exact .cons h1 (Reps.set q n h2)
theorem Reps.dropLast {W : Wd} {SS : States} {F : Hp} {ds : List D} {vs : List V} (h : Reps W SS F ds vs) : Reps W SS F ds.dropLast vs.dropLast := by
  rw [List.dropLast_eq_take, List.dropLast_eq_take, ← h.length]
  exact h.take _
theorem Reps.eraseIdx {W : Wd} {SS : States} {F : Hp} : ∀ (n : Nat) {ds : List D} {vs : List V}, Reps W SS F ds vs → Reps W SS F (ds.eraseIdx n) (vs.eraseIdx n)
  | _, [], _, h => by unfold Reps at h; subst h; exact Reps.nil
  | 0, x :: xs, _, h => by
    obtain ⟨u, r, he, h1, h2⟩ := h.cons_inv
    subst he
    exact h2
  | n + 1, x :: xs, _, h => by
    obtain ⟨u, r, he, h1, h2⟩ := h.cons_inv
    subst he
    exact .cons h1 (Reps.eraseIdx n h2)
theorem Reps.reverse {W : Wd} {SS : States} {F : Hp} : ∀ {ds : List D} {vs : List V}, Reps W SS F ds vs → Reps W SS F ds.reverse vs.reverse
  | [], _, h => by unfold Reps at h; subst h; exact Reps.nil
  | x :: xs, _, h => by
    obtain ⟨u, r, he, h1, h2⟩ := h.cons_inv
    subst he
    rw [List.reverse_cons, List.reverse_cons]
    exact (Reps.reverse h2).append (.cons h1 .nil)

/-! ### the state of a body -/
def addrs (SS : States) : List Addr := SS.tb.map (·.1) ++ SS.ps.flatMap fun p => [p.1, p.2]
theorem mem_a {SS : States} {p : Addr × Addr} (hm : p ∈ SS.ps) : p.1 ∈ addrs SS ∧ p.2 ∈ addrs SS :=
  ⟨List.mem_append_right _ (List.mem_flatMap.mpr ⟨p, hm, by simp⟩), List.mem_append_right _ (List.mem_flatMap.mpr ⟨p, hm, by simp⟩)⟩
theorem mem_addrs {SS : States} {k : Nat} {p : Addr × Addr} (h : SS.ps[k]? = some p) : p.1 ∈ addrs SS ∧ p.2 ∈ addrs SS := mem_a (List.mem_of_getElem? h)
theorem of_addrs {SS : States} {a : Addr} (h : a ∈ addrs SS) : (∃ q, (a, q) ∈ SS.tb) ∨ ∃ p ∈ SS.ps, a = p.1 ∨ a = p.2 := by
  rcases List.mem_append.mp h with h | h
  · obtain ⟨x, hx, e⟩ := List.mem_map.mp h
    exact .inl ⟨x.2, by rw [← e]; exact hx⟩
  · obtain ⟨p, hp, e⟩ := List.mem_flatMap.mp h
    simp only [List.mem_cons, List.mem_nil_iff, or_false] at e
    exact .inr ⟨p, hp, e⟩
/-- all but the states of draws stands as it was -/
def SameS (SS : States) (H H' : Hp) : Prop := ∀ b o, b ∉ addrs SS → H b = some o → H' b = some o
theorem SameS.refl (SS : States) (H : Hp) : SameS SS H H := fun _ _ _ e => e
theorem SameS.trans {SS : States} {H H1 H2 : Hp} (a : SameS SS H H1) (b : SameS SS H1 H2) : SameS SS H H2 := fun c o n e => b c o n (a c o n e)
theorem SameS.upd {SS : States} {H : Hp} {a : Addr} {o : HO} (h : H a = none) : SameS SS H (upd H a o) := fun b x _ e => by
  rw [upd_ne (ne_of_none e h)]; exact e
/-- a state of draws: cells, which is next, a number -/
def StOk (H : Hp) (p : Addr × Addr) : Prop :=
  ∃ (cells : List Int) (i j : Int), H p.1 = some (.lst [.ref p.2, .int i, .int j]) ∧ H p.2 = some (.lst (cells.map V.int)) ∧ cells ≠ [] ∧ (∀ x ∈ cells, 0 ≤ x) ∧ 0 ≤ i ∧ 0 ≤ j
/-- what a slot's own container is, at a -/
def TopO (W : Wd) (SS : States) (F H : Hp) (a : Addr) : D → HO → Prop
  | .lst xs, o => ∃ vs, o = .lst vs ∧ Reps W SS F xs vs
  | .dct t kvs, o => ∃ ob es ep, o = dObj a ob ∧ ob.ExactDict ∧ ob.data = .dict es ep ∧ (a == sysModules) = false ∧ es.size ≤ sizeLine ∧ NdK kvs ∧ RepE W SS F t kvs es.toList
  | .obj c fs, o => a = SS.me ∧ ∃ dx fvs, o = .ins (W.cl c) dx fvs ∧ H dx = some (.own a) ∧ RepF W SS F fs fvs
  | _, _ => False
/-- the tables stand -/
def TabsW (W : Wd) (SS : States) (F H : Hp) : Prop := SS.tb = W.tb ∧ LamX.Tabs SS.tb H ∧ ∀ p ∈ SS.tb, F p.1 = none
theorem TabsW.ext {W : Wd} {SS : States} {F F' H H' : Hp} (t : TabsW W SS F H) (e : ∀ b o, H b = some o → H' b = some o) (f : ∀ p ∈ SS.tb, (∃ ps, H p.1 = some (.tbl ps)) → F p.1 = none → F' p.1 = none) : TabsW W SS F' H' := ⟨t.1, t.2.1.ext e, fun p hp => by
  obtain ⟨ps, e1, _⟩ := t.2.1 p hp
  exact f p hp ⟨ps, e1⟩ (t.2.2 p hp)⟩
/-- a container at a: no instance's dict, no table, no code object -/
structure Cont (a : Addr) (o : HO) : Prop where
  own : ∀ c, o ≠ .own c
  tbl : ∀ ps, o ≠ .tbl ps
  code : ∀ q, o ≠ LamX.CodeO a q
theorem cont_lst {a : Addr} {vs : List V} : Cont a (.lst vs) := ⟨(fun _ e => by cases e), (fun _ e => by cases e), (fun _ e => by cases e)⟩
theorem cont_ins {a C dx : Addr} {fs : List (Str × V)} : Cont a (.ins C dx fs) := ⟨(fun _ e => by cases e), (fun _ e => by cases e), (fun _ e => by cases e)⟩
theorem cont_dct {a : Addr} {o : Obj} {es : Array DictEntry} {ep : Nat} (h : o.data = .dict es ep) : Cont a (dObj a o) := by
  refine ⟨(fun _ e => by cases e), (fun _ e => by cases e), fun q e => ?_⟩
  have e2 : (fun h : Heap => h.get? a = some o) = (fun h : Heap => ∃ (oc : Obj) (vs : Array Value) (t : Tok), h.get? a = some oc ∧ oc.data = .fields vs ∧ vs[1]? = some (.str q t)) := HO.ext.inj e
  have ho : o.isFreed = false := by
    obtain ⟨c, d, dat, sl⟩ := o
    cases (show dat = .dict es ep from h)
    rfl
  have hg : Heap.get? { objs := Array.replicate (a + 1) o } a = some o := by
    refine Heap.get?_some_iff.mpr ⟨?_, ho⟩
    simp
  obtain ⟨oc, vs, t, g1, g2, _⟩ := (congrFun e2 { objs := Array.replicate (a + 1) o }).mp hg
  rw [hg] at g1
  cases g1
  rw [h] at g2
  cases g2
/-- no container -/
def Inert (b : Addr) (o : HO) : Prop := (∃ c, o = .own c) ∨ ∃ q, o = LamX.CodeO b q
theorem Cont.not {a : Addr} {o : HO} (c : Cont a o) : ¬ Inert a o := fun h => by
  rcases h with ⟨d, h⟩ | ⟨q, h⟩
  · exact c.own d h
  · exact c.code q h
theorem topo_cont {W : Wd} {SS : States} {F H : Hp} {a : Addr} {d : D} {o : HO} (h : TopO W SS F H a d o) : Cont a o := by
  cases d with
  | lst xs => obtain ⟨vs, rfl, _⟩ := h; exact cont_lst
  | dct t kvs => obtain ⟨ob, es, ep, rfl, _, z, _⟩ := h; exact cont_dct z
  | obj c fs => obtain ⟨_, dx', fvs, rfl, _⟩ := h; exact cont_ins
  | _ => exact h.elim
def OwnOk (W : Wd) (SS : States) (H0 F H : Hp) (d : D) (v : V) : Prop :=
  ∃ a o, v = .ref a ∧ H0 a = none ∧ F a = none ∧ a ∉ addrs SS ∧ H a = some o ∧ TopO W SS F H a d o
/-- lent: a frozen value, or what stood at the entry -/
def BorOk (W : Wd) (SS : States) (H0 F : Hp) (d : D) (v : V) : Prop :=
  Rep W SS F d v ∨ ∃ a o, v = .ref a ∧ H0 a = some o ∧ a ∉ addrs SS ∧ TopO W SS F H0 a d o ∧ ∀ c fs, d ≠ .obj c fs
def EntOk (W : Wd) (SS : States) (H0 F H : Hp) : Ent → V → Prop
  | .val d, v => Rep W SS F d v
  | .own d, v => OwnOk W SS H0 F H d v
  | .bor d, v => BorOk W SS H0 F d v
structure EnvOk (W : Wd) (SS : States) (H0 F H : Hp) (σ : L2.St) (δ : Env) : Prop where
  same : SameS SS H0 H
  sub : Sub F H
  sts : ∀ p ∈ SS.ps, StOk H p ∧ F p.1 = none ∧ F p.2 = none
  nds : (SS.ps.flatMap fun p => [p.1, p.2]).Nodup
  tab : TabsW W SS F H
  ent : ∀ (i : Nat) (e : Ent), δ[i]? = some (some e) → ∃ v, σ[i]? = some (some v) ∧ EntOk W SS H0 F H e v
  sep : ∀ (i j : Nat) (d d' : D) (a : Addr), i ≠ j → δ[i]? = some (some (.own d)) → δ[j]? = some (some (.own d')) → σ[i]? = some (some (.ref a)) → σ[j]? = some (some (.ref a)) → False
  len : δ.length = σ.length

theorem EnvOk.slot {W : Wd} {SS : States} {H0 F H : Hp} {σ : L2.St} {δ : Env} (I : EnvOk W SS H0 F H σ δ) {i : Nat} {e : Ent} (h : δ[i]? = some (some e)) : ∃ v, σ[i]? = some (some v) ∧ EntOk W SS H0 F H e v := I.ent i e h
theorem TopO.mono {W : Wd} {SS : States} {F F' H H' : Hp} {a : Addr} {d : D} {o : HO} (s : Sub F F') (hd : ∀ dx, H dx = some (.own a) → H' dx = some (.own a)) (h : TopO W SS F H a d o) : TopO W SS F' H' a d o := by
  cases d with
  | lst xs => obtain ⟨vs, e, r⟩ := h; exact ⟨vs, e, r.mono s⟩
  | dct t kvs => obtain ⟨ob, es, ep, e, h1, h2, h3, h4, h5, r⟩ := h; exact ⟨ob, es, ep, e, h1, h2, h3, h4, h5, r.mono s⟩
  | obj c fs => obtain ⟨hm, dx, fvs, e, q, r⟩ := h; exact ⟨hm, dx, fvs, e, hd dx q, r.mono s⟩
  | _ => exact h.elim
/-- nothing but new objects has come; what is frozen is new, or was -/
structure Grow (F H F' H' : Hp) : Prop where
  sub : Sub F F'
  all : Sub H H'
  new : ∀ b o, F' b = some o → F b = some o ∨ H b = none
  inn : Sub F' H'
theorem Grow.refl {F H : Hp} (s : Sub F H) : Grow F H F H := ⟨Sub.refl F, Sub.refl H, fun _ _ e => .inl e, s⟩
theorem Grow.trans {F H F1 H1 F2 H2 : Hp} (a : Grow F H F1 H1) (b : Grow F1 H1 F2 H2) : Grow F H F2 H2 := by
  refine ⟨a.sub.trans b.sub, a.all.trans b.all, fun c o e => ?_, b.inn⟩
  rcases b.new c o e with q | q
  · exact a.new c o q
  · refine .inr ?_
    cases r : H c with
    | none => rfl
    | some x => rw [a.all _ _ r] at q; cases q
/-- a new frozen object -/
theorem Grow.put {F H : Hp} {p : Addr} {o : HO} (s : Sub F H) (h : H p = none) : Grow F H (upd F p o) (upd H p o) := by
  have hf : F p = none := by
    cases r : F p with
    | none => rfl
    | some x => rw [s _ _ r] at h; cases h
  refine ⟨Sub.upd hf, Sub.upd h, fun b x e => ?_, fun b x e => ?_⟩
  · by_cases hb : b = p
    · subst hb; exact .inr h
    · rw [upd_ne hb] at e; exact .inl e
  · by_cases hb : b = p
    · subst hb; rw [upd_same] at e ⊢; exact e
    · rw [upd_ne hb] at e ⊢; exact s _ _ e
/-- a new object that is not frozen -/
theorem Grow.lay {F H : Hp} {p : Addr} {o : HO} (s : Sub F H) (h : H p = none) : Grow F H F (upd H p o) :=
  ⟨Sub.refl F, Sub.upd h, fun _ _ e => .inl e, s.trans (Sub.upd h)⟩
theorem EnvOk.fresh {W : Wd} {SS : States} {H0 F H : Hp} {σ : L2.St} {δ : Env} (I : EnvOk W SS H0 F H σ δ) {p : Addr} (h : H p = none) : F p = none ∧ p ∉ addrs SS := by
  refine ⟨?_, fun hm => ?_⟩
  · cases r : F p with
    | none => rfl
    | some x => rw [I.sub _ _ r] at h; cases h
  · rcases of_addrs hm with ⟨q, hq⟩ | ⟨q, hq, e⟩
    · obtain ⟨ps, e, _⟩ := I.tab.2.1 _ hq
      rw [show H p = some (.tbl ps) from e] at h
      cases h
    · obtain ⟨⟨cells, i, j, h1, h2, _⟩, _⟩ := I.sts q hq
      rcases e with e | e
      · rw [e, h1] at h; cases h
      · rw [e, h2] at h; cases h
/-- what stands at a state's places -/
theorem EnvOk.notOwn {W : Wd} {SS : States} {H0 F H : Hp} {σ : L2.St} {δ : Env} (I : EnvOk W SS H0 F H σ δ) {dx a : Addr} (h : H dx = some (.own a)) : dx ∉ addrs SS := fun hm => by
  rcases of_addrs hm with ⟨q, hq⟩ | ⟨q, hq, e⟩
  · obtain ⟨ps, e, _⟩ := I.tab.2.1 _ hq
    rw [show H dx = some (.tbl ps) from e] at h
    cases h
  · obtain ⟨⟨cells, i, j, h1, h2, _⟩, _⟩ := I.sts q hq
    rcases e with e | e
    · rw [e, h1] at h; cases h
    · rw [e, h2] at h; cases h
theorem SameS.h0 {SS : States} {H0 H H' : Hp} (a : SameS SS H0 H) (s : Sub H H') : SameS SS H0 H' := fun b o n e => s _ _ (a b o n e)
theorem EnvOk.grow {W : Wd} {SS : States} {H0 F H F' H' : Hp} {σ : L2.St} {δ : Env} (I : EnvOk W SS H0 F H σ δ) (g : Grow F H F' H') : EnvOk W SS H0 F' H' σ δ := by
  refine ⟨I.same.h0 g.all, g.inn, fun p hp => ?_, I.nds, I.tab.ext g.all (fun p hp ⟨ps, e⟩ n => by
    cases r : F' p.1 with
    | none => rfl
    | some x =>
      rcases g.new p.1 x r with q | q
      · rw [n] at q; cases q
      · rw [e] at q; cases q), fun i e he => ?_, I.sep, I.len⟩
  · obtain ⟨⟨cells, i, j, h1, h2, h3⟩, h4, h5⟩ := I.sts p hp
    have no : ∀ b, (∃ o, H b = some o) → F b = none → F' b = none := fun b ⟨o, ho⟩ hf => by
      cases r : F' b with
      | none => rfl
      | some x =>
        rcases g.new b x r with q | q
        · rw [hf] at q; cases q
        · rw [ho] at q; cases q
    exact ⟨⟨cells, i, j, g.all _ _ h1, g.all _ _ h2, h3⟩, no _ ⟨_, h1⟩ h4, no _ ⟨_, h2⟩ h5⟩
  · obtain ⟨v, hv, q⟩ := I.ent i e he
    refine ⟨v, hv, ?_⟩
    cases e with
    | val d => exact Rep.mono g.sub d v q
    | own d =>
      obtain ⟨a, o, e1, e2, e3, e4, e5, e6⟩ := q
      refine ⟨a, o, e1, e2, ?_, e4, g.all _ _ e5, e6.mono g.sub fun dx h => g.all _ _ h⟩
      cases r : F' a with
      | none => rfl
      | some x =>
        rcases g.new a x r with q | q
        · rw [e3] at q; cases q
        · rw [e5] at q; cases q
    | bor d =>
      rcases q with q | ⟨a, o, e1, e2, e3, e4, e5⟩
      · exact .inl (Rep.mono g.sub d v q)
      · exact .inr ⟨a, o, e1, e2, e3, e4.mono g.sub fun dx h => h, e5⟩
/-! ### operands -/
def isOwn (δ : Env) (i : Nat) : Prop := ∃ d, δ[i]? = some (some (.own d))
def OpOk (W : Wd) (SS : States) (H0 F H : Hp) (σ : L2.St) (δ : Env) : Op → V → Prop
  | .v d, x => Rep W SS F d x
  | .b i, x => σ[i]? = some (some x) ∧ ∃ e : Ent, δ[i]? = some (some e)
  | .f d, x => OwnOk W SS H0 F H d x ∧ ∀ i : Nat, isOwn δ i → σ[i]? ≠ some (some x)
/-- a step of an expression's evaluation, the slots as they are -/
structure Stp (SS : States) (σ : L2.St) (F H : Hp) (δ : Env) (F' H' : Hp) (δ' : Env) : Prop where
  sub : Sub F F'
  same : ∀ b o, b ∉ addrs SS → (∀ i : Nat, isOwn δ i → σ[i]? ≠ some (some (.ref b))) → H b = some o → H' b = some o
  new : ∀ b o, F' b = some o → F b = some o ∨ H b = none ∨ (∃ i : Nat, isOwn δ i ∧ σ[i]? = some (some (.ref b))) ∨ Inert b o
  own : ∀ i : Nat, isOwn δ' i → isOwn δ i
  there : ∀ (i : Nat) (e : Ent), δ[i]? = some (some e) → ∃ e' : Ent, δ'[i]? = some (some e')
  /-- what is gone is nowhere -/
  gone : ∀ b, H' b = none → H b = none
theorem Stp.refl {SS : States} {σ : L2.St} {F H : Hp} {δ : Env} : Stp SS σ F H δ F H δ :=
  ⟨Sub.refl F, fun _ _ _ _ e => e, fun _ _ e => .inl e, fun _ h => h, fun _ e h => ⟨e, h⟩, fun _ h => h⟩
theorem Stp.trans {SS : States} {σ : L2.St} {F H F1 H1 F2 H2 : Hp} {δ δ1 δ2 : Env} (a : Stp SS σ F H δ F1 H1 δ1) (b : Stp SS σ F1 H1 δ1 F2 H2 δ2) : Stp SS σ F H δ F2 H2 δ2 := by
  refine ⟨a.sub.trans b.sub, fun c o n h e => b.same c o n (fun i hi => h i (a.own i hi)) (a.same c o n h e), fun c o e => ?_, fun i h => a.own i (b.own i h), fun i e h => ?_, fun c h => a.gone c (b.gone c h)⟩
  · rcases b.new c o e with q | q | ⟨i, hi, q⟩ | q
    · exact a.new c o q
    · exact .inr (.inl (a.gone c q))
    · exact .inr (.inr (.inl ⟨i, a.own i hi, q⟩))
    · exact .inr (.inr (.inr q))
  · obtain ⟨e1, h1⟩ := a.there i e h
    exact b.there i e1 h1
theorem Stp.grow {SS : States} {σ : L2.St} {F H F' H' : Hp} {δ : Env} (g : Grow F H F' H') : Stp SS σ F H δ F' H' δ := by
  refine ⟨g.sub, fun b o _ _ e => g.all b o e, fun b o e => ?_, fun _ h => h, fun _ e h => ⟨e, h⟩, fun b h => ?_⟩
  · rcases g.new b o e with q | q
    · exact .inl q
    · exact .inr (.inl q)
  · cases r : H b with
    | none => rfl
    | some x => rw [g.all _ _ r] at h; cases h
theorem OpOk.step {W : Wd} {SS : States} {H0 F H F' H' : Hp} {σ : L2.St} {δ δ' : Env} (I : EnvOk W SS H0 F H σ δ) (J : EnvOk W SS H0 F' H' σ δ') (st : Stp SS σ F H δ F' H' δ') : ∀ {o : Op} {x : V}, OpOk W SS H0 F H σ δ o x → OpOk W SS H0 F' H' σ δ' o x
  | .v d, x, h => Rep.mono st.sub d x h
  | .b i, x, ⟨h, e, he⟩ => ⟨h, st.there i e he⟩
  | .f d, x, ⟨⟨a, o, e1, e2, e3, e4, e5, e6⟩, n⟩ => by
    subst e1
    refine ⟨⟨a, o, rfl, e2, ?_, e4, st.same a o e4 n e5, e6.mono st.sub fun dx h => ?_⟩, fun i hi => n i (st.own i hi)⟩
    · cases r : F' a with
      | none => rfl
      | some y =>
        rcases st.new a y r with q | q | ⟨i, hi, q⟩ | hI
        · rw [e3] at q; cases q
        · rw [e5] at q; cases q
        · exact absurd q (n i hi)
        · have q := J.sub a _ r
          rw [st.same a o e4 n e5] at q
          cases q
          exact absurd hI (topo_cont e6).not
    · refine st.same dx _ (I.notOwn h) (fun i ⟨d', hd'⟩ q => ?_) h
      obtain ⟨v, hv, a', o', f1, f2, f3, f4, f5, f6⟩ := I.ent i _ hd'
      rw [q] at hv
      cases hv
      cases f1
      rw [h] at f5
      cases f5
      cases d' with
      | lst xs => obtain ⟨vs, z, _⟩ := f6; cases z
      | dct t kvs => obtain ⟨ob, es, ep, z, _⟩ := f6; cases z
      | obj c fs => obtain ⟨_, dx', fvs, z, _⟩ := f6; cases z
      | _ => exact f6.elim

/-! ### what is read -/
/-- x holds d now -/
def Con (W : Wd) (SS : States) (F H : Hp) (d : D) (x : V) : Prop := Rep W SS F d x ∨ ∃ a o, x = .ref a ∧ H a = some o ∧ TopO W SS F H a d o
theorem TopO.same {W : Wd} {SS : States} {F H H' : Hp} {a : Addr} {d : D} {o : HO} (hn : ∀ c fs, d ≠ .obj c fs) (h : TopO W SS F H a d o) : TopO W SS F H' a d o := by
  cases d with
  | lst xs => exact h
  | dct t kvs => exact h
  | obj c fs => exact absurd rfl (hn c fs)
  | _ => exact h.elim
theorem EnvOk.look {W : Wd} {SS : States} {H0 F H : Hp} {σ : L2.St} {δ : Env} (I : EnvOk W SS H0 F H σ δ) : ∀ {o : Op} {x : V} {d : D}, OpOk W SS H0 F H σ δ o x → look δ o = some d → Con W SS F H d x
  | .v d, x, d', h, e => by cases e; exact .inl h
  | .f d, x, d', ⟨⟨a, o, e1, e2, e3, e4, e5, e6⟩, _⟩, e => by cases e; exact .inr ⟨a, o, e1, e5, e6⟩
  | .b i, x, d', ⟨hx, en, he⟩, e => by
    have e' : (match δ[i]? with | some (some e) => some (Ent.d e) | _ => none) = some d' := e
    rw [he] at e'
    have q : en.d = d' := Option.some.inj e'
    subst q
    obtain ⟨v, hv, q⟩ := I.ent i en he
    rw [hx] at hv
    cases hv
    cases en with
    | val d => exact .inl q
    | own d => obtain ⟨a, o, e1, e2, e3, e4, e5, e6⟩ := q; exact .inr ⟨a, o, e1, e5, e6⟩
    | bor d =>
      rcases q with q | ⟨a, o, e1, e2, e3, e4, e5⟩
      · exact .inl q
      · exact .inr ⟨a, o, e1, I.same a o e3 e2, e4.same e5⟩
/-- exceptions: the class, the fields in the exception's own dict -/
def ExcOk (W : Wd) (SS : States) (F H : Hp) (e : Exc) (c : Value) (dd : Option Addr) : Prop :=
  c = .ref (W.cl e.c) ∧ ((e.fs = [] ∧ dd = none) ∨ e.fs ≠ [] ∧ ∃ da fvs, dd = some da ∧ F da = some (.xd fvs) ∧ RepX W SS F e.fs fvs)

/-! ### the judgement -/
/-- how what an evaluation gives lies in the heap, the slots being σ; first the heap at its start -/
abbrev RelR (α β : Type) := States → L2.St → Hp → Hp → Hp → Env → α → β → Prop
/-- what is frozen was so, or is new since the entry -/
structure Inh (H0 F F' : Hp) : Prop where
  sub : Sub F F'
  new : ∀ b o, F' b = some o → F b = some o ∨ H0 b = none ∨ Inert b o
theorem Inh.refl (H0 F : Hp) : Inh H0 F F := ⟨Sub.refl F, fun _ _ e => .inl e⟩
theorem Inh.trans {H0 F F1 F2 : Hp} (a : Inh H0 F F1) (b : Inh H0 F1 F2) : Inh H0 F F2 := by
  refine ⟨a.sub.trans b.sub, fun c o e => ?_⟩
  rcases b.new c o e with q | q
  · exact a.new c o q
  · exact .inr q
theorem EnvOk.none0 {W : Wd} {SS : States} {H0 F H : Hp} {σ : L2.St} {δ : Env} (I : EnvOk W SS H0 F H σ δ) {a : Addr} (n : H a = none) : H0 a = none := by
  cases z : H0 a with
  | none => rfl
  | some u =>
    rw [I.same a u (I.fresh n).2 z] at n
    cases n
theorem Stp.inh {W : Wd} {SS : States} {H0 F H F' H' : Hp} {σ : L2.St} {δ δ' : Env} (I : EnvOk W SS H0 F H σ δ) (st : Stp SS σ F H δ F' H' δ') : Inh H0 F F' := by
  refine ⟨st.sub, fun b o e => ?_⟩
  rcases st.new b o e with q | q | ⟨i, ⟨d, hd⟩, q⟩ | q
  · exact .inl q
  · exact .inr (.inl (I.none0 q))
  · obtain ⟨v, hv, a, o', e1, e2, _⟩ := I.ent i _ hd
    rw [q] at hv
    cases hv
    cases e1
    exact .inr (.inl e2)
  · exact .inr (.inr q)
def PostR {α β : Type} (R : RelR α β) (W : Wd) (SS : States) (H0 : Hp) (X : WX) (σ : L2.St) (F H : Hp) (δ : Env) (Q : β → Hp → Prop) : Ou α → Prop
  | .ok o δ' => ∀ x F' H', Stp SS σ F H δ F' H' δ' → EnvOk W SS H0 F' H' σ δ' → R SS σ H F' H' δ' o x → Q x H'
  | .exc e δ' => ∀ c dd F' H', Inh H0 F F' → EnvOk W SS H0 F' H' σ δ' → ExcOk W SS F' H' e c dd → X c dd σ H'
def tR {α β : Type} (R : RelR α β) (W : Wd) (H0 : Hp) (X : WX) (m : EvM α) : L2.St → Hp → (β → Hp → Prop) → Prop := fun σ H Q =>
  ∃ SS F δ, EnvOk W SS H0 F H σ δ ∧ (m δ).wp (PostR R W SS H0 X σ F H δ Q)
/-- it holds for an earlier start, too -/
def RM {α β : Type} (R : RelR α β) : Prop := ∀ SS σ H H1 F' H' δ' o x, (∀ b, H1 b = none → H b = none) → R SS σ H1 F' H' δ' o x → R SS σ H F' H' δ' o x
/-- an operand, a truth -/
def rO (W : Wd) (H0 : Hp) : RelR Op V := fun SS σ Hs F H δ o x => OpOk W SS H0 F H σ δ o x ∧ ∀ d, o = .f d → ∃ a, x = .ref a ∧ Hs a = none
def rB : RelR Bool Bool := fun _ _ _ _ _ _ b c => b = c
theorem rO_m {W : Wd} {H0 : Hp} : RM (rO W H0) := fun _ _ _ _ _ _ _ _ _ g h => ⟨h.1, fun d e => by obtain ⟨a, e1, e2⟩ := h.2 d e; exact ⟨a, e1, g a e2⟩⟩
theorem rB_m : RM rB := fun _ _ _ _ _ _ _ _ _ _ h => h
abbrev Post (W : Wd) (SS : States) (H0 : Hp) (X : WX) (σ : L2.St) (F H : Hp) (δ : Env) (Q : VK) : Ou Op → Prop := PostR (rO W H0) W SS H0 X σ F H δ Q
abbrev tD (W : Wd) (H0 : Hp) (X : WX) (m : EvM Op) : TE := tR (rO W H0) W H0 X m
abbrev tT (W : Wd) (H0 : Hp) (X : WX) (m : EvM Bool) : TT := tR rB W H0 X m
theorem PostR.shift {α β : Type} {R : RelR α β} (hR : RM R) {W : Wd} {SS : States} {H0 : Hp} {X : WX} {σ : L2.St} {F H F1 H1 : Hp} {δ δ1 : Env} {Q : β → Hp → Prop} (I : EnvOk W SS H0 F H σ δ) (st : Stp SS σ F H δ F1 H1 δ1) : ∀ {r : Ou α}, PostR R W SS H0 X σ F H δ Q r → PostR R W SS H0 X σ F1 H1 δ1 Q r
  | .ok o δ', h => fun x F' H' s2 e q => h x F' H' (st.trans s2) e (hR _ _ _ _ _ _ _ _ _ st.gone q)
  | .exc e δ', h => fun c dd F' H' q => h c dd F' H' ((st.inh I).trans q)
/-- .. the rest not shifted -/
theorem tR_bind0 {α β γ ε : Type} {R1 : RelR α β} {R2 : RelR γ ε} {W : Wd} {SS : States} {H0 : Hp} {X : WX} {σ : L2.St} {F H : Hp} {δ : Env} {Q : ε → Hp → Prop} {Z : β → Hp → Prop} {m : EvM α} {f : α → EvM γ} (I : EnvOk W SS H0 F H σ δ) (h : ((m.bind f) δ).wp (PostR R2 W SS H0 X σ F H δ Q))
    (k : ∀ p δ1 x F1 H1, Stp SS σ F H δ F1 H1 δ1 → EnvOk W SS H0 F1 H1 σ δ1 → R1 SS σ H F1 H1 δ1 p x → (f p δ1).wp (PostR R2 W SS H0 X σ F H δ Q) → Z x H1) : tR R1 W H0 X m σ H Z := by
  refine ⟨SS, F, δ, I, Tr.wp_mono ?_ (Tr.wp_bind.mp h)⟩
  intro r hr
  cases r with
  | ok p δ1 => exact fun x F1 H1 st e q => k p δ1 x F1 H1 st e q hr
  | exc e δ1 => exact hr
/-- .. what is wanted told of an earlier start -/
theorem tR_bindE {α β γ ε : Type} {R1 : RelR α β} {R2 : RelR γ ε} {W : Wd} {SS : States} {H0 : Hp} {X : WX} {σ : L2.St} {F H F1 H1 : Hp} {δ δ1 : Env} {Q : ε → Hp → Prop} {Z : β → Hp → Prop} {m : EvM α} {f : α → EvM γ} (I0 : EnvOk W SS H0 F H σ δ) (st : Stp SS σ F H δ F1 H1 δ1) (I : EnvOk W SS H0 F1 H1 σ δ1) (h : ((m.bind f) δ1).wp (PostR R2 W SS H0 X σ F H δ Q))
    (k : ∀ p δ2 x F2 H2, Stp SS σ F1 H1 δ1 F2 H2 δ2 → EnvOk W SS H0 F2 H2 σ δ2 → R1 SS σ H1 F2 H2 δ2 p x → (f p δ2).wp (PostR R2 W SS H0 X σ F H δ Q) → Z x H2) : tR R1 W H0 X m σ H1 Z := by
  refine ⟨SS, F1, δ1, I, Tr.wp_mono ?_ (Tr.wp_bind.mp h)⟩
  intro r hr
  cases r with
  | ok p δ1 => exact fun x F1 H1 st e q => k p δ1 x F1 H1 st e q hr
  | exc e δ1 => exact fun c dd F' H' q => hr c dd F' H' ((st.inh I0).trans q)
/-- one evaluation, then what follows -/
theorem tR_bind {α β γ ε : Type} {R1 : RelR α β} {R2 : RelR γ ε} (hR : RM R2) {W : Wd} {SS : States} {H0 : Hp} {X : WX} {σ : L2.St} {F H : Hp} {δ : Env} {Q : ε → Hp → Prop} {Z : β → Hp → Prop} {m : EvM α} {f : α → EvM γ} (I : EnvOk W SS H0 F H σ δ) (h : ((m.bind f) δ).wp (PostR R2 W SS H0 X σ F H δ Q))
    (k : ∀ p δ1 x F1 H1, Stp SS σ F H δ F1 H1 δ1 → EnvOk W SS H0 F1 H1 σ δ1 → R1 SS σ H F1 H1 δ1 p x → (f p δ1).wp (PostR R2 W SS H0 X σ F1 H1 δ1 Q) → Z x H1) : tR R1 W H0 X m σ H Z := by
  refine ⟨SS, F, δ, I, Tr.wp_mono ?_ (Tr.wp_bind.mp h)⟩
  intro r hr
  cases r with
  | ok p δ1 => exact fun x F1 H1 st e q => k p δ1 x F1 H1 st e q (Tr.wp_mono (fun _ z => PostR.shift hR I st z) hr)
  | exc e δ1 => exact hr
end T
end
section
set_option Elab.async false
set_option linter.all false
set_option autoImplicit false
set_option maxRecDepth 100000
/-! operators by data -/
namespace T
open PySem PySem.Spec PyProof.Rows L2

/-! ### what is read, by its datum -/
section
variable {W : Wd} {SS : States} {F H : Hp} {x : V}
theorem con_int {i : Int} (h : Con W SS F H (.int i) x) : x = .int i := by
  rcases h with h | ⟨a, o, _, _, h⟩
  · unfold Rep at h; exact h
  · exact h.elim
theorem con_bl {b : Bool} (h : Con W SS F H (.bl b) x) : x = .bl b := by
  rcases h with h | ⟨a, o, _, _, h⟩
  · unfold Rep at h; exact h
  · exact h.elim
theorem con_str {s : Str} (h : Con W SS F H (.str s) x) : x = .str s := by
  rcases h with h | ⟨a, o, _, _, h⟩
  · unfold Rep at h; exact h
  · exact h.elim
theorem con_non (h : Con W SS F H .non x) : x = .non := by
  rcases h with h | ⟨a, o, _, _, h⟩
  · unfold Rep at h; exact h
  · exact h.elim
theorem con_tup {xs : List D} (hs : Sub F H) (h : Con W SS F H (.tup xs) x) : ∃ a vs, x = .ref a ∧ SqT W.K F a vs ∧ SqT W.K H a vs ∧ Reps W SS F xs vs := by
  rcases h with h | ⟨a, o, _, _, h⟩
  · unfold Rep at h
    obtain ⟨a, vs, e, q, r⟩ := h
    exact ⟨a, vs, e, q, hs.sqT q, r⟩
  · exact h.elim
theorem con_lst {xs : List D} (hs : Sub F H) (h : Con W SS F H (.lst xs) x) : ∃ a vs, x = .ref a ∧ H a = some (.lst vs) ∧ Reps W SS F xs vs := by
  rcases h with h | ⟨a, o, e, e2, h⟩
  · unfold Rep at h
    obtain ⟨a, vs, e, q, r⟩ := h
    exact ⟨a, vs, e, hs _ _ q, r⟩
  · obtain ⟨vs, rfl, r⟩ := h
    exact ⟨a, vs, e, e2, r⟩
theorem con_dct {t : Bool} {kvs : List (D × D)} (hs : Sub F H) (h : Con W SS F H (.dct t kvs) x) : ∃ a o es ep, x = .ref a ∧ H a = some (dObj a o) ∧ o.ExactDict ∧ o.data = .dict es ep ∧ (a == sysModules) = false ∧ es.size ≤ sizeLine ∧ NdK kvs ∧ RepE W SS F t kvs es.toList := by
  rcases h with h | ⟨a, o, e, e2, h⟩
  · unfold Rep at h
    obtain ⟨a, o, es, ep, e, q, r⟩ := h
    exact ⟨a, o, es, ep, e, hs _ _ q, r⟩
  · obtain ⟨ob, es, ep, rfl, r⟩ := h
    exact ⟨a, ob, es, ep, e, e2, r⟩
theorem con_obj {c : Nat} {fs : List (Nat × D)} (hs : Sub F H) (h : Con W SS F H (.obj c fs) x) : ∃ a dx fvs, x = .ref a ∧ H a = some (.ins (W.cl c) dx fvs) ∧ H dx = some (.own a) ∧ RepF W SS F fs fvs := by
  rcases h with h | ⟨a, o, e, e2, h⟩
  · unfold Rep at h
    obtain ⟨a, dx, fvs, e, q, r, z⟩ := h
    exact ⟨a, dx, fvs, e, hs _ _ q, hs _ _ r, z⟩
  · obtain ⟨_, dx, fvs, rfl, q, r⟩ := h
    exact ⟨a, dx, fvs, e, e2, q, r⟩
theorem rep_int {i : Int} : Rep W SS F (.int i) (.int i) := by unfold Rep; rfl
theorem rep_bl {i : Bool} : Rep W SS F (.bl i) (.bl i) := by unfold Rep; rfl
theorem rep_str {i : Str} : Rep W SS F (.str i) (.str i) := by unfold Rep; rfl
theorem rep_non : Rep W SS F .non .non := by unfold Rep; rfl
end

/-- how an operation's answer lies -/
def ResR (W : Wd) (SS : States) (F' H H' : Hp) : Op → V → Prop
  | .v d, v => Rep W SS F' d v
  | .f d, v => ∃ a o, v = .ref a ∧ H a = none ∧ F' a = none ∧ H' a = some o ∧ TopO W SS F' H' a d o
  | .b _, _ => False
def Fin (W : Wd) (SS : States) (F H : Hp) (op : Op) (Q : VK) : Prop := ∀ v F' H', Grow F H F' H' → ResR W SS F' H H' op v → Q v H'
section
variable {W : Wd} {SS : States} {F H : Hp} {Q : VK}
theorem Fin.int {i : Int} (hs : Sub F H) (h : Fin W SS F H (.v (.int i)) Q) : Q (.int i) H := h _ F H (.refl hs) (rep_int (W := W) (SS := SS) (F := F))
theorem Fin.bl {i : Bool} (hs : Sub F H) (h : Fin W SS F H (.v (.bl i)) Q) : Q (.bl i) H := h _ F H (.refl hs) (rep_bl (W := W) (SS := SS) (F := F))
theorem Fin.str {i : Str} (hs : Sub F H) (h : Fin W SS F H (.v (.str i)) Q) : Q (.str i) H := h _ F H (.refl hs) (rep_str (W := W) (SS := SS) (F := F))
theorem Fin.non (hs : Sub F H) (h : Fin W SS F H (.v .non) Q) : Q .non H := h _ F H (.refl hs) (rep_non (W := W) (SS := SS) (F := F))
theorem Fin.rep {d : D} {v : V} (hs : Sub F H) (h : Fin W SS F H (.v d) Q) (r : Rep W SS F d v) : Q v H := h _ F H (.refl hs) r
/-- a new tuple -/
theorem Fin.tup {xs : List D} {vs : List V} {p : Addr} (hs : Sub F H) (h : Fin W SS F H (.v (.tup xs)) Q) (r : Reps W SS F xs vs) (n : H p = none) : Q (.ref p) (upd H p (.tup vs)) := by
  have g := Grow.put (o := .tup vs) hs n
  refine h _ _ _ g ?_
  show Rep W SS _ (.tup xs) (.ref p)
  unfold Rep
  exact ⟨p, vs, rfl, .inl (.inl upd_same), r.mono g.sub⟩
/-- a new list -/
theorem Fin.lst {xs : List D} {vs : List V} {p : Addr} (hs : Sub F H) (h : Fin W SS F H (.f (.lst xs)) Q) (r : Reps W SS F xs vs) (n : H p = none) : Q (.ref p) (upd H p (.lst vs)) := by
  refine h _ _ _ (Grow.lay hs n) ⟨p, _, rfl, n, ?_, upd_same, vs, rfl, r⟩
  cases e : F p with
  | none => rfl
  | some x => rw [hs _ _ e] at n; cases n
end
theorem fits_ok {n : Nat} (h : fits n = true) : n ≤ sizeLine := by
  have e : n ≤ 16777216 := Nat.le_of_ble_eq_true h
  rw [sizeLine_eq]; exact e
/-- the operator's name in the model -/
def Bop.op : Bop → Operator
  | .add => .Add | .sub => .Sub | .mul => .Mult | .fdiv => .FloorDiv | .mod => .Mod | .pow => .Pow
def rBin (W : Wd) (o : Bop) : R2 := fun x y H Q => ∃ SS F dx dy op, Sub F H ∧ Con W SS F H dx x ∧ Con W SS F H dy y ∧ binD o dx dy = some op ∧ Fin W SS F H op Q
section
variable {X : Cx} {W : Wd}
theorem reps_flatten {SS : States} {F : Hp} {xs : List D} {vs : List V} (h : Reps W SS F xs vs) : ∀ k : Nat, Reps W SS F (List.replicate k xs).flatten (List.replicate k vs).flatten
  | 0 => Reps.nil
  | k + 1 => by
    rw [List.replicate_succ, List.replicate_succ, List.flatten_cons, List.flatten_cons]
    exact h.append (reps_flatten h k)
theorem opr_add (hK : X.K = W.K) : OpR X (binaryOp .Add) (rBin W .add) := by
  intro pins s σ H x y v u Q I rx ry h
  obtain ⟨SS, F, dx, dy, op, hs, cx, cy, e, fin⟩ := h
  cases dx <;> cases dy <;> first | (have z : none = some op := e; cases z; done) | skip
  case int.int i j =>
    cases (Option.some.inj e)
    cases con_int cx; cases con_int cy
    exact op_add pins s σ H _ _ v u Q I rx ry ⟨_, _, rfl, rfl, fin.int hs⟩
  case str.str i j =>
    simp only [binD, Option.ite_none_right_eq_some, Option.some.injEq] at e
    obtain ⟨hc, rfl⟩ := e
    cases con_str cx; cases con_str cy
    exact op_add_str pins s σ H _ _ v u Q I rx ry ⟨_, _, rfl, rfl, fits_ok hc, fin.str hs⟩
  case tup.tup xs ys =>
    simp only [binD, Option.ite_none_right_eq_some, Option.some.injEq] at e
    obtain ⟨hc, rfl⟩ := e
    obtain ⟨a, vs, rfl, q1, q2, r⟩ := con_tup hs cx
    obtain ⟨b, us, rfl, q3, q4, r'⟩ := con_tup hs cy
    have hl := fits_ok hc
    rw [r.length, r'.length] at hl
    rw [← hK] at q2 q4
    refine op_catA pins s σ H _ _ v u Q I rx ry ⟨a, b, vs, us, rfl, rfl, q2, q4, hl, fun z => ?_, fun z1 z2 => ?_, fun z1 z2 p np => fin.tup hs (r.append r') np⟩
    · subst z
      have zx : xs = [] := List.eq_nil_of_length_eq_zero (by rw [r.length]; rfl)
      subst zx
      refine fin.rep hs ?_
      unfold Rep
      exact ⟨b, us, rfl, q3, r'⟩
    · subst z2
      have zy : ys = [] := List.eq_nil_of_length_eq_zero (by rw [r'.length]; rfl)
      subst zy
      refine fin.rep hs ?_
      unfold Rep
      rw [List.append_nil]
      exact ⟨a, vs, rfl, q1, r⟩
  case lst.lst xs ys =>
    simp only [binD, Option.ite_none_right_eq_some, Option.some.injEq] at e
    obtain ⟨hc, rfl⟩ := e
    obtain ⟨a, vs, rfl, q1, r⟩ := con_lst hs cx
    obtain ⟨b, us, rfl, q3, r'⟩ := con_lst hs cy
    have hl := fits_ok hc
    rw [r.length, r'.length] at hl
    exact op_cat pins s σ H _ _ v u Q I rx ry ⟨a, b, vs, us, rfl, rfl, q1, q3, hl, fun p np => fin.lst hs (r.append r') np⟩
theorem opr_sub : OpR X (binaryOp .Sub) (rBin W .sub) := by
  intro pins s σ H x y v u Q I rx ry h
  obtain ⟨SS, F, dx, dy, op, hs, cx, cy, e, fin⟩ := h
  cases dx <;> cases dy <;> first | (have z : none = some op := e; cases z; done) | skip
  case int.int i j =>
    cases (Option.some.inj e)
    cases con_int cx; cases con_int cy
    exact op_sub pins s σ H _ _ v u Q I rx ry ⟨_, _, rfl, rfl, fin.int hs⟩
theorem big64_eq : big64 = 2 ^ 64 := by decide
theorem opr_mul : OpR X (binaryOp .Mult) (rBin W .mul) := by
  intro pins s σ H x y v u Q I rx ry h
  obtain ⟨SS, F, dx, dy, op, hs, cx, cy, e, fin⟩ := h
  cases dx <;> cases dy <;> first | (have z : none = some op := e; cases z; done) | skip
  case int.int i j =>
    simp only [binD, Option.ite_none_right_eq_some, Option.some.injEq] at e
    obtain ⟨hc, rfl⟩ := e
    cases con_int cx; cases con_int cy
    refine op_mul pins s σ H _ _ v u Q I rx ry ⟨_, _, rfl, rfl, ?_, fin.int hs⟩
    unfold mulOk at hc
    rw [big64_eq] at hc
    simpa [CMul] using hc
  case lst.int xs k =>
    simp only [binD, Option.ite_none_right_eq_some, Option.some.injEq, Bool.and_eq_true, decide_eq_true_eq] at e
    obtain ⟨⟨⟨h1, h2⟩, hc⟩, rfl⟩ := e
    obtain ⟨a, vs, rfl, q1, r⟩ := con_lst hs cx
    cases con_int cy
    have hl := fits_ok hc
    rw [r.length] at hl
    exact op_rep pins s σ H _ _ v u Q I rx ry ⟨a, k, vs, rfl, rfl, q1, by simpa using h1, by simpa using h2, hl, fun p np => fin.lst hs (reps_flatten r _) np⟩
theorem opr_fdiv : OpR X (binaryOp .FloorDiv) (rBin W .fdiv) := by
  intro pins s σ H x y v u Q I rx ry h
  obtain ⟨SS, F, dx, dy, op, hs, cx, cy, e, fin⟩ := h
  cases dx <;> cases dy <;> first | (have z : none = some op := e; cases z; done) | skip
  case int.int i j =>
    simp only [binD, Option.ite_none_right_eq_some, Option.some.injEq, Bool.and_eq_true, decide_eq_true_eq] at e
    obtain ⟨hc, rfl⟩ := e
    cases con_int cx; cases con_int cy
    exact op_fdiv pins s σ H _ _ v u Q I rx ry ⟨_, _, rfl, rfl, hc, fin.int hs⟩
theorem opr_mod : OpR X (binaryOp .Mod) (rBin W .mod) := by
  intro pins s σ H x y v u Q I rx ry h
  obtain ⟨SS, F, dx, dy, op, hs, cx, cy, e, fin⟩ := h
  cases dx <;> cases dy <;> first | (have z : none = some op := e; cases z; done) | skip
  case int.int i j =>
    simp only [binD, Option.ite_none_right_eq_some, Option.some.injEq, decide_eq_true_eq] at e
    obtain ⟨hc, rfl⟩ := e
    cases con_int cx; cases con_int cy
    exact op_mod pins s σ H _ _ v u Q I rx ry ⟨_, _, rfl, rfl, hc, fin.int hs⟩
theorem opr_pow : OpR X (binaryOp .Pow) (rBin W .pow) := by
  intro pins s σ H x y v u Q I rx ry h
  obtain ⟨SS, F, dx, dy, op, hs, cx, cy, e, fin⟩ := h
  cases dx <;> cases dy <;> first | (have z : none = some op := e; cases z; done) | skip
  case int.int i j =>
    simp only [binD, Option.ite_none_right_eq_some, Option.some.injEq, Bool.and_eq_true, decide_eq_true_eq] at e
    obtain ⟨⟨⟨h1, h2⟩, h3⟩, rfl⟩ := e
    cases con_int cx; cases con_int cy
    exact op_pow pins s σ H _ _ v u Q I rx ry ⟨_, _, rfl, rfl, ⟨h1, h2, by simpa using h3⟩, fin.int hs⟩
theorem opr_bin (hK : X.K = W.K) (o : Bop) : OpR X (binaryOp o.op) (rBin W o) := by
  cases o
  · exact opr_add hK
  · exact opr_sub
  · exact opr_mul
  · exact opr_fdiv
  · exact opr_mod
  · exact opr_pow
end
end T
end
section
set_option Elab.async false
set_option linter.all false
set_option autoImplicit false
set_option maxRecDepth 100000
/-! comparisons by data -/
namespace T
open PySem PySem.Spec PyProof.Rows L2

mutual
theorem eqv_py : ∀ d e : D, d.plain = true → e.plain = true → PyData.eqv d.py e.py = D.eqv d e
  | .non, e, _, h => by cases e <;> first | rfl | exact absurd h (by simp [D.plain]) 
  | .bl _, e, _, h => by cases e <;> first | rfl | exact absurd h (by simp [D.plain]) 
  | .int _, e, _, h => by cases e <;> first | rfl | exact absurd h (by simp [D.plain]) 
  | .str _, e, _, h => by cases e <;> first | rfl | exact absurd h (by simp [D.plain]) 
  | .tup xs, e, g, h => by
    cases e <;> first | rfl | skip
    case tup ys =>
      unfold D.plain at g h
      rw [D.py, D.py, PyData.eqv, D.eqv]
      exact eqvs_py xs ys g h
    all_goals simp [D.plain] at h
  | .lst xs, e, g, h => by
    cases e <;> first | rfl | skip
    case lst ys =>
      unfold D.plain at g h
      rw [D.py, D.py, PyData.eqv, D.eqv]
      exact eqvs_py xs ys g h
    all_goals simp [D.plain] at h
  | .dct _ _, _, g, _ => by simp [D.plain] at g
  | .obj _ _, _, g, _ => by simp [D.plain] at g
  | .exv _ _, _, g, _ => by simp [D.plain] at g
  | .clo _ _, _, g, _ => by simp [D.plain] at g
  | .stt _, _, g, _ => by simp [D.plain] at g
theorem eqvs_py : ∀ xs ys : List D, D.plains xs = true → D.plains ys = true → PyData.eqvAll (D.pys xs) (D.pys ys) = D.eqvs xs ys
  | [], [], _, _ => rfl
  | [], _ :: _, _, _ => rfl
  | _ :: _, [], _, _ => rfl
  | x :: xs, y :: ys, g, h => by
    unfold D.plains at g h
    rw [Bool.and_eq_true] at g h
    rw [D.pys, D.pys, PyData.eqvAll, D.eqvs, eqv_py x y g.1 h.1, eqvs_py xs ys g.2 h.2]
end
mutual
theorem lay_py : ∀ d : D, d.plain = true → d.py.canLay0 = true ∧ d.py.depth = d.depth
  | .non, _ => by constructor <;> simp [D.py, PyData.canLay0, PyData.depth, D.depth]
  | .bl _, _ => by constructor <;> simp [D.py, PyData.canLay0, PyData.depth, D.depth]
  | .int _, _ => by constructor <;> simp [D.py, PyData.canLay0, PyData.depth, D.depth]
  | .str s, h => by
    unfold D.plain at h
    constructor
    · simp [D.py, PyData.canLay0, h]
    · simp [D.py, PyData.depth, D.depth]
  | .tup xs, h => by
    unfold D.plain at h
    obtain ⟨h1, h2⟩ := lays_py xs h
    constructor
    · simp [D.py, PyData.canLay0, h1]
    · simp [D.py, PyData.depth, D.depth, h2]
  | .lst xs, h => by
    unfold D.plain at h
    obtain ⟨h1, h2⟩ := lays_py xs h
    constructor
    · simp [D.py, PyData.canLay0, h1]
    · simp [D.py, PyData.depth, D.depth, h2]
  | .dct _ _, g => by simp [D.plain] at g
  | .obj _ _, g => by simp [D.plain] at g
  | .exv _ _, g => by simp [D.plain] at g
  | .clo _ _, g => by simp [D.plain] at g
  | .stt _, g => by simp [D.plain] at g
theorem lays_py : ∀ xs : List D, D.plains xs = true → PyData.canLayAll0 (D.pys xs) = true ∧ PyData.depthAll (D.pys xs) = D.depths xs
  | [], _ => by constructor <;> simp [D.pys, PyData.canLayAll0, PyData.depthAll, D.depths]
  | x :: xs, h => by
    unfold D.plains at h
    rw [Bool.and_eq_true] at h
    obtain ⟨h1, h2⟩ := lay_py x h.1
    obtain ⟨h3, h4⟩ := lays_py xs h.2
    constructor
    · simp [D.pys, PyData.canLayAll0, h1, h3]
    · simp [D.pys, PyData.depthAll, D.depths, h2, h4]
end
theorem shaped_py {d : D} (h : eqOk d = true) : SeqAt.shaped d.py = true := by
  unfold eqOk at h
  rw [Bool.and_eq_true] at h
  obtain ⟨h1, h2⟩ := lay_py d h.1
  have h3 : d.depth ≤ 60 := Nat.le_of_ble_eq_true h.2
  unfold SeqAt.shaped
  rw [h1, h2, Bool.true_and]
  exact decide_eq_true (by omega)
theorem plain_of {d : D} (h : eqOk d = true) : d.plain = true := by
  unfold eqOk at h
  rw [Bool.and_eq_true] at h
  exact h.1
section
variable {W : Wd} {SS : States} {F H : Hp}
mutual
theorem dp_of (hs : Sub F H) : ∀ (d : D) (x : V), d.plain = true → Rep W SS F d x → Dp W.K H x d.py
  | .non, _, _, h => by unfold Rep at h; subst h; exact .non
  | .bl b, _, _, h => by unfold Rep at h; subst h; exact .bl b
  | .int i, _, _, h => by unfold Rep at h; subst h; exact .int i
  | .str s, _, _, h => by unfold Rep at h; subst h; exact .str s
  | .tup xs, _, g, h => by
    unfold Rep at h
    unfold D.plain at g
    obtain ⟨a, vs, rfl, q, r⟩ := h
    exact .tup (hs.sqT q) (dps_of hs xs vs g r)
  | .lst xs, _, g, h => by
    unfold Rep at h
    unfold D.plain at g
    obtain ⟨a, vs, rfl, q, r⟩ := h
    exact .lst (SqL.of (hs _ _ q)) (dps_of hs xs vs g r)
  | .dct _ _, _, g, _ => by simp [D.plain] at g
  | .obj _ _, _, g, _ => by simp [D.plain] at g
  | .exv _ _, _, g, _ => by simp [D.plain] at g
  | .clo _ _, _, g, _ => by simp [D.plain] at g
  | .stt _, _, g, _ => by simp [D.plain] at g
theorem dps_of (hs : Sub F H) : ∀ (xs : List D) (vs : List V), D.plains xs = true → Reps W SS F xs vs → DpAll W.K H vs (D.pys xs)
  | [], _, _, h => by unfold Reps at h; subst h; exact .nil
  | x :: xs, _, g, h => by
    unfold D.plains at g
    rw [Bool.and_eq_true] at g
    obtain ⟨v, r, rfl, h1, h2⟩ := h.cons_inv
    exact .cons (dp_of hs x v g.1 h1) (dps_of hs xs r g.2 h2)
end
theorem dp_con (hs : Sub F H) {d : D} {x : V} (g : d.plain = true) (h : Con W SS F H d x) : Dp W.K H x d.py := by
  rcases h with h | ⟨a, o, rfl, e2, h⟩
  · exact dp_of hs d x g h
  · cases d with
    | lst xs =>
      obtain ⟨vs, rfl, r⟩ := h
      unfold D.plain at g
      exact .lst (SqL.of e2) (dps_of hs xs vs g r)
    | dct t kvs => simp [D.plain] at g
    | obj c fs => simp [D.plain] at g
    | _ => exact h.elim
end
/-! ### the order of tuples -/
section
variable {W : Wd} {SS : States} {F H : Hp}
end
end T
end
section
set_option Elab.async false
set_option linter.all false
set_option autoImplicit false
set_option maxRecDepth 100000
/-! dicts by data -/
namespace T
open PySem PySem.Spec PyProof.Rows L2

section
variable {X : Cx} {pins : List (Addr × Obj)} {σ : L2.St} {H F : Hp} {s : Shared} {W : Wd} {SS : States}
mutual
/-- data that may be part of a key, as the library tells keys -/
theorem nested_is (I : Inv X pins σ H s) (hK : X.K = W.K) (hs : Sub F H) : ∀ (d : D) (v : V) (u : Value) (k : NestedKey), Rep W SS F d v → RelV v u → d.toNK = some k → NestedIs s.heap k u
  | .non, _, _, _, h, r, e => by
    unfold Rep at h; subst h
    cases (show _ = Value.none from r)
    cases (Option.some.inj e)
    exact .none
  | .bl b, _, _, _, h, r, e => by
    unfold Rep at h; subst h
    cases (show _ = Value.bool b from r)
    cases (Option.some.inj e)
    exact .bool rfl
  | .int i, _, _, _, h, r, e => by
    unfold Rep at h; subst h
    obtain ⟨t, rfl⟩ := r
    cases (Option.some.inj e)
    exact .int i t
  | .str x, _, _, _, h, r, e => by
    unfold Rep at h; subst h
    obtain ⟨t, rfl⟩ := r
    cases (Option.some.inj e)
    exact .text x t
  | .tup xs, _, _, k, h, r, e => by
    unfold Rep at h
    obtain ⟨a, vs, rfl, q, rr⟩ := h
    cases (show _ = Value.ref a from r)
    have q' : SqT X.K H a vs := by rw [hK]; exact hs.sqT q
    obtain ⟨its, rv, ⟨o, ho, hc, n, hd⟩, _⟩ := I.tuple q'
    unfold D.toNK at e
    cases hx : D.toNKs xs with
    | none => rw [hx] at e; cases e
    | some ks =>
      rw [hx] at e
      cases (Option.some.inj e)
      refine .tup ho hc hd ?_
      have z := nested_all I hK hs xs vs its ks rr rv hx
      simpa using z
  | .lst _, _, _, _, _, _, e => by simp [D.toNK] at e
  | .dct _ _, _, _, _, _, _, e => by simp [D.toNK] at e
  | .obj _ _, _, _, _, _, _, e => by simp [D.toNK] at e
  | .exv _ _, _, _, _, _, _, e => by simp [D.toNK] at e
  | .clo _ _, _, _, _, _, _, e => by simp [D.toNK] at e
  | .stt _, _, _, _, _, _, e => by simp [D.toNK] at e
theorem nested_all (I : Inv X pins σ H s) (hK : X.K = W.K) (hs : Sub F H) : ∀ (ds : List D) (vs : List V) (us : List Value) (ks : List NestedKey), Reps W SS F ds vs → Vals vs us → D.toNKs ds = some ks → NestedAll s.heap ks us
  | [], _, _, _, h, r, e => by
    unfold Reps at h; subst h
    cases r
    cases (Option.some.inj e)
    exact .nil
  | d :: ds, _, _, _, h, r, e => by
    obtain ⟨v, r', rfl, h1, h2⟩ := h.cons_inv
    cases r with
    | cons rv rr =>
      unfold D.toNKs at e
      cases hx : d.toNK with
      | none => rw [hx] at e; cases e
      | some k =>
        rw [hx] at e
        cases hy : D.toNKs ds with
        | none => simp only [hy] at e; cases e
        | some ks =>
          simp only [hy] at e
          cases (Option.some.inj e)
          exact .cons (nested_is I hK hs d v _ k h1 rv hx) (nested_all I hK hs ds r' _ ks h2 rr hy)
end
end

/-! ### keys -/
mutual
theorem eqv_nk : ∀ (d e : D) (j k : NestedKey), d.toNK = some j → e.toNK = some k → D.eqv d e = decide (j = k)
  | .non, e, j, k, h, g => by
    cases (Option.some.inj h)
    cases e <;> first | (simp [D.toNK] at g; done) | skip
    case non => cases (Option.some.inj g); rfl
    case bl b => cases (Option.some.inj g); rfl
    case int i => cases (Option.some.inj g); rfl
    case str x => cases (Option.some.inj g); rfl
    case tup xs =>
      unfold D.toNK at g
      cases hx : D.toNKs xs with
      | none => rw [hx] at g; cases g
      | some ks => rw [hx] at g; cases (Option.some.inj g); rfl
  | .bl a, e, j, k, h, g => by
    cases (Option.some.inj h)
    cases e <;> first | (simp [D.toNK] at g; done) | skip
    case non => cases (Option.some.inj g); rfl
    case bl b => cases (Option.some.inj g); cases a <;> cases b <;> rfl
    case int i =>
      cases (Option.some.inj g)
      rw [NestedKey.decide_eq]
      simp [D.eqv, NestedKey.beq, Bool.beq_eq_decide_eq]
    case str x => cases (Option.some.inj g); rfl
    case tup xs =>
      unfold D.toNK at g
      cases hx : D.toNKs xs with
      | none => rw [hx] at g; cases g
      | some ks => rw [hx] at g; cases (Option.some.inj g); rfl
  | .int i, e, j, k, h, g => by
    cases (Option.some.inj h)
    cases e <;> first | (simp [D.toNK] at g; done) | skip
    case non => cases (Option.some.inj g); rfl
    case bl b =>
      cases (Option.some.inj g)
      rw [NestedKey.decide_eq]
      simp [D.eqv, NestedKey.beq, Bool.beq_eq_decide_eq]
    case int j =>
      cases (Option.some.inj g)
      rw [NestedKey.decide_eq]
      simp [D.eqv, NestedKey.beq, Bool.beq_eq_decide_eq]
    case str x => cases (Option.some.inj g); rfl
    case tup xs =>
      unfold D.toNK at g
      cases hx : D.toNKs xs with
      | none => rw [hx] at g; cases g
      | some ks => rw [hx] at g; cases (Option.some.inj g); rfl
  | .str x, e, j, k, h, g => by
    cases (Option.some.inj h)
    cases e <;> first | (simp [D.toNK] at g; done) | skip
    case non => cases (Option.some.inj g); rfl
    case bl b => cases (Option.some.inj g); rfl
    case int i => cases (Option.some.inj g); rfl
    case str y =>
      cases (Option.some.inj g)
      rw [NestedKey.decide_eq]
      simp [D.eqv, NestedKey.beq, Bool.beq_eq_decide_eq]
    case tup xs =>
      unfold D.toNK at g
      cases hx : D.toNKs xs with
      | none => rw [hx] at g; cases g
      | some ks => rw [hx] at g; cases (Option.some.inj g); rfl
  | .tup xs, e, j, k, h, g => by
    unfold D.toNK at h
    cases hx : D.toNKs xs with
    | none => rw [hx] at h; cases h
    | some js =>
      rw [hx] at h
      cases (Option.some.inj h)
      cases e <;> first | (simp [D.toNK] at g; done) | skip
      case non => cases (Option.some.inj g); rfl
      case bl b => cases (Option.some.inj g); rfl
      case int i => cases (Option.some.inj g); rfl
      case str y => cases (Option.some.inj g); rfl
      case tup ys =>
        unfold D.toNK at g
        cases hy : D.toNKs ys with
        | none => rw [hy] at g; cases g
        | some ks =>
          rw [hy] at g
          cases (Option.some.inj g)
          rw [NestedKey.decide_eq, NestedKey.beq, D.eqv]
          exact eqvs_nk xs ys js ks hx hy
  | .lst _, _, _, _, h, _ => by simp [D.toNK] at h
  | .dct _ _, _, _, _, h, _ => by simp [D.toNK] at h
  | .obj _ _, _, _, _, h, _ => by simp [D.toNK] at h
  | .exv _ _, _, _, _, h, _ => by simp [D.toNK] at h
  | .clo _ _, _, _, _, h, _ => by simp [D.toNK] at h
  | .stt _, _, _, _, h, _ => by simp [D.toNK] at h
theorem eqvs_nk : ∀ (ds es : List D) (js ks : List NestedKey), D.toNKs ds = some js → D.toNKs es = some ks → D.eqvs ds es = NestedKey.beqAll js ks
  | [], [], _, _, h, g => by cases (Option.some.inj h); cases (Option.some.inj g); rfl
  | [], e :: es, _, _, h, g => by
    cases (Option.some.inj h)
    unfold D.toNKs at g
    cases hx : e.toNK with
    | none => rw [hx] at g; cases g
    | some k =>
      rw [hx] at g
      cases hy : D.toNKs es with
      | none => simp only [hy] at g; cases g
      | some ks => simp only [hy] at g; cases (Option.some.inj g); rfl
  | d :: ds, [], _, _, g, h => by
    cases (Option.some.inj h)
    unfold D.toNKs at g
    cases hx : d.toNK with
    | none => rw [hx] at g; cases g
    | some k =>
      rw [hx] at g
      cases hy : D.toNKs ds with
      | none => simp only [hy] at g; cases g
      | some ks => simp only [hy] at g; cases (Option.some.inj g); rfl
  | d :: ds, e :: es, _, _, h, g => by
    unfold D.toNKs at h g
    cases hx : d.toNK with
    | none => rw [hx] at h; cases h
    | some j =>
      rw [hx] at h
      cases hy : D.toNKs ds with
      | none => simp only [hy] at h; cases h
      | some js =>
        simp only [hy] at h
        cases (Option.some.inj h)
        cases gx : e.toNK with
        | none => rw [gx] at g; cases g
        | some k =>
          rw [gx] at g
          cases gy : D.toNKs es with
          | none => simp only [gy] at g; cases g
          | some ks =>
            simp only [gy] at g
            cases (Option.some.inj g)
            rw [D.eqvs, NestedKey.beqAll, eqv_nk d e j k hx gx, NestedKey.decide_eq, eqvs_nk ds es js ks hy gy]
end
theorem keyOk_nk {t : Bool} {k : D} (h : keyOk t k = true) : ∃ nk, k.toNK = some nk := by
  cases t <;> cases k <;> first | (have z : false = true := h; cases z; done) | skip
  case false.int i => exact ⟨_, rfl⟩
  case false.str i => exact ⟨_, rfl⟩
  case true.tup xs =>
    unfold keyOk at h
    unfold D.toNK
    cases hx : D.toNKs xs with
    | none => simp [hx] at h
    | some ks => exact ⟨_, rfl⟩
/-- a key of ints and texts -/
def keyD : Key → D
  | .inl i => .int i
  | .inr s => .str s
theorem keyD_of {k : D} (h : keyOk false k = true) : ∃ q : Key, k = keyD q := by
  cases k <;> first | (have z : false = true := h; cases z; done) | skip
  case int i => exact ⟨.inl i, rfl⟩
  case str i => exact ⟨.inr i, rfl⟩
theorem keyD_ok (q : Key) : keyOk false (keyD q) = true := by cases q <;> rfl
theorem keyD_inj {a b : Key} (h : keyD a = keyD b) : a = b := by
  cases a <;> cases b <;> simp [keyD] at h <;> rw [h]
theorem keyD_eqv (a b : Key) : D.eqv (keyD a) (keyD b) = decide (a = b) := by
  cases a with
  | inl i => cases b with
    | inl j => rw [key_ll]; rfl
    | inr y => rw [key_lr]; rfl
  | inr x => cases b with
    | inl j => rw [key_rl]; rfl
    | inr y => rw [key_rr]; simp [keyD, D.eqv, Bool.beq_eq_decide_eq]
theorem keyD_rep {W : Wd} {SS : States} {F : Hp} (q : Key) (v : V) : Rep W SS F (keyD q) v ↔ v = kV q := by
  cases q <;> simp [keyD, Rep, kV]
theorem keyD_hash (w : World) (q : Key) (nk : NestedKey) (h : (keyD q).toNK = some nk) : nk.hash w = keyH w q := by
  cases q <;> (cases (Option.some.inj h); rfl)
theorem keyD_nk (q : Key) : ∃ nk, (keyD q).toNK = some nk ∧ ∀ w, nk.hash w = keyH w q := by
  cases q <;> exact ⟨_, rfl, fun _ => rfl⟩

section
variable {W : Wd} {SS : States} {F : Hp}
/-- a dict of ints and texts as the library has it -/
abbrev KVd (W : Wd) (SS : States) (F : Hp) : List (D × D) → List (Key × Value) → Prop := Paired fun p q => p.1 = keyD q.1 ∧ ∃ v, RelV v q.2 ∧ Rep W SS F p.2 v
theorem leaf_in {P : Program} (hw : W.P = P) : ∀ {kvs : List (D × D)} {es : List DictEntry}, RepE W SS F false kvs es → ∃ vs, KVd W SS F kvs vs ∧ Pairs (mixKind W.P W.w) es vs ∧ ∀ e ∈ es, ∃ k, (mixKind W.P W.w).is k e.key = true ∧ e.hash = (mixKind W.P W.w).hash k
  | [], _, h => by unfold RepE at h; subst h; exact ⟨[], .nil, .nil, fun e he => by cases he⟩
  | (k, d) :: r, _, h => by
    unfold RepE at h
    obtain ⟨e, q, rfl, h1, ⟨v, h2, h3⟩, ⟨nk, h4, h5⟩, ⟨u, h6, h7⟩, h8⟩ := h
    obtain ⟨vs, g1, g2, g3⟩ := leaf_in hw h8
    obtain ⟨key, rfl⟩ := keyD_of h1
    have ev := (keyD_rep key v).mp h3
    subst ev
    have hi : (mixKind W.P W.w).is key e.key = true := kV_is h2
    refine ⟨(key, e.val) :: vs, .cons ⟨rfl, u, h6, h7⟩ g1, .cons hi rfl g2, fun e' he => ?_⟩
    rcases List.mem_cons.mp he with rfl | he
    · exact ⟨key, hi, by rw [h5, keyD_hash _ _ _ h4]; rfl⟩
    · exact g3 e' he
theorem leaf_out : ∀ {kvs : List (D × D)} {es : List DictEntry} {vs : List (Key × Value)}, KVd W SS F kvs vs → Pairs (mixKind W.P W.w) es vs → (∀ e ∈ es, ∃ k, (mixKind W.P W.w).is k e.key = true ∧ e.hash = (mixKind W.P W.w).hash k) → RepE W SS F false kvs es
  | [], _, _, .nil, .nil, _ => by unfold RepE; rfl
  | (k, d) :: r, _, _, .cons (b := q) ⟨h1, v, h2, h3⟩ t, .cons (e := e) hi hv tt, hk => by
    unfold RepE
    obtain ⟨key', hi', hh⟩ := hk e List.mem_cons_self
    have ek : q.1 = key' := (mixKind W.P W.w).inj _ _ _ hi hi'
    subst ek
    obtain ⟨nk, n1, n2⟩ := keyD_nk q.1
    have hk0 : k = keyD q.1 := h1
    refine ⟨e, _, rfl, ?_, ⟨kV q.1, relV_key hi, ?_⟩, ⟨nk, ?_, ?_⟩, ⟨v, ?_, h3⟩, leaf_out t tt fun e' he => hk e' (List.mem_cons_of_mem _ he)⟩
    · rw [hk0]; exact keyD_ok _
    · rw [hk0]; exact (keyD_rep _ _).mpr rfl
    · rw [hk0]; exact n1
    · rw [hh]; exact (n2 W.w).symm
    · rw [hv]; exact h2
theorem leaf_keys : ∀ {kvs : List (D × D)} {vs : List (Key × Value)}, KVd W SS F kvs vs → kvs.map (fun p => p.1.toNK) = vs.map fun q => (keyD q.1).toNK
  | _, _, .nil => rfl
  | _, _, .cons (a := p) (b := q) ⟨h1, _⟩ t => by
    rw [List.map_cons, List.map_cons, leaf_keys t, h1]
theorem keyD_nk_inj {a b : Key} (h : (keyD a).toNK = (keyD b).toNK) : a = b := by
  cases a <;> cases b <;> simp [keyD, D.toNK] at h <;> rw [h]
theorem nodup_map {α β γ : Type} {f : α → β} {g : α → γ} (h : ∀ a b, g a = g b → f a = f b) : ∀ {l : List α}, (l.map f).Nodup → (l.map g).Nodup
  | [], _ => by simp
  | x :: r, hn => by
    rw [List.map_cons, List.nodup_cons] at hn ⊢
    refine ⟨fun hm => hn.1 ?_, nodup_map h hn.2⟩
    obtain ⟨y, hy, e⟩ := List.mem_map.mp hm
    exact List.mem_map.mpr ⟨y, hy, h _ _ e⟩
theorem leaf_nd {kvs : List (D × D)} {vs : List (Key × Value)} (h : KVd W SS F kvs vs) : NdK kvs ↔ (vs.map (·.1)).Nodup := by
  unfold NdK
  rw [leaf_keys h]
  exact ⟨nodup_map fun a b e => by rw [e], nodup_map fun a b e => keyD_nk_inj e⟩
theorem leaf_get (k : Key) : ∀ {kvs : List (D × D)} {vs : List (Key × Value)}, KVd W SS F kvs vs → match dget kvs (keyD k) with
    | some d => ∃ u v, valueAt vs k = some u ∧ RelV v u ∧ Rep W SS F d v
    | none => valueAt vs k = none
  | _, _, .nil => rfl
  | _, _, .cons (a := p) (b := q) (l₁ := kvs) (l₂ := vs) ⟨h1, v, h2, h3⟩ t => by
    have ih := leaf_get k t
    unfold dget valueAt
    rw [h1, keyD_eqv, List.find?_cons]
    by_cases e : q.1 = k
    · rw [if_pos (decide_eq_true e)]
      simp only [decide_eq_true e]
      exact ⟨q.2, v, rfl, h2, h3⟩
    · rw [if_neg (by simpa using e)]
      simp only [decide_eq_false e]
      exact ih
theorem leaf_has (k : Key) {kvs : List (D × D)} {vs : List (Key × Value)} (h : KVd W SS F kvs vs) : dhas kvs (keyD k) = (valueAt vs k).isSome := by
  have z := leaf_get k h
  unfold dhas
  cases e : dget kvs (keyD k) with
  | none => rw [e] at z; rw [z]; rfl
  | some d => rw [e] at z; obtain ⟨u, v, z, _⟩ := z; rw [z]; rfl
theorem leaf_any (k : Key) : ∀ {kvs : List (D × D)} {vs : List (Key × Value)}, KVd W SS F kvs vs → (vs.any fun kv => decide (kv.1 = k)) = dhas kvs (keyD k)
  | _, _, .nil => rfl
  | _, _, .cons (a := p) (b := q) (l₁ := kvs) (l₂ := vs) ⟨h1, v, h2, h3⟩ t => by
    have ih := leaf_any k t
    unfold dhas dget
    rw [h1, keyD_eqv, List.any_cons]
    by_cases e : q.1 = k
    · rw [if_pos (decide_eq_true e), decide_eq_true e]; rfl
    · rw [if_neg (by simpa using e), decide_eq_false e, Bool.false_or]
      exact ih
theorem leaf_same {k : Key} {d : D} {v : V} {u : Value} (hr : RelV v u) (hd : Rep W SS F d v) : ∀ {kvs : List (D × D)} {vs : List (Key × Value)}, KVd W SS F kvs vs → (vs.map (·.1)).Nodup → (vs.any fun kv => decide (kv.1 = k)) = true → KVd W SS F (dset kvs (keyD k) d) (vs.map fun kv => if kv.1 = k then (kv.1, u) else kv)
  | _, _, .nil, _, e => by simp at e
  | _, _, .cons (a := p) (b := q) (l₁ := kvs) (l₂ := vs) ⟨h1, v', h2, h3⟩ t, hn, e => by
    rw [List.map_cons, List.nodup_cons] at hn
    unfold dset
    rw [h1, keyD_eqv, List.map_cons]
    by_cases c : q.1 = k
    · rw [if_pos (decide_eq_true c), if_pos c]
      have z : (vs.map fun kv => if kv.1 = k then (kv.1, u) else kv) = vs := by
        have : ∀ l : List (Key × Value), k ∉ l.map (·.1) → (l.map fun kv => if kv.1 = k then (kv.1, u) else kv) = l := by
          intro l
          induction l with
          | nil => intro _; rfl
          | cons a r ih =>
            intro hm
            rw [List.map_cons, List.mem_cons, not_or] at hm
            rw [List.map_cons, if_neg (fun e => hm.1 e.symm), ih hm.2]
        refine this vs ?_
        rw [← c]; exact hn.1
      rw [z]
      exact .cons ⟨rfl, v, hr, hd⟩ t
    · rw [if_neg (by simpa using c), if_neg c]
      rw [List.any_cons, decide_eq_false c, Bool.false_or] at e
      exact .cons ⟨h1, v', h2, h3⟩ (leaf_same hr hd t hn.2 e)
theorem paired_snoc {α β : Type} {G : α → β → Prop} : ∀ {l₁ : List α} {l₂ : List β} {a : α} {b : β}, Paired G l₁ l₂ → G a b → Paired G (l₁ ++ [a]) (l₂ ++ [b])
  | _, _, _, _, .nil, h => .cons h .nil
  | _, _, _, _, .cons r t, h => .cons r (paired_snoc t h)
theorem dset_new {k d : D} : ∀ {kvs : List (D × D)}, dhas kvs k = false → dset kvs k d = kvs ++ [(k, d)]
  | [], _ => rfl
  | p :: r, h => by
    unfold dhas dget at h
    by_cases c : p.1.eqv k = true
    · rw [if_pos c] at h; cases h
    · rw [if_neg c] at h
      unfold dset
      rw [if_neg c, dset_new (kvs := r) h]
      rfl
theorem leaf_set {k : Key} {d : D} {v : V} {u : Value} (hr : RelV v u) (hd : Rep W SS F d v) {kvs : List (D × D)} {vs : List (Key × Value)} (h : KVd W SS F kvs vs) (hn : (vs.map (·.1)).Nodup) : KVd W SS F (dset kvs (keyD k) d) (stored vs k u) := by
  unfold stored
  by_cases c : (vs.any fun kv => decide (kv.1 = k)) = true
  · rw [if_pos c]
    exact leaf_same hr hd h hn c
  · rw [if_neg c]
    have e : dhas kvs (keyD k) = false := by
      rw [← leaf_any k h]; exact Bool.eq_false_iff.mpr c
    rw [dset_new e]
    exact paired_snoc h ⟨rfl, v, hr, hd⟩
end

section
variable {W : Wd} {SS : States} {F : Hp}
/-- a dict whose keys are tuples, as the library has it -/
abbrev KTd (W : Wd) (SS : States) (F : Hp) : List (D × D) → List (NestedKey × Addr × Value) → Prop := Paired fun p q => keyOk true p.1 = true ∧ p.1.toNK = some q.1 ∧ Rep W SS F p.1 (.ref q.2.1) ∧ ∃ v, RelV v q.2.2 ∧ Rep W SS F p.2 v
theorem tup_of {k : D} (h : keyOk true k = true) : ∃ xs, k = .tup xs := by
  cases k <;> first | (have z : false = true := h; cases z; done) | skip
  case tup xs => exact ⟨xs, rfl⟩
theorem depth_of {k : D} {nk : NestedKey} (h : keyOk true k = true) (e : k.toNK = some nk) : nk.depth ≤ 8 := by
  obtain ⟨xs, rfl⟩ := tup_of h
  unfold keyOk at h
  unfold D.toNK at e
  cases hx : D.toNKs xs with
  | none => simp [hx] at h
  | some ks =>
    simp only [hx] at h e
    cases (Option.some.inj e)
    exact Nat.le_of_ble_eq_true h
theorem nest_in : ∀ {kvs : List (D × D)} {es : List DictEntry}, RepE W SS F true kvs es → ∃ xs, KTd W SS F kvs xs ∧ es = xs.map (entryOfKey (nestedKind W.P W.w))
  | [], _, h => by unfold RepE at h; subst h; exact ⟨[], .nil, rfl⟩
  | (k, d) :: r, _, h => by
    unfold RepE at h
    obtain ⟨e, q, rfl, h1, ⟨v, h2, h3⟩, ⟨nk, h4, h5⟩, ⟨u, h6, h7⟩, h8⟩ := h
    obtain ⟨xs, g1, g2⟩ := nest_in h8
    obtain ⟨ks, rfl⟩ := tup_of h1
    have h3' := h3
    unfold Rep at h3'
    obtain ⟨a, vs, rfl, _⟩ := h3'
    have ek : e.key = .ref a := h2
    refine ⟨(nk, a, e.val) :: xs, .cons ⟨h1, h4, h3, u, h6, h7⟩ g1, ?_⟩
    rw [List.map_cons, ← g2]
    congr 1
    cases e with
    | mk hash key val =>
      have ek' : key = .ref a := ek
      have eh : hash = nk.hash W.w := h5
      subst ek'; subst eh
      rfl
theorem nest_out : ∀ {kvs : List (D × D)} {xs : List (NestedKey × Addr × Value)}, KTd W SS F kvs xs → RepE W SS F true kvs (xs.map (entryOfKey (nestedKind W.P W.w)))
  | [], _, .nil => by unfold RepE; rfl
  | (k, d) :: r, _, .cons (b := q) ⟨h0, h1, h2, v, h3, h4⟩ t => by
    unfold RepE
    exact ⟨_, _, rfl, h0, ⟨.ref q.2.1, rfl, h2⟩, ⟨q.1, h1, rfl⟩, ⟨v, h3, h4⟩, nest_out t⟩
theorem nest_keys : ∀ {kvs : List (D × D)} {xs : List (NestedKey × Addr × Value)}, KTd W SS F kvs xs → kvs.map (fun p => p.1.toNK) = xs.map fun q => some q.1
  | _, _, .nil => rfl
  | _, _, .cons (a := p) (b := q) ⟨_, h1, _⟩ t => by
    rw [List.map_cons, List.map_cons, nest_keys t, h1]
theorem nest_nd {kvs : List (D × D)} {xs : List (NestedKey × Addr × Value)} (h : KTd W SS F kvs xs) : NdK kvs ↔ (xs.map (·.1)).Nodup := by
  unfold NdK
  rw [nest_keys h]
  exact ⟨nodup_map fun a b e => by rw [e], nodup_map fun a b e => Option.some.inj e⟩
theorem nest_get {k : D} {nk : NestedKey} (hk : k.toNK = some nk) : ∀ {kvs : List (D × D)} {xs : List (NestedKey × Addr × Value)}, KTd W SS F kvs xs → match dget kvs k with
    | some d => ∃ p v, atKey xs nk = some p ∧ RelV v p.2 ∧ Rep W SS F d v
    | none => atKey xs nk = none
  | _, _, .nil => rfl
  | _, _, .cons (a := p) (b := q) (l₁ := kvs) (l₂ := vs) ⟨_, h1, _, v, h2, h3⟩ t => by
    have ih := nest_get hk t
    unfold dget atKey
    rw [eqv_nk p.1 k q.1 nk h1 hk, List.find?_cons]
    by_cases e : q.1 = nk
    · rw [if_pos (decide_eq_true e)]
      simp only [decide_eq_true e]
      exact ⟨q.2, v, rfl, h2, h3⟩
    · rw [if_neg (by simpa using e)]
      simp only [decide_eq_false e]
      exact ih
theorem nest_has {k : D} {nk : NestedKey} (hk : k.toNK = some nk) {kvs : List (D × D)} {xs : List (NestedKey × Addr × Value)} (h : KTd W SS F kvs xs) : dhas kvs k = (atKey xs nk).isSome := by
  have z := nest_get hk h
  unfold dhas
  cases e : dget kvs k with
  | none => rw [e] at z; rw [z]; rfl
  | some d => rw [e] at z; obtain ⟨u, v, z, _⟩ := z; rw [z]; rfl
theorem nest_same {k d : D} {nk : NestedKey} {v : V} {u : Value} (hk : k.toNK = some nk) (hr : RelV v u) (hd : Rep W SS F d v) : ∀ {kvs : List (D × D)} {xs : List (NestedKey × Addr × Value)}, KTd W SS F kvs xs → (xs.map (·.1)).Nodup → KTd W SS F (if dhas kvs k = true then dset kvs k d else kvs) (xs.map (putAt nk u))
  | _, _, .nil, _ => .nil
  | _, _, .cons (a := p) (b := q) (l₁ := kvs) (l₂ := xs) ⟨h0, h1, h1', v', h2, h3⟩ t, hn => by
    rw [List.map_cons, List.nodup_cons] at hn
    have ih := nest_same hk hr hd t hn.2
    have ev := eqv_nk p.1 k q.1 nk h1 hk
    by_cases c : q.1 = nk
    · have e1 : p.1.eqv k = true := by rw [ev]; exact decide_eq_true c
      have hh : dhas (p :: kvs) k = true := by unfold dhas dget; rw [if_pos e1]; rfl
      rw [if_pos hh]
      unfold dset
      rw [if_pos e1, List.map_cons]
      have z : xs.map (putAt nk u) = xs := by
        have : ∀ l : List (NestedKey × Addr × Value), nk ∉ l.map (·.1) → l.map (putAt nk u) = l := by
          intro l
          induction l with
          | nil => intro _; rfl
          | cons a r ih =>
            intro hm
            rw [List.map_cons, List.mem_cons, not_or] at hm
            rw [List.map_cons, ih hm.2]
            congr 1
            unfold putAt
            rw [if_neg fun e => hm.1 e.symm]
        refine this xs ?_
        rw [← c]; exact hn.1
      rw [z]
      unfold putAt
      rw [if_pos c]
      exact .cons ⟨h0, h1, h1', v, hr, hd⟩ t
    · have e1 : ¬ p.1.eqv k = true := by rw [ev]; simpa using c
      have hh : dhas (p :: kvs) k = dhas kvs k := by unfold dhas; rw [dget, if_neg e1]
      rw [hh, List.map_cons]
      have ep : putAt nk u q = q := by unfold putAt; rw [if_neg c]
      rw [ep]
      by_cases g : dhas kvs k = true
      · rw [if_pos g] at ih ⊢
        unfold dset
        rw [if_neg e1]
        exact .cons ⟨h0, h1, h1', v', h2, h3⟩ ih
      · rw [if_neg g] at ih ⊢
        exact .cons ⟨h0, h1, h1', v', h2, h3⟩ ih
theorem nest_set {k d : D} {nk : NestedKey} {a : Addr} {v : V} {u : Value} (ho : keyOk true k = true) (hk : k.toNK = some nk) (ha : Rep W SS F k (.ref a)) (hr : RelV v u) (hd : Rep W SS F d v) {kvs : List (D × D)} {xs : List (NestedKey × Addr × Value)} (h : KTd W SS F kvs xs) (hn : (xs.map (·.1)).Nodup) : KTd W SS F (dset kvs k d) (storedH xs nk a u) := by
  have hh := nest_has hk h
  unfold storedH
  by_cases c : (atKey xs nk).isSome = true
  · rw [if_pos c]
    have z := nest_same hk hr hd h hn
    rw [if_pos (hh.trans c)] at z
    exact z
  · rw [if_neg c]
    have e : dhas kvs k = false := by rw [hh]; exact Bool.eq_false_iff.mpr c
    rw [dset_new e]
    exact paired_snoc h ⟨ho, hk, ha, v, hr, hd⟩
end

/-! ### a dict at an address -/
section
variable {X : Cx} {pins : List (Addr × Obj)} {σ : L2.St} {H F : Hp} {s : Shared} {W : Wd} {SS : States} {t : Bool} {kvs : List (D × D)} {a : Addr}
/-- at a stands a dict that the object itself tells -/
def DAt (W : Wd) (SS : States) (F : Hp) (t : Bool) (kvs : List (D × D)) (a : Addr) (o : Obj) : Prop := ∃ es ep, o.ExactDict ∧ o.data = .dict es ep ∧ (a == sysModules) = false ∧ es.size ≤ sizeLine ∧ NdK kvs ∧ RepE W SS F t kvs es.toList
theorem dobj_get {P : Program} {w : World} {h : Heap} {o : Obj} (ok : HOk P w H h) (e : H a = some (dObj a o)) : h.get? a = some o := by
  have z : ObjOk P w H h a (dObj a o) := ok a _ e
  exact z.1
theorem dobj_ok {P : Program} {w : World} {h : Heap} {o : Obj} (e : h.get? a = some o) : ObjOk P w H h a (dObj a o) :=
  ⟨e, ⟨o, e⟩, fun h1 h2 p k => k o p⟩
theorem repE_length : ∀ {kvs : List (D × D)} {es : List DictEntry}, RepE W SS F t kvs es → kvs.length = es.length
  | [], _, h => by unfold RepE at h; subst h; rfl
  | (k, d) :: r, _, h => by
    unfold RepE at h
    obtain ⟨e, q, rfl, _, _, _, _, h8⟩ := h
    rw [List.length_cons, List.length_cons, repE_length h8]
/-- a dict's object, replaced -/
theorem d_wr {o ob : Obj} {h' : Heap} {t' : Nat} (I : Inv X pins σ H s) (e : H a = some (dObj a o)) (hs : Heap.SameBut a s.heap h') (he : h'.get? a = some ob) : Inv X pins σ (upd H a (dObj a ob)) { s with heap := h', toks := t' } :=
  d_write I (by rw [e]; exact True.intro) hs ⟨ob, he⟩ (dobj_ok he)
/-- a step within what is asked of a key -/
theorem key_at (I : Inv X pins σ H s) (hK : X.K = W.K) (hs : Sub F H) {k : D} {nk : NestedKey} {b : Addr} (ho : keyOk true k = true) (hk : k.toNK = some nk) (hr : Rep W SS F k (.ref b)) : (nestedKind X.prog X.w).is s.heap nk b :=
  ⟨nested_is I hK hs k (.ref b) (.ref b) nk hr rfl hk, depth_of ho hk⟩
section
variable {A : Around} {E : Value → Shared → Prop} {o : Obj} {k d : D} {y x : V} {u r : Value}
theorem leaf_at (I : Inv X pins σ H s) (hP : W.P = X.prog) (hw : W.w = X.w) (e : H a = some (dObj a o)) (hd : DAt W SS F false kvs a o) : ∃ vs : List (Key × Value), KVd W SS F kvs vs ∧ s.heap.DictOf (mixKind X.prog X.w) a vs ∧ (vs.map (·.1)).Nodup ∧ (a == sysModules) = false ∧ vs.length ≤ sizeLine := by
  obtain ⟨es, ep, h1, h2, h3, h4, h5, h6⟩ := hd
  have he := dobj_get I.hok e
  obtain ⟨vs, g1, g2, g3⟩ := leaf_in (P := W.P) rfl h6
  have nd := (leaf_nd g1).mp h5
  refine ⟨vs, g1, ?_, nd, h3, ?_⟩
  · rw [← hP, ← hw]
    exact ⟨o, es, ep, he, h1, h2, fun e he => g3 e (by simpa using he), g2, nd⟩
  · rw [← Paired.length g1, repE_length h6]
    simpa using h4
theorem nest_at (I : Inv X pins σ H s) (hP : W.P = X.prog) (hw : W.w = X.w) (hK : X.K = W.K) (hs : Sub F H) (e : H a = some (dObj a o)) (hd : DAt W SS F true kvs a o) : ∃ xs : List (NestedKey × Addr × Value), KTd W SS F kvs xs ∧ s.heap.DictOfH (nestedKind X.prog X.w) a xs ∧ (xs.map (·.1)).Nodup ∧ (a == sysModules) = false ∧ xs.length ≤ sizeLine := by
  obtain ⟨es, ep, h1, h2, h3, h4, h5, h6⟩ := hd
  have he := dobj_get I.hok e
  obtain ⟨xs, g1, g2⟩ := nest_in h6
  have allk : ∀ {l : List (D × D)} {xs : List (NestedKey × Addr × Value)}, KTd W SS F l xs → ∀ x ∈ xs, (nestedKind X.prog X.w).is s.heap x.1 x.2.1 := by
    intro l xs p
    induction p with
    | nil => intro x hx; cases hx
    | cons q _ ih =>
      intro x hx
      rcases List.mem_cons.mp hx with rfl | hx
      · exact key_at I hK hs q.1 q.2.1 q.2.2.1
      · exact ih x hx
  have nd := (nest_nd g1).mp h5
  rw [hP, hw] at g2
  refine ⟨xs, g1, ⟨o, es, ep, he, h1, h2, g2, allk g1, nd⟩, nd, h3, ?_⟩
  rw [← Paired.length g1, repE_length h6]
  simpa using h4
theorem room8 {A : Around} (hu : A.units + 10 < cLine) : A.in1.units + 8 < cLine := by show A.units + 1 + 8 < cLine; omega
theorem key_ref {k : D} {y : V} {u : Value} (ho : keyOk true k = true) (hy : Rep W SS F k y) (ry : RelV y u) : ∃ b nk, y = .ref b ∧ u = .ref b ∧ k.toNK = some nk := by
  obtain ⟨nk, hk⟩ := keyOk_nk ho
  obtain ⟨ks, rfl⟩ := tup_of ho
  have hy' := hy
  unfold Rep at hy'
  obtain ⟨b, vs, rfl, _⟩ := hy'
  exact ⟨b, nk, rfl, ry, hk⟩
/-- d[y], there -/
theorem dd_get {Q : Value → Shared → Prop} (hu : A.units + 10 < cLine) (I : Inv X pins σ H s) (hP : W.P = X.prog) (hw : W.w = X.w) (hK : X.K = W.K) (hs : Sub F H) (e : H a = some (dObj a o)) (hd : DAt W SS F t kvs a o) (ho : keyOk t k = true) (hy : Rep W SS F k y) (ry : RelV y u) (hg : dget kvs k = some d) (h : ∀ v w' s', Inv X pins σ H s' → RelV v w' → Rep W SS F d v → Q w' s') :
    wpAny (model X.prog X.w) A (getItem (.ref a) u) Q E s := by
  cases t with
  | false =>
    obtain ⟨vs, g1, dd, _⟩ := leaf_at I hP hw e hd
    obtain ⟨key, rfl⟩ := keyD_of ho
    cases (keyD_rep key y).mp hy
    have z := leaf_get key g1
    rw [hg] at z
    obtain ⟨w', v, z1, z2, z3⟩ := z
    exact wpAny_getItem_of (kV_is ry) dd.mapOf z1 (h v w' _ (I.tok _) z2 z3)
  | true =>
    obtain ⟨xs, g1, dd, _⟩ := nest_at I hP hw hK hs e hd
    obtain ⟨b, nk, rfl, rfl, hk⟩ := key_ref ho hy ry
    have z := nest_get hk g1
    rw [hg] at z
    obtain ⟨p, v, z1, z2, z3⟩ := z
    exact wpAny_getItem_heap (room8 hu) (key_at I hK hs ho hk hy) dd z1 (h v _ _ (I.tok _) z2 z3)
theorem dd_in {Q : Value → Shared → Prop} (hu : A.units + 10 < cLine) (I : Inv X pins σ H s) (hP : W.P = X.prog) (hw : W.w = X.w) (hK : X.K = W.K) (hs : Sub F H) (e : H a = some (dObj a o)) (hd : DAt W SS F t kvs a o) (ho : keyOk t k = true) (hy : Rep W SS F k y) (ry : RelV y u) (h : ∀ s', Inv X pins σ H s' → Q (.bool (dhas kvs k)) s') :
    wpAny (model X.prog X.w) A (compareOp .In u (.ref a)) Q E s := by
  cases t with
  | false =>
    obtain ⟨vs, g1, dd, _, hm, _⟩ := leaf_at I hP hw e hd
    obtain ⟨key, rfl⟩ := keyD_of ho
    cases (keyD_rep key y).mp hy
    refine wpAny_in_of (kV_is ry) hm dd.mapOf ?_
    rw [← leaf_has key g1]
    exact h _ (I.tok _)
  | true =>
    obtain ⟨xs, g1, dd, _, hm, _⟩ := nest_at I hP hw hK hs e hd
    obtain ⟨b, nk, rfl, rfl, hk⟩ := key_ref ho hy ry
    refine wpAny_in_heap (room8 hu) (key_at I hK hs ho hk hy) hm dd ?_
    rw [← nest_has hk g1]
    exact h _ (I.tok _)
theorem dd_notIn {Q : Value → Shared → Prop} (hu : A.units + 10 < cLine) (I : Inv X pins σ H s) (hP : W.P = X.prog) (hw : W.w = X.w) (hK : X.K = W.K) (hs : Sub F H) (e : H a = some (dObj a o)) (hd : DAt W SS F t kvs a o) (ho : keyOk t k = true) (hy : Rep W SS F k y) (ry : RelV y u) (h : ∀ s', Inv X pins σ H s' → Q (.bool (!dhas kvs k)) s') :
    wpAny (model X.prog X.w) A (compareOp .NotIn u (.ref a)) Q E s := by
  cases t with
  | false =>
    obtain ⟨vs, g1, dd, _, hm, _⟩ := leaf_at I hP hw e hd
    obtain ⟨key, rfl⟩ := keyD_of ho
    cases (keyD_rep key y).mp hy
    refine wpAny_notIn_of (kV_is ry) hm dd.mapOf ?_
    rw [← leaf_has key g1]
    exact h _ (I.tok _)
  | true =>
    obtain ⟨xs, g1, dd, g2, hm, _⟩ := nest_at I hP hw hK hs e hd
    obtain ⟨b, nk, rfl, rfl, hk⟩ := key_ref ho hy ry
    refine notIn_keyed (room8 hu) (key_at I hK hs ho hk hy) hm ⟨xs, dd, rfl⟩ ?_
    rw [valueAt_pairsH, Option.isSome_map, ← nest_has hk g1]
    exact h _ (I.tok _)
/-- what is told of a dict's object behind a store -/
theorem leaf_back {h' : Heap} {vs : List (Key × Value)} (hP : W.P = X.prog) (hw : W.w = X.w) (hm : (a == sysModules) = false) (dd : h'.DictOf (mixKind X.prog X.w) a vs) (g : KVd W SS F kvs vs) (hl : vs.length ≤ sizeLine) : ∃ ob, h'.get? a = some ob ∧ DAt W SS F false kvs a ob := by
  obtain ⟨ob, es, ep, h1, h2, h3, h4, h5, h6⟩ := dd
  rw [← hP, ← hw] at h4 h5
  have hr := leaf_out g h5 (fun e he => h4 e (by simpa using he))
  refine ⟨ob, h1, es, ep, h2, h3, hm, ?_, (leaf_nd g).mpr h6, hr⟩
  have z := repE_length hr
  rw [Paired.length g] at z
  simp only [Array.length_toList] at z
  omega
theorem nest_back {h' : Heap} {xs : List (NestedKey × Addr × Value)} (hP : W.P = X.prog) (hw : W.w = X.w) (hm : (a == sysModules) = false) (dd : h'.DictOfH (nestedKind X.prog X.w) a xs) (g : KTd W SS F kvs xs) (hl : xs.length ≤ sizeLine) : ∃ ob, h'.get? a = some ob ∧ DAt W SS F true kvs a ob := by
  obtain ⟨ob, es, ep, h1, h2, h3, h4, h5, h6⟩ := dd
  rw [← hP, ← hw] at h4
  have hr := nest_out g
  rw [← h4] at hr
  refine ⟨ob, h1, es, ep, h2, h3, hm, ?_, (nest_nd g).mpr h6, hr⟩
  have z := repE_length hr
  rw [Paired.length g] at z
  simp only [Array.length_toList] at z
  omega
theorem dset_length {k d : D} : ∀ kvs : List (D × D), (dset kvs k d).length ≤ kvs.length + 1
  | [] => Nat.le_refl _
  | p :: r => by
    unfold dset
    split
    · simp
    · have := dset_length (k := k) (d := d) r
      simp only [List.length_cons]; omega
/-- a store: what stands behind it -/
theorem dd_store {h' : Heap} (hP : W.P = X.prog) (hw : W.w = X.w) {t' : Nat} (I : Inv X pins σ H s) (e : H a = some (dObj a o)) (hs : Heap.SameBut a s.heap h') {kvs' : List (D × D)} (h : ∃ ob, h'.get? a = some ob ∧ DAt W SS F t kvs' a ob) : ∃ ob, DAt W SS F t kvs' a ob ∧ Inv X pins σ (upd H a (dObj a ob)) { s with heap := h', toks := t' } := by
  obtain ⟨ob, h1, h2⟩ := h
  exact ⟨ob, h2, d_wr I e hs h1⟩
/-- d[y] = x, by any of the two ways (a store, a comprehension's store) -/
theorem dd_set_gen {T : Value → Value → Sem Unit} {Q : Unit → Shared → Prop} (hT : ∀ {vs : List (Key × Value)} {key : Key} {uk uv : Value} {Q' : Unit → Shared → Prop}, (mixKind X.prog X.w).is key uk = true → s.heap.DictOf (mixKind X.prog X.w) a vs → vs.length ≤ sizeLine → (∀ h', h'.DictOf (mixKind X.prog X.w) a (stored vs key uv) → Heap.SameBut a s.heap h' → ∀ tk, Q' () { s with heap := h', toks := tk }) → wpAny (model X.prog X.w) A (T uk uv) Q' E s)
    (hT2 : ∀ {xs : List (NestedKey × Addr × Value)} {nk : NestedKey} {b : Addr} {uv : Value} {Q' : Unit → Shared → Prop}, (nestedKind X.prog X.w).is s.heap nk b → s.heap.DictOfH (nestedKind X.prog X.w) a xs → xs.length ≤ sizeLine → (∀ h', h'.DictOfH (nestedKind X.prog X.w) a (storedH xs nk b uv) → Heap.SameBut a s.heap h' → ∀ tk, Q' () { s with heap := h', toks := tk }) → wpAny (model X.prog X.w) A (T (.ref b) uv) Q' E s)
    (I : Inv X pins σ H s) (hP : W.P = X.prog) (hw : W.w = X.w) (hK : X.K = W.K) (hs : Sub F H) (e : H a = some (dObj a o)) (hd : DAt W SS F t kvs a o) (ho : keyOk t k = true) (hy : Rep W SS F k y) (ry : RelV y u) (hx : Rep W SS F d x) (rx : RelV x r) (hl : kvs.length < sizeLine)
    (h : ∀ ob s', DAt W SS F t (dset kvs k d) a ob → Inv X pins σ (upd H a (dObj a ob)) s' → Q () s') :
    wpAny (model X.prog X.w) A (T u r) Q E s := by
  have hl2 : (dset kvs k d).length ≤ sizeLine := Nat.le_trans (dset_length kvs) hl
  cases t with
  | false =>
    obtain ⟨vs, g1, dd, nd, hm, hz⟩ := leaf_at I hP hw e hd
    obtain ⟨key, rfl⟩ := keyD_of ho
    cases (keyD_rep key y).mp hy
    refine hT (kV_is ry) dd hz fun h' dd' hsb tk => ?_
    have g' := leaf_set rx hx (k := key) g1 nd
    obtain ⟨ob, q1, q2⟩ := dd_store (t' := tk) hP hw I e hsb (leaf_back hP hw hm dd' g' (by rw [← Paired.length g']; exact hl2))
    exact h ob _ q1 q2
  | true =>
    obtain ⟨xs, g1, dd, nd, hm, hz⟩ := nest_at I hP hw hK hs e hd
    obtain ⟨b, nk, rfl, rfl, hk⟩ := key_ref ho hy ry
    refine hT2 (key_at I hK hs ho hk hy) dd hz fun h' dd' hsb tk => ?_
    have g' := nest_set (v := x) ho hk hy rx hx g1 nd
    obtain ⟨ob, q1, q2⟩ := dd_store (t' := tk) hP hw I e hsb (nest_back hP hw hm dd' g' (by rw [← Paired.length g']; exact hl2))
    exact h ob _ q1 q2
theorem dd_set {Q : Unit → Shared → Prop} (hu : A.units + 10 < cLine) (I : Inv X pins σ H s) (hP : W.P = X.prog) (hw : W.w = X.w) (hK : X.K = W.K) (hs : Sub F H) (e : H a = some (dObj a o)) (hd : DAt W SS F t kvs a o) (ho : keyOk t k = true) (hy : Rep W SS F k y) (ry : RelV y u) (hx : Rep W SS F d x) (rx : RelV x r) (hl : kvs.length < sizeLine)
    (h : ∀ ob s', DAt W SS F t (dset kvs k d) a ob → Inv X pins σ (upd H a (dObj a ob)) s' → Q () s') :
    wpAny (model X.prog X.w) A (setItem (.ref a) u r) Q E s :=
  dd_set_gen (T := fun u r => setItem (.ref a) u r) (fun hk dd hz hq => wpAny_setItem_pairs (hsz := hz) hk dd fun h' dd' hs' => hq h' dd' hs' _) (fun hk dd hz hq => wpAny_setItem_heap (hsz := hz) (room8 hu) hk dd fun h' dd' hs' => hq h' dd' hs' _) I hP hw hK hs e hd ho hy ry hx rx hl h
theorem dd_cset {Q : Unit → Shared → Prop} (hu : A.units + 10 < cLine) (I : Inv X pins σ H s) (hP : W.P = X.prog) (hw : W.w = X.w) (hK : X.K = W.K) (hs : Sub F H) (e : H a = some (dObj a o)) (hd : DAt W SS F t kvs a o) (ho : keyOk t k = true) (hy : Rep W SS F k y) (ry : RelV y u) (hx : Rep W SS F d x) (rx : RelV x r) (hl : kvs.length < sizeLine)
    (h : ∀ ob s', DAt W SS F t (dset kvs k d) a ob → Inv X pins σ (upd H a (dObj a ob)) s' → Q () s') :
    wpAny (model X.prog X.w) A (dictSet a u r) Q E s :=
  dd_set_gen (T := fun u r => dictSet a u r) (fun hk dd hz hq => wpAny_dictSet_pairs (hsz := hz) hk dd fun h' dd' hs' => hq h' dd' hs' _) (fun hk dd hz hq => wpAny_dictSet_heap (hsz := hz) (show A.units + 8 < cLine by omega) hk dd fun h' dd' hs' => hq h' dd' hs' _) I hP hw hK hs e hd ho hy ry hx rx hl h
/-- d.get(y), d.get(y, x) -/
theorem dd_get1 {Q : Value → Shared → Prop} (hu : A.units + 10 < cLine) (I : Inv X pins σ H s) (hP : W.P = X.prog) (hw : W.w = X.w) (hK : X.K = W.K) (hs : Sub F H) (e : H a = some (dObj a o)) (hd : DAt W SS F t kvs a o) (ho : keyOk t k = true) (hy : Rep W SS F k y) (ry : RelV y u) (h : ∀ v w' s', Inv X pins σ H s' → RelV v w' → Rep W SS F ((dget kvs k).getD .non) v → Q w' s') :
    wpAny (model X.prog X.w) A (call (.builtin "dict.get") [.ref a, u]) Q E s := by
  cases t with
  | false =>
    obtain ⟨vs, g1, dd, _, hm, _⟩ := leaf_at I hP hw e hd
    obtain ⟨key, rfl⟩ := keyD_of ho
    cases (keyD_rep key y).mp hy
    have z := leaf_get key g1
    refine call_meetsIn PySem.F.slot_dict_get dd.typeIs PySem.F.entry_dict_get (PySem.F.args_dict_get_2 _ _) (meets_dict_get (mixKind X.prog X.w) a (kV_is ry) hm) ⟨_, dd.mapOf, ?_⟩
    cases hg : dget kvs (keyD key) with
    | none => rw [hg] at z h; rw [z]; exact h .non _ _ (I.tok _) rfl rep_non
    | some d => rw [hg] at z h; obtain ⟨w', v, z1, z2, z3⟩ := z; rw [z1]; exact h v _ _ (I.tok _) z2 z3
  | true =>
    obtain ⟨xs, g1, dd, g2, hm, _⟩ := nest_at I hP hw hK hs e hd
    obtain ⟨b, nk, rfl, rfl, hk⟩ := key_ref ho hy ry
    have z := nest_get hk g1
    refine call_meetsIn PySem.F.slot_dict_get dd.typeIs PySem.F.entry_dict_get (PySem.F.args_dict_get_2 _ _) (meetsH_dict_get (nestedKind X.prog X.w) a b hm) ⟨room8 hu, nk, xs, key_at I hK hs ho hk hy, dd, ?_⟩
    cases hg : dget kvs k with
    | none => rw [hg] at z h; rw [z]; exact h .non _ _ (I.tok _) rfl rep_non
    | some d => rw [hg] at z h; obtain ⟨w', v, z1, z2, z3⟩ := z; rw [z1]; exact h v _ _ (I.tok _) z2 z3
theorem dd_get2 {Q : Value → Shared → Prop} (hu : A.units + 10 < cLine) (I : Inv X pins σ H s) (hP : W.P = X.prog) (hw : W.w = X.w) (hK : X.K = W.K) (hs : Sub F H) (e : H a = some (dObj a o)) (hd : DAt W SS F t kvs a o) (ho : keyOk t k = true) (hy : Rep W SS F k y) (ry : RelV y u) (hx : Rep W SS F d x) (rx : RelV x r) (h : ∀ v w' s', Inv X pins σ H s' → RelV v w' → Rep W SS F ((dget kvs k).getD d) v → Q w' s') :
    wpAny (model X.prog X.w) A (call (.builtin "dict.get") [.ref a, u, r]) Q E s := by
  cases t with
  | false =>
    obtain ⟨vs, g1, dd, _, hm, _⟩ := leaf_at I hP hw e hd
    obtain ⟨key, rfl⟩ := keyD_of ho
    cases (keyD_rep key y).mp hy
    have z := leaf_get key g1
    refine call_meetsIn PySem.F.slot_dict_get dd.typeIs PySem.F.entry_dict_get (PySem.F.args_dict_get_3 _ _ _) (meets_dict_get_default (mixKind X.prog X.w) a (kV_is ry) hm r) ⟨_, dd.mapOf, ?_⟩
    cases hg : dget kvs (keyD key) with
    | none => rw [hg] at z h; rw [z]; exact h x _ _ (I.tok _) rx hx
    | some d => rw [hg] at z h; obtain ⟨w', v, z1, z2, z3⟩ := z; rw [z1]; exact h v _ _ (I.tok _) z2 z3
  | true =>
    obtain ⟨xs, g1, dd, g2, hm, _⟩ := nest_at I hP hw hK hs e hd
    obtain ⟨b, nk, rfl, rfl, hk⟩ := key_ref ho hy ry
    have z := nest_get hk g1
    refine call_meetsIn PySem.F.slot_dict_get dd.typeIs PySem.F.entry_dict_get (PySem.F.args_dict_get_3 _ _ _) (meetsH_dict_get_default (nestedKind X.prog X.w) a b hm r) ⟨room8 hu, nk, xs, key_at I hK hs ho hk hy, dd, ?_⟩
    cases hg : dget kvs k with
    | none => rw [hg] at z h; rw [z]; exact h x _ _ (I.tok _) rx hx
    | some d => rw [hg] at z h; obtain ⟨w', v, z1, z2, z3⟩ := z; rw [z1]; exact h v _ _ (I.tok _) z2 z3
end
end
end T
end
section
set_option Elab.async false
set_option linter.all false
set_option autoImplicit false
set_option maxRecDepth 100000
/-! a dict is no tuple -/
namespace T
open PySem PySem.Calls PySem.Spec PyProof.Rows PySem.SeqAt AutoSeq1 MeetsSeq PySem.W
section
variable {prog : Program} {w : World} {A : Around} {s : Shared}
theorem tup_ne_declines_dict (l b : Addr) (items : Array Value) (o2 : Obj) (n : Nat) (dd : Option Addr) (sl : Array (Option Value)) (h2 : o2.cls = .type "dict") :
    Meets (Builtin.«tuple.__ne__» ⟨[.ref l, .ref b], []⟩) (fun _ R s => s.heap.get? l = some { cls := .type "tuple", dict := dd, data := .seq items n, slots := sl } ∧ s.heap.get? b = some o2 ∧ R (.ok (.ret .notImplemented)) s) :=
  .of_wp fun prog w A R s h => by
    obtain ⟨cls2, dd2, data2, sl2⟩ := o2
    have h2' : cls2 = .type "dict" := h2
    subst h2'
    obtain ⟨hp, g, d, tk, os⟩ := s; obtain ⟨hl, hb, h⟩ := h; have f1 := PySem.F.sub_dict_tuple; wp_walk using wpAny_loadPart' hl, wpAny_loadPart' hb; exact ⟨_, rfl, h⟩
theorem dict_ne_tuple {a b : Addr} {o : Obj} {items : Array Value} (ha : s.heap.get? a = some o) (hc : o.cls = .type "dict") (hb : s.heap.IsTuple b items) (hu : A.units < cLine) : RcNeAt A s (.ref a) (.ref b) true := fun prog w E Q h => by
  obtain ⟨⟨cls2, dd2, data2, sl2⟩, ho2, hc2, n2, hd2⟩ := id hb
  simp only at hc2 hd2
  subst hc2 hd2
  have hne : a ≠ b := fun e => by
    subst e
    rw [ha] at ho2
    cases ho2
    exact absurd hc (by simp)
  have ta : s.TypeIs (.ref a) "dict" := ⟨_, ha, hc⟩
  exact (rc_ne_decline_or (k := false) ta ⟨_, ho2, rfl⟩ (by decide) PySem.F.sub_tuple_dict PySem.F.slot_dict_ne PySem.F.slot_tuple_ne_refl
    (fun Q' hq => wpAny_call_entry PySem.F.slot_dict_ne ta PySem.F.entry_dict_ne (by
      show wpAny _ _ (Builtin.Dict.dictSlotArgs "__ne__" ⟨[.ref a, .ref b], []⟩ >>= _) _ _ s
      refine wpAny_bind ?_
      unfold Builtin.Dict.dictSlotArgs
      refine wpAny_bind (wpAny_notOrdered_dict ta ?_)
      show wpAny _ _ (pure (Value.ref a, Value.ref b)) _ _ s
      refine wpAny_pure ?_
      refine wpAny_bind (wpAny_isInstance (T := "tuple") ⟨_, ho2, rfl⟩ PySem.F.sub_tuple_dict ?_)
      simp only [Bool.not_false, if_true]
      refine wpAny_bind (wpAny_rule ?_)
      exact wpAny_pure ⟨_, rfl, hq⟩) (PySem.F.args_dict_ne_2 _ _))
    (fun _ hq => call_meets PySem.F.slot_tuple_ne_refl ⟨_, ho2, rfl⟩ PySem.F.entry_tuple_ne (PySem.F.args_tuple_ne_2 _ _) (tup_ne_declines_dict b a items o n2 dd2 sl2 hc) ⟨ho2, ha, hq⟩)
    (fun _ hq => wpAny_isSame_ref_other hne ha ho2 (by rw [hc]; simp) hq) (.inr hu) h)
end
end T
end
section
set_option Elab.async false
set_option linter.all false
set_option autoImplicit false
set_option maxRecDepth 100000
/-! comparisons by data -/
namespace T
open PySem PySem.Spec PyProof.Rows L2

/-- what a body must be, for the rules by data -/
structure Good (W : Wd) (X : Cx) : Prop where
  hK : X.K = W.K
  hP : W.P = X.prog
  hw : W.w = X.w
  hu : X.A.units + 100 < cLine
def Cop.op : Cop → CmpOp
  | .eq => .Eq | .ne => .NotEq | .lt => .Lt | .le => .LtE | .gt => .Gt | .ge => .GtE | .isN => .Is | .notN => .IsNot | .in_ => .In | .notIn => .NotIn
def rCmp (W : Wd) (o : Cop) : R2 := fun x y H Q => ∃ SS F dx dy b, Sub F H ∧ Con W SS F H dx x ∧ Con W SS F H dy y ∧ cmpD o dx dy = some b ∧ Q (.bl b) H
section
variable {W : Wd} {SS : States} {F H : Hp} {x : V}
theorem con_rep {d : D} (hd : ∀ a o, ¬ TopO W SS F H a d o) (h : Con W SS F H d x) : Rep W SS F d x := by
  rcases h with h | ⟨a, o, _, _, h⟩
  · exact h
  · exact absurd h (hd a o)
theorem con_key {t : Bool} {d : D} (ho : keyOk t d = true) (h : Con W SS F H d x) : Rep W SS F d x := by
  refine con_rep (fun a o q => ?_) h
  cases t with
  | false => obtain ⟨key, rfl⟩ := keyD_of ho; cases key <;> exact q
  | true => obtain ⟨ks, rfl⟩ := tup_of ho; exact q
theorem ints_of : ∀ {xs : List D} {ns : List Int} {vs : List V}, allInt xs = some ns → Reps W SS F xs vs → vs = ns.map V.int
  | [], _, _, e, h => by
    unfold Reps at h; subst h
    cases (Option.some.inj e); rfl
  | d :: ds, _, _, e, h => by
    obtain ⟨v, r, rfl, h1, h2⟩ := h.cons_inv
    unfold allInt at e
    cases d <;> first | (have z : none = some _ := e; cases z; done) | skip
    case int i =>
      cases hx : allInt ds with
      | none => simp [hx] at e
      | some ms =>
        simp only [hx] at e
        cases (Option.some.inj e)
        unfold Rep at h1
        rw [h1, ints_of hx h2]; rfl
theorem bls_of : ∀ {xs : List D} {bs : List Bool} {vs : List V}, allBl xs = some bs → Reps W SS F xs vs → vs = bs.map V.bl
  | [], _, _, e, h => by
    unfold Reps at h; subst h
    cases (Option.some.inj e); rfl
  | d :: ds, _, _, e, h => by
    obtain ⟨v, r, rfl, h1, h2⟩ := h.cons_inv
    unfold allBl at e
    cases d <;> first | (have z : none = some _ := e; cases z; done) | skip
    case bl i =>
      cases hx : allBl ds with
      | none => simp [hx] at e
      | some ms =>
        simp only [hx] at e
        cases (Option.some.inj e)
        unfold Rep at h1
        rw [h1, bls_of hx h2]; rfl
end
theorem plains_all : ∀ {xs : List D}, xs.all eqOk = true → D.plains xs = true ∧ D.depths xs ≤ 60
  | [], _ => ⟨rfl, by simp [D.depths]⟩
  | x :: xs, h => by
    rw [List.all_cons, Bool.and_eq_true] at h
    obtain ⟨h1, h2⟩ := plains_all h.2
    have h0 := h.1
    unfold eqOk at h0
    rw [Bool.and_eq_true] at h0
    have h3 : x.depth ≤ 60 := Nat.le_of_ble_eq_true h0.2
    refine ⟨by rw [D.plains, h0.1, h1]; rfl, ?_⟩
    rw [D.depths]; omega
theorem any_py {d : D} (hd : d.plain = true) : ∀ {xs : List D}, D.plains xs = true → ((D.pys xs).any fun z => PyData.eqv z d.py) = xs.any fun y => D.eqv y d
  | [], _ => rfl
  | x :: xs, h => by
    rw [D.plains, Bool.and_eq_true] at h
    rw [D.pys, List.any_cons, List.any_cons, eqv_py x d h.1 hd, any_py hd h.2]
theorem shaped_list {xs : List D} (h : xs.all eqOk = true) : SeqAt.shaped (PyData.list (D.pys xs)) = true := by
  obtain ⟨h1, h2⟩ := plains_all h
  obtain ⟨h3, h4⟩ := lays_py xs h1
  unfold SeqAt.shaped
  simp [PyData.canLay0, PyData.depth, h3, h4]
  omega
section
variable {W : Wd} {SS : States} {F H : Hp}
theorem flat_rep : ∀ {d : D} {v : V}, d.flat = true → Rep W SS F d v → flatV v = true
  | .non, _, _, h => by unfold Rep at h; subst h; rfl
  | .bl _, _, _, h => by unfold Rep at h; subst h; rfl
  | .int _, _, _, h => by unfold Rep at h; subst h; rfl
  | .str _, _, _, h => by unfold Rep at h; subst h; rfl
theorem flats_rep : ∀ {ds : List D} {vs : List V}, ds.all D.flat = true → Reps W SS F ds vs → vs.all flatV = true
  | [], _, _, h => by unfold Reps at h; subst h; rfl
  | d :: ds, _, g, h => by
    obtain ⟨v, r, rfl, h1, h2⟩ := h.cons_inv
    rw [List.all_cons, Bool.and_eq_true] at g
    rw [List.all_cons, flat_rep g.1 h1, flats_rep g.2 h2]; rfl
theorem eqV_rep : ∀ {d e : D} {v u : V}, d.flat = true → e.flat = true → Rep W SS F d v → Rep W SS F e u → eqV v u = D.eqv d e
  | .non, e, _, _, _, g, h, q => by
    unfold Rep at h; subst h
    cases e <;> first | (cases g; done) | (unfold Rep at q; subst q; rfl)
  | .bl _, e, _, _, _, g, h, q => by
    unfold Rep at h; subst h
    cases e <;> first | (cases g; done) | (unfold Rep at q; subst q; rfl)
  | .int _, e, _, _, _, g, h, q => by
    unfold Rep at h; subst h
    cases e <;> first | (cases g; done) | (unfold Rep at q; subst q; rfl)
  | .str _, e, _, _, _, g, h, q => by
    unfold Rep at h; subst h
    cases e <;> first | (cases g; done) | (unfold Rep at q; subst q; rfl)
theorem inV_rep {e : D} {u : V} (he : e.flat = true) (hq : Rep W SS F e u) : ∀ {ds : List D} {vs : List V}, ds.all D.flat = true → Reps W SS F ds vs → inV u vs = ds.any fun y => D.eqv y e
  | [], _, _, h => by unfold Reps at h; subst h; rfl
  | d :: ds, _, g, h => by
    obtain ⟨v, r, rfl, h1, h2⟩ := h.cons_inv
    rw [List.all_cons, Bool.and_eq_true] at g
    have ih := inV_rep he hq g.2 h2
    unfold inV at ih ⊢
    rw [List.any_cons, List.any_cons, eqV_rep g.1 he h1 hq, ih]
end

theorem none_some {α : Type} {a : α} (h : (none : Option α) = some a) : False := by cases h
theorem lst_inv {d : D} {P : Prop} (h : ∀ xs, d = .lst xs → P) (g : ∀ xs, d ≠ .lst xs) (z : P) : P := z
section
variable {X : Cx} {W : Wd}
theorem lexLt_ok (ns ms : List Int) : HT.lexLt ns ms = HT.lexLt ns ms := rfl
theorem opr_eq (G : Good W X) : OpR X (compareOp .Eq) (rCmp W .eq) := by
  intro pins s σ H x y v u Q I rx ry h
  obtain ⟨SS, F, dx, dy, b, hs, cx, cy, e, q⟩ := h
  have e' : (if eqOk dx && eqOk dy then some (D.eqv dx dy) else none) = some b := by cases dx <;> cases dy <;> exact e
  simp only [Option.ite_none_right_eq_some, Option.some.injEq, Bool.and_eq_true] at e'
  obtain ⟨⟨h1, h2⟩, rfl⟩ := e'
  refine op_eqD (by have := G.hu; omega) pins s σ H x y v u Q I rx ry ⟨dx.py, dy.py, ?_, ?_, shaped_py h1, shaped_py h2, ?_⟩
  · rw [G.hK]; exact dp_con hs (plain_of h1) cx
  · rw [G.hK]; exact dp_con hs (plain_of h2) cy
  · rw [eqv_py dx dy (plain_of h1) (plain_of h2)]; exact q
theorem opr_ne (G : Good W X) : OpR X (compareOp .NotEq) (rCmp W .ne) := by
  intro pins s σ H x y v u Q I rx ry h
  obtain ⟨SS, F, dx, dy, b, hs, cx, cy, e, q⟩ := h
  have e0 : (∃ t kvs ys, dx = .dct t kvs ∧ dy = .tup ys ∧ b = true) ∨ (if eqOk dx && eqOk dy then some (!D.eqv dx dy) else none) = some b := by cases dx <;> cases dy <;> first | exact .inr e | exact .inl ⟨_, _, _, rfl, rfl, (Option.some.inj e).symm⟩
  rcases e0 with ⟨t, kvs, ys, rfl, rfl, rfl⟩ | e'
  · obtain ⟨a, o, es, ep, rfl, h1, g1, g2, g3, g4, g5, r1⟩ := con_dct hs cx
    obtain ⟨a2, vs, rfl, _, h2, r2⟩ := con_tup hs cy
    cases rx
    cases ry
    have ho := dobj_get I.hok h1
    obtain ⟨its, rv, g, hz⟩ := I.tuple (G.hK ▸ h2)
    exact dict_ne_tuple ho g1.1 g (by have := G.hu; omega) X.prog X.w _ _ ⟨.bl true, H, I, rfl, q⟩
  simp only [Option.ite_none_right_eq_some, Option.some.injEq, Bool.and_eq_true] at e'
  obtain ⟨⟨h1, h2⟩, rfl⟩ := e'
  refine op_neD (by have := G.hu; omega) pins s σ H x y v u Q I rx ry ⟨dx.py, dy.py, ?_, ?_, shaped_py h1, shaped_py h2, ?_⟩
  · rw [G.hK]; exact dp_con hs (plain_of h1) cx
  · rw [G.hK]; exact dp_con hs (plain_of h2) cy
  · rw [eqv_py dx dy (plain_of h1) (plain_of h2)]; exact q
theorem opr_lt (G : Good W X) : OpR X (compareOp .Lt) (rCmp W .lt) := by
  intro pins s σ H x y v u Q I rx ry h
  obtain ⟨SS, F, dx, dy, b, hs, cx, cy, e, q⟩ := h
  cases dx <;> cases dy <;> first | exact (none_some e).elim | skip
  case int.int i j =>
    cases (Option.some.inj e)
    cases con_int cx; cases con_int cy
    exact op_lt pins s σ H _ _ v u Q I rx ry ⟨_, _, rfl, rfl, q⟩
  case tup.tup xs ys =>
    simp only [cmpD] at e
    obtain ⟨a, vs, rfl, q1, q2, r⟩ := con_tup hs cx
    obtain ⟨b', us, rfl, q3, q4, r'⟩ := con_tup hs cy
    cases hx : allInt xs with
    | none => simp [hx] at e
    | some ns =>
      cases hy : allInt ys with
      | none => simp [hx, hy] at e
      | some ms =>
        simp only [hx, hy] at e
        cases (Option.some.inj e)
        rw [ints_of hx r, ← G.hK] at q2
        rw [ints_of hy r', ← G.hK] at q4
        exact op_ltT (by have := G.hu; omega) pins s σ H _ _ v u Q I rx ry ⟨_, _, ns, ms, rfl, rfl, q2, q4, q⟩
theorem opr_le : OpR X (compareOp .LtE) (rCmp W .le) := by
  intro pins s σ H x y v u Q I rx ry h
  obtain ⟨SS, F, dx, dy, b, hs, cx, cy, e, q⟩ := h
  cases dx <;> cases dy <;> first | exact (none_some e).elim | skip
  case int.int i j =>
    cases (Option.some.inj e)
    cases con_int cx; cases con_int cy
    exact op_le pins s σ H _ _ v u Q I rx ry ⟨_, _, rfl, rfl, q⟩
theorem opr_gt : OpR X (compareOp .Gt) (rCmp W .gt) := by
  intro pins s σ H x y v u Q I rx ry h
  obtain ⟨SS, F, dx, dy, b, hs, cx, cy, e, q⟩ := h
  cases dx <;> cases dy <;> first | exact (none_some e).elim | skip
  case int.int i j =>
    cases (Option.some.inj e)
    cases con_int cx; cases con_int cy
    exact op_gt pins s σ H _ _ v u Q I rx ry ⟨_, _, rfl, rfl, q⟩
theorem opr_ge : OpR X (compareOp .GtE) (rCmp W .ge) := by
  intro pins s σ H x y v u Q I rx ry h
  obtain ⟨SS, F, dx, dy, b, hs, cx, cy, e, q⟩ := h
  cases dx <;> cases dy <;> first | exact (none_some e).elim | skip
  case int.int i j =>
    cases (Option.some.inj e)
    cases con_int cx; cases con_int cy
    exact op_ge pins s σ H _ _ v u Q I rx ry ⟨_, _, rfl, rfl, q⟩
theorem con_isNon {SS : States} {F H : Hp} {d : D} {x : V} (hs : Sub F H) (c : Con W SS F H d x) : decide (x = .non) = d.isNon := by
  cases d with
  | non => cases con_non c; rfl
  | bl b => cases con_bl c; rfl
  | int i => cases con_int c; rfl
  | str i => cases con_str c; rfl
  | tup xs => obtain ⟨a, vs, rfl, _⟩ := con_tup hs c; rfl
  | lst xs => obtain ⟨a, vs, rfl, _⟩ := con_lst hs c; rfl
  | dct t kvs => obtain ⟨a, o, es, ep, rfl, _⟩ := con_dct hs c; rfl
  | obj cc fs => obtain ⟨a, dx, fvs, rfl, _⟩ := con_obj hs c; rfl
  | stt k =>
    rcases c with c | ⟨a, o, _, _, c⟩
    · unfold Rep at c; obtain ⟨p, _, rfl⟩ := c; rfl
    · exact c.elim
  | exv cc fs =>
    rcases c with c | ⟨a, o, _, _, c⟩
    · unfold Rep at c; obtain ⟨a, d, rfl, _⟩ := c; rfl
    · exact c.elim
  | clo n env =>
    rcases c with c | ⟨a, o, _, _, c⟩
    · unfold Rep at c; obtain ⟨a, _, _, _, rfl, _⟩ := c; rfl
    · exact c.elim
theorem opr_isN : OpR X (compareOp .Is) (rCmp W .isN) := by
  intro pins s σ H x y v u Q I rx ry h
  obtain ⟨SS, F, dx, dy, b, hs, cx, cy, e, q⟩ := h
  have e' : dy = .non ∧ b = dx.isNon := by
    cases dy <;> first | (cases dx <;> exact (none_some e).elim) | (cases dx <;> (cases (Option.some.inj e); exact ⟨rfl, rfl⟩))
  obtain ⟨rfl, rfl⟩ := e'
  cases con_non cy
  exact op_isN pins s σ H x _ v u Q I rx ry ⟨rfl, by rw [con_isNon hs cx]; exact q⟩
theorem opr_notN : OpR X (compareOp .IsNot) (rCmp W .notN) := by
  intro pins s σ H x y v u Q I rx ry h
  obtain ⟨SS, F, dx, dy, b, hs, cx, cy, e, q⟩ := h
  have e' : dy = .non ∧ b = !dx.isNon := by
    cases dy <;> first | (cases dx <;> exact (none_some e).elim) | (cases dx <;> (cases (Option.some.inj e); exact ⟨rfl, rfl⟩))
  obtain ⟨rfl, rfl⟩ := e'
  cases con_non cy
  exact op_notN pins s σ H x _ v u Q I rx ry ⟨rfl, by rw [con_isNon hs cx]; exact q⟩
theorem inD_dct {o : Cop} {dx : D} {t : Bool} {kvs : List (D × D)} {b : Bool} : (cmpD .in_ dx (.dct t kvs) = some b → keyOk t dx = true ∧ b = dhas kvs dx) ∧ (cmpD .notIn dx (.dct t kvs) = some b → keyOk t dx = true ∧ b = !dhas kvs dx) := by
  constructor
  · intro e
    have e' : (if keyOk t dx then some (dhas kvs dx) else none) = some b := by
      cases dx <;> first | exact e | skip
    simp only [Option.ite_none_right_eq_some, Option.some.injEq] at e'
    exact ⟨e'.1, e'.2.symm⟩
  · intro e
    have e' : (if keyOk t dx then some (!dhas kvs dx) else none) = some b := by cases dx <;> exact e
    simp only [Option.ite_none_right_eq_some, Option.some.injEq] at e'
    exact ⟨e'.1, e'.2.symm⟩
theorem inD_lst {dx : D} {ys : List D} {b : Bool} : (cmpD .in_ dx (.lst ys) = some b → (eqOk dx = true ∧ ys.all eqOk = true) ∧ b = ys.any fun y => D.eqv y dx) ∧ (cmpD .notIn dx (.lst ys) = some b → (eqOk dx = true ∧ ys.all eqOk = true) ∧ b = !(ys.any fun y => D.eqv y dx)) := by
  constructor
  · intro e
    have e' : (if eqOk dx && ys.all eqOk then some (ys.any fun y => D.eqv y dx) else none) = some b := by
      cases dx <;> first | exact e | skip
    simp only [Option.ite_none_right_eq_some, Option.some.injEq, Bool.and_eq_true] at e'
    exact ⟨e'.1, e'.2.symm⟩
  · intro e
    have e' : (if eqOk dx && ys.all eqOk then some (!(ys.any fun y => D.eqv y dx)) else none) = some b := by cases dx <;> exact e
    simp only [Option.ite_none_right_eq_some, Option.some.injEq, Bool.and_eq_true] at e'
    exact ⟨e'.1, e'.2.symm⟩
theorem inD_tup {dx : D} {ys : List D} {b : Bool} : (cmpD .in_ dx (.tup ys) = some b → (dx.flat = true ∧ ys.all D.flat = true) ∧ b = ys.any fun y => D.eqv y dx) ∧ (cmpD .notIn dx (.tup ys) = some b → (dx.flat = true ∧ ys.all D.flat = true) ∧ b = !(ys.any fun y => D.eqv y dx)) := by
  constructor
  · intro e
    have e' : (if dx.flat && ys.all D.flat then some (ys.any fun y => D.eqv y dx) else none) = some b := by
      cases dx <;> first | exact e | skip
    simp only [Option.ite_none_right_eq_some, Option.some.injEq, Bool.and_eq_true] at e'
    exact ⟨e'.1, e'.2.symm⟩
  · intro e
    have e' : (if dx.flat && ys.all D.flat then some (!(ys.any fun y => D.eqv y dx)) else none) = some b := by cases dx <;> exact e
    simp only [Option.ite_none_right_eq_some, Option.some.injEq, Bool.and_eq_true] at e'
    exact ⟨e'.1, e'.2.symm⟩
theorem opr_in (G : Good W X) : OpR X (compareOp .In) (rCmp W .in_) := by
  intro pins s σ H x y v u Q I rx ry h
  obtain ⟨SS, F, dx, dy, b, hs, cx, cy, e, q⟩ := h
  have hu := G.hu
  cases dy with
  | dct t kvs =>
    obtain ⟨ho, rfl⟩ := (inD_dct (o := .in_)).1 e
    obtain ⟨a, o, es, ep, rfl, h1, h2, h3, h4, h5, h6, h7⟩ := con_dct hs cy
    cases (show u = Value.ref a from ry)
    exact dd_in (by omega) I G.hP G.hw G.hK hs h1 ⟨es, ep, h2, h3, h4, h5, h6, h7⟩ ho (con_key ho cx) rx fun s' I' => ⟨.bl _, H, I', rfl, q⟩
  | lst ys =>
    obtain ⟨⟨h1, h2⟩, rfl⟩ := inD_lst.1 e
    have hp := plains_all h2
    refine op_inD (by omega) pins s σ H x y v u Q I rx ry ⟨dx.py, D.pys ys, ?_, ?_, shaped_py h1, shaped_list h2, ?_⟩
    · rw [G.hK]; exact dp_con hs (plain_of h1) cx
    · rw [G.hK]
      have z := dp_con hs (d := .lst ys) (show D.plain (.lst ys) = true by rw [D.plain]; exact hp.1) cy
      exact z
    · rw [any_py (plain_of h1) hp.1]; exact q
  | tup ys =>
    obtain ⟨⟨h1, h2⟩, rfl⟩ := inD_tup.1 e
    obtain ⟨a, us, rfl, q3, q4, r⟩ := con_tup hs cy
    have rx' : Rep W SS F dx x := con_rep (fun a o z => by cases dx <;> first | exact z | cases h1) cx
    rw [← G.hK] at q4
    refine op_in_seq pins s σ H x _ v u Q I rx ry ⟨a, us, rfl, .inr q4, flat_rep h1 rx', flats_rep h2 r, ?_⟩
    rw [if_neg Bool.false_ne_true, inV_rep h1 rx' h2 r]
    exact q
  | str z =>
    cases dx <;> first | exact (none_some e).elim | skip
    case str s =>
      obtain ⟨⟨l⟩⟩ := s
      rcases l with _ | ⟨c, _ | ⟨c', r⟩⟩
      · exact (none_some e).elim
      · cases (Option.some.inj e)
        cases con_str cx; cases con_str cy
        exact op_in_sign pins s σ H _ _ v u Q I rx ry ⟨c, z, rfl, rfl, q⟩
      · exact (none_some e).elim
  | _ => cases dx <;> first | exact (none_some e).elim | (rename_i s; obtain ⟨⟨l⟩⟩ := s; rcases l with _ | ⟨c, _ | ⟨c', r⟩⟩ <;> exact (none_some e).elim)
theorem opr_notIn (G : Good W X) : OpR X (compareOp .NotIn) (rCmp W .notIn) := by
  intro pins s σ H x y v u Q I rx ry h
  obtain ⟨SS, F, dx, dy, b, hs, cx, cy, e, q⟩ := h
  have hu := G.hu
  cases dy with
  | dct t kvs =>
    obtain ⟨ho, rfl⟩ := (inD_dct (o := .in_)).2 e
    obtain ⟨a, o, es, ep, rfl, h1, h2, h3, h4, h5, h6, h7⟩ := con_dct hs cy
    cases (show u = Value.ref a from ry)
    exact dd_notIn (by omega) I G.hP G.hw G.hK hs h1 ⟨es, ep, h2, h3, h4, h5, h6, h7⟩ ho (con_key ho cx) rx fun s' I' => ⟨.bl _, H, I', rfl, q⟩
  | lst ys =>
    obtain ⟨⟨h1, h2⟩, rfl⟩ := inD_lst.2 e
    have hp := plains_all h2
    refine op_notInD (by omega) pins s σ H x y v u Q I rx ry ⟨dx.py, D.pys ys, ?_, ?_, shaped_py h1, shaped_list h2, ?_⟩
    · rw [G.hK]; exact dp_con hs (plain_of h1) cx
    · rw [G.hK]
      have z := dp_con hs (d := .lst ys) (show D.plain (.lst ys) = true by rw [D.plain]; exact hp.1) cy
      exact z
    · rw [any_py (plain_of h1) hp.1]; exact q
  | tup ys =>
    obtain ⟨⟨h1, h2⟩, rfl⟩ := inD_tup.2 e
    obtain ⟨a, us, rfl, q3, q4, r⟩ := con_tup hs cy
    have rx' : Rep W SS F dx x := con_rep (fun a o z => by cases dx <;> first | exact z | cases h1) cx
    rw [← G.hK] at q4
    refine op_notIn_seq pins s σ H x _ v u Q I rx ry ⟨a, us, rfl, .inr q4, flat_rep h1 rx', flats_rep h2 r, ?_⟩
    rw [if_pos rfl, inV_rep h1 rx' h2 r]
    exact q
  | _ => cases dx <;> exact (none_some e).elim
theorem opr_cmp (G : Good W X) (o : Cop) : OpR X (compareOp o.op) (rCmp W o) := by
  cases o
  · exact opr_eq G
  · exact opr_ne G
  · exact opr_lt G
  · exact opr_le
  · exact opr_gt
  · exact opr_ge
  · exact opr_isN
  · exact opr_notN
  · exact opr_in G
  · exact opr_notIn G
end
end T
end
section
set_option Elab.async false
set_option linter.all false
set_option autoImplicit false
set_option maxRecDepth 100000
/-! expressions by data -/
namespace T
open PySem PySem.Spec PyProof.Rows L2

theorem PE_imp {X : Cx} {e : Expr} {t t' : TE} (h : PE X e t) (i : ∀ σ H Q, t' σ H Q → t σ H Q) : PE X e t' := ⟨fun pins s σ H Q I q => h.run pins s σ H Q I (i σ H Q q)⟩
theorem PT_imp {X : Cx} {e : Expr} {t t' : TT} (h : PT X e t) (i : ∀ σ H Q, t' σ H Q → t σ H Q) : PT X e t' := ⟨fun pins s σ H Q I q => h.run pins s σ H Q I (i σ H Q q)⟩
theorem PA_imp {X : Cx} {e : List Expr} {t t' : TA} (h : PA X e t) (i : ∀ σ H Q, t' σ H Q → t σ H Q) : PA X e t' := ⟨fun pos pins s σ H Q I q => h.run pos pins s σ H Q I (i σ H Q q)⟩

/-! ### small steps of the evaluator -/
section
variable {α β : Type} {δ : Env} {P : Ou β → Prop}
theorem rd_inv {o : Op} {f : D → EvM β} (h : (((rd o).bind f) δ).wp P) : ∃ d, look δ o = some d ∧ (f d δ).wp P := by
  unfold EvM.bind rd at h
  cases hl : look δ o with
  | none => simp only [hl] at h; exact h.elim
  | some d => simp only [hl] at h; exact ⟨d, rfl, h⟩
theorem opt_inv {o : Option β} (h : ((EvM.opt o) δ).wp P) : ∃ a, o = some a ∧ P (.ok a δ) := by
  cases o with
  | none => exact h.elim
  | some a => exact ⟨a, rfl, h⟩
theorem optb_inv {o : Option α} {f : α → EvM β} (h : (((EvM.opt o).bind f) δ).wp P) : ∃ a, o = some a ∧ (f a δ).wp P := by
  cases o with
  | none => exact h.elim
  | some a => exact ⟨a, rfl, h⟩
/-- read as a datum: the two in a row -/
theorem evD_eq {ev : Ex → EvM Op} {e : Ex} {f : D → EvM β} : ((evD ev e).bind f) = (ev e).bind fun o => (rd o).bind f := by
  funext δ
  show (((ev e δ).bind _).bind _) = (ev e δ).bind _
  generalize ev e δ = t
  induction t with
  | ret a => cases a <;> rfl
  | draw m k ih => exact congrArg (Tr.draw m) (funext fun r => ih r)
  | bad => rfl
theorem bind_assoc {γ : Type} {m : EvM α} {f : α → EvM γ} {g : γ → EvM β} : (m.bind f).bind g = m.bind fun a => (f a).bind g := by
  funext δ
  show (((m δ).bind _).bind _) = (m δ).bind _
  generalize m δ = t
  induction t with
  | ret a => cases a <;> rfl
  | draw m k ih => exact congrArg (Tr.draw m) (funext fun r => ih r)
  | bad => rfl
end
section
variable {W : Wd} {SS : States} {H0 F H : Hp} {σ : L2.St} {δ : Env} {Xw : WX} {Q : VK}
/-- an answer, as a rule's end wants it -/
theorem fin_of {op : Op} (I : EnvOk W SS H0 F H σ δ) (h : Post W SS H0 Xw σ F H δ Q (.ok op δ)) : Fin W SS F H op Q := by
  intro v F' H' g r
  refine h v F' H' (.grow g) (I.grow g) ?_
  cases op with
  | v d => exact ⟨r, fun _ e => by cases e⟩
  | b i => exact r.elim
  | f d =>
    obtain ⟨a, o, rfl, n, f, e, t⟩ := r
    refine ⟨⟨⟨a, o, rfl, ?_, f, (I.fresh n).2, e, t⟩, fun i ⟨d', hd'⟩ q => ?_⟩, fun _ _ => ⟨a, rfl, n⟩⟩
    · cases z : H0 a with
      | none => rfl
      | some u =>
        rw [I.same a u (I.fresh n).2 z] at n
        cases n
    · obtain ⟨v, hv, a', o', f1, f2, f3, f4, f5, f6⟩ := I.ent i _ hd'
      rw [q] at hv
      cases hv
      cases f1
      rw [n] at f5
      cases f5
theorem fin_bl {b : Bool} (I : EnvOk W SS H0 F H σ δ) (h : Post W SS H0 Xw σ F H δ Q (.ok (.v (.bl b)) δ)) : Q (.bl b) H := (fin_of I h).bl I.sub
theorem fin_rep {d : D} {v : V} (I : EnvOk W SS H0 F H σ δ) (h : Post W SS H0 Xw σ F H δ Q (.ok (.v d) δ)) (r : Rep W SS F d v) : Q v H := (fin_of I h).rep I.sub r
end
section
variable {X : Cx} {W : Wd} {H0 : Hp} {Xw : WX} {S : Sig} {ev : Ex → EvM Op} {a b c : Expr} {ea eb ec : Ex} {pos : Pos}
abbrev PD (X : Cx) (W : Wd) (H0 : Hp) (Xw : WX) (e : Expr) (m : EvM Op) : Prop := PE X e (tD W H0 Xw m)
theorem pd_var {i : Nat} {x : Str} (hN : X.N[i]? = some x) (hv : Vis X.env.scope x) (hd : (x == ("__debug__" : Str)) = false := by decide) (hcd : (x == ("__classdict__" : Str)) = false := by decide) : PD X W H0 Xw (.Name x pos) (stepE S ev (.var i)) :=
  PE_imp (pe_var hN hv hd hcd) fun σ H Q ⟨SS, F, δ, I, h⟩ => by
    have h' : ((match δ[i]? with
      | some (some (.val d)) => Tr.ret (Ou.ok (Op.v d) δ)
      | some (some _) => .ret (.ok (.b i) δ)
      | _ => .bad) : Tr (Ou Op)).wp (Post W SS H0 Xw σ F H δ Q) := h
    cases hd : δ[i]? with
    | none => rw [hd] at h'; exact h'.elim
    | some oe =>
      cases oe with
      | none => rw [hd] at h'; exact h'.elim
      | some e =>
        obtain ⟨v, hv, q⟩ := I.ent i e hd
        rw [hd] at h'
        refine ⟨v, hv, ?_⟩
        cases e with
        | val d => exact h' v F H .refl I ⟨q, fun _ e => by cases e⟩
        | own d => exact h' v F H .refl I ⟨⟨hv, _, hd⟩, fun _ e => by cases e⟩
        | bor d => exact h' v F H .refl I ⟨⟨hv, _, hd⟩, fun _ e => by cases e⟩
/-- what is there always -/
theorem pd_cst {d : D} {v : V} {e : Expr} (h : PE X e (tC v)) (r : ∀ SS F, Rep W SS F d v) : PD X W H0 Xw e (stepE S ev (.cst d)) :=
  PE_imp h fun σ H Q ⟨SS, F, δ, I, h⟩ => h v F H .refl I ⟨r SS F, fun _ e => by cases e⟩
theorem pd_int {i : Int} {j : Nat} : PD X W H0 Xw (.Constant (.int i) j pos) (stepE S ev (.cst (.int i))) := pd_cst pe_int fun _ _ => rep_int
theorem pd_bl {i : Bool} {j : Nat} : PD X W H0 Xw (.Constant (.bool i) j pos) (stepE S ev (.cst (.bl i))) := pd_cst pe_bl fun _ _ => rep_bl
theorem pd_non {j : Nat} : PD X W H0 Xw (.Constant .none j pos) (stepE S ev (.cst .non)) := pd_cst pe_non fun _ _ => rep_non
theorem pd_str {i : Str} {j : Nat} : PD X W H0 Xw (.Constant (.str i) j pos) (stepE S ev (.cst (.str i))) := pd_cst pe_str fun _ _ => rep_str
/-- a global constant -/
theorem pd_gc {k : Nat} {d : D} {v : V} {u : Value} {x : Str} (hg : Gl X x) (hm : X.mg x = some u) (r : RelV v u) (hS : S.gc k = some d) (q : ∀ SS F, Rep W SS F d v) (hd : (x == ("__debug__" : Str)) = false := by decide) : PD X W H0 Xw (.Name x pos) (stepE S ev (.gc k)) :=
  PE_imp (pe_glob hg hm r hd) fun σ H Q ⟨SS, F, δ, I, h⟩ => by
    have h' : (((EvM.opt (S.gc k)).bind fun d => EvM.pure (Op.v d)) δ).wp (Post W SS H0 Xw σ F H δ Q) := h
    obtain ⟨d', e, z⟩ := optb_inv h'
    rw [hS] at e
    cases e
    exact z v F H .refl I ⟨q SS F, fun _ e => by cases e⟩
/-- two operands, an operation on what they hold -/
theorem two {r : R2} {f : D → D → EvM Op} (hr : ∀ SS F H σ δ dx dy x y Q, EnvOk W SS H0 F H σ δ → Con W SS F H dx x → Con W SS F H dy y → (f dx dy δ).wp (Post W SS H0 Xw σ F H δ Q) → r x y H Q) {p q : EvM Op} {σ : L2.St} {H : Hp} {Q : VK} (h : tD W H0 Xw (p.bind fun p => q.bind fun q => (rd p).bind fun x => (rd q).bind fun y => f x y) σ H Q) : tOp r (tD W H0 Xw p) (tD W H0 Xw q) σ H Q := by
  obtain ⟨SS, F, δ, I, h⟩ := h
  refine tR_bind rO_m I h fun p δ1 x F1 H1 st1 I1 q1 h1 => ?_
  refine tR_bind rO_m I1 h1 fun q δ2 y F2 H2 st2 I2 q2 h2 => ?_
  obtain ⟨dx, l1, h3⟩ := rd_inv h2
  obtain ⟨dy, l2, h4⟩ := rd_inv h3
  exact hr SS F2 H2 σ δ2 dx dy x y Q I2 (I2.look (OpOk.step I1 I2 st2 q1.1) l1) (I2.look q2.1 l2) h4
theorem pd_bin (o : Bop) (hK : X.K = W.K) (ha : PD X W H0 Xw a (ev ea)) (hb : PD X W H0 Xw b (ev eb)) : PD X W H0 Xw (.BinOp a o.op b pos) (stepE S ev (.bin o ea eb)) :=
  PE_imp (pe_op (opr_bin hK o) ha hb) fun σ H Q h => two (fun SS F H σ δ dx dy x y Q I cx cy h => by
    obtain ⟨op, e, z⟩ := opt_inv h
    exact ⟨SS, F, dx, dy, op, I.sub, cx, cy, e, fin_of I z⟩) h
theorem pd_neg (ha : PD X W H0 Xw a (ev ea)) : PD X W H0 Xw (.UnaryOp .USub a pos) (stepE S ev (.neg ea)) :=
  PE_imp (pe_un un_neg ha) fun σ H Q ⟨SS, F, δ, I, h⟩ => by
    have h' : (((evD ev ea).bind fun d => match d with
      | .int i => EvM.pure (.v (.int (-i)))
      | _ => .bad) δ).wp (Post W SS H0 Xw σ F H δ Q) := h
    rw [evD_eq] at h'
    refine tR_bind rO_m I h' fun p δ1 x F1 H1 st1 I1 q1 h1 => ?_
    obtain ⟨dx, l1, h2⟩ := rd_inv h1
    have cx := I1.look q1.1 l1
    cases dx <;> try exact h2.elim
    case int i =>
      cases con_int cx
      exact ⟨i, rfl, (fin_of I1 h2).int I1.sub⟩
/-- comparisons, but == of own classes -/
theorem cmpM_plain {S : Sig} {o : Cop} {x y : D} (h : ∀ c fs, x ≠ .obj c fs) : cmpM S o x y = EvM.opt (blS (cmpD o x y)) := by
  cases o <;> cases x <;> first | rfl | exact absurd rfl (h _ _)
theorem blS_inv {o : Option Bool} {op : Op} (h : blS o = some op) : ∃ b, o = some b ∧ op = .v (.bl b) := by
  cases o with
  | none => cases h
  | some b => exact ⟨b, rfl, (Option.some.inj h).symm⟩
/-- no own __eq__ -/
def NoEq (S : Sig) : Prop := ∀ c as, S.meth c 0 as = .bad
theorem cmpM_inv {o : Cop} {x y : D} {δ : Env} {P : Ou Op → Prop} (hE : NoEq S) (h : (cmpM S o x y δ).wp P) : ∃ b, cmpD o x y = some b ∧ P (.ok (.v (.bl b)) δ) := by
  have fin : ∀ {o : Cop} {x y : D}, (EvM.opt (blS (cmpD o x y)) δ).wp P → ∃ b, cmpD o x y = some b ∧ P (.ok (.v (.bl b)) δ) := fun h => by
    obtain ⟨op, e, z⟩ := opt_inv h
    obtain ⟨b, e1, rfl⟩ := blS_inv e
    exact ⟨b, e1, z⟩
  cases x with
  | obj c fs =>
    cases o <;> try exact fin h
    case eq =>
      have h' : (resM (S.meth c 0 [.val (.obj c fs), .val y]) δ).wp P := h
      rw [hE] at h'; exact h'.elim
    case ne =>
      have h' : (((resM (S.meth c 0 [.val (.obj c fs), .val y])).bind fun r => match r with
        | .v (.bl b) => EvM.pure (.v (.bl (!b)))
        | _ => .bad) δ).wp P := h
      rw [hE] at h'; exact h'.elim
  | _ => cases o <;> exact fin h
theorem pd_cmp (o : Cop) (G : Good W X) (hE : NoEq S) (ha : PD X W H0 Xw a (ev ea)) (hb : PD X W H0 Xw b (ev eb)) (hm : behindInMarks o.op b = false) : PD X W H0 Xw (.Compare a [o.op] [b] pos) (stepE S ev (.cmp o ea eb)) :=
  PE_imp (pe_cmpR (opr_cmp G o) ha hb hm) fun σ H Q h => two (fun SS F H σ δ dx dy x y Q I cx cy h => by
    obtain ⟨b, e, z⟩ := cmpM_inv hE h
    exact ⟨SS, F, dx, dy, b, I.sub, cx, cy, e, fin_bl I z⟩) h
theorem pd_chain (o o' : Cop) (G : Good W X) (ha : PD X W H0 Xw a (ev ea)) (hb : PD X W H0 Xw b (ev eb)) (hc : PD X W H0 Xw c (ev ec)) (hm : lastMarks [o.op, o'.op] [b, c] = false) : PD X W H0 Xw (.Compare a [o.op, o'.op] [b, c] pos) (stepE S ev (.chain o o' ea eb ec)) :=
  PE_imp (pe_chain (opr_cmp G o) (opr_cmp G o') ha hb hc hm) fun σ H Q ⟨SS, F, δ, I, h⟩ => by
    have h' : (((ev ea).bind fun p => (ev eb).bind fun q => (rd p).bind fun x => (rd q).bind fun y => (EvM.opt (cmpD o x y)).bind fun r =>
      if r then (ev ec).bind fun s => (rd q).bind fun y => (rd s).bind fun z => .opt (blS (cmpD o' y z)) else .pure (.v (.bl false))) δ).wp (Post W SS H0 Xw σ F H δ Q) := h
    refine tR_bind rO_m I h' fun p δ1 x F1 H1 st1 I1 q1 h1 => ?_
    refine tR_bind rO_m I1 h1 fun q δ2 y F2 H2 st2 I2 q2 h2 => ?_
    obtain ⟨dx, l1, h3⟩ := rd_inv h2
    obtain ⟨dy, l2, h4⟩ := rd_inv h3
    obtain ⟨b, e, h5⟩ := optb_inv h4
    refine ⟨SS, F2, dx, dy, b, I2.sub, I2.look (OpOk.step I1 I2 st2 q1.1) l1, I2.look q2.1 l2, e, b, rfl, ?_⟩
    cases b with
    | false => exact fin_bl I2 h5
    | true =>
      refine tR_bind rO_m I2 h5 fun s δ3 z F3 H3 st3 I3 q3 h6 => ?_
      obtain ⟨dy', l3, h7⟩ := rd_inv h6
      obtain ⟨dz, l4, h8⟩ := rd_inv h7
      obtain ⟨op, e1, h9⟩ := opt_inv h8
      obtain ⟨b, e2, rfl⟩ := blS_inv e1
      exact ⟨SS, F3, dy', dz, b, I3.sub, I3.look (OpOk.step I2 I3 st3 q2.1) l3, I3.look q3.1 l4, e2, fin_bl I3 h9⟩
end
end T
end
section
set_option Elab.async false
set_option linter.all false
set_option autoImplicit false
set_option maxRecDepth 100000
/-! freezing; tests; lists of operands -/
namespace T
open PySem PySem.Spec PyProof.Rows L2

section
variable {W : Wd} {SS : States} {H0 F H : Hp} {σ : L2.St} {δ : Env} {Xw : WX}
theorem topo_own {a : Addr} {d : D} {o : HO} {c : Addr} (h : TopO W SS F H a d o) : o ≠ .own c := (topo_cont h).own c
/-- the tables behind a write of a container -/
theorem tabs_upd {a : Addr} {o : HO} (t : TabsW W SS F H) (h : ∀ u, H a = some u → Cont a u) : TabsW W SS F (upd H a o) := ⟨t.1, fun p hp => by
  obtain ⟨ps, e, g1, g2⟩ := t.2.1 p hp
  refine ⟨ps, ?_, g1, fun pos cv hc => ?_⟩
  · rw [upd_ne (show p.1 ≠ a from fun z => (h _ (z ▸ e)).tbl ps rfl)]
    exact e
  · obtain ⟨c, e1, e2⟩ := g2 pos cv hc
    refine ⟨c, e1, ?_⟩
    rw [upd_ne (show c ≠ a from fun z => by subst z; exact (h _ e2).code _ rfl)]
    exact e2, t.2.2⟩
/-- what is known at a is frozen -/
def Frz (F F' H : Hp) (a : Addr) : Prop := Sub F F' ∧ Sub F' H ∧ ∀ b o, F' b = some o → F b = some o ∨ b = a ∨ ∃ c, o = .own c
theorem topo_freeze {a : Addr} {d : D} {o : HO} (hs : Sub F H) (hF : F a = none) (ha : H a = some o) (h : TopO W SS F H a d o) : ∃ F', Frz F F' H a ∧ Rep W SS F' d (.ref a) := by
  have one : Frz F (upd F a o) H a := by
    refine ⟨Sub.upd hF, fun b x e => ?_, fun b x e => ?_⟩
    · by_cases hb : b = a
      · subst hb; rw [upd_same] at e; cases e; exact ha
      · rw [upd_ne hb] at e; exact hs _ _ e
    · by_cases hb : b = a
      · exact .inr (.inl hb)
      · rw [upd_ne hb] at e; exact .inl e
  cases d with
  | lst xs =>
    obtain ⟨vs, rfl, r⟩ := h
    refine ⟨_, one, ?_⟩
    unfold Rep
    exact ⟨a, vs, rfl, upd_same, r.mono one.1⟩
  | dct t kvs =>
    obtain ⟨ob, es, ep, rfl, h1, h2, h3, h4, h5, r⟩ := h
    refine ⟨_, one, ?_⟩
    unfold Rep
    exact ⟨a, ob, es, ep, rfl, upd_same, h1, h2, h3, h4, h5, r.mono one.1⟩
  | obj c fs =>
    obtain ⟨_, dx, fvs, rfl, q, r⟩ := h
    have hne : dx ≠ a := fun e => by rw [e, ha] at q; cases q
    by_cases hd : F dx = none
    · have s1 : Sub F (upd F dx (.own a)) := Sub.upd hd
      have n1 : upd F dx (.own a) a = none := by rw [upd_ne (Ne.symm hne)]; exact hF
      have s2 : Sub F (upd (upd F dx (.own a)) a (.ins (W.cl c) dx fvs)) := s1.trans (Sub.upd n1)
      refine ⟨_, ⟨s2, fun b x e => ?_, fun b x e => ?_⟩, ?_⟩
      · by_cases hb : b = a
        · subst hb; rw [upd_same] at e; cases e; exact ha
        · rw [upd_ne hb] at e
          by_cases hb2 : b = dx
          · subst hb2; rw [upd_same] at e; cases e; exact q
          · rw [upd_ne hb2] at e; exact hs _ _ e
      · by_cases hb : b = a
        · exact .inr (.inl hb)
        · rw [upd_ne hb] at e
          by_cases hb2 : b = dx
          · subst hb2; rw [upd_same] at e; cases e; exact .inr (.inr ⟨a, rfl⟩)
          · rw [upd_ne hb2] at e; exact .inl e
      · unfold Rep
        exact ⟨a, dx, fvs, rfl, upd_same, by rw [upd_ne hne, upd_same], r.mono s2⟩
    · have hd' : F dx = some (.own a) := by
        cases z : F dx with
        | none => exact absurd z hd
        | some x => have := hs _ _ z; rw [q] at this; cases this; rfl
      refine ⟨_, one, ?_⟩
      unfold Rep
      exact ⟨a, dx, fvs, rfl, upd_same, one.1 _ _ hd', r.mono one.1⟩
  | _ => exact h.elim
/-- a frozen object that no own slot holds -/
theorem EnvOk.frz {F' : Hp} {a : Addr} (I : EnvOk W SS H0 F H σ δ) (z : Frz F F' H a) (ha : a ∉ addrs SS) (hn : ∀ i : Nat, isOwn δ i → σ[i]? ≠ some (some (.ref a))) : EnvOk W SS H0 F' H σ δ := by
  have key : ∀ b o', F b = none → b ≠ a → (∀ c, H b ≠ some (.own c)) → F' b = some o' → False := fun b o' n hb hc e => by
    rcases z.2.2 b o' e with q | q | ⟨c, rfl⟩
    · rw [n] at q; cases q
    · exact hb q
    · exact hc c (z.2.1 _ _ e)
  have no : ∀ b, F b = none → b ≠ a → (∀ c, H b ≠ some (.own c)) → F' b = none := fun b n hb hc => by
    cases r : F' b with
    | none => rfl
    | some x => exact (key b x n hb hc r).elim
  refine ⟨I.same, z.2.1, fun p hp => ?_, I.nds, I.tab.ext (fun _ _ e => e) (fun p hp ⟨ps, e⟩ n => by
    refine no p.1 n (fun q => ?_) (fun c q => by rw [e] at q; cases q)
    exact ha (q ▸ List.mem_append_left _ (List.mem_map.mpr ⟨p, hp, rfl⟩))), fun i e he => ?_, I.sep, I.len⟩
  · obtain ⟨⟨cells, i, j, h1, h2, h3⟩, h4, h5⟩ := I.sts p hp
    have m1 : p.1 ∈ addrs SS := (mem_a hp).1
    have m2 : p.2 ∈ addrs SS := (mem_a hp).2
    exact ⟨⟨cells, i, j, h1, h2, h3⟩, no _ h4 (fun e => ha (e ▸ m1)) (fun c e => by rw [h1] at e; cases e), no _ h5 (fun e => ha (e ▸ m2)) (fun c e => by rw [h2] at e; cases e)⟩
  · obtain ⟨v, hv, q⟩ := I.ent i e he
    refine ⟨v, hv, ?_⟩
    cases e with
    | val d => exact Rep.mono z.1 d v q
    | own d =>
      obtain ⟨b, o, rfl, e2, e3, e4, e5, e6⟩ := q
      refine ⟨b, o, rfl, e2, no b e3 (fun e => ?_) (fun c e => ?_), e4, e5, e6.mono z.1 fun dx h => h⟩
      · subst e; exact hn i ⟨d, he⟩ hv
      · rw [e5] at e; exact topo_own e6 (Option.some.inj e)
    | bor d =>
      rcases q with q | ⟨b, o, e1, e2, e3, e4, e5⟩
      · exact .inl (Rep.mono z.1 d v q)
      · exact .inr ⟨b, o, e1, e2, e3, e4.mono z.1 fun dx h => h, e5⟩
theorem getElem?_set_ne {α : Type} {l : List α} {i j : Nat} {x : α} (h : i ≠ j) : (l.set i x)[j]? = l[j]? := by
  rw [List.getElem?_set]; simp [h]
theorem getElem?_set_eq {α : Type} {l : List α} {i : Nat} {x y : α} (h : l[i]? = some y) : (l.set i x)[i]? = some x := by
  have hl : i < l.length := by
    rcases Nat.lt_or_ge i l.length with q | q
    · exact q
    · rw [List.getElem?_eq_none q] at h; cases h
  simp [List.getElem?_set, hl]
/-- a slot's entry is made a weaker one -/
theorem EnvOk.setv {i : Nat} {e e' : Ent} {v : V} (I : EnvOk W SS H0 F H σ δ) (h : δ[i]? = some (some e)) (hv : σ[i]? = some (some v)) (q : EntOk W SS H0 F H e' v) (hn : ∀ d, e' ≠ .own d) : EnvOk W SS H0 F H σ (δ.set i (some e')) := by
  refine ⟨I.same, I.sub, I.sts, I.nds, I.tab, fun j x hx => ?_, fun j k d d' a hjk h1 h2 h3 h4 => ?_, by rw [List.length_set]; exact I.len⟩
  · by_cases hj : i = j
    · subst hj
      rw [getElem?_set_eq h] at hx
      cases hx
      exact ⟨v, hv, q⟩
    · rw [getElem?_set_ne hj] at hx
      exact I.ent j x hx
  · by_cases hj : i = j
    · subst hj
      rw [getElem?_set_eq h] at h1
      cases h1; exact hn _ rfl
    · by_cases hk : i = k
      · subst hk
        rw [getElem?_set_eq h] at h2
        cases h2; exact hn _ rfl
      · rw [getElem?_set_ne hj] at h1
        rw [getElem?_set_ne hk] at h2
        exact I.sep j k d d' a hjk h1 h2 h3 h4
/-- a slot's own container is frozen -/
theorem EnvOk.freeze {i : Nat} {d : D} {x : V} (I : EnvOk W SS H0 F H σ δ) (h : δ[i]? = some (some (.own d))) (hx : σ[i]? = some (some x)) : ∃ F', Stp SS σ F H δ F' H (δ.set i (some (.val d))) ∧ EnvOk W SS H0 F' H σ (δ.set i (some (.val d))) ∧ Rep W SS F' d x := by
  obtain ⟨v, hv, a, o, rfl, e2, e3, e4, e5, e6⟩ := I.ent i _ h
  rw [hx] at hv
  cases hv
  obtain ⟨F', z, r⟩ := topo_freeze I.sub e3 e5 e6
  have I1 : EnvOk W SS H0 F H σ (δ.set i none) := by
    refine ⟨I.same, I.sub, I.sts, I.nds, I.tab, fun j y hy => ?_, fun j k d d' b hjk h1 h2 h3 h4 => ?_, by rw [List.length_set]; exact I.len⟩
    · by_cases hj : i = j
      · subst hj; rw [getElem?_set_eq h] at hy; cases hy
      · rw [getElem?_set_ne hj] at hy; exact I.ent j y hy
    · by_cases hj : i = j
      · subst hj; rw [getElem?_set_eq h] at h1; cases h1
      · by_cases hk : i = k
        · subst hk; rw [getElem?_set_eq h] at h2; cases h2
        · rw [getElem?_set_ne hj] at h1
          rw [getElem?_set_ne hk] at h2
          exact I.sep j k d d' b hjk h1 h2 h3 h4
  have I2 : EnvOk W SS H0 F' H σ (δ.set i none) := I1.frz z e4 fun j ⟨d', hd'⟩ q => by
    by_cases hj : i = j
    · subst hj; rw [getElem?_set_eq h] at hd'; cases hd'
    · rw [getElem?_set_ne hj] at hd'
      exact I.sep i j d d' a hj h hd' hx q
  have I3 : EnvOk W SS H0 F' H σ (δ.set i (some (.val d))) := by
    refine ⟨I2.same, I2.sub, I2.sts, I2.nds, I2.tab, fun j y hy => ?_, fun j k d1 d2 b hjk h1 h2 h3 h4 => ?_, by rw [List.length_set]; exact I.len⟩
    · by_cases hj : i = j
      · subst hj
        rw [getElem?_set_eq h] at hy
        cases hy
        exact ⟨_, hx, r⟩
      · rw [getElem?_set_ne hj] at hy
        exact I2.ent j y (by rw [getElem?_set_ne hj]; exact hy)
    · by_cases hj : i = j
      · subst hj; rw [getElem?_set_eq h] at h1; cases h1
      · by_cases hk : i = k
        · subst hk; rw [getElem?_set_eq h] at h2; cases h2
        · rw [getElem?_set_ne hj] at h1
          rw [getElem?_set_ne hk] at h2
          exact I.sep j k d1 d2 b hjk h1 h2 h3 h4
  refine ⟨F', ⟨z.1, fun b o _ _ e => e, fun b o' e => ?_, fun j ⟨d', hd'⟩ => ?_, fun j e he => ?_, fun b e => e⟩, I3, r⟩
  · rcases z.2.2 b o' e with q | q | q
    · exact .inl q
    · subst q; exact .inr (.inr (.inl ⟨i, ⟨d, h⟩, hx⟩))
    · exact .inr (.inr (.inr (.inl q)))
  · by_cases hj : i = j
    · subst hj; exact ⟨d, h⟩
    · rw [getElem?_set_ne hj] at hd'; exact ⟨d', hd'⟩
  · by_cases hj : i = j
    · subst hj; exact ⟨_, getElem?_set_eq h⟩
    · exact ⟨e, by rw [getElem?_set_ne hj]; exact he⟩
/-- a new container is frozen -/
theorem EnvOk.freezeF {d : D} {x : V} {F1 H1 : Hp} {δ1 : Env} (st : Stp SS σ F H δ F1 H1 δ1) (I : EnvOk W SS H0 F1 H1 σ δ1) (q : OpOk W SS H0 F1 H1 σ δ1 (.f d) x) (n0 : ∃ a, x = .ref a ∧ H a = none) : ∃ F', Stp SS σ F H δ F' H1 δ1 ∧ EnvOk W SS H0 F' H1 σ δ1 ∧ Rep W SS F' d x := by
  obtain ⟨⟨a, o, rfl, e2, e3, e4, e5, e6⟩, n⟩ := q
  obtain ⟨a', ea, n0⟩ := n0
  cases ea
  obtain ⟨F', z, r⟩ := topo_freeze I.sub e3 e5 e6
  refine ⟨F', ⟨st.sub.trans z.1, st.same, fun b o' e => ?_, st.own, st.there, st.gone⟩, I.frz z e4 n, r⟩
  rcases z.2.2 b o' e with q | q | q
  · exact st.new b o' q
  · subst q; exact .inr (.inl n0)
  · exact .inr (.inr (.inr (.inl q)))
/-- what fz gives -/
theorem fz_inv {β : Type} {o : Op} {x : V} {f : D → EvM β} {P : Ou β → Prop} {F1 H1 : Hp} {δ1 : Env} (st : Stp SS σ F H δ F1 H1 δ1) (I : EnvOk W SS H0 F1 H1 σ δ1) (q : rO W H0 SS σ H F1 H1 δ1 o x) (h : (((fz o).bind f) δ1).wp P) :
    ∃ d F2 δ2, Stp SS σ F H δ F2 H1 δ2 ∧ EnvOk W SS H0 F2 H1 σ δ2 ∧ Rep W SS F2 d x ∧ (f d δ2).wp P := by
  cases o with
  | v d => exact ⟨d, F1, δ1, st, I, q.1, h⟩
  | f d =>
    obtain ⟨F', s1, I1, r⟩ := I.freezeF st q.1 (q.2 d rfl)
    exact ⟨d, F', δ1, s1, I1, r, h⟩
  | b i =>
    obtain ⟨⟨hx, e, he⟩, _⟩ := q
    unfold EvM.bind fz at h
    simp only [he] at h
    cases e with
    | val d =>
      obtain ⟨v, hv, r⟩ := I.ent i _ he
      rw [hx] at hv; cases hv
      exact ⟨d, F1, δ1, st, I, r, h⟩
    | own d =>
      obtain ⟨F', s1, I1, r⟩ := I.freeze he hx
      exact ⟨d, F', _, st.trans s1, I1, r, h⟩
    | bor d => exact h.elim
/-- what io gives -/
theorem io_inv {β : Type} {o : Op} {x : V} {f : D → EvM β} {P : Ou β → Prop} {F1 H1 : Hp} {δ1 : Env} (st : Stp SS σ F H δ F1 H1 δ1) (I : EnvOk W SS H0 F1 H1 σ δ1) (q : rO W H0 SS σ H F1 H1 δ1 o x) (h : (((io o).bind f) δ1).wp P) :
    ∃ d F2 δ2, Stp SS σ F H δ F2 H1 δ2 ∧ EnvOk W SS H0 F2 H1 σ δ2 ∧ BorOk W SS H0 F2 d x ∧ (f d δ2).wp P := by
  cases o with
  | v d => exact ⟨d, F1, δ1, st, I, .inl q.1, h⟩
  | f d =>
    obtain ⟨F', s1, I1, r⟩ := I.freezeF st q.1 (q.2 d rfl)
    exact ⟨d, F', δ1, s1, I1, .inl r, h⟩
  | b i =>
    obtain ⟨⟨hx, e, he⟩, _⟩ := q
    unfold EvM.bind io at h
    simp only [he] at h
    cases e with
    | val d =>
      obtain ⟨v, hv, r⟩ := I.ent i _ he
      rw [hx] at hv; cases hv
      exact ⟨d, F1, δ1, st, I, .inl r, h⟩
    | own d =>
      obtain ⟨F', s1, I1, r⟩ := I.freeze he hx
      exact ⟨d, F', _, st.trans s1, I1, .inl r, h⟩
    | bor d =>
      obtain ⟨v, hv, r⟩ := I.ent i _ he
      rw [hx] at hv; cases hv
      exact ⟨d, F1, δ1, st, I, r, h⟩
end
end T
end
section
set_option Elab.async false
set_option linter.all false
set_option autoImplicit false
set_option maxRecDepth 100000
/-! tests, and / or, displays, subscripts, slices -/
namespace T
open PySem PySem.Spec PyProof.Rows L2

section
variable {X : Cx} {W : Wd} {H0 : Hp} {Xw : WX} {S : Sig} {ev : Ex → EvM Op} {a b c e : Expr} {ea eb ec : Ex} {pos : Pos} {es rest : List Expr} {eas : List Ex}
/-- a test of what is evaluated -/
abbrev PTD (X : Cx) (W : Wd) (H0 : Hp) (Xw : WX) (e : Expr) (m : EvM Bool) : Prop := PT X e (tT W H0 Xw m)
theorem tru_of {K : PySem.W.Frag} (hK : K = W.K) {SS : States} {F H : Hp} {d : D} {x : V} {k : Bool} (hs : Sub F H) (c : Con W SS F H d x) (h : d.truth = some k) : TruV K x H k := by
  cases d <;> first | (cases h; done) | skip
  case non => cases con_non c; cases h; rfl
  case bl b => cases con_bl c; cases h; rfl
  case int i => cases con_int c; cases h; rfl
  case str s =>
    cases con_str c
    simp only [D.truth, Option.ite_none_right_eq_some, Option.some.injEq] at h
    obtain ⟨h1, rfl⟩ := h
    exact ⟨fits_ok h1, rfl⟩
  case tup xs =>
    obtain ⟨a, vs, rfl, _, q, r⟩ := con_tup hs c
    cases h
    refine .inr (.inl ⟨vs, hK ▸ q, ?_⟩)
    have := r.length
    cases xs <;> cases vs <;> first | rfl | (simp at this)
  case lst xs =>
    obtain ⟨a, vs, rfl, q, r⟩ := con_lst hs c
    cases h
    refine .inl ⟨vs, SqL.of q, ?_⟩
    have := r.length
    cases xs <;> cases vs <;> first | rfl | (simp at this)
/-- a test, by what is evaluated -/
theorem test_of {m : EvM Op} {σ : L2.St} {H : Hp} {Q : Bool → Hp → Prop} (h : tT W H0 Xw (testO m) σ H Q) : tD W H0 Xw m σ H fun x H' => ∃ SS F d k, Sub F H' ∧ Con W SS F H' d x ∧ d.truth = some k ∧ Q k H' := by
  obtain ⟨SS, F, δ, I, h⟩ := h
  refine tR_bind rB_m I h fun p δ1 x F1 H1 st1 I1 q1 h1 => ?_
  obtain ⟨d, l1, h2⟩ := rd_inv h1
  obtain ⟨k, e1, h3⟩ := opt_inv h2
  exact ⟨SS, F1, d, k, I1.sub, I1.look q1.1 l1, e1, h3 k F1 H1 .refl I1 rfl⟩
theorem tD_mono {m : EvM Op} {σ : L2.St} {H : Hp} {Q Q' : VK} (h : tD W H0 Xw m σ H Q) (i : ∀ x H, Q x H → Q' x H) : tD W H0 Xw m σ H Q' := by
  obtain ⟨SS, F, δ, I, h⟩ := h
  refine ⟨SS, F, δ, I, Tr.wp_mono (fun r hr => ?_) h⟩
  cases r with
  | ok p δ1 => exact fun x F1 H1 st e q => i _ _ (hr x F1 H1 st e q)
  | exc e δ1 => exact hr
/-- any expression whose test is its value's truth -/
theorem pt_any {m : EvM Op} (hK : X.K = W.K) (ha : PD X W H0 Xw a m) (he : ∀ whole, isTrue a X.env whole = (do let v ← whole; standAt a.pos; holding [v] (truthy v))) : PTD X W H0 Xw a (testO m) :=
  PT_imp (pt_truth ha he) fun σ H Q h => tD_mono (test_of h) fun x H1 ⟨SS, F, d, k, hs, c, e, q⟩ => ⟨k, tru_of hK hs c e, q⟩
theorem rep_blV {SS : States} {F : Hp} {d : D} {b : Bool} (h : Rep W SS F d (.bl b)) : d = .bl b := by
  cases d with
  | bl c => unfold Rep at h; cases h; rfl
  | non => unfold Rep at h; cases h
  | int i => unfold Rep at h; cases h
  | str i => unfold Rep at h; cases h
  | tup xs => unfold Rep at h; obtain ⟨_, _, z, _⟩ := h; cases z
  | lst xs => unfold Rep at h; obtain ⟨_, _, z, _⟩ := h; cases z
  | dct t xs => unfold Rep at h; obtain ⟨_, _, _, _, z, _⟩ := h; cases z
  | obj t xs => unfold Rep at h; obtain ⟨_, _, _, z, _⟩ := h; cases z
  | exv t xs => unfold Rep at h; obtain ⟨_, _, z, _⟩ := h; cases z
  | clo t xs => unfold Rep at h; obtain ⟨_, _, _, _, z, _⟩ := h; cases z
  | stt k => unfold Rep at h; obtain ⟨_, _, z⟩ := h; cases z
theorem con_blV {SS : States} {F H : Hp} {d : D} {b : Bool} (h : Con W SS F H d (.bl b)) : d = .bl b := by
  rcases h with h | ⟨a, o, z, _⟩
  · exact rep_blV h
  · cases z
/-- a comparison as a test -/
theorem pt_cmpD (o : Cop) (G : Good W X) (hE : NoEq S) (ha : PD X W H0 Xw a (ev ea)) (hb : PD X W H0 Xw b (ev eb)) (hm : behindInMarks o.op b = false) : PTD X W H0 Xw (.Compare a [o.op] [b] pos) (testO (stepE S ev (.cmp o ea eb))) :=
  PT_imp (pt_cmpR (opr_cmp G o) ha hb hm) fun σ H Q h => by
    have h1 := test_of h
    have h2 := two (W := W) (H0 := H0) (Xw := Xw) (r := rCmp W o) (f := fun x y => cmpM S o x y) (p := ev ea) (q := ev eb) (fun SS F H σ δ dx dy x y Q I cx cy h => by
      obtain ⟨b, e, z⟩ := cmpM_inv hE h
      exact ⟨SS, F, dx, dy, b, I.sub, cx, cy, e, fin_bl I z⟩) h1
    refine tD_mono h2 fun x H1 h => tD_mono h fun y H2 ⟨SS, F, dx, dy, b, h1, h2, h3, h4, SS', F', d, k, hs, c, e, q⟩ => ⟨SS, F, dx, dy, b, h1, h2, h3, h4, b, rfl, ?_⟩
    have := con_blV c
    subst this
    cases e
    exact q
/-! ### not, and, or -/
theorem pd_not (ha : PD X W H0 Xw a (ev ea)) : PD X W H0 Xw (.UnaryOp .Not a pos) (stepE S ev (.not ea)) :=
  PE_imp (pe_not ha) fun σ H Q ⟨SS, F, δ, I, h⟩ => by
    have h' : (((evD ev ea).bind fun d => match boolD d with
      | some b => EvM.pure (.v (.bl (!b)))
      | none => .bad) δ).wp (Post W SS H0 Xw σ F H δ Q) := h
    rw [evD_eq] at h'
    refine tR_bind rO_m I h' fun p δ1 x F1 H1 st1 I1 q1 h1 => ?_
    obtain ⟨dx, l1, h2⟩ := rd_inv h1
    have cx := I1.look q1.1 l1
    cases dx <;> try exact h2.elim
    case bl i =>
      cases con_bl cx
      exact ⟨i, rfl, fin_bl I1 h2⟩
theorem pt_notD (ha : PTD X W H0 Xw a (testO (ev ea))) : PTD X W H0 Xw (.UnaryOp .Not a pos) (testO (stepE S ev (.not ea))) :=
  PT_imp (pt_not ha) fun σ H Q ⟨SS, F, δ, I, h⟩ => by
    have h' : ((((evD ev ea).bind fun d => match boolD d with
      | some b => EvM.pure (.v (.bl (!b)))
      | none => .bad).bind fun o => (rd o).bind fun d => .opt d.truth) δ).wp (PostR rB W SS H0 Xw σ F H δ Q) := h
    rw [bind_assoc, evD_eq] at h'
    refine ⟨SS, F, δ, I, ?_⟩
    show (((ev ea).bind fun o => (rd o).bind fun d => .opt d.truth) δ).wp _
    refine Tr.wp_bind.mpr (Tr.wp_mono (fun r hr => ?_) (Tr.wp_bind.mp h'))
    cases r with
    | exc e δ1 => exact hr
    | ok p δ1 =>
      obtain ⟨d, l, h2⟩ := rd_inv hr
      cases d <;> try exact h2.elim
      case bl b =>
        have e : ((rd p).bind fun d => EvM.opt d.truth) δ1 = .ret (.ok b δ1) := by
          unfold EvM.bind rd
          simp only [l]
          rfl
        show (((rd p).bind fun d => EvM.opt d.truth) δ1).wp _
        rw [e]
        exact fun x F' H' st I' q => by
          cases q
          exact h2 (!b) F' H' st I' rfl
abbrev PWD (X : Cx) (W : Wd) (H0 : Hp) (Xw : WX) (e : Expr) (m : EvM Bool) : Prop := PW X e (tT W H0 Xw m)
theorem pw_and1D (ha : PTD X W H0 Xw a (testO (ev ea))) : PWD X W H0 Xw (.BoolOp .And [a] pos) (testO (andM ev [ea])) := pw_and1 ha
theorem pw_or1D (ha : PTD X W H0 Xw a (testO (ev ea))) : PWD X W H0 Xw (.BoolOp .Or [a] pos) (testO (orM ev [ea])) := pw_or1 ha
theorem PW_imp {X : Cx} {e : Expr} {t t' : TT} (h : PW X e t) (i : ∀ σ H Q, t' σ H Q → t σ H Q) : PW X e t' := ⟨fun whole pins s σ H Q I q => h.run whole pins s σ H Q I (i σ H Q q)⟩
theorem boolD_inv {d : D} {b : Bool} (h : boolD d = some b) : d = .bl b := by
  cases d <;> first | (cases h; rfl) | (cases h; done)
/-- a test whose truth is that of True or False, then what follows -/
theorem testb {ε : Type} {β : Type} {R2 : RelR ε β} (hR : RM R2) {SS : States} {F H : Hp} {δ : Env} {σ : L2.St} {Q : β → Hp → Prop} {Z : Bool → Hp → Prop} {m : EvM Op} {f : Bool → EvM ε} (I : EnvOk W SS H0 F H σ δ) (h : ((m.bind fun o => (rd o).bind fun d => match boolD d with
    | some b => f b
    | none => EvM.bad) δ).wp (PostR R2 W SS H0 Xw σ F H δ Q))
    (k : ∀ b δ1 F1 H1, Stp SS σ F H δ F1 H1 δ1 → EnvOk W SS H0 F1 H1 σ δ1 → (f b δ1).wp (PostR R2 W SS H0 Xw σ F1 H1 δ1 Q) → Z b H1) : tT W H0 Xw (testO m) σ H Z := by
  refine ⟨SS, F, δ, I, Tr.wp_bind.mpr (Tr.wp_mono (fun r hr => ?_) (Tr.wp_bind.mp h))⟩
  cases r with
  | exc e δ1 => exact hr
  | ok p δ1 =>
    obtain ⟨d, l, h2⟩ := rd_inv hr
    cases hb : boolD d with
    | none => rw [hb] at h2; exact h2.elim
    | some b =>
      rw [hb] at h2
      cases boolD_inv hb
      have e : ((rd p).bind fun d => EvM.opt d.truth) δ1 = .ret (.ok b δ1) := by
        unfold EvM.bind rd
        simp only [l]
        rfl
      show (((rd p).bind fun d => EvM.opt d.truth) δ1).wp _
      rw [e]
      intro x F' H' st I' q
      cases q
      exact k b δ1 F' H' st I' (Tr.wp_mono (fun _ z => PostR.shift hR I st z) h2)
/-- a value that is True or False, then what follows -/
theorem valb {ε : Type} {β : Type} {R2 : RelR ε β} (hR : RM R2) {SS : States} {F H : Hp} {δ : Env} {σ : L2.St} {Q : β → Hp → Prop} {Z : VK} {m : EvM Op} {f : Bool → EvM ε} (I : EnvOk W SS H0 F H σ δ) (h : ((m.bind fun o => (rd o).bind fun d => match boolD d with
    | some b => f b
    | none => EvM.bad) δ).wp (PostR R2 W SS H0 Xw σ F H δ Q))
    (k : ∀ b δ1 F1 H1, Stp SS σ F H δ F1 H1 δ1 → EnvOk W SS H0 F1 H1 σ δ1 → (f b δ1).wp (PostR R2 W SS H0 Xw σ F1 H1 δ1 Q) → Z (.bl b) H1) : tD W H0 Xw m σ H Z := by
  refine tR_bind hR I h fun p δ1 x F1 H1 st1 I1 q1 h1 => ?_
  obtain ⟨d, l, h2⟩ := rd_inv h1
  cases hb : boolD d with
  | none => rw [hb] at h2; exact h2.elim
  | some b =>
    rw [hb] at h2
    cases boolD_inv hb
    cases con_bl (I1.look q1.1 l)
    exact k b δ1 F1 H1 st1 I1 h2
theorem pd_and (ha : PD X W H0 Xw a (ev ea)) (hb : PD X W H0 Xw (.BoolOp .And (b :: rest) pos) (andM ev (eb :: eas))) : PD X W H0 Xw (.BoolOp .And (a :: b :: rest) pos) (andM ev (ea :: eb :: eas)) :=
  PE_imp (pe_and ha hb) fun σ H Q ⟨SS, F, δ, I, h⟩ => by
    have h' : (((evD ev ea).bind fun d => match boolD d with
      | some true => andM ev (eb :: eas)
      | some false => EvM.pure (.v (.bl false))
      | none => .bad) δ).wp (Post W SS H0 Xw σ F H δ Q) := h
    rw [evD_eq] at h'
    have h2 : (((ev ea).bind fun o => (rd o).bind fun d => match boolD d with
      | some b => (match b with | true => andM ev (eb :: eas) | false => EvM.pure (.v (.bl false)))
      | none => .bad) δ).wp (Post W SS H0 Xw σ F H δ Q) := by
      refine Eq.mp ?_ h'
      congr 3
      funext o; congr 1; funext d
      cases boolD d with
      | none => rfl
      | some b => cases b <;> rfl
    refine valb rO_m I h2 fun b δ1 F1 H1 st1 I1 h3 => ⟨b, rfl, ?_⟩
    cases b with
    | true => exact ⟨SS, F1, δ1, I1, h3⟩
    | false => exact fin_bl I1 h3
theorem pd_or (ha : PD X W H0 Xw a (ev ea)) (hb : PD X W H0 Xw (.BoolOp .Or (b :: rest) pos) (orM ev (eb :: eas))) : PD X W H0 Xw (.BoolOp .Or (a :: b :: rest) pos) (orM ev (ea :: eb :: eas)) :=
  PE_imp (pe_or ha hb) fun σ H Q ⟨SS, F, δ, I, h⟩ => by
    have h' : (((evD ev ea).bind fun d => match boolD d with
      | some true => EvM.pure (.v (.bl true))
      | some false => orM ev (eb :: eas)
      | none => .bad) δ).wp (Post W SS H0 Xw σ F H δ Q) := h
    rw [evD_eq] at h'
    have h2 : (((ev ea).bind fun o => (rd o).bind fun d => match boolD d with
      | some b => (match b with | true => EvM.pure (.v (.bl true)) | false => orM ev (eb :: eas))
      | none => .bad) δ).wp (Post W SS H0 Xw σ F H δ Q) := by
      refine Eq.mp ?_ h'
      congr 3
      funext o; congr 1; funext d
      cases boolD d with
      | none => rfl
      | some b => cases b <;> rfl
    refine valb rO_m I h2 fun b δ1 F1 H1 st1 I1 h3 => ⟨b, rfl, ?_⟩
    cases b with
    | false => exact ⟨SS, F1, δ1, I1, h3⟩
    | true => exact fin_bl I1 h3
theorem pd_one {op : BoolOp} (ha : PD X W H0 Xw a (ev ea)) : PD X W H0 Xw (.BoolOp op [a] pos) (andM ev [ea]) := pe_one ha
theorem pd_oneO {op : BoolOp} (ha : PD X W H0 Xw a (ev ea)) : PD X W H0 Xw (.BoolOp op [a] pos) (orM ev [ea]) := pe_one ha
theorem pw_andD (ha : PTD X W H0 Xw a (testO (ev ea))) (hb : PWD X W H0 Xw (.BoolOp .And (b :: rest) pos) (testO (andM ev (eb :: eas)))) : PWD X W H0 Xw (.BoolOp .And (a :: b :: rest) pos) (testO (andM ev (ea :: eb :: eas))) :=
  PW_imp (pw_and ha hb) fun σ H Q ⟨SS, F, δ, I, h⟩ => by
    have h' : ((((evD ev ea).bind fun d => match boolD d with
      | some true => andM ev (eb :: eas)
      | some false => EvM.pure (.v (.bl false))
      | none => .bad).bind fun o => (rd o).bind fun d => .opt d.truth) δ).wp (PostR rB W SS H0 Xw σ F H δ Q) := h
    rw [bind_assoc, evD_eq] at h'
    have h2 : (((ev ea).bind fun o => (rd o).bind fun d => match boolD d with
      | some b => (match b with | true => testO (andM ev (eb :: eas)) | false => EvM.pure false)
      | none => .bad) δ).wp (PostR rB W SS H0 Xw σ F H δ Q) := by
      refine Eq.mp ?_ h'
      congr 3
      funext o; congr 1; funext d
      cases boolD d with
      | none => rfl
      | some b => cases b <;> rfl
    refine testb rB_m I h2 fun b δ1 F1 H1 st1 I1 h3 => ?_
    cases b with
    | true => exact ⟨SS, F1, δ1, I1, h3⟩
    | false => exact h3 false F1 H1 .refl I1 rfl
theorem pw_orD (ha : PTD X W H0 Xw a (testO (ev ea))) (hb : PWD X W H0 Xw (.BoolOp .Or (b :: rest) pos) (testO (orM ev (eb :: eas)))) : PWD X W H0 Xw (.BoolOp .Or (a :: b :: rest) pos) (testO (orM ev (ea :: eb :: eas))) :=
  PW_imp (pw_or ha hb) fun σ H Q ⟨SS, F, δ, I, h⟩ => by
    have h' : ((((evD ev ea).bind fun d => match boolD d with
      | some true => EvM.pure (.v (.bl true))
      | some false => orM ev (eb :: eas)
      | none => .bad).bind fun o => (rd o).bind fun d => .opt d.truth) δ).wp (PostR rB W SS H0 Xw σ F H δ Q) := h
    rw [bind_assoc, evD_eq] at h'
    have h2 : (((ev ea).bind fun o => (rd o).bind fun d => match boolD d with
      | some b => (match b with | true => EvM.pure true | false => testO (orM ev (eb :: eas)))
      | none => .bad) δ).wp (PostR rB W SS H0 Xw σ F H δ Q) := by
      refine Eq.mp ?_ h'
      congr 3
      funext o; congr 1; funext d
      cases boolD d with
      | none => rfl
      | some b => cases b <;> rfl
    refine testb rB_m I h2 fun b δ1 F1 H1 st1 I1 h3 => ?_
    cases b with
    | false => exact ⟨SS, F1, δ1, I1, h3⟩
    | true => exact h3 true F1 H1 .refl I1 rfl
theorem pd_ite (hc : PTD X W H0 Xw c (testO (ev ec))) (ha : PD X W H0 Xw a (ev ea)) (hb : PD X W H0 Xw b (ev eb)) : PD X W H0 Xw (.IfExp c a b pos) (stepE S ev (.ite ec ea eb)) :=
  PE_imp (pe_ifExp hc ha hb) fun σ H Q ⟨SS, F, δ, I, h⟩ => by
    have h' : (((testO (ev ec)).bind fun r => if r then ev ea else ev eb) δ).wp (Post W SS H0 Xw σ F H δ Q) := h
    refine tR_bind rO_m I h' fun p δ1 x F1 H1 st1 I1 q1 h1 => ?_
    cases q1
    cases p with
    | true => exact ⟨SS, F1, δ1, I1, h1⟩
    | false => exact ⟨SS, F1, δ1, I1, h1⟩
end
end T
end
section
set_option Elab.async false
set_option linter.all false
set_option autoImplicit false
set_option maxRecDepth 100000
/-! displays, arguments, subscripts, slices -/
namespace T
open PySem PySem.Spec PyProof.Rows L2

def rVs (W : Wd) : RelR (List D) (List V) := fun SS _ _ F _ _ ds xs => Reps W SS F ds xs
theorem rVs_m {W : Wd} : RM (rVs W) := fun _ _ _ _ _ _ _ _ _ _ h => h
def OpsOk (W : Wd) (H0 : Hp) (SS : States) (σ : L2.St) (Hs F H : Hp) (δ : Env) : List Op → List V → Prop
  | [], xs => xs = []
  | o :: os, xs => ∃ x r, xs = x :: r ∧ rO W H0 SS σ Hs F H δ o x ∧ OpsOk W H0 SS σ Hs F H δ os r ∧ ((∃ d, o = .f d) → ∀ (j : Nat) d', os[j]? = some (.f d') → r[j]? ≠ some x)
def rOs (W : Wd) (H0 : Hp) : RelR (List Op) (List V) := fun SS σ Hs F H δ os xs => OpsOk W H0 SS σ Hs F H δ os xs
theorem OpsOk.m {W : Wd} {H0 : Hp} {SS : States} {σ : L2.St} {Hs H1 F H : Hp} {δ : Env} (g : ∀ b, H1 b = none → Hs b = none) : ∀ {os : List Op} {xs : List V}, OpsOk W H0 SS σ H1 F H δ os xs → OpsOk W H0 SS σ Hs F H δ os xs
  | [], _, h => h
  | o :: os, _, ⟨x, r, e, h1, h2, h3⟩ => ⟨x, r, e, rO_m _ _ _ _ _ _ _ _ _ g h1, OpsOk.m g h2, h3⟩
theorem rOs_m {W : Wd} {H0 : Hp} : RM (rOs W H0) := fun _ _ _ _ _ _ _ _ _ g h => OpsOk.m g h
/-- each new container of them is new since the start -/
theorem OpsOk.new {W : Wd} {H0 : Hp} {SS : States} {σ : L2.St} {Hs F H : Hp} {δ : Env} : ∀ {os : List Op} {xs : List V} {j : Nat} {d : D}, OpsOk W H0 SS σ Hs F H δ os xs → os[j]? = some (.f d) → ∃ a, xs[j]? = some (.ref a) ∧ Hs a = none
  | [], _, _, _, _, e => by simp at e
  | o :: os, _, 0, d, ⟨x, r, e1, h1, h2, h3⟩, e => by
    subst e1
    obtain ⟨a, ea, n⟩ := h1.2 d (by simpa using e)
    exact ⟨a, by simp [ea], n⟩
  | o :: os, _, j + 1, d, ⟨x, r, e1, h1, h2, h3⟩, e => by
    subst e1
    obtain ⟨a, ea, n⟩ := OpsOk.new (j := j) h2 (by simpa using e)
    exact ⟨a, by simpa using ea, n⟩
def OpsA (W : Wd) (H0 : Hp) (SS : States) (σ : L2.St) (F H : Hp) (δ : Env) : List Op → List V → Prop
  | [], xs => xs = []
  | o :: os, xs => ∃ x r, xs = x :: r ∧ OpOk W SS H0 F H σ δ o x ∧ OpsA W H0 SS σ F H δ os r
def rAs (W : Wd) (H0 : Hp) : RelR (List Op) (List V) := fun SS σ _ F H δ os xs => OpsA W H0 SS σ F H δ os xs
theorem rAs_m {W : Wd} {H0 : Hp} : RM (rAs W H0) := fun _ _ _ _ _ _ _ _ _ _ h => h
section
variable {X : Cx} {W : Wd} {H0 : Hp} {Xw : WX} {S : Sig} {ev : Ex → EvM Op} {a b c e : Expr} {ea eb ec : Ex} {pos : Pos} {es rest : List Expr} {eas : List Ex} {ms : List Bool}
theorem pav_nil : PA X [] (tR (rVs W) W H0 Xw (evsV ev [])) :=
  PA_imp pa_nil fun σ H Q ⟨SS, F, δ, I, h⟩ => h [] F H .refl I Reps.nil
theorem pav_cons (ha : PD X W H0 Xw a (ev ea)) (hr : PA X es (tR (rVs W) W H0 Xw (evsV ev eas))) (hs : starEach (a :: es) X.env = (false, eval a X.env) :: starEach es X.env := by rfl) : PA X (a :: es) (tR (rVs W) W H0 Xw (evsV ev (ea :: eas))) :=
  PA_imp (pa_cons ha hr hs) fun σ H Q ⟨SS, F, δ, I, h⟩ => by
    have h' : (((ev ea).bind fun o => (fz o).bind fun d => (evsV ev eas).bind fun ds => .pure (d :: ds)) δ).wp (PostR (rVs W) W SS H0 Xw σ F H δ Q) := h
    refine tR_bind0 I h' fun p δ1 x F1 H1 st1 I1 q1 h1 => ?_
    obtain ⟨d, F2, δ2, st2, I2, r, h2⟩ := fz_inv st1 I1 q1 h1
    refine tR_bind rVs_m I2 (Tr.wp_mono (fun _ z => PostR.shift rVs_m I st2 z) h2) fun ds δ3 xs F3 H3 st3 I3 q3 h3 => ?_
    exact h3 (x :: xs) F3 H3 .refl I3 (Reps.cons (r.mono st3.sub) q3)
theorem pao_nil : PA X [] (tR (rOs W H0) W H0 Xw (evs ev [])) :=
  PA_imp pa_nil fun σ H Q ⟨SS, F, δ, I, h⟩ => h [] F H .refl I rfl
theorem pao_cons (ha : PD X W H0 Xw a (ev ea)) (hr : PA X es (tR (rOs W H0) W H0 Xw (evs ev eas))) (hs : starEach (a :: es) X.env = (false, eval a X.env) :: starEach es X.env := by rfl) : PA X (a :: es) (tR (rOs W H0) W H0 Xw (evs ev (ea :: eas))) :=
  PA_imp (pa_cons ha hr hs) fun σ H Q ⟨SS, F, δ, I, h⟩ => by
    have h' : (((ev ea).bind fun o => (evs ev eas).bind fun os => .pure (o :: os)) δ).wp (PostR (rOs W H0) W SS H0 Xw σ F H δ Q) := h
    refine tR_bind0 I h' fun p δ1 x F1 H1 st1 I1 q1 h1 => ?_
    refine tR_bindE I st1 I1 h1 fun os δ2 xs F2 H2 st2 I2 q2 h2 => ?_
    have q1' : rO W H0 SS σ H F2 H2 δ2 p x := ⟨OpOk.step I1 I2 st2 q1.1, q1.2⟩
    exact h2 (x :: xs) F2 H2 (st1.trans st2) I2 ⟨x, xs, rfl, q1', OpsOk.m st1.gone q2, fun ⟨d, hd⟩ j d' hj e => by
      obtain ⟨a', e1, n⟩ := OpsOk.new q2 hj
      subst hd
      obtain ⟨⟨b, o, eb, _, _, _, e5, _⟩, _⟩ := q1.1
      rw [e1] at e
      cases (Option.some.inj e)
      cases eb
      rw [n] at e5
      cases e5⟩
theorem paa_nil : PA X [] (tR (rAs W H0) W H0 Xw (evA ev ms [])) :=
  PA_imp pa_nil fun σ H Q ⟨SS, F, δ, I, h⟩ => by
    have h' : PostR (rAs W H0) W SS H0 Xw σ F H δ Q (.ok [] δ) := by
      cases ms <;> exact h
    exact h' [] F H .refl I rfl
theorem paa_cons {m : Bool} (ha : PD X W H0 Xw a (ev ea)) (hr : PA X es (tR (rAs W H0) W H0 Xw (evA ev ms eas))) (hs : starEach (a :: es) X.env = (false, eval a X.env) :: starEach es X.env := by rfl) : PA X (a :: es) (tR (rAs W H0) W H0 Xw (evA ev (m :: ms) (ea :: eas))) :=
  PA_imp (pa_cons ha hr hs) fun σ H Q ⟨SS, F, δ, I, h⟩ => by
    cases m with
    | false =>
      have h' : (((ev ea).bind fun o => (fz o).bind fun d => (evA ev ms eas).bind fun os => .pure (.v d :: os)) δ).wp (PostR (rAs W H0) W SS H0 Xw σ F H δ Q) := h
      refine tR_bind0 I h' fun p δ1 x F1 H1 st1 I1 q1 h1 => ?_
      obtain ⟨d, F2, δ2, st2, I2, r, h2⟩ := fz_inv st1 I1 q1 h1
      refine tR_bindE I st2 I2 h2 fun os δ3 xs F3 H3 st3 I3 q3 h3 => ?_
      exact h3 (x :: xs) F3 H3 (st2.trans st3) I3 ⟨x, xs, rfl, Rep.mono st3.sub d x r, q3⟩
    | true =>
      have h' : (((ev ea).bind fun o => (noF o).bind fun o => (evA ev ms eas).bind fun os => .pure (o :: os)) δ).wp (PostR (rAs W H0) W SS H0 Xw σ F H δ Q) := h
      refine tR_bind0 I h' fun p δ1 x F1 H1 st1 I1 q1 h1 => ?_
      have h2 : (((evA ev ms eas).bind fun os => EvM.pure (p :: os)) δ1).wp (PostR (rAs W H0) W SS H0 Xw σ F H δ Q) := by
        cases p with
        | f d => exact h1.elim
        | v d => exact h1
        | b i => exact h1
      refine tR_bindE I st1 I1 h2 fun os δ2 xs F2 H2 st2 I2 q2 h3 => ?_
      exact h3 (x :: xs) F2 H2 (st1.trans st2) I2 ⟨x, xs, rfl, OpOk.step I1 I2 st2 q1.1, q2⟩
theorem paa_consN (ha : PD X W H0 Xw a (ev ea)) (hr : PA X es (tR (rAs W H0) W H0 Xw (evA ev [] eas))) (hs : starEach (a :: es) X.env = (false, eval a X.env) :: starEach es X.env := by rfl) : PA X (a :: es) (tR (rAs W H0) W H0 Xw (evA ev [] (ea :: eas))) :=
  paa_cons (m := false) (ms := []) ha hr hs
theorem iteb_inv {β : Type} {δ : Env} {P : Ou β → Prop} {c : Bool} {m : EvM β} (h : ((if c then m else EvM.bad) δ).wp P) : c = true ∧ (m δ).wp P := by
  cases c with
  | false => exact h.elim
  | true => exact ⟨rfl, h⟩
/-! ### displays -/
theorem pd_tup {k} (h : PA X es (tR (rVs W) W H0 Xw (evsV ev eas))) : PD X W H0 Xw (.Tuple es k pos) (stepE S ev (.tup eas)) :=
  PE_imp (pe_tup h) fun σ H Q ⟨SS, F, δ, I, h⟩ => by
    have h' : (((evsV ev eas).bind fun ds => if fits ds.length then EvM.pure (.v (.tup ds)) else .bad) δ).wp (Post W SS H0 Xw σ F H δ Q) := h
    refine tR_bind rO_m I h' fun ds δ1 xs F1 H1 st1 I1 q1 h1 => ?_
    obtain ⟨hf, h2⟩ := iteb_inv h1
    have q1' : Reps W SS F1 ds xs := q1
    exact ⟨by rw [← q1'.length]; exact fits_ok hf, fun p n => (fin_of I1 h2).tup I1.sub q1' n⟩
theorem pd_lst (h : PA X es (tR (rVs W) W H0 Xw (evsV ev eas))) : PD X W H0 Xw (.List es pos) (stepE S ev (.lst eas)) :=
  PE_imp (pe_lst h) fun σ H Q ⟨SS, F, δ, I, h⟩ => by
    have h' : (((evsV ev eas).bind fun ds => if fits ds.length then EvM.pure (.f (.lst ds)) else .bad) δ).wp (Post W SS H0 Xw σ F H δ Q) := h
    refine tR_bind rO_m I h' fun ds δ1 xs F1 H1 st1 I1 q1 h1 => ?_
    obtain ⟨hf, h2⟩ := iteb_inv h1
    have q1' : Reps W SS F1 ds xs := q1
    exact ⟨by rw [← q1'.length]; exact fits_ok hf, fun p n => (fin_of I1 h2).lst I1.sub q1' n⟩
/-! ### subscripts -/
theorem ixD_ix {α : Type} {xs : List α} {i : Int} {x : α} (h : ixD xs i = some x) : ∃ j, ixN xs.length i = some j ∧ xs[j]? = some x := by
  unfold ixD at h
  unfold ixN
  by_cases h0 : 0 ≤ i
  · rw [if_pos h0] at h
    rw [if_pos h0]
    have hl : i.toNat < xs.length := by
      rcases Nat.lt_or_ge i.toNat xs.length with q | q
      · exact q
      · rw [List.getElem?_eq_none q] at h; cases h
    have : i < xs.length := by omega
    rw [if_pos this]
    exact ⟨_, rfl, h⟩
  · rw [if_neg h0] at h
    rw [if_neg h0]
    by_cases h1 : 0 ≤ i + xs.length
    · rw [if_pos h1] at h
      rw [if_pos (by omega)]
      exact ⟨_, rfl, h⟩
    · rw [if_neg h1] at h; cases h
theorem atI_of {α : Type} {xs : List α} {i : Int} {j : Nat} {x : α} (h : ixN xs.length i = some j) (e : xs[j]? = some x) : atI xs i = some x := by
  unfold atI
  rw [h]
  exact e
def rSub (W : Wd) : R2 := fun x y H Q => ∃ SS F dx dy d, Sub F H ∧ Con W SS F H dx x ∧ Con W SS F H dy y ∧ subD dx dy = some d ∧ ∀ v, Rep W SS F d v → Q v H
theorem ix_sub (G : Good W X) : IxR X (rSub W) := by
  intro value slice pins s σ H x y v u Q I rx ry h hs
  obtain ⟨SS, F, dx, dy, d, hsb, cx, cy, e, q⟩ := h
  have hu := G.hu
  have seqc : ∀ {xs : List D} {vs : List V} {i : Int}, Reps W SS F xs vs → ixD xs i = some d → ∃ v, atI vs i = some v ∧ Rep W SS F d v := fun r e => by
    obtain ⟨j, h1, h2⟩ := ixD_ix e
    obtain ⟨v, h3, h4⟩ := r.get h2
    exact ⟨v, atI_of (r.length ▸ h1) h3, h4⟩
  cases dx <;> try (cases dy <;> cases e; done)
  case lst xs =>
    cases dy <;> try (cases e; done)
    case int i =>
      obtain ⟨a, vs, rfl, h1, r⟩ := con_lst hsb cx
      cases con_int cy
      obtain ⟨v', z1, z2⟩ := seqc r e
      exact ix_list value slice pins s σ H _ _ v u Q I rx ry ⟨a, vs, i, v', rfl, rfl, SqL.of h1, z1, q v' z2⟩ hs
  case tup xs =>
    cases dy <;> try (cases e; done)
    case int i =>
      obtain ⟨a, vs, rfl, _, h1, r⟩ := con_tup hsb cx
      cases con_int cy
      obtain ⟨v', z1, z2⟩ := seqc r e
      exact ix_tup value slice pins s σ H _ _ v u Q I rx ry ⟨a, vs, i, v', rfl, rfl, G.hK ▸ h1, z1, q v' z2⟩ hs
  case str xs =>
    cases dy <;> try (cases e; done)
    case int i =>
      cases con_str cx
      cases con_int cy
      have e' : (if fits xs.length then (ixD xs.cps.toList i).map sgn else none) = some d := e
      simp only [Option.ite_none_right_eq_some, Option.map_eq_some_iff] at e'
      obtain ⟨h1, c, h2, rfl⟩ := e'
      obtain ⟨j, h3, h4⟩ := ixD_ix h2
      exact ix_str value slice pins s σ H _ _ v u Q I rx ry ⟨xs, i, c, rfl, rfl, fits_ok h1, atI_of h3 h4, q _ rep_str⟩ hs
  case dct t kvs =>
    have e' : (if keyOk t dy then dget kvs dy else none) = some d := by cases dy <;> exact e
    simp only [Option.ite_none_right_eq_some] at e'
    obtain ⟨ho, hg⟩ := e'
    obtain ⟨a, o, es, ep, rfl, h1, h2⟩ := con_dct hsb cx
    cases (show v = Value.ref a from rx)
    have cy' := con_key ho cy
    have hd : DAt W SS F t kvs a o := ⟨es, ep, h2⟩
    have ht : s.TypeIs (.ref a) "dict" := by
      cases t with
      | false => obtain ⟨vs, _, dd, _⟩ := leaf_at I G.hP G.hw h1 hd; exact dd.typeIs
      | true => obtain ⟨vs, _, dd, _⟩ := nest_at I G.hP G.hw G.hK hsb h1 hd; exact dd.typeIs
    exact tail_any ht PySem.F.slot_dict_getitem.lookup (dd_get (by omega) I G.hP G.hw G.hK hsb h1 hd ho cy' ry hg fun v' w' s' I' rv rd => ⟨v', H, I', rv, q v' rd⟩) hs
theorem pd_sub (G : Good W X) (ha : PD X W H0 Xw a (ev ea)) (hb : PD X W H0 Xw b (ev eb)) (hs : PlainIx b) : PD X W H0 Xw (.Subscript a b pos) (stepE S ev (.sub ea eb)) :=
  PE_imp (pe_ix (ix_sub G) ha hb hs) fun σ H Q h => two (fun SS F H σ δ dx dy x y Q I cx cy h => by
    cases e : subD dx dy with
    | none => rw [e] at h; exact h.elim
    | some d =>
      rw [e] at h
      exact ⟨SS, F, dx, dy, d, I.sub, cx, cy, e, fun v r => fin_rep (Xw := Xw) I h r⟩) h
/-! ### slices -/
def rOi : RelR (Option Int) (Option Int) := fun _ _ _ _ _ _ o x => o = x
theorem rOi_m : RM rOi := fun _ _ _ _ _ _ _ _ _ _ h => h
theorem PO_imp {e : Option Expr} {t t' : TO} (h : PO X e t) (i : ∀ σ H Q, t' σ H Q → t σ H Q) : PO X e t' := ⟨fun pins s σ H Q I q => h.run pins s σ H Q I (i σ H Q q)⟩
theorem pod_none : PO X none (tR rOi W H0 Xw (optM ev none)) := PO_imp po_none fun σ H Q ⟨SS, F, δ, I, h⟩ => h none F H .refl I rfl
theorem intD_inv {d : D} {i : Int} (h : intD d = some i) : d = .int i := by
  cases d <;> first | (cases h; rfl) | (cases h; done)
theorem pod_some (ha : PD X W H0 Xw a (ev ea)) : PO X (some a) (tR rOi W H0 Xw (optM ev (some ea))) :=
  PO_imp (po_some ha) fun σ H Q ⟨SS, F, δ, I, h⟩ => by
    have h' : (((evD ev ea).bind fun d => match intD d with
      | some i => EvM.pure (some i)
      | none => .bad) δ).wp (PostR rOi W SS H0 Xw σ F H δ Q) := h
    rw [evD_eq] at h'
    refine tR_bind rOi_m I h' fun p δ1 x F1 H1 st1 I1 q1 h1 => ?_
    obtain ⟨d, l, h2⟩ := rd_inv h1
    cases hi : intD d with
    | none => rw [hi] at h2; exact h2.elim
    | some i =>
      rw [hi] at h2
      cases intD_inv hi
      cases con_int (I1.look q1.1 l)
      exact ⟨i, rfl, h2 (some i) F1 H1 .refl I1 rfl⟩
theorem sIx_eq (n d : Nat) (o : Option Int) : HT.sIx n d o = sIx n d o := by cases o <;> rfl
theorem reps_cut {SS : States} {F : Hp} {xs : List D} {vs : List V} (r : Reps W SS F xs vs) (lo hi : Option Int) : Reps W SS F (cutL xs lo hi) (cutV vs lo hi) := by
  unfold cutL cutV
  rw [← r.length, sIx_eq, sIx_eq]
  exact (r.drop _).take _
def rSlc (W : Wd) : V → Option Int → Option Int → Hp → VK → Prop := fun x lo hi H Q => ∃ SS F dx op, Sub F H ∧ Con W SS F H dx x ∧ slcD dx lo hi = some op ∧ Fin W SS F H op Q
theorem sl_any (hK : X.K = W.K) : SlR X (rSlc W) := by
  intro pins s σ H x v vl vu lo hi sl Q I rx h1 h2 h3 h
  obtain ⟨SS, F, dx, op, hs, cx, e, fin⟩ := h
  cases dx <;> try (cases e; done)
  case lst xs =>
    cases e
    obtain ⟨a, vs, rfl, h4, r⟩ := con_lst hs cx
    exact sl_list pins s σ H _ v vl vu lo hi sl Q I rx h1 h2 h3 ⟨a, vs, rfl, SqL.of h4, fun p n => fin.lst hs (reps_cut r lo hi) n⟩
  case tup xs =>
    cases e
    obtain ⟨a, vs, rfl, h0, h4, r⟩ := con_tup hs cx
    have rc := reps_cut r lo hi
    refine sl_tupA pins s σ H _ v vl vu lo hi sl Q I rx h1 h2 h3 ⟨a, vs, rfl, hK ▸ h4, fun hw => fin.rep hs ?_, fun _ p n => fin.tup hs rc n⟩
    unfold Rep
    refine ⟨a, vs, rfl, h0, ?_⟩
    have : cutV vs lo hi = vs := by
      unfold cutV
      rw [hw.1, hw.2, List.drop_zero, Nat.sub_zero, List.take_length]
    rw [← this]; exact rc
theorem pd_slc {lo hi : Option Expr} {elo ehi : Option Ex} {p2 : Pos} (hK : X.K = W.K) (ha : PD X W H0 Xw a (ev ea)) (hl : PO X lo (tR rOi W H0 Xw (optM ev elo))) (hh : PO X hi (tR rOi W H0 Xw (optM ev ehi))) : PD X W H0 Xw (.Subscript a (.Slice lo hi none p2) pos) (stepE S ev (.slc ea elo ehi)) :=
  PE_imp (pe_slice (sl_any hK) ha hl hh) fun σ H Q ⟨SS, F, δ, I, h⟩ => by
    have h' : (((ev ea).bind fun p => (optM ev elo).bind fun l => (optM ev ehi).bind fun h => (rd p).bind fun x => .opt (slcD x l h)) δ).wp (Post W SS H0 Xw σ F H δ Q) := h
    refine tR_bind rO_m I h' fun p δ1 x F1 H1 st1 I1 q1 h1 => ?_
    refine tR_bind rO_m I1 h1 fun l δ2 l' F2 H2 st2 I2 q2 h2 => ?_
    refine tR_bind rO_m I2 h2 fun u δ3 u' F3 H3 st3 I3 q3 h3 => ?_
    cases q2; cases q3
    obtain ⟨d, l1, h4⟩ := rd_inv h3
    obtain ⟨op, e, h5⟩ := opt_inv h4
    exact ⟨SS, F3, d, op, I3.sub, I3.look (OpOk.step I2 I3 st3 (OpOk.step I1 I2 st2 q1.1)) l1, e, fin_of I3 h5⟩
end
end T
end
section
set_option Elab.async false
set_option linter.all false
set_option autoImplicit false
set_option maxRecDepth 100000
/-! targets, what is walked -/
namespace T
open PySem PySem.Spec PyProof.Rows L2

section
variable {W : Wd} {SS : States} {H0 F H : Hp} {σ : L2.St} {δ : Env} {Xw : WX}
/-- a slot takes a frozen value -/
theorem EnvOk.put {i : Nat} {d : D} {v : V} (I : EnvOk W SS H0 F H σ δ) (r : Rep W SS F d v) (hi : i < δ.length) : EnvOk W SS H0 F H (σ.set i (some v)) (δ.set i (some (.val d))) := by
  have hd : δ[i]? = some (δ[i]) := List.getElem?_eq_getElem hi
  have hs : σ[i]? = some (σ[i]'(I.len ▸ hi)) := List.getElem?_eq_getElem (I.len ▸ hi)
  refine ⟨I.same, I.sub, I.sts, I.nds, I.tab, fun j y hy => ?_, fun j k d1 d2 b hjk h1 h2 h3 h4 => ?_, by rw [List.length_set, List.length_set]; exact I.len⟩
  · by_cases hj : i = j
    · subst hj
      rw [getElem?_set_eq hd] at hy
      cases hy
      exact ⟨v, getElem?_set_eq hs, r⟩
    · rw [getElem?_set_ne hj] at hy ⊢
      exact I.ent j y hy
  · by_cases hj : i = j
    · subst hj; rw [getElem?_set_eq hd] at h1; cases h1
    · by_cases hk : i = k
      · subst hk; rw [getElem?_set_eq hd] at h2; cases h2
      · rw [getElem?_set_ne hj] at h1 h3
        rw [getElem?_set_ne hk] at h2 h4
        exact I.sep j k d1 d2 b hjk h1 h2 h3 h4
end
mutual
/-- a target's slots -/
def tgS : Tg → List Nat
  | .n i => [i]
  | .t ts => tgSs ts
def tgSs : List Tg → List Nat
  | [] => []
  | t :: ts => tgS t ++ tgSs ts
end
/-- what is left behind a target's store -/
def TgQ (W : Wd) (SS : States) (H0 F H : Hp) (σ : L2.St) (S : List Nat) (Q : L2.St → Hp → Prop) : Ou Unit → Prop
  | .ok _ δ' => ∀ σ', EnvOk W SS H0 F H σ' δ' → σ'.length = σ.length → (∀ j, j ∉ S → σ'[j]? = σ[j]?) → (∀ j ∈ S, ∃ d, δ'[j]? = some (some (.val d))) → Q σ' H
  | .exc _ _ => False
def tG (W : Wd) (H0 : Hp) (tg : Tg) : TG := fun v σ H Q => ∃ SS F δ d, EnvOk W SS H0 F H σ δ ∧ Rep W SS F d v ∧ (tgM tg d δ).wp (TgQ W SS H0 F H σ (tgS tg) Q)
def tGs (W : Wd) (H0 : Hp) (tgs : List Tg) : TGs := fun vs σ H Q => ∃ SS F δ ds, EnvOk W SS H0 F H σ δ ∧ Reps W SS F ds vs ∧ (tgsM tgs ds δ).wp (TgQ W SS H0 F H σ (tgSs tgs) Q)
mutual
/-- a target leaves the other slots' entries -/
theorem tgM_out : ∀ (t : Tg) (d : D) (δ : Env) (P : Ou Unit → Prop), (tgM t d δ).wp P → ∃ δ', tgM t d δ = .ret (.ok () δ') ∧ δ'.length = δ.length ∧ (∀ j, j ∉ tgS t → δ'[j]? = δ[j]?) ∧ ∀ j ∈ tgS t, ∃ d, δ'[j]? = some (some (.val d))
  | .n i, d, δ, P, h => by
    unfold tgM at h ⊢
    by_cases hi : i < δ.length
    · rw [if_pos hi] at h ⊢
      refine ⟨_, rfl, List.length_set, fun j hj => ?_, fun j hj => ?_⟩
      · exact getElem?_set_ne fun e => hj (by simp [tgS, e])
      · have e : j = i := by simpa [tgS] using hj
        subst e
        exact ⟨d, getElem?_set_eq (List.getElem?_eq_getElem hi)⟩
    · rw [if_neg hi] at h; exact h.elim
  | .t ts, d, δ, P, h => by
    cases d <;> try exact (show False from h).elim
    case tup ds => exact tgsM_out ts ds δ P h
theorem tgsM_out : ∀ (ts : List Tg) (ds : List D) (δ : Env) (P : Ou Unit → Prop), (tgsM ts ds δ).wp P → ∃ δ', tgsM ts ds δ = .ret (.ok () δ') ∧ δ'.length = δ.length ∧ (∀ j, j ∉ tgSs ts → δ'[j]? = δ[j]?) ∧ ∀ j ∈ tgSs ts, ∃ d, δ'[j]? = some (some (.val d))
  | [], [], δ, P, h => ⟨δ, rfl, rfl, fun _ _ => rfl, fun j hj => by simp [tgSs] at hj⟩
  | [], _ :: _, δ, P, h => (show False from h).elim
  | _ :: _, [], δ, P, h => (show False from h).elim
  | t :: ts, d :: ds, δ, P, h => by
    have h' : (((tgM t d).bind fun _ => tgsM ts ds) δ).wp P := h
    obtain ⟨δ1, e1, l1, o1, s1⟩ := tgM_out t d δ _ (Tr.wp_bind.mp h')
    have h2 : (tgsM ts ds δ1).wp P := by
      have := Tr.wp_bind.mp h'
      rw [e1] at this
      exact this
    obtain ⟨δ2, e2, l2, o2, s2⟩ := tgsM_out ts ds δ1 P h2
    refine ⟨δ2, ?_, l2.trans l1, fun j hj => ?_, fun j hj => ?_⟩
    · show ((tgM t d δ).bind _) = _
      rw [e1]; exact e2
    · unfold tgSs at hj
      rw [List.mem_append, not_or] at hj
      rw [o2 j hj.2, o1 j hj.1]
    · unfold tgSs at hj
      rw [List.mem_append] at hj
      by_cases hj2 : j ∈ tgSs ts
      · exact s2 j hj2
      · rcases hj with hj | hj
        · obtain ⟨d, e⟩ := s1 j hj
          exact ⟨d, by rw [o2 j hj2]; exact e⟩
        · exact absurd hj hj2
end
theorem tgsM_len : ∀ {ts : List Tg} {ds : List D} {δ : Env} {P : Ou Unit → Prop}, (tgsM ts ds δ).wp P → ds.length = ts.length
  | [], [], _, _, _ => rfl
  | [], _ :: _, _, _, h => (show False from h).elim
  | _ :: _, [], _, _, h => (show False from h).elim
  | t :: ts, d :: ds, δ, P, h => by
    have h' : (((tgM t d).bind fun _ => tgsM ts ds) δ).wp P := h
    obtain ⟨δ1, e1, _⟩ := tgM_out t d δ _ (Tr.wp_bind.mp h')
    have h2 : (tgsM ts ds δ1).wp P := by
      have := Tr.wp_bind.mp h'
      rw [e1] at this
      exact this
    rw [List.length_cons, List.length_cons, tgsM_len h2]
section
variable {X : Cx} {W : Wd} {H0 : Hp} {Xw : WX} {S : Sig} {ev : Ex → EvM Op} {a b c e : Expr} {ea eb ec : Ex} {pos : Pos} {es rest : List Expr} {eas : List Ex} {tg : Expr} {t : Tg} {ts : List Tg}
theorem PG_imp {t t' : TG} (h : PG X tg t) (i : ∀ v σ H Q, t' v σ H Q → t v σ H Q) : PG X tg t' := ⟨fun pins s σ H v u Q I r q => h.run pins s σ H v u Q I r (i v σ H Q q)⟩
theorem PGs_imp {t t' : TGs} (h : PGs X es t) (i : ∀ v σ H Q, t' v σ H Q → t v σ H Q) : PGs X es t' := ⟨fun pins s σ H v u Q I r q => h.run pins s σ H v u Q I r (i v σ H Q q)⟩
theorem pgd_name {i : Nat} {x : Str} (hN : X.N.Nodup) (hi : X.N[i]? = some x) (hx : Loc X.env.scope x) (hf : X.fn x = true ∨ X.env.scope.names.lookup x = some .local := by first | exact .inl rfl | exact .inr rfl | assumption) : PG X (.Name x pos) (tG W H0 (.n i)) :=
  PG_imp (pg_name hN hi hx hf) fun v σ H Q ⟨SS, F, δ, d, I, r, h⟩ => by
    unfold tgM at h
    by_cases hi : i < δ.length
    · rw [if_pos hi] at h
      refine h (σ.set i (some v)) (I.put r hi) List.length_set (fun j hj => getElem?_set_ne fun e => hj (by simp [tgS, e])) fun j hj => ?_
      have e : j = i := by simpa [tgS] using hj
      subst e
      exact ⟨d, getElem?_set_eq (List.getElem?_eq_getElem hi)⟩
    · rw [if_neg hi] at h; exact h.elim
theorem pgds_nil : PGs X [] (tGs W H0 []) := PGs_imp pgs_nil fun v σ H Q ⟨SS, F, δ, ds, I, r, h⟩ => by
  cases ds with
  | cons _ _ => exact (show False from h).elim
  | nil =>
    unfold Reps at r
    exact ⟨r, h σ I rfl (fun _ _ => rfl) fun j hj => by simp [tgSs] at hj⟩
theorem pgds_cons (h1 : PG X e (tG W H0 t)) (h2 : PGs X es (tGs W H0 ts)) (hs : (assignEach (e :: es) X.env).map (·.2) = assign e X.env :: (assignEach es X.env).map (·.2) := by rfl) : PGs X (e :: es) (tGs W H0 (t :: ts)) :=
  PGs_imp (pgs_cons h1 h2 hs) fun vs σ H Q ⟨SS, F, δ, ds, I, r, h⟩ => by
    cases ds with
    | nil => exact (show False from h).elim
    | cons d ds =>
      obtain ⟨v, rs, rfl, r1, r2⟩ := r.cons_inv
      have h' : (((tgM t d).bind fun _ => tgsM ts ds) δ).wp (TgQ W SS H0 F H σ (tgSs (t :: ts)) Q) := h
      obtain ⟨δ1, e1, l1, o1, s1⟩ := tgM_out t d δ _ (Tr.wp_bind.mp h')
      have h3 : (tgsM ts ds δ1).wp (TgQ W SS H0 F H σ (tgSs (t :: ts)) Q) := by
        have := Tr.wp_bind.mp h'
        rw [e1] at this
        exact this
      refine ⟨v, rs, rfl, SS, F, δ, d, I, r1, ?_⟩
      rw [e1]
      intro σ1 I1 le1 k1 _
      obtain ⟨δ2, e2, l2, o2, s2⟩ := tgsM_out ts ds δ1 _ h3
      refine ⟨SS, F, δ1, ds, I1, r2, ?_⟩
      rw [e2] at h3 ⊢
      intro σ2 I2 le2 k2 _
      refine h3 σ2 I2 (le2.trans le1) (fun j hj => ?_) fun j hj => ?_
      · unfold tgSs at hj
        rw [List.mem_append, not_or] at hj
        rw [k2 j hj.2, k1 j hj.1]
      · unfold tgSs at hj
        rw [List.mem_append] at hj
        by_cases hj2 : j ∈ tgSs ts
        · exact s2 j hj2
        · rcases hj with hj | hj
          · obtain ⟨d, e⟩ := s1 j hj
            exact ⟨d, by rw [o2 j hj2]; exact e⟩
          · exact absurd hj hj2
theorem pgd_tup {k : Nat} (hc : X.calm = true) (hK : X.K = W.K) (h : PGs X es (tGs W H0 ts)) (hn : (assignEach es X.env).length = ts.length := by rfl) (hst : (assignEach es X.env).findIdx? (·.1) = none := by rfl) : PG X (.Tuple es k pos) (tG W H0 (.t ts)) :=
  PG_imp (pg_tup hc h hn hst) fun v σ H Q ⟨SS, F, δ, d, I, r, h⟩ => by
    cases d <;> try exact (show False from h).elim
    case tup ds =>
      unfold Rep at r
      obtain ⟨a, vs, rfl, q, r⟩ := r
      have h' : (tgsM ts ds δ).wp (TgQ W SS H0 F H σ (tgSs ts) Q) := h
      refine ⟨a, vs, rfl, hK ▸ I.sub.sqT q, ?_, SS, F, δ, ds, I, r, h'⟩
      rw [← r.length, tgsM_len h']
/-! ### what is walked -/
structure DW (W : Wd) (SS : States) (H0 F : Hp) (J : L2.It) (ds : List D) : Prop where
  goes : ∀ i H, i < ds.length → Sub F H → SameS SS H0 H → J.go i H
  stops : ∀ H, Sub F H → SameS SS H0 H → J.stop ds.length H
  len : ds.length ≤ sizeLine
  yields : ∀ i H x H', i < ds.length → J.yld i H x H' → ∀ F1, Sub F F1 → Sub F1 H → SameS SS H0 H → ∃ F2 d, Grow F1 H F2 H' ∧ ds[i]? = some d ∧ Rep W SS F2 d x
def rI (W : Wd) (H0 : Hp) : RelR (List D) L2.It := fun SS _ _ F _ _ ds J => DW W SS H0 F J ds
theorem rI_m {W : Wd} {H0 : Hp} : RM (rI W H0) := fun _ _ _ _ _ _ _ _ _ _ h => h
/-- a list that is read, now and while all stays -/
def LstAt (W : Wd) (SS : States) (H0 F : Hp) (a : Addr) (vs : List V) : Prop := ∀ H, Sub F H → SameS SS H0 H → H a = some (.lst vs)
def TupAt (W : Wd) (SS : States) (H0 F : Hp) (a : Addr) (vs : List V) : Prop := SqT W.K F a vs
theorem bor_lst {SS : States} {F : Hp} {ds : List D} {x : V} (h : BorOk W SS H0 F (.lst ds) x) : ∃ a vs, x = .ref a ∧ LstAt W SS H0 F a vs ∧ Reps W SS F ds vs := by
  rcases h with h | ⟨a, o, e, h1, h2, h3, _⟩
  · unfold Rep at h
    obtain ⟨a, vs, e, q, r⟩ := h
    exact ⟨a, vs, e, fun H s _ => s _ _ q, r⟩
  · obtain ⟨vs, rfl, r⟩ := h3
    exact ⟨a, vs, e, fun H _ s => s _ _ h2 h1, r⟩
theorem bor_tup {SS : States} {F : Hp} {ds : List D} {x : V} (h : BorOk W SS H0 F (.tup ds) x) : ∃ a vs, x = .ref a ∧ SqT W.K F a vs ∧ Reps W SS F ds vs := by
  rcases h with h | ⟨a, o, e, h1, h2, h3, _⟩
  · unfold Rep at h; exact h
  · exact h3.elim
theorem reps_at {SS : States} {F : Hp} {ds : List D} {vs : List V} {i : Nat} {x : V} (r : Reps W SS F ds vs) (h : vs[i]? = some x) : ∃ d, ds[i]? = some d ∧ Rep W SS F d x := by
  have hl : i < ds.length := by
    rw [r.length]
    rcases Nat.lt_or_ge i vs.length with q | q
    · exact q
    · rw [List.getElem?_eq_none q] at h; cases h
  have e : ds[i]? = some ds[i] := List.getElem?_eq_getElem hl
  obtain ⟨v, h1, h2⟩ := r.get e
  rw [h] at h1; cases h1
  exact ⟨_, e, h2⟩
theorem dw_lst {SS : States} {F : Hp} {ds : List D} {K : PySem.W.Frag} {a : Addr} {vs : List V} (hz : vs.length ≤ sizeLine) (l : LstAt W SS H0 F a vs) (r : Reps W SS F ds vs) : DW W SS H0 F (Itl K a) ds where
  goes := fun i H hi s e => by
    rw [r.length] at hi
    exact ⟨vs, vs[i], SqL.of (l H s e), List.getElem?_eq_getElem hi⟩
  stops := fun H s e => ⟨vs, SqL.of (l H s e), by rw [r.length]; exact Nat.le_refl _⟩
  len := by rw [r.length]; exact hz
  yields := fun i H x H' hi ⟨e, y⟩ F1 s1 s2 e' => by
    subst e
    obtain ⟨d, h1, h2⟩ := reps_at r (y vs (SqL.of (l _ (s1.trans s2) e')))
    exact ⟨F1, d, .refl s2, h1, Rep.mono s1 d x h2⟩
theorem dw_tup {SS : States} {F : Hp} {ds : List D} {K : PySem.W.Frag} {a : Addr} {vs : List V} (hz : vs.length ≤ sizeLine) (l : SqT K F a vs) (r : Reps W SS F ds vs) : DW W SS H0 F (Itt K a) ds where
  goes := fun i H hi s e => by
    rw [r.length] at hi
    exact ⟨vs, vs[i], s.sqT l, List.getElem?_eq_getElem hi⟩
  stops := fun H s e => ⟨vs, s.sqT l, by rw [r.length]; exact Nat.le_refl _⟩
  len := by rw [r.length]; exact hz
  yields := fun i H x H' hi ⟨e, y⟩ F1 s1 s2 e' => by
    subst e
    obtain ⟨d, h1, h2⟩ := reps_at r (y vs ((s1.trans s2).sqT l))
    exact ⟨F1, d, .refl s2, h1, Rep.mono s1 d x h2⟩
abbrev PID (X : Cx) (W : Wd) (H0 : Hp) (Xw : WX) (tg e : Expr) (m : EvM (List D)) : Prop := PI X tg e (tR (rI W H0) W H0 Xw m)
/-- the reading of the source of a walk -/
theorem io_of {SS : States} {F H : Hp} {σ : L2.St} {δ : Env} {R : L2.It → Hp → Prop} {f : D → EvM (List D)} (I : EnvOk W SS H0 F H σ δ) (h : (((ev ea).bind fun o => (io o).bind f) δ).wp (PostR (rI W H0) W SS H0 Xw σ F H δ R)) :
    tD W H0 Xw (ev ea) σ H fun x H1 => ∃ F2 δ2 d, EnvOk W SS H0 F2 H1 σ δ2 ∧ BorOk W SS H0 F2 d x ∧ (f d δ2).wp (PostR (rI W H0) W SS H0 Xw σ F2 H1 δ2 R) := by
  refine tR_bind0 I h fun p δ1 x F1 H1 st1 I1 q1 h1 => ?_
  obtain ⟨d, F2, δ2, st2, I2, r, h2⟩ := io_inv st1 I1 q1 h1
  exact ⟨F2, δ2, d, I2, r, Tr.wp_mono (fun _ z => PostR.shift rI_m I st2 z) h2⟩
/-- the keys of the dict that is the object o at d -/
def Itw (d : Addr) (o : Obj) (es : Array DictEntry) : L2.It :=
  ⟨fun i H => H d = some (dObj d o) ∧ i < es.size, fun i H x H' => H' = H ∧ ∃ en, es[i]? = some en ∧ RelV x en.key, fun i H => H d = some (dObj d o) ∧ es.size ≤ i⟩
theorem relV_ex (u : Value) (h : ∃ x, RelV x u) : ∃ x, RelV x u := h
theorem turn_w {P : Program} {w : World} {K : PySem.W.Frag} {tg : Expr} {d : Addr} {o : Obj} {es : Array DictEntry} {ep : Nat} (it : Addr) (hod : o.data = .dict es ep) (hx : ∀ en ∈ es.toList, ∃ x, RelV x en.key) : Turn P w K tg (Itw d o es) [it] it (fun i h => h.IsKeyIter it d i es.size ep) where
  mem := by simp
  obj := fun i h st b hb => by
    have e : b = it := by simpa using hb
    subst e
    obtain ⟨oi, e, c, dd⟩ := st
    exact ⟨oi, e, fun v z => by rw [dd] at z; cases z⟩
  keep := fun i h h' st k => st.at fun oi e => k it (by simp) oi e
  item := by
    intro X hP hw hK hc i pins s σ H E I hf st hg
    subst hP hw hK
    obtain ⟨hd, hi⟩ := hg
    obtain ⟨f0, f1, f2, f3, f4, f5⟩ := hf it (by simp)
    have hgd := dobj_get I.hok hd
    have hen : es[i]? = some es[i] := Array.getElem?_eq_getElem hi
    obtain ⟨x, rx⟩ := hx es[i] (by simp)
    refine next_key_item st hgd hod rfl hen fun h' st' sb => ?_
    have I1 : Inv X pins σ H { s with heap := h' } := I.turned (t' := s.toks) (fun b ob hb e => (sb.2 b hb).trans e) f0 f1 f3 f4 f5
    obtain ⟨oi, e, c, dd⟩ := id st'
    exact ⟨es[i].key, rfl, go_of (s := { s with heap := h' }) e c dd (by decide) ⟨x, H, I1, rx, ⟨rfl, es[i], hen, rx⟩, st', fun b hb => (hf b hb).1⟩⟩
  done := by
    intro X hP hw hK hc i pins s σ H E I hf st hg
    subst hP hw hK
    obtain ⟨hd, hi⟩ := hg
    obtain ⟨f0, f1, f2, f3, f4, f5⟩ := hf it (by simp)
    have hgd := dobj_get I.hok hd
    exact next_key_end (I.ok.hd hc) st hgd hod rfl hi fun h' eb => ⟨rfl, I.turned (t' := s.toks) (fun b ob hb e => eb b ob hb e) f0 f1 f3 f4 f5⟩
  self := fun A i s Q E st h => by
    refine wpAny_pyIter_slot st.typeIs F.slot_dict_keyiterator_iter (wpAny_call_entry F.slot_dict_keyiterator_iter st.typeIs F.entry_dict_keyiterator_iter ?_ (F.args_dict_keyiterator_iter_1 _))
    show wpAny _ _ (ret (.ref it)) _ _ s
    exact wpAny_pure ⟨_, rfl, "dict_keyiterator", _, st.typeIs, F.slot_dict_keyiterator_next.lookup, h⟩
theorem repE_at {SS : States} {F : Hp} {t : Bool} : ∀ {kvs : List (D × D)} {es : List DictEntry} {i : Nat} {en : DictEntry}, RepE W SS F t kvs es → es[i]? = some en → ∃ p v, kvs[i]? = some p ∧ RelV v en.key ∧ Rep W SS F p.1 v
  | [], _, _, _, h, e => by unfold RepE at h; subst h; simp at e
  | (k, d) :: xs, _, 0, en, h, e => by
    unfold RepE at h
    obtain ⟨e0, r, rfl, _, ⟨v, h2, h3⟩, _⟩ := h
    cases (Option.some.inj e)
    exact ⟨(k, d), v, rfl, h2, h3⟩
  | (k, d) :: xs, _, i + 1, en, h, e => by
    unfold RepE at h
    obtain ⟨e0, r, rfl, _, _, _, _, h7⟩ := h
    obtain ⟨p, v, q1, q2, q3⟩ := repE_at (i := i) h7 (by simpa using e)
    exact ⟨p, v, by simpa using q1, q2, q3⟩
theorem repE_len {SS : States} {F : Hp} {t : Bool} : ∀ {kvs : List (D × D)} {es : List DictEntry}, RepE W SS F t kvs es → es.length = kvs.length
  | [], _, h => by unfold RepE at h; subst h; rfl
  | (k, d) :: xs, _, h => by
    unfold RepE at h
    obtain ⟨e0, r, rfl, _, _, _, _, h7⟩ := h
    rw [List.length_cons, List.length_cons, repE_len h7]
theorem bor_dct {SS : States} {F : Hp} {t : Bool} {kvs : List (D × D)} {x : V} (h : BorOk W SS H0 F (.dct t kvs) x) : ∃ a o es ep, x = .ref a ∧ (∀ H, Sub F H → SameS SS H0 H → H a = some (dObj a o)) ∧ o.ExactDict ∧ o.data = .dict es ep ∧ (a == sysModules) = false ∧ es.size ≤ sizeLine ∧ NdK kvs ∧ RepE W SS F t kvs es.toList := by
  rcases h with h | ⟨a, o, e, h1, h2, h3, _⟩
  · unfold Rep at h
    obtain ⟨a, o, es, ep, e, q, r⟩ := h
    exact ⟨a, o, es, ep, e, fun H s _ => s _ _ q, r⟩
  · obtain ⟨ob, es, ep, rfl, r⟩ := h3
    exact ⟨a, ob, es, ep, e, fun H _ s => s _ _ h2 h1, r⟩
theorem dw_w {SS : States} {F : Hp} {t : Bool} {kvs : List (D × D)} {a : Addr} {o : Obj} {es : Array DictEntry} (hz : es.size ≤ sizeLine) (l : ∀ H, Sub F H → SameS SS H0 H → H a = some (dObj a o)) (r : RepE W SS F t kvs es.toList) : DW W SS H0 F (Itw a o es) (kvs.map (·.1)) where
  goes := fun i H hi s e => by
    rw [List.length_map, ← repE_len r] at hi
    exact ⟨l H s e, by simpa using hi⟩
  stops := fun H s e => ⟨l H s e, by rw [List.length_map, ← repE_len r]; simp⟩
  len := by rw [List.length_map, ← repE_len r]; simpa using hz
  yields := fun i H x H' hi ⟨e, en, h1, h2⟩ F1 s1 s2 e' => by
    subst e
    obtain ⟨p, v, q1, q2, q3⟩ := repE_at r (i := i) (en := en) (by rw [Array.getElem?_toList]; exact h1)
    have : v = x := q2.inj h2
    subst this
    exact ⟨F1, p.1, .refl s2, by rw [List.getElem?_map, q1]; rfl, Rep.mono s1 _ _ q3⟩
theorem dw_str {SS : States} {F : Hp} {x : Str} (hz : x.length ≤ sizeLine) : DW W SS H0 F (Its x) (x.cps.toList.map sgn) where
  goes := fun i H hi s e => by
    show i < x.cps.size
    simpa using hi
  stops := fun H s e => by
    show x.cps.size ≤ _
    simp
  len := by
    have h : x.cps.size ≤ sizeLine := hz
    simpa using h
  yields := fun i H v H' hi ⟨e, c, h1, h2⟩ F1 s1 s2 e' => by
    subst e h2
    refine ⟨F1, sgn c, .refl s2, ?_, rep_str⟩
    rw [List.getElem?_map, Array.getElem?_toList, h1]
    rfl
/-- a list, a tuple, a text, a dict -/
theorem pid_of (hK : X.K = W.K) (ha : PD X W H0 Xw a (ev ea)) : PID X W H0 Xw tg a (itM ev (.of ea)) := by
  refine ⟨fun pins s σ H R I ⟨SS, F, δ, J, h⟩ => ?_⟩
  refine thn (ha.run pins s σ H _ I (io_of J h)) fun v s1 ⟨x, H1, I1, r1, F2, δ2, d, J2, r, h2⟩ => ?_
  obtain ⟨ds, e, h3⟩ := opt_inv h2
  cases d <;> try (cases e; done)
  case str x =>
    have e' : (if fits x.length then some (x.cps.toList.map sgn) else none) = some ds := e
    simp only [Option.ite_none_right_eq_some, Option.some.injEq] at e'
    obtain ⟨hz, rfl⟩ := e'
    replace hz := fits_ok hz
    rcases r with r | ⟨_, _, _, _, _, h, _⟩
    · unfold Rep at r
      subst r
      obtain ⟨t, rfl⟩ := r1
      cases ha : x.cps.all (· < 128)
      · exact wpAny_pyIter_wide ha (pi_one (tk := s1.toks) I1 _ (turn_str _ x t "str_iterator" (.inr rfl)) ⟨_, Heap.get?_push_size _ rfl, rfl, rfl⟩ (h3 _ F2 H1 .refl J2 (dw_str hz)))
      · exact wpAny_pyIter_ascii ha (pi_one (tk := s1.toks) I1 _ (turn_str _ x t "str_ascii_iterator" (.inl rfl)) ⟨_, Heap.get?_push_size _ rfl, rfl, rfl⟩ (h3 _ F2 H1 .refl J2 (dw_str hz)))
    · exact h.elim
  case lst xs =>
    cases e
    obtain ⟨a, vs, rfl, l, r⟩ := bor_lst r
    cases r1
    have hq : SqL X.K H1 a vs := SqL.of (l H1 J2.sub J2.same)
    obtain ⟨its, rv, p, hz⟩ := I1.list hq
    refine wpAny_pyIter_list p.isList ?_
    exact pi_one (tk := s1.toks) I1 _ (turn_list a _) ⟨_, Heap.get?_push_size _ rfl, rfl, rfl⟩ (h3 _ F2 H1 .refl J2 (dw_lst hz l r))
  case tup xs =>
    cases e
    obtain ⟨a, vs, rfl, l, r⟩ := bor_tup r
    cases r1
    have hq : SqT X.K H1 a vs := hK ▸ J2.sub.sqT l
    obtain ⟨its, rv, p, hz⟩ := I1.tuple hq
    refine wpAny_pyIter_tuple (show s1.heap.IsTuple a its.toArray from p) ?_
    exact pi_one (tk := s1.toks) I1 _ (turn_tuple a _) ⟨_, Heap.get?_push_size _ rfl, rfl, rfl⟩ (h3 _ F2 H1 .refl J2 (dw_tup hz (hK ▸ l) r))
  case dct t kvs =>
    cases e
    obtain ⟨a, o, es, ep, rfl, l, g1, g2, g3, g4, g5, r⟩ := bor_dct r
    cases r1
    refine iter_keys g3 (dobj_get I1.hok (l H1 J2.sub J2.same)) g1 g2 ?_
    refine pi_one (tk := s1.toks) I1 _ (turn_w _ g2 fun en hen => ?_) ⟨_, Heap.get?_push_size _ rfl, rfl, rfl⟩ (h3 _ F2 H1 .refl J2 (dw_w g4 l r))
    obtain ⟨i, hi⟩ := List.getElem?_of_mem hen
    obtain ⟨p, v, _, q2, _⟩ := repE_at r hi
    exact ⟨v, q2⟩
/-- range -/
theorem dw_range {SS : States} {F : Hp} {lo : Int} {n : Nat} (hz : n ≤ sizeLine) : DW W SS H0 F (Itr lo n) ((List.range n).map fun (k : Nat) => D.int (lo + (k : Int))) where
  goes := fun i H hi s e => by
    show i < n
    simpa using hi
  stops := fun H s e => by
    show n ≤ _
    simp
  len := by simpa using hz
  yields := fun i H v H' hi ⟨e, h2⟩ F1 s1 s2 e' => by
    subst e h2
    refine ⟨F1, .int (lo + (i : Int)), .refl s2, ?_, rep_int⟩
    have : i < n := by simpa using hi
    rw [List.getElem?_map, List.getElem?_range this]
    rfl
theorem PI_imp {t t' : TI} (h : PI X tg e t) (i : ∀ σ H R, t' σ H R → t σ H R) : PI X tg e t' := ⟨fun pins s σ H R I q => h.run pins s σ H R I (i σ H R q)⟩
theorem rngD_inv {lo hi : Int} {ds : List D} (h : rngD lo hi = some ds) : (-(2 ^ 62) ≤ lo ∧ lo < 2 ^ 62 ∧ -(2 ^ 62) ≤ hi ∧ hi < 2 ^ 62) ∧ (hi - lo).toNat ≤ sizeLine ∧ ds = (List.range (hi - lo).toNat).map fun (k : Nat) => D.int (lo + (k : Int)) := by
  unfold rngD big62 at h
  simp only [Option.ite_none_right_eq_some, Option.some.injEq, Bool.and_eq_true, decide_eq_true_eq] at h
  obtain ⟨⟨⟨⟨⟨h1, h2⟩, h3⟩, h4⟩, h5⟩, h6⟩ := h
  exact ⟨⟨by omega, by omega, by omega, by omega⟩, fits_ok h5, h6.symm⟩
theorem pid_range1 {p : Pos} (hg : Gl X "range") (hm : X.mg "range" = none) (ha : PD X W H0 Xw a (ev ea)) (hs : starEach [a] X.env = [(false, eval a X.env)] := by rfl) : PID X W H0 Xw tg (.Call (.Name "range" p) [a] [] pos) (itM ev (.range none ea)) :=
  PI_imp (pi_range1 hg hm (pa_cons ha pa_nil hs) hs) fun σ H R ⟨SS, F, δ, I, h⟩ => by
    have h' : (((evD ev ea).bind fun d => match intD d with
      | some i => EvM.opt (rngD 0 i)
      | none => .bad) δ).wp (PostR (rI W H0) W SS H0 Xw σ F H δ R) := h
    rw [evD_eq] at h'
    refine tR_bind rI_m I h' fun p δ1 x F1 H1 st1 I1 q1 h1 => ?_
    obtain ⟨d, l, h2⟩ := rd_inv h1
    cases hi : intD d with
    | none => rw [hi] at h2; exact h2.elim
    | some i =>
      rw [hi] at h2
      cases intD_inv hi
      cases con_int (I1.look q1.1 l)
      obtain ⟨ds, e, h3⟩ := opt_inv h2
      obtain ⟨⟨_, _, g3, g4⟩, g5, rfl⟩ := rngD_inv e
      refine ⟨i, rfl, g3, g4, ?_⟩
      have := h3 (Itr 0 (i - 0).toNat) F1 H1 .refl I1 (dw_range g5)
      rw [Int.sub_zero] at this
      exact this
theorem pid_range2 {p : Pos} (hg : Gl X "range") (hm : X.mg "range" = none) (ha : PD X W H0 Xw a (ev ea)) (hb : PD X W H0 Xw b (ev eb)) (hs : starEach [a, b] X.env = [(false, eval a X.env), (false, eval b X.env)] := by rfl) (hs2 : starEach [b] X.env = [(false, eval b X.env)] := by rfl) : PID X W H0 Xw tg (.Call (.Name "range" p) [a, b] [] pos) (itM ev (.range (some ea) eb)) :=
  PI_imp (pi_range2 hg hm (pa_cons ha (pa_cons hb pa_nil hs2) (by rw [hs, hs2])) hs hs2) fun σ H R ⟨SS, F, δ, I, h⟩ => by
    have h' : (((evD ev ea).bind fun c => (evD ev eb).bind fun d => match intD c, intD d with
      | some i, some j => EvM.opt (rngD i j)
      | _, _ => .bad) δ).wp (PostR (rI W H0) W SS H0 Xw σ F H δ R) := h
    rw [evD_eq] at h'
    refine tR_bind rI_m I h' fun p δ1 x F1 H1 st1 I1 q1 h1 => ?_
    obtain ⟨c, l, h2⟩ := rd_inv h1
    rw [evD_eq] at h2
    have cx := I1.look q1.1 l
    refine tR_bind rI_m I1 h2 fun p2 δ2 y F2 H2 st2 I2 q2 h3 => ?_
    obtain ⟨d, l2, h4⟩ := rd_inv h3
    have cy := I2.look q2.1 l2
    cases hc : intD c with
    | none => rw [hc] at h4; exact h4.elim
    | some i =>
      cases hi : intD d with
      | none => rw [hc, hi] at h4; exact h4.elim
      | some j =>
        rw [hc, hi] at h4
        cases intD_inv hc
        cases intD_inv hi
        cases con_int cx
        cases con_int cy
        obtain ⟨ds, e, h5⟩ := opt_inv h4
        obtain ⟨g1, g5, rfl⟩ := rngD_inv e
        exact ⟨i, j, rfl, g1, h5 (Itr i (j - i).toNat) F2 H2 .refl I2 (dw_range g5)⟩
end
end T
end
section
set_option Elab.async false
set_option linter.all false
set_option autoImplicit false
set_option maxRecDepth 100000
/-! zip, enumerate -/
namespace T
open PySem PySem.Spec PyProof.Rows L2
section
variable {X : Cx} {W : Wd} {H0 : Hp} {Xw : WX} {S : Sig} {ev : Ex → EvM Op} {a b c e : Expr} {ea eb ec : Ex} {pos : Pos} {es rest : List Expr} {eas : List Ex} {tg : Expr} {t : Tg} {ts : List Tg}
/-- the next pair of a walk over two -/
theorem dw_pairs {SS : States} {F : Hp} {J : L2.It} {ds es : List D} {vs us : List V} (hz : vs.length ≤ sizeLine ∨ us.length ≤ sizeLine) (r : Reps W SS F ds vs) (q : Reps W SS F es us) (go : ∀ i H (x y : V), Sub F H → SameS SS H0 H → vs[i]? = some x → us[i]? = some y → J.go i H) (st : ∀ i H, Sub F H → SameS SS H0 H → (vs.length ≤ i ∨ us.length ≤ i) → J.stop i H)
    (yl : ∀ i H v H', J.yld i H v H' → Sub F H → SameS SS H0 H → ∃ T x y, v = .ref T ∧ H T = none ∧ H' = upd H T (.tup [x, y]) ∧ vs[i]? = some x ∧ us[i]? = some y) : DW W SS H0 F J (List.zipWith (fun x y => D.tup [x, y]) ds es) where
  goes := fun i H hi s e => by
    rw [List.length_zipWith, r.length, q.length] at hi
    exact go i H (vs[i]'(by omega)) (us[i]'(by omega)) s e (List.getElem?_eq_getElem _) (List.getElem?_eq_getElem _)
  stops := fun H s e => st _ H s e (by rw [List.length_zipWith, r.length, q.length]; omega)
  len := by rw [List.length_zipWith, r.length, q.length]; omega
  yields := fun i H v H' hi yy F1 s1 s2 e' => by
    obtain ⟨T, x, y, rfl, n, rfl, h1, h2⟩ := yl i H v H' yy (s1.trans s2) e'
    obtain ⟨d, g1, g2⟩ := reps_at r h1
    obtain ⟨e, g3, g4⟩ := reps_at q h2
    have g := Grow.put (o := .tup [x, y]) s2 n
    refine ⟨_, .tup [d, e], g, ?_, ?_⟩
    · rw [List.getElem?_zipWith, g1, g3]
    · unfold Rep
      exact ⟨T, [x, y], rfl, .inl (.inl upd_same), .cons (Rep.mono (s1.trans g.sub) _ _ g2) (.cons (Rep.mono (s1.trans g.sub) _ _ g4) .nil)⟩
theorem seqD_inv {d : D} {xs : List D} (h : seqD d = some xs) : d = .lst xs ∨ d = .tup xs := by
  cases d <;> first | (cases h; exact .inl rfl) | (cases h; exact .inr rfl) | (cases h; done)
theorem pid_zip {elts : List Expr} {kk : Nat} {tpos p : Pos} (hK : X.K = W.K) (hg : Gl X "zip") (hm : X.mg "zip" = none) (ha : PD X W H0 Xw a (ev ea)) (hb : PD X W H0 Xw b (ev eb)) (hs : starEach [a, b] X.env = (false, eval a X.env) :: starEach [b] X.env := by rfl) (hs2 : starEach [b] X.env = (false, eval b X.env) :: starEach [] X.env := by rfl) (hpl : (backTo pos (starEach [b] X.env)).any (·.1) = false := by rfl) : PID X W H0 Xw (.Tuple elts kk tpos) (.Call (.Name "zip" p) [a, b] [] pos) (itM ev (.zip ea eb)) :=
  PI_imp (RZ.pi_zipA hg hm (pa_cons ha (pa_cons hb pa_nil hs2) hs) hs hpl) fun σ H R ⟨SS, F, δ, I, h⟩ => by
    have h' : (((ev ea).bind fun o => (io o).bind fun c => (ev eb).bind fun p => (io p).bind fun d => match c, d with
      | .lst xs, .lst ys => if fits xs.length then EvM.pure (List.zipWith (fun x y => D.tup [x, y]) xs ys) else .bad
      | .tup xs, .tup ys => if fits xs.length then EvM.pure (List.zipWith (fun x y => D.tup [x, y]) xs ys) else .bad
      | _, _ => .bad) δ).wp (PostR (rI W H0) W SS H0 Xw σ F H δ R) := h
    refine tR_bind0 I h' fun p δ1 x F1 H1 st1 I1 q1 h1 => ?_
    obtain ⟨c, F2, δ2, st2, I2, r1, h2⟩ := io_inv st1 I1 q1 h1
    refine tR_bind0 I2 (Tr.wp_mono (fun _ z => PostR.shift rI_m I st2 z) h2) fun p δ3 y F3 H3 st3 I3 q3 h3 => ?_
    obtain ⟨d, F4, δ4, st4, I4, r2, h4⟩ := io_inv st3 I3 q3 h3
    have h5 := Tr.wp_mono (fun _ z => PostR.shift rI_m I2 st4 z) h4
    cases c <;> try exact h5.elim
    case lst xs =>
      cases d <;> try exact h5.elim
      case lst ys =>
        obtain ⟨hz, h5⟩ := iteb_inv h5
        replace hz := fits_ok hz
        obtain ⟨a1, vs, rfl, l1, r1⟩ := bor_lst r1
        obtain ⟨a2, us, rfl, l2, r2⟩ := bor_lst r2
        have l1' : LstAt W SS H0 F4 a1 vs := fun H s e => l1 H (st4.sub.trans s) e
        refine ⟨a1, a2, vs, us, rfl, .inl ⟨SqL.of (l1' _ I4.sub I4.same), SqL.of (l2 _ I4.sub I4.same), h5 _ F4 H3 .refl I4 (dw_pairs (.inl (r1.length ▸ hz)) (r1.mono st4.sub) r2 (fun i H x y s e hx hy => ?_) (fun i H s e h => ?_) fun i H v H' y s e => ?_)⟩⟩
        · exact ⟨vs, us, x, y, SqL.of (l1' _ s e), SqL.of (l2 _ s e), hx, hy⟩
        · exact ⟨vs, us, SqL.of (l1' _ s e), SqL.of (l2 _ s e), h⟩
        · obtain ⟨T, x, z, e1, n, e2, k1, k2⟩ := y
          exact ⟨T, x, z, e1, n, e2, k1 _ (SqL.of (l1' _ s e)), k2 _ (SqL.of (l2 _ s e))⟩
    case tup xs =>
      cases d <;> try exact h5.elim
      case tup ys =>
        obtain ⟨hz, h5⟩ := iteb_inv h5
        replace hz := fits_ok hz
        obtain ⟨a1, vs, rfl, l1, r1⟩ := bor_tup r1
        obtain ⟨a2, us, rfl, l2, r2⟩ := bor_tup r2
        have l1' : SqT W.K F4 a1 vs := st4.sub.sqT l1
        refine ⟨a1, a2, vs, us, rfl, .inr ⟨hK ▸ I4.sub.sqT l1', hK ▸ I4.sub.sqT l2, h5 _ F4 H3 .refl I4 (dw_pairs (.inl (r1.length ▸ hz)) (r1.mono st4.sub) r2 (fun i H x y s e hx hy => ?_) (fun i H s e h => ?_) fun i H v H' y s e => ?_)⟩⟩
        · exact ⟨vs, us, x, y, hK ▸ s.sqT l1', hK ▸ s.sqT l2, hx, hy⟩
        · exact ⟨vs, us, hK ▸ s.sqT l1', hK ▸ s.sqT l2, h⟩
        · obtain ⟨T, x, z, e1, n, e2, k1, k2⟩ := y
          exact ⟨T, x, z, e1, n, e2, k1 _ (hK ▸ s.sqT l1'), k2 _ (hK ▸ s.sqT l2)⟩
end
end T
end
section
set_option Elab.async false
set_option linter.all false
set_option autoImplicit false
set_option maxRecDepth 100000
/-! comprehensions -/
namespace T
open PySem PySem.Spec PyProof.Rows L2
/-! ### slots of a block -/
theorem wipeE_length (δ : Env) : ∀ vs : List Nat, (wipeE δ vs).length = δ.length
  | [] => rfl
  | v :: vs => by unfold wipeE; rw [List.length_set, wipeE_length δ vs]
theorem wipeE_out {δ : Env} {i : Nat} : ∀ {vs : List Nat}, i ∉ vs → (wipeE δ vs)[i]? = δ[i]?
  | [], _ => rfl
  | v :: vs, h => by
    have h1 : v ≠ i := fun e => h (by simp [e])
    unfold wipeE
    rw [getElem?_set_ne h1, wipeE_out fun e => h (by simp [e])]
theorem wipeE_in {δ : Env} {i : Nat} {e : Ent} : ∀ {vs : List Nat}, i ∈ vs → (wipeE δ vs)[i]? = some (some e) → False
  | [], h, _ => by cases h
  | v :: vs, h, q => by
    unfold wipeE at q
    by_cases hv : v = i
    · subst hv
      rw [List.getElem?_set] at q
      simp only [if_true] at q
      split at q <;> cases q
    · rw [getElem?_set_ne hv] at q
      rcases List.mem_cons.mp h with e' | h'
      · exact hv e'.symm
      · exact wipeE_in h' q
theorem wipe_get {σ : L2.St} {i : Nat} : ∀ {vs : List Nat}, i ∈ vs → (wipe σ vs)[i]? = if i < σ.length then some none else none
  | [], h => by cases h
  | v :: vs, h => by
    unfold wipe
    by_cases hv : v = i
    · subst hv
      rw [List.getElem?_set]
      simp [wipe_length]
    · rw [getElem?_set_ne hv]
      rcases List.mem_cons.mp h with e' | h'
      · exact absurd e'.symm hv
      · exact wipe_get h'
theorem wipeE_get {σ : Env} {i : Nat} : ∀ {vs : List Nat}, i ∈ vs → (wipeE σ vs)[i]? = if i < σ.length then some none else none
  | [], h => by cases h
  | v :: vs, h => by
    unfold wipeE
    by_cases hv : v = i
    · subst hv
      rw [List.getElem?_set]
      simp [wipeE_length]
    · rw [getElem?_set_ne hv]
      rcases List.mem_cons.mp h with e' | h'
      · exact absurd e'.symm hv
      · exact wipeE_get h'
theorem wipe_eq {σ σ' : L2.St} {vs : List Nat} (hl : σ'.length = σ.length) (h : ∀ j, j ∉ vs → σ'[j]? = σ[j]?) : wipe σ' vs = wipe σ vs := by
  refine List.ext_getElem? fun i => ?_
  by_cases hi : i ∈ vs
  · rw [wipe_get hi, wipe_get hi, hl]
  · rw [wipe_out hi, wipe_out hi, h i hi]
theorem wipeE_eq {σ σ' : Env} {vs : List Nat} (hl : σ'.length = σ.length) (h : ∀ j, j ∉ vs → σ'[j]? = σ[j]?) : wipeE σ' vs = wipeE σ vs := by
  refine List.ext_getElem? fun i => ?_
  by_cases hi : i ∈ vs
  · rw [wipeE_get hi, wipeE_get hi, hl]
  · rw [wipeE_out hi, wipeE_out hi, h i hi]
theorem backE_length (δ0 δ : Env) : ∀ vs : List Nat, (backE δ0 δ vs).length = δ.length
  | [] => rfl
  | v :: vs => by unfold backE; rw [List.length_set, backE_length δ0 δ vs]
theorem backE_out {δ0 δ : Env} {i : Nat} : ∀ {vs : List Nat}, i ∉ vs → (backE δ0 δ vs)[i]? = δ[i]?
  | [], _ => rfl
  | v :: vs, h => by
    have h1 : v ≠ i := fun e => h (by simp [e])
    unfold backE
    rw [getElem?_set_ne h1, backE_out fun e => h (by simp [e])]
theorem backE_in {δ0 δ : Env} {i : Nat} (hl : δ.length = δ0.length) : ∀ {vs : List Nat}, i ∈ vs → (backE δ0 δ vs)[i]? = δ0[i]?
  | [], h => by cases h
  | v :: vs, h => by
    unfold backE
    by_cases hv : v = i
    · subst hv
      rw [List.getElem?_set]
      simp only [if_true, backE_length, hl]
      by_cases hi : v < δ0.length
      · simp [hi, List.getD_eq_getElem?_getD, List.getElem?_eq_getElem hi]
      · simp [hi]
    · rw [getElem?_set_ne hv]
      rcases List.mem_cons.mp h with e' | h'
      · exact absurd e'.symm hv
      · exact backE_in hl h'
section
variable {W : Wd} {SS : States} {H0 F H F' H' : Hp} {σ σw σ2 : L2.St} {δ δ' δ0 : Env} {Xw : WX} {vs : List Nat}
theorem EnvOk.wipe (I : EnvOk W SS H0 F H σ2 δ) (h : ∀ j, j ∉ vs → σ2[j]? = σ[j]?) (hl : σ2.length = σ.length) : EnvOk W SS H0 F H (L2.wipe σ vs) (wipeE δ vs) := by
  refine ⟨I.same, I.sub, I.sts, I.nds, I.tab, fun i e he => ?_, fun i j d d' a hij h1 h2 h3 h4 => ?_, ?_⟩
  · by_cases hi : i ∈ vs
    · exact (wipeE_in hi he).elim
    · rw [wipeE_out hi] at he
      rw [wipe_out hi, ← h i hi]
      exact I.ent i e he
  · by_cases hi : i ∈ vs
    · exact wipeE_in hi h1
    · by_cases hj : j ∈ vs
      · exact wipeE_in hj h2
      · rw [wipeE_out hi] at h1
        rw [wipeE_out hj] at h2
        rw [wipe_out hi, ← h i hi] at h3
        rw [wipe_out hj, ← h j hj] at h4
        exact I.sep i j d d' a hij h1 h2 h3 h4
  · rw [wipeE_length, wipe_length, I.len, hl]
/-- a thing that is neither frozen nor owned is written -/
theorem EnvOk.mutD {p : Addr} {o : HO} (I : EnvOk W SS H0 F H σ δ) (hF : F p = none) (hA : p ∉ addrs SS) (h0 : H0 p = none) (hn : ∀ i : Nat, isOwn δ i → σ[i]? ≠ some (some (.ref p))) (hd : ∀ u, H p = some u → Cont p u) : EnvOk W SS H0 F (upd H p o) σ δ := by
  refine ⟨fun b x nb e => ?_, fun b x e => ?_, fun q hq => ?_, I.nds, tabs_upd I.tab hd, fun i e he => ?_, I.sep, I.len⟩
  · rw [upd_ne (ne_of_none e h0)]; exact I.same b x nb e
  · rw [upd_ne (ne_of_none e hF)]; exact I.sub _ _ e
  · obtain ⟨⟨cells, i, j, h1, h2, h3⟩, h4, h5⟩ := I.sts q hq
    have m1 : q.1 ≠ p := fun e => hA (e ▸ (mem_a hq).1)
    have m2 : q.2 ≠ p := fun e => hA (e ▸ (mem_a hq).2)
    exact ⟨⟨cells, i, j, by rw [upd_ne m1]; exact h1, by rw [upd_ne m2]; exact h2, h3⟩, h4, h5⟩
  · obtain ⟨v, hv, q⟩ := I.ent i e he
    refine ⟨v, hv, ?_⟩
    cases e with
    | val d => exact q
    | bor d => exact q
    | own d =>
      obtain ⟨a, o', rfl, e2, e3, e4, e5, e6⟩ := q
      have ne : a ≠ p := fun e => hn i ⟨d, he⟩ (e ▸ hv)
      refine ⟨a, o', rfl, e2, e3, e4, by rw [upd_ne ne]; exact e5, e6.mono (Sub.refl F) fun dx hx => ?_⟩
      rw [upd_ne (show dx ≠ p from fun e => (hd _ (e ▸ hx)).own a rfl)]; exact hx
theorem Stp.mutD {p : Addr} {o : HO} (st : Stp SS σ F H δ F' H' δ') (h : H p = none) : Stp SS σ F H δ F' (upd H' p o) δ' := by
  refine ⟨st.sub, fun b x nb hn e => ?_, st.new, st.own, st.there, fun b e => ?_⟩
  · rw [upd_ne (ne_of_none e h)]; exact st.same b x nb hn e
  · by_cases hb : b = p
    · subst hb; exact h
    · rw [upd_ne hb] at e; exact st.gone b e
theorem Stp.wipe (st : Stp SS σ2 F H δ F' H' δ') (h : ∀ j, j ∉ vs → σ2[j]? = σ[j]?) (hn : ∀ j ∈ vs, ¬ isOwn δ j) : Stp SS (L2.wipe σ vs) F H (wipeE δ vs) F' H' (wipeE δ' vs) := by
  have own' : ∀ {δ : Env} {i : Nat}, isOwn (wipeE δ vs) i → i ∉ vs ∧ isOwn δ i := fun {δ i} ⟨d, hd⟩ => by
    by_cases hi : i ∈ vs
    · exact (wipeE_in hi hd).elim
    · exact ⟨hi, d, by rw [wipeE_out hi] at hd; exact hd⟩
  have own2 : ∀ {δ : Env} {i : Nat}, i ∉ vs → isOwn δ i → isOwn (wipeE δ vs) i := fun hi ⟨d, hd⟩ => ⟨d, by rw [wipeE_out hi]; exact hd⟩
  refine ⟨st.sub, fun b o nb hb e => ?_, fun b o e => ?_, fun i hi => ?_, fun i e he => ?_, st.gone⟩
  · refine st.same b o nb (fun i hi q => ?_) e
    have hv : i ∉ vs := fun hv => hn i hv hi
    exact hb i (own2 hv hi) (by rw [wipe_out hv, ← h i hv]; exact q)
  · rcases st.new b o e with q | q | ⟨i, hi, q⟩ | q
    · exact .inl q
    · exact .inr (.inl q)
    · have hv : i ∉ vs := fun hv => hn i hv hi
      exact .inr (.inr (.inl ⟨i, own2 hv hi, by rw [wipe_out hv, ← h i hv]; exact q⟩))
    · exact .inr (.inr (.inr q))
  · obtain ⟨hv, hi⟩ := own' hi
    exact own2 hv (st.own i hi)
  · by_cases hv : i ∈ vs
    · exact (wipeE_in hv he).elim
    · rw [wipeE_out hv] at he
      obtain ⟨e', he'⟩ := st.there i e he
      exact ⟨e', by rw [wipeE_out hv]; exact he'⟩
theorem calm_inv {v : Nat} (h : calmAt δ v = true) : (∀ d, δ[v]? ≠ some (some (.own d))) ∧ ∀ e, δ[v]? = some (some e) → ∃ d, e = .val d := by
  unfold calmAt at h
  rw [List.getD_eq_getElem?_getD] at h
  cases hv : δ[v]? with
  | none => exact ⟨(fun d e => by cases e), (fun e q => by cases q)⟩
  | some oe =>
    rw [hv] at h
    cases oe with
    | none => exact ⟨(fun d e => by cases e), (fun e q => by cases q)⟩
    | some e =>
      cases e with
      | val d => exact ⟨(fun d e => by cases e), (fun e q => by cases q; exact ⟨d, rfl⟩)⟩
      | own d => cases h
      | bor d => cases h
/-- the block is over -/
theorem EnvOk.back (I : EnvOk W SS H0 F H σ δ0) (J : EnvOk W SS H0 F' H' (L2.wipe σ vs) (wipeE δ' vs)) (s : Sub F F') (hc : ∀ v ∈ vs, calmAt δ0 v = true) (hl : δ'.length = δ0.length) : EnvOk W SS H0 F' H' σ (backE δ0 δ' vs) := by
  refine ⟨J.same, J.sub, J.sts, J.nds, J.tab, fun i e he => ?_, fun i j d d' a hij h1 h2 h3 h4 => ?_, ?_⟩
  · by_cases hi : i ∈ vs
    · rw [backE_in hl hi] at he
      obtain ⟨v, hv, q⟩ := I.ent i e he
      obtain ⟨d, rfl⟩ := (calm_inv (hc i hi)).2 e he
      exact ⟨v, hv, Rep.mono s d v q⟩
    · rw [backE_out hi] at he
      obtain ⟨v, hv, q⟩ := J.ent i e (by rw [wipeE_out hi]; exact he)
      exact ⟨v, by rw [wipe_out hi] at hv; exact hv, q⟩
  · by_cases hi : i ∈ vs
    · rw [backE_in hl hi] at h1
      exact (calm_inv (hc i hi)).1 d h1
    · by_cases hj : j ∈ vs
      · rw [backE_in hl hj] at h2
        exact (calm_inv (hc j hj)).1 d' h2
      · rw [backE_out hi] at h1
        rw [backE_out hj] at h2
        exact J.sep i j d d' a hij (by rw [wipeE_out hi]; exact h1) (by rw [wipeE_out hj]; exact h2) (by rw [wipe_out hi]; exact h3) (by rw [wipe_out hj]; exact h4)
  · rw [backE_length, hl]; exact I.len
theorem Stp.back (st : Stp SS (L2.wipe σ vs) F H (wipeE δ0 vs) F' H' (wipeE δ' vs)) (hc : ∀ v ∈ vs, calmAt δ0 v = true) (hl : δ'.length = δ0.length) : Stp SS σ F H δ0 F' H' (backE δ0 δ' vs) := by
  have out : ∀ {i : Nat}, isOwn δ0 i → i ∉ vs := fun {i} ⟨d, hd⟩ hv => (calm_inv (hc i hv)).1 d hd
  refine ⟨st.sub, fun b o nb hb e => ?_, fun b o e => ?_, fun i ⟨d, hd⟩ => ?_, fun i e he => ?_, st.gone⟩
  · refine st.same b o nb (fun i ⟨d, hd⟩ q => ?_) e
    by_cases hv : i ∈ vs
    · exact (wipeE_in hv hd).elim
    · rw [wipeE_out hv] at hd
      rw [wipe_out hv] at q
      exact hb i ⟨d, hd⟩ q
  · rcases st.new b o e with q | q | ⟨i, ⟨d, hd⟩, q⟩ | q
    · exact .inl q
    · exact .inr (.inl q)
    · by_cases hv : i ∈ vs
      · exact (wipeE_in hv hd).elim
      · rw [wipeE_out hv] at hd
        rw [wipe_out hv] at q
        exact .inr (.inr (.inl ⟨i, ⟨d, hd⟩, q⟩))
    · exact .inr (.inr (.inr q))
  · by_cases hv : i ∈ vs
    · rw [backE_in hl hv] at hd
      exact ⟨d, hd⟩
    · rw [backE_out hv] at hd
      obtain ⟨d', hd'⟩ := st.own i ⟨d, by rw [wipeE_out hv]; exact hd⟩
      exact ⟨d', by rw [wipeE_out hv] at hd'; exact hd'⟩
  · by_cases hv : i ∈ vs
    · exact ⟨e, by rw [backE_in hl hv]; exact he⟩
    · obtain ⟨e', he'⟩ := st.there i e (by rw [wipeE_out hv]; exact he)
      exact ⟨e', by rw [backE_out hv]; rw [wipeE_out hv] at he'; exact he'⟩
end
/-- no exception is wished -/
abbrev NoX : WX := fun _ _ _ _ => False
/-- a turn of a block: its target, its tests, its value; what is left: Pv -/
theorem turn_of {α : Type} {W : Wd} {SS : States} {H0 : Hp} {σ : L2.St} {vs : List Nat} {ev : Ex → EvM Op} {t : Tg} {ifs : Option Ex} {m : EvM α} {x : D} {v : V} {F H : Hp} {δ : Env} {P : Ou (Option α) → Prop} {Z : Bool → L2.St → Hp → Prop}
    (hT : ∀ j ∈ tgS t, j ∈ vs) (hlen : δ.length = σ.length) (I : EnvOk W SS H0 F H (wipe σ vs) (wipeE δ vs)) (r : Rep W SS F x v) (h : (turnM ev vs t ifs m x δ).wp P) (hx : ∀ e δ, ¬ P (.exc e δ))
    (k : ∀ σ2 δ2 F3 H3 δ3 b, wipe σ2 vs = wipe σ vs → EnvOk W SS H0 F H σ2 δ2 → Stp SS σ2 F H δ2 F3 H3 δ3 → EnvOk W SS H0 F3 H3 σ2 δ3 → (∀ j, j ∉ vs → σ2[j]? = σ[j]?) → (∀ j ∈ vs, ¬ isOwn δ2 j) → wipeE δ2 vs = wipeE δ vs → σ2.length = σ.length → ((if b then m.bind fun y => EvM.pure (some y) else EvM.pure none) δ3).wp P → Z b σ2 H3) :
    tG W H0 t v (wipe σ vs) H fun σ2 H2 => wipe σ2 vs = wipe σ vs ∧ tT W H0 NoX (ifM ev ifs) σ2 H2 fun b H3 => Z b σ2 H3 := by
  have h' : (((tgM t x).bind fun _ => (ifM ev ifs).bind fun b => if b then m.bind fun y => EvM.pure (some y) else EvM.pure none) (wipeE δ vs)).wp P := h
  obtain ⟨δ2, e2, l2, o2, s2⟩ := tgM_out t x _ _ (Tr.wp_bind.mp h')
  have h2 := Tr.wp_bind.mp h'
  rw [e2] at h2
  have h3 : (((ifM ev ifs).bind fun b => if b then m.bind fun y => EvM.pure (some y) else EvM.pure none) δ2).wp P := h2
  refine ⟨SS, F, wipeE δ vs, x, I, r, ?_⟩
  rw [e2]
  intro σ2 I2 le2 k2 v2
  have le : σ2.length = σ.length := le2.trans (wipe_length σ vs)
  have out : ∀ j, j ∉ vs → σ2[j]? = σ[j]? := fun j hj => by
    rw [k2 j fun hj2 => hj (hT j hj2), wipe_out hj]
  refine ⟨wipe_eq le out, SS, F, δ2, I2, Tr.wp_mono (fun o ho => ?_) (Tr.wp_bind.mp h3)⟩
  cases o with
  | exc e δ3 => exact (hx e δ3 ho).elim
  | ok b δ3 =>
    intro b' F3 H3 st3 I3 eb
    cases eb
    refine k σ2 δ2 F3 H3 δ3 b (wipe_eq le out) I2 st3 I3 out (fun j hj ⟨d, hd⟩ => ?_) ?_ le ho
    · by_cases hj2 : j ∈ tgS t
      · obtain ⟨d', hd'⟩ := v2 j hj2
        rw [hd] at hd'; cases hd'
      · rw [o2 j hj2] at hd
        exact wipeE_in hj hd
    · refine wipeE_eq (l2.trans (wipeE_length δ vs)) fun j hj => ?_
      rw [o2 j fun hj2 => hj (hT j hj2), wipeE_out hj]
section
variable {X : Cx} {W : Wd} {H0 : Hp} {Xw : WX} {S : Sig} {ev : Ex → EvM Op} {a b c e : Expr} {ea eb ec ee : Ex} {pos : Pos} {es rest : List Expr} {eas : List Ex} {tg : Expr} {t : Tg} {ts : List Tg} {it : It}
abbrev PTsD (X : Cx) (W : Wd) (H0 : Hp) (ifs : List Expr) (m : EvM Bool) : Prop := PTs X ifs (tT W H0 NoX m)
theorem PTs_imp {X : Cx} {e : List Expr} {t t' : TT} (h : PTs X e t) (i : ∀ σ H Q, t' σ H Q → t σ H Q) : PTs X e t' := ⟨fun pins s σ H Q I q => h.run pins s σ H Q I (i σ H Q q)⟩
theorem ptsd_nil : PTsD X W H0 [] (ifM ev none) := PTs_imp pts_nil fun σ H Q ⟨SS, F, δ, I, h⟩ => h true F H .refl I rfl
theorem ptsd_one (h : PTD X W H0 NoX a (testO (ev ea))) : PTsD X W H0 [a] (ifM ev (some ea)) := pts_one h
/-- what is known between two turns -/
structure LcI (W : Wd) (SS : States) (H0 : Hp) (σ : L2.St) (vs : List Nat) (F1 H1 : Hp) (δ1 : Env) (D : Addr) (i : Nat) (H F : Hp) (δ : Env) : Prop where
  env : EnvOk W SS H0 F H (wipe σ vs) (wipeE δ vs)
  stp : Stp SS (wipe σ vs) F1 H1 (wipeE δ1 vs) F H (wipeE δ vs)
  len : δ.length = δ1.length
  fd : F D = none
theorem LcI.noD {SS : States} {σ : L2.St} {vs : List Nat} {F1 H1 : Hp} {δ1 : Env} {D : Addr} {i : Nat} {H F : Hp} {δ : Env} (L : LcI W SS H0 σ vs F1 H1 δ1 D i H F δ) (I1 : EnvOk W SS H0 F1 H1 (wipe σ vs) (wipeE δ1 vs)) (hD : H1 D = none) : ∀ j, isOwn (wipeE δ vs) j → (wipe σ vs)[j]? ≠ some (some (.ref D)) := fun j hj q => by
  obtain ⟨d, hd⟩ := L.stp.own j hj
  obtain ⟨v, hv, a, o, e1, e2, e3, e4, e5, e6⟩ := I1.ent j _ hd
  rw [q] at hv
  cases hv
  cases e1
  rw [hD] at e5
  cases e5
/-- behind a turn -/
theorem LcI.next {SS : States} {σ σ2 : L2.St} {vs : List Nat} {F1 H1 : Hp} {δ1 : Env} {D : Addr} {i : Nat} {H F H2 F2 H4 F4 : Hp} {δ δ2 δ4 : Env} {o : HO} (L : LcI W SS H0 σ vs F1 H1 δ1 D i H F δ) (I1 : EnvOk W SS H0 F1 H1 (wipe σ vs) (wipeE δ1 vs)) (hD : H1 D = none) (hDA : D ∉ addrs SS)
    (g : Grow F H F2 H2) (hl : σ.length = δ1.length) (h1 : ∀ j, j ∉ vs → σ2[j]? = σ[j]?) (h2 : ∀ j ∈ vs, ¬ isOwn δ2 j) (h3 : wipeE δ2 vs = wipeE δ vs) (h4 : σ2.length = σ.length) (st : Stp SS σ2 F2 H2 δ2 F4 H4 δ4) (I4 : EnvOk W SS H0 F4 H4 σ2 δ4) (hH : ∃ xs, H D = some xs ∧ Cont D xs) :
    LcI W SS H0 σ vs F1 H1 δ1 D (i + 1) (upd H4 D o) F4 δ4 ∧ LcI W SS H0 σ vs F1 H1 δ1 D (i + 1) H4 F4 δ4 ∧ H4 D = H D ∧ F4 D = none := by
  have st2 : Stp SS (wipe σ vs) F H (wipeE δ vs) F4 H4 (wipeE δ4 vs) := by
    have s1 : Stp SS (wipe σ vs) F H (wipeE δ vs) F2 H2 (wipeE δ vs) := .grow g
    have s2 := st.wipe (σ := σ) (vs := vs) h1 h2
    rw [h3] at s2
    exact s1.trans s2
  have st3 := L.stp.trans st2
  have I4' := I4.wipe (σ := σ) (vs := vs) h1 h4
  have len : δ4.length = δ1.length := by
    have := I4.len
    omega
  obtain ⟨xs, hx, ho⟩ := hH
  have hHD : H4 D = some xs := st2.same D xs hDA (L.noD I1 hD) hx
  have fD : F4 D = none := by
    cases z : F4 D with
    | none => rfl
    | some y =>
      rcases st2.new D y z with q | q | ⟨j, hj, q⟩ | hI
      · rw [L.fd] at q; cases q
      · rw [hx] at q; cases q
      · exact absurd q (L.noD I1 hD j hj)
      · have := I4.sub _ _ z
        rw [hHD] at this
        rw [← Option.some.inj this] at hI
        exact absurd hI ho.not
  have L4 : LcI W SS H0 σ vs F1 H1 δ1 D (i + 1) H4 F4 δ4 := ⟨I4', st3, len, fD⟩
  refine ⟨⟨?_, st3.mutD hD, len, fD⟩, L4, by rw [hHD, hx], fD⟩
  exact I4'.mutD fD hDA (I1.none0 hD) (L4.noD I1 hD) fun c e => by rw [hHD] at e; cases e; exact ho
end
end T
end
section
set_option Elab.async false
set_option linter.all false
set_option autoImplicit false
set_option maxRecDepth 100000
/-! list comprehensions -/
namespace T
open PySem PySem.Spec PyProof.Rows L2
section
variable {X : Cx} {W : Wd} {H0 : Hp} {Xw : WX} {S : Sig} {ev : Ex → EvM Op} {a b c e : Expr} {ea eb ec ee : Ex} {pos : Pos} {es rest : List Expr} {eas : List Ex} {tg : Expr} {t : Tg} {ts : List Tg} {it : It}
theorem block_inv {α β : Type} {vs : List Nat} {m : EvM α} {f : α → EvM β} {δ : Env} {P : Ou β → Prop} (h : (blockM vs (m.bind f) δ).wp P) : (∀ v ∈ vs, calmAt δ v = true) ∧ (m δ).wp fun r => match r with
    | .ok a δ' => (f a δ').wp fun r => match r with
      | .ok b δ2 => P (.ok b (backE δ δ2 vs))
      | .exc _ _ => False
    | .exc _ _ => False := by
  unfold blockM at h
  by_cases hc : vs.all (calmAt δ) = true
  · rw [if_pos hc] at h
    refine ⟨fun v hv => List.all_eq_true.mp hc v hv, ?_⟩
    have h1 := Tr.wp_bind.mp h
    have h2 := Tr.wp_bind.mp (show ((m δ).bind _).wp _ from h1)
    refine Tr.wp_mono (fun r hr => ?_) h2
    cases r with
    | exc e δ1 => exact hr.elim
    | ok a δ1 =>
      refine Tr.wp_mono (fun r hr => ?_) hr
      cases r with
      | exc e δ2 => exact hr.elim
      | ok b δ2 => exact hr
  · rw [if_neg hc] at h; exact h.elim
theorem dw_walk {SS : States} {F : Hp} {J : L2.It} {xs : List D} (w : DW W SS H0 F J xs) : Walk J xs.length (fun H => Sub F H ∧ SameS SS H0 H) (fun i H x H' => ∀ F1, Sub F F1 → Sub F1 H → SameS SS H0 H → ∃ F2 d, Grow F1 H F2 H' ∧ xs[i]? = some d ∧ Rep W SS F2 d x) :=
  ⟨fun i H hi h => w.goes i H hi h.1 h.2, fun H h => w.stops H h.1 h.2, fun i H x H' hi h y => w.yields i H x H' hi y⟩
theorem drop_cons {α : Type} {xs : List α} {i : Nat} {d : α} (h : xs[i]? = some d) : xs.drop i = d :: xs.drop (i + 1) := by
  obtain ⟨hi, rfl⟩ := List.getElem?_eq_some_iff.mp h
  exact List.drop_eq_getElem_cons hi
/-- what a list's rest must do -/
def KK (K : List D → Env → Prop) (l : List D) : Ou (List D) → Prop
  | .ok l2 δ2 => K (l ++ l2) δ2
  | .exc _ _ => False
theorem lcM_step {f : D → EvM (Option D)} {x : D} {r : List D} {δ : Env} {K : List D → Env → Prop} {l : List D} (h : ((lcM f (x :: r)) δ).wp (KK K l)) : (f x δ).wp fun o => match o with
    | .ok (some y) δ1 => ((lcM f r) δ1).wp (KK K (l ++ [y]))
    | .ok none δ1 => ((lcM f r) δ1).wp (KK K l)
    | .exc _ _ => False := by
  have h' : (((f x).bind fun o => (lcM f r).bind fun l => .pure (match o with
    | some y => y :: l
    | none => l)) δ).wp (KK K l) := h
  refine Tr.wp_mono (fun o ho => ?_) (Tr.wp_bind.mp h')
  cases o with
  | exc e δ1 => exact ho.elim
  | ok o δ1 =>
    have h2 := Tr.wp_bind.mp (show (((lcM f r) δ1).bind _).wp _ from ho)
    cases o with
    | none =>
      refine Tr.wp_mono (fun q hq => ?_) h2
      cases q with
      | exc e δ2 => exact hq.elim
      | ok l2 δ2 => exact hq
    | some y =>
      refine Tr.wp_mono (fun q hq => ?_) h2
      cases q with
      | exc e δ2 => exact hq.elim
      | ok l2 δ2 =>
        have hq' : K (l ++ (y :: l2)) δ2 := hq
        show K (l ++ [y] ++ l2) δ2
        rw [List.append_assoc]
        exact hq'
theorem lc_reads {vs : List Nat} {eifs : Option Ex} (hT : ∀ j ∈ tgS t, j ∈ vs) {σ : L2.St} {H : Hp} {Q : VK} (h : tD W H0 Xw (stepE S ev (.lc vs t it eifs ee)) σ H Q) :
    tLc (tR (rI W H0) W H0 Xw (itM ev it)) (tG W H0 t) (tT W H0 NoX (ifM ev eifs)) (tD W H0 NoX (ev ee)) vs σ H Q := by
    obtain ⟨SS, F, δ, I, h⟩ := h
    have h' : (((itM ev it).bind fun xs => blockM vs ((lcM (turnM ev vs t eifs ((ev ee).bind fz)) xs).bind fun l => EvM.pure (.f (.lst l)))) δ).wp (Post W SS H0 Xw σ F H δ Q) := h
    refine tR_bind rO_m I h' fun xs δ1 J F1 H1 st1 I1 q1 h1 => ?_
    intro D hD
    have q1' : DW W SS H0 F1 J xs := q1
    obtain ⟨hcalm, h2⟩ := block_inv h1
    have Iw := I1.wipe (σ := σ) (vs := vs) (fun _ _ => rfl) rfl
    have hF1 : F1 D = none := (I1.fresh hD).1
    have hDA := (I1.fresh hD).2
    have h01 := I1.none0 hD
    refine lc_it (dw_walk q1') (fun i H => ∃ F' δ' l acc, LcI W SS H0 σ vs F1 H1 δ1 D i H F' δ' ∧ H D = some (.lst acc) ∧ acc.length ≤ i ∧ Reps W SS F' l acc ∧ ((lcM (turnM ev vs t eifs ((ev ee).bind fz)) (xs.drop i)) δ').wp (KK (fun l δ' => Post W SS H0 Xw σ F1 H1 δ1 Q (.ok (.f (.lst l)) (backE δ1 δ' vs))) l)) ?_ ?_ ?_ ?_
    · refine ⟨F1, δ1, [], [], ⟨?_, Stp.refl.mutD hD, rfl, hF1⟩, upd_same, Nat.le_refl _, Reps.nil, ?_⟩
      · refine Iw.mutD hF1 hDA h01 (fun j ⟨d, hd⟩ q => ?_) fun u e => by rw [hD] at e; cases e
        obtain ⟨v, hv, a, o, e1, e2, e3, e4, e5, e6⟩ := Iw.ent j _ hd
        rw [q] at hv
        cases hv
        cases e1
        rw [hD] at e5
        cases e5
      · refine Tr.wp_mono (fun r hr => ?_) h2
        cases r with
        | exc e δ2 => exact hr.elim
        | ok l δ2 => exact hr
    · rintro i H' _ ⟨F', δ', l, acc, L, _⟩
      exact ⟨L.stp.sub.trans L.env.sub, L.env.same⟩
    · rintro i x H' H'' hi ⟨F', δ', l, acc, L, hDl, hle, rp, rest⟩ y
      obtain ⟨F2, d, g, hd, r⟩ := y F' L.stp.sub L.env.sub L.env.same
      rw [drop_cons hd] at rest
      have Lx : ∃ ys, H' D = some ys ∧ Cont D ys := ⟨_, hDl, cont_lst⟩
      refine turn_of (Z := fun b σ2 H3 => if b = true then tD W H0 NoX (ev ee) σ2 H3 (fun y H4 => ∃ acc, H4 D = some (.lst acc) ∧ acc.length < sizeLine ∧ (fun i H => ∃ F' δ' l acc, LcI W SS H0 σ vs F1 H1 δ1 D i H F' δ' ∧ H D = some (.lst acc) ∧ acc.length ≤ i ∧ Reps W SS F' l acc ∧ ((lcM (turnM ev vs t eifs ((ev ee).bind fz)) (xs.drop i)) δ').wp (KK (fun l δ' => Post W SS H0 Xw σ F1 H1 δ1 Q (.ok (.f (.lst l)) (backE δ1 δ' vs))) l)) (i + 1) (upd H4 D (.lst (acc ++ [y])))) else (fun i H => ∃ F' δ' l acc, LcI W SS H0 σ vs F1 H1 δ1 D i H F' δ' ∧ H D = some (.lst acc) ∧ acc.length ≤ i ∧ Reps W SS F' l acc ∧ ((lcM (turnM ev vs t eifs ((ev ee).bind fz)) (xs.drop i)) δ').wp (KK (fun l δ' => Post W SS H0 Xw σ F1 H1 δ1 Q (.ok (.f (.lst l)) (backE δ1 δ' vs))) l)) (i + 1) H3) hT (by rw [L.len, I1.len]) (L.env.grow g) r (lcM_step rest) (fun _ _ z => z) ?_
      intro σ2 δ2 F3 H3 δ3 b hw I2 st3 I3 out nown we le hrest
      have hl1 : σ.length = δ1.length := I1.len.symm
      cases b with
      | false =>
        obtain ⟨_, L2, k1, k2⟩ := L.next (o := .lst []) Iw hD hDA g hl1 out nown we le st3 I3 Lx
        show ∃ _, _
        exact ⟨F3, δ3, l, acc, L2, by rw [k1]; exact hDl, Nat.le_succ_of_le hle, rp.mono (g.sub.trans st3.sub), hrest⟩
      | true =>
        show tD W H0 NoX (ev ee) σ2 H3 _
        have hr2 : ((((ev ee).bind fz).bind fun y => EvM.pure (some y)) δ3).wp _ := hrest
        rw [bind_assoc] at hr2
        refine ⟨SS, F3, δ3, I3, Tr.wp_mono (fun o ho => ?_) (Tr.wp_bind.mp hr2)⟩
        cases o with
        | exc e δ4 => exact ho.elim
        | ok p δ4 =>
          intro y F4 H4 st4 I4 q4
          obtain ⟨d', F5, δ5, st5, I5, r5, h5⟩ := fz_inv st4 I4 q4 ho
          obtain ⟨L1, _, k1, k2⟩ := L.next (o := .lst (acc ++ [y])) Iw hD hDA g hl1 out nown we le (st3.trans st5) I5 Lx
          refine ⟨acc, by rw [k1]; exact hDl, Nat.lt_of_le_of_lt hle (Nat.lt_of_lt_of_le hi q1'.len), F5, δ5, l ++ [d'], acc ++ [y], L1, upd_same, by simpa using hle, ?_, h5⟩
          exact (rp.mono (g.sub.trans (st3.trans st5).sub)).append (.cons r5 .nil)
    · rintro H' ⟨F', δ', l, acc, L, hDl, hle, rp, rest⟩
      rw [List.drop_length] at rest
      have rest' : Post W SS H0 Xw σ F1 H1 δ1 Q (.ok (.f (.lst (l ++ []))) (backE δ1 δ' vs)) := rest
      rw [List.append_nil] at rest'
      refine rest' (.ref D) F' H' (L.stp.back hcalm L.len) (I1.back L.env L.stp.sub hcalm L.len) ⟨⟨⟨D, _, rfl, h01, L.fd, hDA, hDl, acc, rfl, rp⟩, fun j ⟨d, hd⟩ q => ?_⟩, fun _ _ => ⟨D, rfl, hD⟩⟩
      by_cases hj : j ∈ vs
      · rw [backE_in L.len hj] at hd
        exact (calm_inv (hcalm j hj)).1 d hd
      · rw [backE_out hj] at hd
        exact L.noD Iw hD j ⟨d, by rw [wipeE_out hj]; exact hd⟩ (by rw [wipe_out hj]; exact q)
theorem pd_lc {elt iter : Expr} {ifs : List Expr} {eifs : Option Ex} {scope : Scope} {own : List (Str × Nat)} (hc : X.calm = true) (hN : X.N.Nodup) (hi : PID X W H0 Xw tg iter (itM ev it)) (ok : BlkOk X.N X.env.scope scope own) (hT : ∀ j ∈ tgS t, j ∈ own.map (·.2))
    (hg : ∀ (s : Shared) (H : Hp) (C : Addr) (cl : List (Str × Addr)) (fp : List Addr), PG (X.blk s H scope (compEnvC scope cl C X.env) fp) tg (tG W H0 t))
    (ht : ∀ (s : Shared) (H : Hp) (C : Addr) (cl : List (Str × Addr)) (fp : List Addr), PTsD (X.blk s H scope (compEnvC scope cl C X.env) fp) W H0 ifs (ifM ev eifs))
    (he : ∀ (s : Shared) (H : Hp) (C : Addr) (cl : List (Str × Addr)) (fp : List Addr), PD (X.blk s H scope (compEnvC scope cl C X.env) fp) W H0 NoX elt (ev ee)) (hs : ∀ x, foldedSetIterable iter X.env x = pure x := by intro _; rfl) :
    PD X W H0 Xw (.ListComp elt [⟨tg, iter, ifs, 0⟩] scope pos) (stepE S ev (.lc (own.map (·.2)) t it eifs ee)) :=
  PE_imp (pe_lc hc hN hi ok hg ht he hs) fun σ H Q h => lc_reads hT h
end
end T
end
section
set_option Elab.async false
set_option linter.all false
set_option autoImplicit false
set_option maxRecDepth 100000
set_option maxHeartbeats 2000000
/-! dict comprehensions, the dict told by its object -/
namespace T
open PySem PySem.Spec PyProof.Rows L2
def newD : Obj := { cls := .type "dict", data := .dict #[] }
section
variable {W : Wd} {SS : States} {F : Hp} {t : Bool}
theorem newD_ok {D : Addr} (hm : (D == sysModules) = false) : DAt W SS F t [] D newD :=
  ⟨#[], 0, ⟨rfl, rfl, rfl⟩, rfl, hm, Nat.zero_le _, List.nodup_nil, by unfold RepE; rfl⟩
end
/-- {k: v for target in iter if ..} -/
def tDcD (W : Wd) (t : Bool) (wi : TI) (g : TG) (tt : TT) (tk tv : TE) (vs : List Nat) : TE := fun σ H Q => wi σ H fun J H1 => ∀ D, H1 D = none → (D == sysModules) = false → ∃ M : Nat → Nat → Hp → Prop, (∃ m, M 0 m (upd H1 D (dObj D newD))) ∧ ∀ i m H, M i m H →
  (J.stop i H ∧ Q (.ref D) H) ∨ (J.go i H ∧ ∃ Nx : Hp → Prop, (∀ H', Nx H' → ∃ m', m' < m ∧ M (i + 1) m' H') ∧ ∀ x H', J.yld i H x H' → g x (wipe σ vs) H' fun σ2 H2 => wipe σ2 vs = wipe σ vs ∧ tt σ2 H2 fun b H3 =>
    if b = true then tk σ2 H3 fun y H4 => tv σ2 H4 fun z H5 => ∃ SS F kvs k d o, Sub F H5 ∧ H5 D = some (dObj D o) ∧ DAt W SS F t kvs D o ∧ keyOk t k = true ∧ Rep W SS F k y ∧ Rep W SS F d z ∧ kvs.length < sizeLine ∧ ∀ ob, DAt W SS F t (dset kvs k d) D ob → Nx (upd H5 D (dObj D ob)) else Nx H3)
section
variable {X : Cx} {W : Wd} {t : Bool}
theorem dcD_core {pins : List (Addr × Obj)} {s : Shared} {σ : L2.St} {H : Hp} {Q : VK} {kx vx tg iter : Expr} {ifs : List Expr} {scope : Scope} {own : List (Str × Nat)} {pos pos' : Pos} {wi : TI} {g : TG} {tt : TT} {tk tv : TE} {use : Option (Value → Sem Unit)} {Qf : Value → Shared → Prop} (G : Good W X) (hc : X.calm = true) (hN : X.N.Nodup) (I : Inv X pins σ H s) (hi : PI X tg iter wi) (ok : BlkOk X.N X.env.scope scope own)
    (hg : ∀ (s : Shared) (H : Hp) (C : Addr) (cl : List (Str × Addr)) (fp : List Addr), PG (X.blk s H scope (compEnvC scope cl C X.env) fp) tg g) (ht : ∀ (s : Shared) (H : Hp) (C : Addr) (cl : List (Str × Addr)) (fp : List Addr), PTs (X.blk s H scope (compEnvC scope cl C X.env) fp) ifs tt)
    (hk : ∀ (s : Shared) (H : Hp) (C : Addr) (cl : List (Str × Addr)) (fp : List Addr), PE (X.blk s H scope (compEnvC scope cl C X.env) fp) kx tk)
    (he : ∀ (s : Shared) (H : Hp) (C : Addr) (cl : List (Str × Addr)) (fp : List Addr), PE (X.blk s H scope (compEnvC scope cl C X.env) fp) vx tv) (hs : ∀ x, foldedSetIterable iter X.env x = pure x) (h : tDcD W t wi g tt tk tv (own.map (·.2)) σ H Q)
    (hRR : ∀ D C s' m H', Inv X pins σ H' s' → Q (.ref D) H' → s'.heap.Ns C m → FpOk X pins H' C → compPost (model X.prog X.w) X.A X.xe use Qf (.ref D) C (.ok .next) s') :
    wpAny (model X.prog X.w) X.A (comprehension (.DictComp kx vx [⟨tg, iter, ifs, 0⟩] scope pos) scope X.env pos' newDict false (eval iter X.env) use) Qf X.xe s := by
  have hfree : ∀ y ∈ scope.names, y.2 = .free → ∃ c, X.env.cells.lookup y.1 = some c := fun y hy e => by
    rcases ok.free y hy e with k | k
    · exact I.ok.has _ (.inl k)
    · exact I.ok.has _ (.inr k)
  refine wpAny_comprehension_free (use := use) rfl hs (closure_ok hfree) ok.kind (fun y hy e => by rw [ok.uniq y hy, e]) (thn (hi.run pins s σ H _ I h) fun xv s1 hx => thn hx fun itv s2 h2 => ?_)
  obtain ⟨it, fp, tn, J, H2, e, I2, T, st2, f2, q⟩ := h2
  subst e
  refine wpAny_newObj_type (newEnv_comp ?_)
  generalize hD : s2.heap.objs.size = D
  have hDn : H2 D = none := I2.hok.fresh (Nat.le_of_eq hD)
  have hDm : (D == sysModules) = false := by
    have := I2.big
    rw [hD] at this
    exact beq_eq_false_iff_ne.mpr (Nat.ne_of_gt this)
  obtain ⟨M, ⟨m0, w0⟩, turn⟩ := q D hDn hDm
  generalize hs3 : ({ s2 with heap := s2.heap.push { cls := .type "dict", data := .dict #[] } } : Shared) = s3
  have I3 : Inv X pins σ (upd H2 D (dObj D newD)) s3 := by
    rw [← hs3]
    refine I2.laid (t' := s2.toks) (fun b o e => Heap.get?_push_of_some _ e) (Nat.le_of_eq hD) ?_
    rw [← hD]
    exact dobj_ok (Heap.get?_push_size _ rfl)
  have h3 : s3.heap = s2.heap.push newD := by rw [← hs3]; rfl
  have sz : ∀ b ∈ fp, b < s2.heap.objs.size := fun b hb => by
    obtain ⟨o, e, _⟩ := T.obj _ _ st2 b hb
    exact Heap.lt_size e
  have f3 : ∀ b ∈ fp, FpOk X pins (upd H2 D (dObj D newD)) b ∧ b < s3.heap.objs.size := fun b hb => by
    have hlt := sz b hb
    refine ⟨⟨?_, (f2 b hb).2⟩, by rw [h3, Heap.size_push]; exact Nat.lt_succ_of_lt hlt⟩
    rw [upd_ne (by rw [← hD]; exact Nat.ne_of_lt hlt)]
    exact (f2 b hb).1
  have st3 : tn 0 s3.heap := T.keep _ _ _ st2 fun b _ o e => by rw [h3]; exact Heap.get?_push_of_some _ e
  have I4 := block_start I3 ok hN f3
  have pg := hg s3 (upd H2 D (dObj D newD)) s3.heap.objs.size (cellsFrom (s3.heap.objs.size + 1) scope.names (cloFrom X.env.cells scope.names [])) fp
  have pt := ht s3 (upd H2 D (dObj D newD)) s3.heap.objs.size (cellsFrom (s3.heap.objs.size + 1) scope.names (cloFrom X.env.cells scope.names [])) fp
  have pk := hk s3 (upd H2 D (dObj D newD)) s3.heap.objs.size (cellsFrom (s3.heap.objs.size + 1) scope.names (cloFrom X.env.cells scope.names [])) fp
  have pe := he s3 (upd H2 D (dObj D newD)) s3.heap.objs.size (cellsFrom (s3.heap.objs.size + 1) scope.names (cloFrom X.env.cells scope.names [])) fp
  show codeAny _ _ (.compStart (.DictComp kx vx [⟨tg, iter, ifs, 0⟩] scope pos) 0 (.ref it) (.ref D) (compEnvC scope (cellsFrom (s3.heap.objs.size + 1) scope.names (cloFrom X.env.cells scope.names [])) s3.heap.objs.size X.env)) (compPost (model X.prog X.w) X.A X.xe use Qf (.ref D) s3.heap.objs.size) { s3 with heap := pushCells (s3.heap.push { cls := .type "dict", data := .dict #[] }) scope.names }
  have nfp : ∀ b ∈ fp, (upd H2 D (dObj D newD)) b = none := fun b hb => (f3 b hb).1.1
  generalize hce : compEnvC scope (cellsFrom (s3.heap.objs.size + 1) scope.names (cloFrom X.env.cells scope.names [])) s3.heap.objs.size X.env = ce at I4 pg pt pk pe ⊢
  have cL : ce.locals = s3.heap.objs.size := by subst hce; rfl
  generalize hH3 : upd H2 D (dObj D newD) = H3 at I3 I4 pg pt pk pe w0 nfp f3
  generalize hs4 : ({ s3 with heap := pushCells (s3.heap.push { cls := .type "dict", data := .dict #[] }) scope.names } : Shared) = s4 at I4 ⊢
  have st4 : tn 0 s4.heap := T.keep _ _ _ st3 fun b _ o e => by rw [← hs4]; exact pushCells_keeps _ _ _ _ (Heap.get?_push_of_some _ e)
  have stat : ∀ {σ' : L2.St} {H' : Hp} {s' : Shared}, Inv (X.blk s3 H3 scope ce fp) [] σ' H' s' → (∀ b ∈ fp, H' b = none) → ∀ b ∈ fp, FpOk (X.blk s3 H3 scope ce fp) [] H' b := fun {σ' H' s'} I' hn b hb =>
    ⟨hn b hb, (I'.ok.exf b hb).1, I'.ok.exfs b hb, .inl hb, fun x c e => (I'.ok.exf b hb).2 x c e, fun p hp => absurd (show p ∈ ([] : List (Addr × Obj)) ++ [] from hp) (by simp)⟩
  have loop : codeAny (model X.prog X.w) X.A (.compLoop (.DictComp kx vx [⟨tg, iter, ifs, 0⟩] scope pos) 0 (.ref it) (.ref D) ce) (compPost (model X.prog X.w) X.A X.xe use Qf (.ref D) s3.heap.objs.size) s4 := by
    refine compLoop_anyD (fun n s' => ∃ i H', Inv (X.blk s3 H3 scope ce fp) [] (wipe σ (own.map (·.2))) H' s' ∧ tn i s'.heap ∧ (∀ b ∈ fp, H' b = none) ∧ M i n H') ?_ m0 ⟨0, H3, I4, st4, nfp, w0⟩
    rintro n s5 ⟨i, H5, I5, st5, n5, w5⟩
    rcases turn i n H5 w5 with ⟨stop, qq⟩ | ⟨go, Nx, hNx, step⟩
    · have td := T.done (X.blk s3 H3 scope ce fp) rfl rfl rfl hc i [] s5 _ H5 (fun _ _ => False) I5 (stat I5 n5) st5 stop
      refine thnF td fun r s6 ⟨hr, I6⟩ => ?_
      subst hr
      have I7 : Inv X pins σ H5 s6 := I3.call' (ch := fp) I6.os I6.base I6.hok I6.bare fun b hb => ⟨(f3 b hb).1.2.2.2.1, (f3 b hb).1.2.1, (f3 b hb).1.2.2.2.2.1, (f3 b hb).1.2.2.2.2.2⟩
      have nC : H5 s3.heap.objs.size = none := by
        have z : H5 ce.locals = none := I6.free
        rw [cL] at z
        exact z
      obtain ⟨m, hn, _⟩ := I6.loc
      have hn : s6.heap.Ns ce.locals m := hn
      rw [cL] at hn
      exact hRR D s3.heap.objs.size s6 m H5 I7 qq hn (I3.fpOk (Nat.le_refl _) nC)
    · have ti := T.item (X.blk s3 H3 scope ce fp) rfl rfl rfl hc i [] s5 _ H5 (fun _ _ => False) I5 (stat I5 n5) st5 go
      refine thnF ti fun r s6 ⟨u, hr, h6⟩ => ?_
      subst hr
      refine thnF h6 fun _ s7 ⟨x, H7, I7, r7, y7, st7, n7⟩ => ?_
      have I7' := I7.pinned (stat I7 n7) (T.obj _ _ st7)
      refine thnF (pg.run _ s7 _ H7 x u _ I7' r7 (step x H7 y7)) fun _ s8 ⟨σ8, H8, I8, hw8, q8⟩ => ?_
      refine thnF (pt.run _ s8 σ8 H8 _ I8 q8) fun b s9 ⟨H9, I9, q9⟩ => ?_
      have fin : ∀ {s' : Shared} {H' : Hp}, Inv (X.blk s3 H3 scope ce fp) ([] ++ pinsAt fp s7.heap) σ8 H' s' → Nx H' → ∃ m, m < n ∧ ∃ i H', Inv (X.blk s3 H3 scope ce fp) [] (wipe σ (own.map (·.2))) H' s' ∧ tn i s'.heap ∧ (∀ b ∈ fp, H' b = none) ∧ M i m H' := fun {s' H'} I' nx => by
        obtain ⟨m', hm, w'⟩ := hNx H' nx
        have pin' : ∀ b ∈ fp, ∀ o, s7.heap.get? b = some o → s'.heap.get? b = some o ∧ H' b = none := fun b hb o e =>
          let z := I'.pin (b, o) (List.mem_append_right _ (List.mem_append_right _ (mem_pinsAt hb e)))
          ⟨z.1, z.2.1⟩
        have hl : (wipe σ (own.map (·.2))).length = σ8.length := by rw [← hw8, wipe_length]
        refine ⟨m', hm, i + 1, H', (I'.unpinned (pins := [])).weak hl (fun j v e => ?_), T.keep _ _ _ st7 fun b hb o e => (pin' b hb o e).1, fun b hb => ?_, w'⟩
        · rw [← hw8] at e
          exact (wipe_some e).1
        · obtain ⟨o, e, _⟩ := T.obj _ _ st7 b hb
          exact (pin' b hb o e).2
      cases b with
      | false =>
        simp only [Bool.false_eq_true, if_false] at q9 ⊢
        exact fin I9 q9
      | true =>
        simp only [if_true] at q9 ⊢
        refine thnF (pk.run _ s9 σ8 H9 _ I9 q9) fun z s10 ⟨yk, H10, I10, r10, q10⟩ => ?_
        refine thnF (pe.run _ s10 σ8 H10 _ I10 q10) fun z2 s11 ⟨yv, H11, I11, r11, SS, F, kvs, k, d, o, g1, g2, g3, g4, g5, g6, g7, nx⟩ => ?_
        have hu := G.hu
        exact dd_cset (X := X.blk s3 H3 scope ce fp) (show X.A.units + 10 < cLine by omega) I11 G.hP G.hw G.hK g1 g2 g3 g4 g5 r10 g6 r11 g7 fun ob s12 h12 I12 => fin I12 (nx ob h12)
  exact codeAny_compStart_dict loop (T.self X.A 0 _ _ _ st4 loop)
theorem pe_dcD {kx vx tg iter : Expr} {ifs : List Expr} {scope : Scope} {own : List (Str × Nat)} {pos : Pos} {wi : TI} {g : TG} {tt : TT} {tk tv : TE} (G : Good W X) (hc : X.calm = true) (hN : X.N.Nodup) (hi : PI X tg iter wi) (ok : BlkOk X.N X.env.scope scope own)
    (hg : ∀ (s : Shared) (H : Hp) (C : Addr) (cl : List (Str × Addr)) (fp : List Addr), PG (X.blk s H scope (compEnvC scope cl C X.env) fp) tg g) (ht : ∀ (s : Shared) (H : Hp) (C : Addr) (cl : List (Str × Addr)) (fp : List Addr), PTs (X.blk s H scope (compEnvC scope cl C X.env) fp) ifs tt)
    (hk : ∀ (s : Shared) (H : Hp) (C : Addr) (cl : List (Str × Addr)) (fp : List Addr), PE (X.blk s H scope (compEnvC scope cl C X.env) fp) kx tk)
    (he : ∀ (s : Shared) (H : Hp) (C : Addr) (cl : List (Str × Addr)) (fp : List Addr), PE (X.blk s H scope (compEnvC scope cl C X.env) fp) vx tv) (hs : ∀ x, foldedSetIterable iter X.env x = pure x := by intro _; rfl) :
    PE X (.DictComp kx vx [⟨tg, iter, ifs, 0⟩] scope pos) (tDcD W t wi g tt tk tv (own.map (·.2))) := by
  refine ⟨fun pins s σ H Q I h => ?_⟩
  rw [arm_eval_DictComp]
  refine dcD_core G hc hN I hi ok hg ht hk he hs h fun D C s' m H' I' q hn f => ⟨m, hn, fun h'' sb => ?_⟩
  obtain ⟨f0, f1, f2, f3, f4, f5⟩ := f
  exact ⟨.ref D, H', I'.turned (t' := s'.toks) (fun b o hb e => (sb.2 b hb).trans e) f0 f1 f3 f4 f5, rfl, q⟩
/-- name = {..} on one line, the name a local -/
theorem ps_setDcD {i : Nat} {y : Str} {py spos : Pos} {kx vx tg iter : Expr} {ifs : List Expr} {scope : Scope} {own : List (Str × Nat)} {pos : Pos} {wi : TI} {g : TG} {tt : TT} {tk tv : TE} (hy : X.N[i]? = some y) (hyl : X.env.scope.names.lookup y = some .local)
    (hsw : swapsWith (.DictComp kx vx [⟨tg, iter, ifs, 0⟩] scope pos) (some (.Name y py)) spos.line X.env = pure true) (G : Good W X) (hc : X.calm = true) (hN : X.N.Nodup) (hi : PI X tg iter wi) (ok : BlkOk X.N X.env.scope scope own)
    (hg : ∀ (s : Shared) (H : Hp) (C : Addr) (cl : List (Str × Addr)) (fp : List Addr), PG (X.blk s H scope (compEnvC scope cl C X.env) fp) tg g) (ht : ∀ (s : Shared) (H : Hp) (C : Addr) (cl : List (Str × Addr)) (fp : List Addr), PTs (X.blk s H scope (compEnvC scope cl C X.env) fp) ifs tt)
    (hk : ∀ (s : Shared) (H : Hp) (C : Addr) (cl : List (Str × Addr)) (fp : List Addr), PE (X.blk s H scope (compEnvC scope cl C X.env) fp) kx tk)
    (he : ∀ (s : Shared) (H : Hp) (C : Addr) (cl : List (Str × Addr)) (fp : List Addr), PE (X.blk s H scope (compEnvC scope cl C X.env) fp) vx tv) (hs : ∀ x, foldedSetIterable iter X.env x = pure x := by intro _; rfl) :
    PS X (.Assign [.Name y py] (.DictComp kx vx [⟨tg, iter, ifs, 0⟩] scope pos) spos) (tAsg (tDcD W t wi g tt tk tv (own.map (·.2))) (gName i)) := by
  refine ⟨fun pins s σ H D I h => ?_⟩
  rw [exec_Assign_Name_used _ _ _ _ hsw]
  refine wpAny_bind (wpAny_standAt (wpAny_bind ?_))
  show wpAny _ X.A (do let _ ← comprehension (.DictComp kx vx [⟨tg, iter, ifs, 0⟩] scope pos) scope X.env (firstIterPos [⟨tg, iter, ifs, 0⟩] pos) newDict false (eval iter X.env) (some (assign (.Name y py) X.env))) _ _ s
  have h : tDcD W t wi g tt tk tv (own.map (·.2)) σ H (fun x H1 => gName i x σ H1 D.nx) := h
  refine wpAny_bind (thn (dcD_core (Qf := fun _ s' => SP X pins D .next s') G hc hN I hi ok hg ht hk he hs h fun L C s' m H' I' q hn f => ?_) fun _ s' hq => wpAny_pure (wpAny_pure hq))
  show wpAny _ _ (assign (.Name y py) X.env (.ref L)) _ _ _
  refine wpAny_assign_Name (store_ok2 (v := V.ref L) I' hN hy (.inl hyl) rfl (fun s2 I2 ⟨a, sb, ha⟩ => ?_) (.inr hyl))
  obtain ⟨f0, f1, f2, f3, f4, f5⟩ := f
  have haC : C ≠ a := by
    rcases ha with z | z
    · rw [z]; exact f1
    · exact fun e => f4 y a z e.symm
  refine ⟨m, hn.sameBut sb haC, fun h3 sb3 => ?_⟩
  exact ⟨_, H', I2.turned (t' := s2.toks) (fun b o hb e => (sb3.2 b hb).trans e) f0 f1 f3 f4 f5, q⟩
theorem sw_trueD {kx vx : Expr} {gs : List Comprehension} {scope : Scope} {pos py : Pos} {y : Str} {l : Nat} {env : PySem.Env} (hk : env.scope.kind = .function) (hy : env.scope.names.lookup y = some .local) (hl : (py.line == pos.line) = true)
    (ha : (scope.names.any fun (n, k) => n == y && (k == .local || k == .cell)) = false) : swapsWith (.DictComp kx vx gs scope pos) (some (.Name y py)) l env = pure true := by
  have ky : env.kindOf y = some .local := hy
  have hb : env.blockKind = .function := by unfold PySem.Env.blockKind; rw [hk]; rfl
  unfold swapsWith
  simp only [hb, ky, ha, Expr.pos, hl]
  rfl
/-- what a dict's rest must do -/
def KKd (K : List (D × D) → Env → Prop) : Ou (List (D × D)) → Prop
  | .ok l δ => K l δ
  | .exc _ _ => False
theorem dcM_step {t : Bool} {f : D → EvM (Option (D × D))} {x : D} {r : List D} {acc : List (D × D)} {δ : Env} {K : List (D × D) → Env → Prop} (h : ((dcM t f (x :: r) acc) δ).wp (KKd K)) : (f x δ).wp fun o => match o with
    | .ok (some p) δ1 => ∃ acc', dput t acc p.1 p.2 = some acc' ∧ ((dcM t f r acc') δ1).wp (KKd K)
    | .ok none δ1 => ((dcM t f r acc) δ1).wp (KKd K)
    | .exc _ _ => False := by
  have h' : (((f x).bind fun o => match o with
    | some p => match dput t acc p.1 p.2 with
      | some acc' => dcM t f r acc'
      | none => .bad
    | none => dcM t f r acc) δ).wp (KKd K) := h
  refine Tr.wp_mono (fun o ho => ?_) (Tr.wp_bind.mp h')
  cases o with
  | exc e δ1 => exact ho.elim
  | ok o δ1 =>
    cases o with
    | none => exact ho
    | some p =>
      cases hp : dput t acc p.1 p.2 with
      | none => simp only [hp] at ho; exact ho.elim
      | some acc' => simp only [hp] at ho; exact ⟨acc', hp, ho⟩
theorem dput_inv {t : Bool} {kvs kvs' : List (D × D)} {k v : D} (h : dput t kvs k v = some kvs') : keyOk t k = true ∧ kvs.length < sizeLine ∧ kvs' = dset kvs k v := by
  unfold dput at h
  simp only [Option.ite_none_right_eq_some, Option.some.injEq, Bool.and_eq_true] at h
  obtain ⟨⟨h1, h2⟩, h3⟩ := h
  have : kvs.length < 16777216 := Nat.le_of_ble_eq_true h2
  exact ⟨h1, by rw [sizeLine_eq]; exact this, h3.symm⟩
/-- a comprehension over a walk, to a dict -/
theorem dc_it {J : L2.It} {n : Nat} {G : Hp → Prop} {Y : Nat → Hp → V → Hp → Prop} (w : Walk J n G Y) {st : Nat → L2.St → Hp → (Hp → Prop) → V → Hp → Prop} {H1 : Hp} {Qd : Hp → Prop} {step : (Hp → Prop) → V → Hp → Prop} (Pv : Nat → Hp → Prop) (h0 : Pv 0 H1) (hG : ∀ i H, i ≤ n → Pv i H → G H)
    (hs : ∀ i x H H', i < n → Pv i H → Y i H x H' → step (Pv (i + 1)) x H') (hd : ∀ H, Pv n H → Qd H) :
    ∃ M : Nat → Nat → Hp → Prop, (∃ m, M 0 m H1) ∧ ∀ i m H, M i m H → (J.stop i H ∧ Qd H) ∨ (J.go i H ∧ ∃ Nx : Hp → Prop, (∀ H', Nx H' → ∃ m', m' < m ∧ M (i + 1) m' H') ∧ ∀ x H', J.yld i H x H' → step Nx x H') := by
  refine ⟨fun i m H => m = n - i ∧ i ≤ n ∧ Pv i H, ⟨n, by simp, Nat.zero_le _, h0⟩, ?_⟩
  rintro i m H ⟨rfl, hi, p⟩
  have q := hG i H hi p
  by_cases hlt : i < n
  · exact .inr ⟨w.goes i H hlt q, Pv (i + 1), fun H' p' => ⟨n - (i + 1), by omega, rfl, hlt, p'⟩, fun x H' y => hs i x H H' hlt p (w.yields i H x H' hlt q y)⟩
  · have e : i = n := by omega
    subst e
    exact .inl ⟨w.stops H q, hd H p⟩
section
variable {H0 : Hp} {Xw : WX} {S : Sig} {ev : Ex → EvM Op} {a b c e : Expr} {ea eb ec ek ew : Ex} {pos : Pos} {tg : Expr} {tt : Tg} {it : It}
theorem DAt.mono {SS : States} {F F' : Hp} {kvs : List (D × D)} {D : Addr} {o : Obj} (s : Sub F F') (h : DAt W SS F t kvs D o) : DAt W SS F' t kvs D o := by
  obtain ⟨es, ep, h1, h2, h3, h4, h5, h6⟩ := h
  exact ⟨es, ep, h1, h2, h3, h4, h5, h6.mono s⟩
theorem dc_reads {vs : List Nat} {eifs : Option Ex} {it : It} (hT : ∀ j ∈ tgS tt, j ∈ vs) {σ : L2.St} {H : Hp} {Q : VK} (h : tD W H0 Xw (stepE S ev (.dc t vs tt it eifs ek ew)) σ H Q) :
    tDcD W t (tR (rI W H0) W H0 Xw (itM ev it)) (tG W H0 tt) (tT W H0 NoX (ifM ev eifs)) (tD W H0 NoX (ev ek)) (tD W H0 NoX (ev ew)) vs σ H Q := by
    obtain ⟨SS, F, δ, I, h⟩ := h
    generalize hbd : (((ev ek).bind fz).bind fun a => ((ev ew).bind fz).bind fun b => EvM.pure (a, b)) = bd at *
    have h' : (((itM ev it).bind fun xs => blockM vs ((dcM t (turnM ev vs tt eifs bd) xs []).bind fun l => EvM.pure (.f (.dct t l)))) δ).wp (Post W SS H0 Xw σ F H δ Q) := by rw [← hbd]; exact h
    refine tR_bind rO_m I h' fun xs δ1 J F1 H1 st1 I1 q1 h1 => ?_
    intro D hD hDm
    have q1' : DW W SS H0 F1 J xs := q1
    obtain ⟨hcalm, h2⟩ := block_inv h1
    have Iw := I1.wipe (σ := σ) (vs := vs) (fun _ _ => rfl) rfl
    have hF1 : F1 D = none := (I1.fresh hD).1
    have hDA := (I1.fresh hD).2
    have h01 := I1.none0 hD
    refine dc_it (st := fun _ _ _ _ _ _ => True) (dw_walk q1') (step := fun Nx x H' => tG W H0 tt x (wipe σ vs) H' fun σ2 H2 => wipe σ2 vs = wipe σ vs ∧ tT W H0 NoX (ifM ev eifs) σ2 H2 fun b H3 =>
      if b = true then tD W H0 NoX (ev ek) σ2 H3 fun y H4 => tD W H0 NoX (ev ew) σ2 H4 fun z H5 => ∃ SS F kvs k d o, Sub F H5 ∧ H5 D = some (dObj D o) ∧ DAt W SS F t kvs D o ∧ keyOk t k = true ∧ Rep W SS F k y ∧ Rep W SS F d z ∧ kvs.length < sizeLine ∧ ∀ ob, DAt W SS F t (dset kvs k d) D ob → Nx (upd H5 D (dObj D ob)) else Nx H3)
      (fun i H => ∃ F' δ' l o, LcI W SS H0 σ vs F1 H1 δ1 D i H F' δ' ∧ H D = some (dObj D o) ∧ DAt W SS F' t l D o ∧ ((dcM t (turnM ev vs tt eifs bd) (xs.drop i) l) δ').wp (KKd (fun l δ' => Post W SS H0 Xw σ F1 H1 δ1 Q (.ok (.f (.dct t l)) (backE δ1 δ' vs))))) ?_ ?_ ?_ ?_
    · refine ⟨F1, δ1, [], newD, ⟨?_, Stp.refl.mutD hD, rfl, hF1⟩, upd_same, newD_ok hDm, ?_⟩
      · refine Iw.mutD hF1 hDA h01 (fun j ⟨d, hd⟩ q => ?_) fun u e => by rw [hD] at e; cases e
        obtain ⟨v, hv, a, o, e1, e2, e3, e4, e5, e6⟩ := Iw.ent j _ hd
        rw [q] at hv
        cases hv
        cases e1
        rw [hD] at e5
        cases e5
      · refine Tr.wp_mono (fun r hr => ?_) h2
        cases r with
        | exc e δ2 => exact hr.elim
        | ok l δ2 => exact hr
    · rintro i H' _ ⟨F', δ', l, o, L, _⟩
      exact ⟨L.stp.sub.trans L.env.sub, L.env.same⟩
    · rintro i x H' H'' hi ⟨F', δ', l, o, L, hDl, rp, rest⟩ y
      obtain ⟨F2, d, g, hd, r⟩ := y F' L.stp.sub L.env.sub L.env.same
      rw [drop_cons hd] at rest
      have Lx : ∃ ys, H' D = some ys ∧ Cont D ys := ⟨_, hDl, by obtain ⟨_, _, _, z, _⟩ := rp; exact cont_dct z⟩
      refine turn_of hT (by rw [L.len, I1.len]) (L.env.grow g) r (dcM_step rest) (fun _ _ z => z) ?_
      intro σ2 δ2 F3 H3 δ3 b hw I2 st3 I3 out nown we le hrest
      have hl1 : σ.length = δ1.length := I1.len.symm
      cases b with
      | false =>
        obtain ⟨_, L2, k1, k2⟩ := L.next (o := .lst []) Iw hD hDA g hl1 out nown we le st3 I3 Lx
        show ∃ _, _
        exact ⟨F3, δ3, l, o, L2, by rw [k1]; exact hDl, rp.mono (g.sub.trans st3.sub), hrest⟩
      | true =>
        show tD W H0 NoX (ev ek) σ2 H3 _
        have eb : (bd.bind fun y => EvM.pure (some y)) = (ev ek).bind fun o => (fz o).bind fun a => (ev ew).bind fun o => (fz o).bind fun b => EvM.pure (some (a, b)) := by
          rw [← hbd, bind_assoc, bind_assoc]
          congr 1; funext o; congr 1; funext a
          rw [bind_assoc, bind_assoc]
          rfl
        have hr2 := Eq.mp (congrArg (fun m : EvM (Option (T.D × T.D)) => (m δ3).wp _) eb) hrest
        refine ⟨SS, F3, δ3, I3, Tr.wp_mono (fun q hq => ?_) (Tr.wp_bind.mp hr2)⟩
        cases q with
        | exc e δ4 => exact hq.elim
        | ok p δ4 =>
          intro y F4 H4 st4 I4 q4
          obtain ⟨k', F5, δ5, st5, I5, r5, h5⟩ := fz_inv st4 I4 q4 hq
          refine ⟨SS, F5, δ5, I5, Tr.wp_mono (fun q hq => ?_) (Tr.wp_bind.mp h5)⟩
          cases q with
          | exc e δ6 => exact hq.elim
          | ok p6 δ6 =>
            intro z F6 H6 st6 I6 q6
            obtain ⟨d', F7, δ7, st7, I7, r7, h7⟩ := fz_inv st6 I6 q6 hq
            obtain ⟨acc', hp, h8⟩ := h7
            obtain ⟨p1, p2, rfl⟩ := dput_inv hp
            have stA := st3.trans (st5.trans st7)
            have s7 : Sub F' F7 := g.sub.trans stA.sub
            refine ⟨SS, F7, l, k', d', o, I7.sub, ?_, rp.mono s7, p1, Rep.mono st7.sub _ _ r5, r7, p2, fun ob hob => ?_⟩
            · obtain ⟨_, _, k1, _⟩ := L.next (o := .lst []) Iw hD hDA g hl1 out nown we le stA I7 Lx
              rw [k1]; exact hDl
            · obtain ⟨L1, _, k1, k2⟩ := L.next (o := dObj D ob) Iw hD hDA g hl1 out nown we le stA I7 Lx
              exact ⟨F7, δ7, dset l k' d', ob, L1, upd_same, hob, h8⟩
    · rintro H' ⟨F', δ', l, o, L, hDl, rp, rest⟩
      rw [List.drop_length] at rest
      have rest' : Post W SS H0 Xw σ F1 H1 δ1 Q (.ok (.f (.dct t l)) (backE δ1 δ' vs)) := rest
      obtain ⟨es, ep, g1, g2, g3, g4, g5, g6⟩ := rp
      refine rest' (.ref D) F' H' (L.stp.back hcalm L.len) (I1.back L.env L.stp.sub hcalm L.len) ⟨⟨⟨D, _, rfl, h01, L.fd, hDA, hDl, o, es, ep, rfl, g1, g2, g3, g4, g5, g6⟩, fun j ⟨d, hd⟩ q => ?_⟩, fun _ _ => ⟨D, rfl, hD⟩⟩
      by_cases hj : j ∈ vs
      · rw [backE_in L.len hj] at hd
        exact (calm_inv (hcalm j hj)).1 d hd
      · rw [backE_out hj] at hd
        exact L.noD Iw hD j ⟨d, by rw [wipeE_out hj]; exact hd⟩ (by rw [wipe_out hj]; exact q)
theorem pd_dc {kx vx iter : Expr} {ifs : List Expr} {eifs : Option Ex} {scope : Scope} {own : List (Str × Nat)} (G : Good W X) (hc : X.calm = true) (hN : X.N.Nodup) (hi : PID X W H0 Xw tg iter (itM ev it)) (ok : BlkOk X.N X.env.scope scope own) (hT : ∀ j ∈ tgS tt, j ∈ own.map (·.2))
    (hg : ∀ (s : Shared) (H : Hp) (C : Addr) (cl : List (Str × Addr)) (fp : List Addr), PG (X.blk s H scope (compEnvC scope cl C X.env) fp) tg (tG W H0 tt))
    (ht : ∀ (s : Shared) (H : Hp) (C : Addr) (cl : List (Str × Addr)) (fp : List Addr), PTsD (X.blk s H scope (compEnvC scope cl C X.env) fp) W H0 ifs (ifM ev eifs))
    (hk : ∀ (s : Shared) (H : Hp) (C : Addr) (cl : List (Str × Addr)) (fp : List Addr), PD (X.blk s H scope (compEnvC scope cl C X.env) fp) W H0 NoX kx (ev ek))
    (he : ∀ (s : Shared) (H : Hp) (C : Addr) (cl : List (Str × Addr)) (fp : List Addr), PD (X.blk s H scope (compEnvC scope cl C X.env) fp) W H0 NoX vx (ev ew)) (hs : ∀ x, foldedSetIterable iter X.env x = pure x := by intro _; rfl) :
    PD X W H0 Xw (.DictComp kx vx [⟨tg, iter, ifs, 0⟩] scope pos) (stepE S ev (.dc t (own.map (·.2)) tt it eifs ek ew)) :=
  PE_imp (pe_dcD (t := t) G hc hN hi ok hg ht hk he hs) fun σ H Q h => dc_reads hT h
end
end
end T
end
section
set_option Elab.async false
set_option linter.all false
set_option autoImplicit false
set_option maxRecDepth 100000
/-! statements -/
namespace T
open PySem PySem.Spec PyProof.Rows L2
/-- what a def's end hands over -/
def RetOk (W : Wd) (SS : States) (H0 F H : Hp) : Ent → V → Prop
  | .val d, v => Rep W SS F d v
  | .own d, v => OwnOk W SS H0 F H d v
  | .bor _, _ => False
def PostS (W : Wd) (SS : States) (H0 : Hp) (X : WX) (D : Ends) (F : Hp) : Ou Fl → Prop
  | .ok .nx δ' => ∀ σ' F' H', Inh H0 F F' → EnvOk W SS H0 F' H' σ' δ' → D.nx σ' H'
  | .ok .bk δ' => ∀ σ' F' H', Inh H0 F F' → EnvOk W SS H0 F' H' σ' δ' → D.bk σ' H'
  | .ok .ct δ' => ∀ σ' F' H', Inh H0 F F' → EnvOk W SS H0 F' H' σ' δ' → D.ct σ' H'
  | .ok (.rt e) δ' => ∀ v F' H', Inh H0 F F' → (∃ σ', EnvOk W SS H0 F' H' σ' δ') → RetOk W SS H0 F' H' e v → D.rt v H'
  | .exc e δ' => ∀ c dd σ' F' H', Inh H0 F F' → EnvOk W SS H0 F' H' σ' δ' → ExcOk W SS F' H' e c dd → X c dd σ' H'
def tS (W : Wd) (H0 : Hp) (X : WX) (m : EvM Fl) : TS := fun D σ H => ∃ SS F δ, EnvOk W SS H0 F H σ δ ∧ (m δ).wp (PostS W SS H0 X D F)
theorem PostS.shift {W : Wd} {SS : States} {H0 : Hp} {X : WX} {D : Ends} {F F1 : Hp} (i : Inh H0 F F1) : ∀ {r : Ou Fl}, PostS W SS H0 X D F r → PostS W SS H0 X D F1 r
  | .ok .nx δ', h => fun σ' F' H' j => h σ' F' H' (i.trans j)
  | .ok .bk δ', h => fun σ' F' H' j => h σ' F' H' (i.trans j)
  | .ok .ct δ', h => fun σ' F' H' j => h σ' F' H' (i.trans j)
  | .ok (.rt e) δ', h => fun v F' H' j => h v F' H' (i.trans j)
  | .exc e δ', h => fun c dd σ' F' H' j => h c dd σ' F' H' (i.trans j)
/-- an expression, then the rest of its statement -/
theorem tS_bind {α β : Type} {R1 : RelR α β} {W : Wd} {SS : States} {H0 : Hp} {X : WX} {σ : L2.St} {F H : Hp} {δ : Env} {D : Ends} {Z : β → Hp → Prop} {m : EvM α} {f : α → EvM Fl} (I : EnvOk W SS H0 F H σ δ) (h : ((m.bind f) δ).wp (PostS W SS H0 X D F))
    (k : ∀ p δ1 x F1 H1, Stp SS σ F H δ F1 H1 δ1 → EnvOk W SS H0 F1 H1 σ δ1 → R1 SS σ H F1 H1 δ1 p x → (f p δ1).wp (PostS W SS H0 X D F) → Z x H1) : tR R1 W H0 X m σ H Z := by
  refine ⟨SS, F, δ, I, Tr.wp_mono ?_ (Tr.wp_bind.mp h)⟩
  intro r hr
  cases r with
  | ok p δ1 => exact fun x F1 H1 st e q => k p δ1 x F1 H1 st e q hr
  | exc e δ1 => exact fun c dd F' H' j e q => hr c dd σ F' H' j e q
/-- .. further on in the statement -/
theorem tS_bind' {α β : Type} {R1 : RelR α β} {W : Wd} {SS : States} {H0 : Hp} {X : WX} {σ : L2.St} {F F0 H : Hp} {δ : Env} {D : Ends} {Z : β → Hp → Prop} {m : EvM α} {f : α → EvM Fl} (i : Inh H0 F0 F) (I : EnvOk W SS H0 F H σ δ) (h : ((m.bind f) δ).wp (PostS W SS H0 X D F0))
    (k : ∀ p δ1 x F1 H1, Stp SS σ F H δ F1 H1 δ1 → Inh H0 F0 F1 → EnvOk W SS H0 F1 H1 σ δ1 → R1 SS σ H F1 H1 δ1 p x → (f p δ1).wp (PostS W SS H0 X D F0) → Z x H1) : tR R1 W H0 X m σ H Z := by
  refine ⟨SS, F, δ, I, Tr.wp_mono ?_ (Tr.wp_bind.mp h)⟩
  intro r hr
  cases r with
  | ok p δ1 => exact fun x F1 H1 st e q => k p δ1 x F1 H1 st (i.trans (st.inh I)) e q hr
  | exc e δ1 => exact fun c dd F' H' j e q => hr c dd σ F' H' (i.trans j) e q
section
variable {W : Wd} {SS : States} {H0 F H : Hp} {σ : L2.St} {δ : Env}
theorem own_there {i : Nat} (I : EnvOk W SS H0 F H σ δ) (h : isOwn δ i) : ∃ a o, σ[i]? = some (some (.ref a)) ∧ H a = some o ∧ H0 a = none ∧ F a = none ∧ a ∉ addrs SS ∧ Cont a o := by
  obtain ⟨d, hd⟩ := h
  obtain ⟨v, hv, a, o, rfl, e2, e3, e4, e5, e6⟩ := I.ent i _ hd
  exact ⟨a, o, hv, e5, e2, e3, e4, topo_cont e6⟩
/-- a slot takes a container of its own -/
theorem EnvOk.putO {i : Nat} {d : D} {v : V} (I : EnvOk W SS H0 F H σ δ) (r : OwnOk W SS H0 F H d v) (hi : i < δ.length) (hn : ∀ j, j ≠ i → isOwn δ j → σ[j]? ≠ some (some v)) : EnvOk W SS H0 F H (σ.set i (some v)) (δ.set i (some (.own d))) := by
  have hd : δ[i]? = some (δ[i]) := List.getElem?_eq_getElem hi
  have hs : σ[i]? = some (σ[i]'(I.len ▸ hi)) := List.getElem?_eq_getElem (I.len ▸ hi)
  refine ⟨I.same, I.sub, I.sts, I.nds, I.tab, fun j y hy => ?_, fun j k d1 d2 b hjk h1 h2 h3 h4 => ?_, by rw [List.length_set, List.length_set]; exact I.len⟩
  · by_cases hj : i = j
    · subst hj
      rw [getElem?_set_eq hd] at hy
      cases hy
      exact ⟨v, getElem?_set_eq hs, r⟩
    · rw [getElem?_set_ne hj] at hy ⊢
      exact I.ent j y hy
  · by_cases hj : i = j
    · subst hj
      rw [getElem?_set_eq hs] at h3
      rw [getElem?_set_ne hjk] at h2 h4
      cases h3
      exact hn k (Ne.symm hjk) ⟨d2, h2⟩ h4
    · by_cases hk : i = k
      · subst hk
        rw [getElem?_set_eq hs] at h4
        rw [getElem?_set_ne hj] at h1 h3
        cases h4
        exact hn j hjk ⟨d1, h1⟩ h3
      · rw [getElem?_set_ne hj] at h1 h3
        rw [getElem?_set_ne hk] at h2 h4
        exact I.sep j k d1 d2 b hjk h1 h2 h3 h4
/-- a slot is forgotten -/
theorem EnvOk.drop {i : Nat} (I : EnvOk W SS H0 F H σ δ) : EnvOk W SS H0 F H σ (δ.set i none) := by
  have g : ∀ {j : Nat} {e : Ent}, (δ.set i none)[j]? = some (some e) → j ≠ i ∧ δ[j]? = some (some e) := fun {j e} h => by
    by_cases hj : i = j
    · subst hj
      rw [List.getElem?_set] at h
      simp only [if_true] at h
      split at h <;> cases h
    · rw [getElem?_set_ne hj] at h
      exact ⟨Ne.symm hj, h⟩
  refine ⟨I.same, I.sub, I.sts, I.nds, I.tab, fun j y hy => I.ent j y (g hy).2, fun j k d1 d2 b hjk h1 h2 h3 h4 => I.sep j k d1 d2 b hjk (g h1).2 (g h2).2 h3 h4, by rw [List.length_set]; exact I.len⟩
/-- .. and its value, too -/
theorem EnvOk.drop2 {i : Nat} (I : EnvOk W SS H0 F H σ δ) : EnvOk W SS H0 F H (σ.set i none) (δ.set i none) := by
  have J := I.drop (i := i)
  refine ⟨J.same, J.sub, J.sts, J.nds, J.tab, fun j y hy => ?_, fun j k d1 d2 b hjk h1 h2 h3 h4 => ?_, by rw [List.length_set, List.length_set]; exact I.len⟩
  · by_cases hj : i = j
    · subst hj
      rw [List.getElem?_set] at hy
      simp only [if_true] at hy
      split at hy <;> cases hy
    · obtain ⟨v, hv, q⟩ := J.ent j y hy
      exact ⟨v, by rw [getElem?_set_ne hj]; exact hv, q⟩
  · have hj : i ≠ j := fun e => by
      subst e
      rw [List.getElem?_set] at h1
      simp only [if_true] at h1
      split at h1 <;> cases h1
    have hk : i ≠ k := fun e => by
      subst e
      rw [List.getElem?_set] at h2
      simp only [if_true] at h2
      split at h2 <;> cases h2
    rw [getElem?_set_ne hj] at h3
    rw [getElem?_set_ne hk] at h4
    exact J.sep j k d1 d2 b hjk h1 h2 h3 h4
/-- a store of an operand -/
theorem put_ok {i : Nat} {o : Op} {x : V} {f : Unit → EvM Fl} {P : Ou Fl → Prop} (I : EnvOk W SS H0 F H σ δ) (q : OpOk W SS H0 F H σ δ o x) (h : (((putM i o).bind f) δ).wp P) : ∃ δ', EnvOk W SS H0 F H (σ.set i (some x)) δ' ∧ (f () δ').wp P ∧ (∀ j, j ≠ i → δ'[j]? = δ[j]? ∨ δ'[j]? = some none) ∧ (isOwn δ' i → (∃ d, o = .f d) ∨ ∃ k, σ[k]? = some (some x) ∧ isOwn δ k) := by
  unfold EvM.bind putM at h
  by_cases hi : i < δ.length
  · simp only [if_pos hi] at h
    have hdi : δ[i]? = some δ[i] := List.getElem?_eq_getElem hi
    have outs : ∀ {e : Option Ent} {j : Nat}, j ≠ i → (δ.set i e)[j]? = δ[j]? := fun hj => getElem?_set_ne (Ne.symm hj)
    have noval : ∀ {d : D}, ¬ isOwn (δ.set i (some (.val d))) i := fun ⟨d', hd⟩ => by rw [getElem?_set_eq hdi] at hd; cases hd
    cases o with
    | v d => exact ⟨_, I.put q hi, h, fun j hj => .inl (outs hj), fun z => absurd z noval⟩
    | f d => exact ⟨_, I.putO q.1 hi fun j _ hj => q.2 j hj, h, fun j hj => .inl (outs hj), fun _ => .inl ⟨d, rfl⟩⟩
    | b j =>
      obtain ⟨hx, e, he⟩ := q
      simp only [he] at h
      cases e with
      | val d =>
        obtain ⟨v, hv, r⟩ := I.ent j _ he
        rw [hx] at hv
        cases hv
        exact ⟨_, I.put r hi, h, fun k hk => .inl (outs hk), fun z => absurd z noval⟩
      | own d =>
        obtain ⟨v, hv, r⟩ := I.ent j _ he
        rw [hx] at hv
        cases hv
        have I2 := I.drop (i := j)
        refine ⟨_, I2.putO r (by rw [List.length_set]; exact hi) fun k hk hok e => ?_, h, fun k hk => ?_, fun _ => .inr ⟨j, hx, d, he⟩⟩
        · obtain ⟨d', hd'⟩ := hok
          by_cases hkj : j = k
          · subst hkj
            rw [List.getElem?_set] at hd'
            simp only [if_true] at hd'
            split at hd' <;> cases hd'
          · rw [getElem?_set_ne hkj] at hd'
            obtain ⟨a, o, rfl, _⟩ := r
            exact I.sep j k d d' a hkj he hd' hx e
        · rw [getElem?_set_ne (Ne.symm hk)]
          by_cases hkj : j = k
          · subst hkj; exact .inr (getElem?_set_eq he)
          · exact .inl (getElem?_set_ne hkj)
      | bor d => exact h.elim
  · simp only [if_neg hi] at h
    exact h.elim
/-- a further operand behind a store -/
theorem OpOk.put {i : Nat} {o p : Op} {x y : V} {δ' : Env} (I : EnvOk W SS H0 F H σ δ) (q1 : OpOk W SS H0 F H σ δ o x) (q2 : OpOk W SS H0 F H σ δ p y) (hd : (∃ d, o = .f d) → (∃ d, p = .f d) → x ≠ y) (hb : notB i p = true) (h1 : ∀ j, j ≠ i → δ'[j]? = δ[j]? ∨ δ'[j]? = some none) (h2 : isOwn δ' i → (∃ d, o = .f d) ∨ ∃ k, σ[k]? = some (some x) ∧ isOwn δ k) :
    OpOk W SS H0 F H (σ.set i (some x)) δ' p y ∨ ∃ k, p = .b k ∧ δ'[k]? = some none := by
  cases p with
  | v d => exact .inl q2
  | f d =>
    refine .inl ⟨q2.1, fun k hk e => ?_⟩
    by_cases hki : i = k
    · subst hki
      have hx : x = y := by
        rw [List.getElem?_set] at e
        simp only [if_true] at e
        split at e
        · exact Option.some.inj (Option.some.inj e)
        · cases e
      rcases h2 hk with z | ⟨k, z1, z2⟩
      · exact hd z ⟨d, rfl⟩ hx
      · exact q2.2 k z2 (hx ▸ z1)
    · rw [getElem?_set_ne hki] at e
      obtain ⟨d', hd'⟩ := hk
      rcases h1 k (Ne.symm hki) with z | z
      · exact q2.2 k ⟨d', by rw [← z]; exact hd'⟩ e
      · rw [z] at hd'; cases hd'
  | b k =>
    obtain ⟨hx, e, he⟩ := q2
    have hki : k ≠ i := by
      intro e
      subst e
      simp [notB] at hb
    rcases h1 k hki with z | z
    · exact .inl ⟨by rw [getElem?_set_ne (Ne.symm hki)]; exact hx, e, by rw [z]; exact he⟩
    · exact .inr ⟨k, rfl, z⟩
theorem putM_none {i k : Nat} {f : Unit → EvM Fl} {P : Ou Fl → Prop} (hk : δ[k]? = some none) (h : (((putM i (.b k)).bind f) δ).wp P) : False := by
  unfold EvM.bind putM at h
  by_cases hi : i < δ.length
  · simp only [if_pos hi, hk] at h
    exact h
  · simp only [if_neg hi] at h
    exact h
/-- a slot's own container is written -/
theorem EnvOk.mutOwn {i : Nat} {a : Addr} {d d' : D} {o o' : HO} (I : EnvOk W SS H0 F H σ δ) (h : δ[i]? = some (some (.own d))) (hx : σ[i]? = some (some (.ref a))) (ha : H a = some o) (t : TopO W SS F (upd H a o') a d' o') : EnvOk W SS H0 F (upd H a o') σ (δ.set i (some (.own d'))) := by
  obtain ⟨a', o2, e1, e2, e3, e4, e5, e6⟩ := own_there I ⟨d, h⟩
  rw [hx] at e1
  cases e1
  have hn : ∀ {b : Addr} {u : HO}, F b = some u → b ≠ a := fun e => ne_of_none e e4
  refine ⟨fun b x nb e => ?_, fun b x e => ?_, fun q hq => ?_, I.nds, tabs_upd I.tab (fun u e => by rw [e2] at e; cases e; exact e6), fun j e he => ?_, fun j k d1 d2 b hjk h1 h2 h3 h4 => ?_, by rw [List.length_set]; exact I.len⟩
  · rw [upd_ne (ne_of_none e e3)]; exact I.same b x nb e
  · rw [upd_ne (hn e)]; exact I.sub _ _ e
  · obtain ⟨⟨cells, i, j, h1, h2, h3⟩, h4, h5⟩ := I.sts q hq
    have m1 : q.1 ≠ a := fun e => e5 (e ▸ (mem_a hq).1)
    have m2 : q.2 ≠ a := fun e => e5 (e ▸ (mem_a hq).2)
    exact ⟨⟨cells, i, j, by rw [upd_ne m1]; exact h1, by rw [upd_ne m2]; exact h2, h3⟩, h4, h5⟩
  · by_cases hj : i = j
    · subst hj
      rw [getElem?_set_eq h] at he
      cases he
      exact ⟨_, hx, a, o', rfl, e3, e4, e5, upd_same, t⟩
    · rw [getElem?_set_ne hj] at he
      obtain ⟨v, hv, q⟩ := I.ent j e he
      refine ⟨v, hv, ?_⟩
      cases e with
      | val d => exact q
      | bor d => exact q
      | own d1 =>
        obtain ⟨b, u, rfl, f2, f3, f4, f5, f6⟩ := q
        have ne : b ≠ a := fun e => I.sep i j d d1 a hj h he hx (e ▸ hv)
        refine ⟨b, u, rfl, f2, f3, f4, by rw [upd_ne ne]; exact f5, f6.mono (Sub.refl F) fun dx hdx => ?_⟩
        rw [upd_ne (show dx ≠ a from fun e => by rw [e, e2] at hdx; exact e6.own b (Option.some.inj hdx))]
        exact hdx
  · have out : ∀ {m : Nat} {dd : D}, (δ.set i (some (.own d')))[m]? = some (some (.own dd)) → ∃ d3, δ[m]? = some (some (.own d3)) := fun {m dd} hm => by
      by_cases hj : i = m
      · subst hj; exact ⟨d, h⟩
      · rw [getElem?_set_ne hj] at hm; exact ⟨dd, hm⟩
    obtain ⟨d3, g3⟩ := out h1
    obtain ⟨d4, g4⟩ := out h2
    exact I.sep j k d3 d4 b hjk g3 g4 h3 h4
theorem Stp.mutOwn {i : Nat} {a : Addr} {d d' : D} {o' : HO} (h : δ[i]? = some (some (.own d))) (hx : σ[i]? = some (some (.ref a))) : Stp SS σ F H δ F (upd H a o') (δ.set i (some (.own d'))) := by
  have out : ∀ {m : Nat} {dd : D}, (δ.set i (some (.own d')))[m]? = some (some (.own dd)) → ∃ d3, δ[m]? = some (some (.own d3)) := fun {m dd} hm => by
    by_cases hj : i = m
    · subst hj; exact ⟨d, h⟩
    · rw [getElem?_set_ne hj] at hm; exact ⟨dd, hm⟩
  refine ⟨Sub.refl F, fun b o nb hb e => ?_, fun b o e => .inl e, fun m ⟨dd, hm⟩ => out hm, fun m e he => ?_, fun b e => ?_⟩
  · rw [upd_ne (show b ≠ a from fun q => hb i ⟨d, h⟩ (q ▸ hx))]; exact e
  · by_cases hj : i = m
    · subst hj; exact ⟨_, getElem?_set_eq h⟩
    · exact ⟨e, by rw [getElem?_set_ne hj]; exact he⟩
  · by_cases hb : b = a
    · subst hb; rw [upd_same] at e; cases e
    · rw [upd_ne hb] at e; exact e
end
end T
end
section
set_option Elab.async false
set_option linter.all false
set_option autoImplicit false
set_option maxRecDepth 100000
/-! statements: the rules -/
namespace T
open PySem PySem.Spec PyProof.Rows L2
section
variable {X : Cx} {W : Wd} {H0 : Hp} {Xw : WX} {S : Sig} {gas : Nat} {ev : Ex → EvM Op} {ex : Stm → EvM Fl} {a b c e : Expr} {ea eb ec ee : Ex} {pos : Pos} {es rest : List Expr} {eas : List Ex} {tg : Expr} {t : Tg} {ts : List Tg} {it : It} {st : Stmt} {sts : List Stmt} {s : Stm} {ss : List Stm}
abbrev PSD (X : Cx) (W : Wd) (H0 : Hp) (Xw : WX) (st : Stmt) (m : EvM Fl) : Prop := PS X st (tS W H0 Xw m)
abbrev PSsD (X : Cx) (W : Wd) (H0 : Hp) (Xw : WX) (st : List Stmt) (m : EvM Fl) : Prop := PSs X st (tS W H0 Xw m)
theorem PS_imp {t t' : TS} (h : PS X st t) (i : ∀ D σ H, t' D σ H → t D σ H) : PS X st t' := ⟨fun pins s σ H D I q => h.run pins s σ H D I (i D σ H q)⟩
theorem PSs_imp {t t' : TS} (h : PSs X sts t) (i : ∀ D σ H, t' D σ H → t D σ H) : PSs X sts t' := ⟨fun pins s σ H D I q => h.run pins s σ H D I (i D σ H q)⟩
theorem tS_seq {m r : EvM Fl} {D : Ends} {σ : L2.St} {H : Hp} (h : tS W H0 Xw (seqM m r) D σ H) : tS W H0 Xw m { D with nx := tS W H0 Xw r D } σ H := by
  obtain ⟨SS, F, δ, I, h⟩ := h
  refine ⟨SS, F, δ, I, Tr.wp_mono (fun o ho => ?_) (Tr.wp_bind.mp (show ((m δ).bind _).wp _ from h))⟩
  cases o with
  | exc e δ1 => exact ho
  | ok f δ1 =>
    cases f with
    | nx => exact fun σ' F' H' i I' => ⟨SS, F', δ1, I', Tr.wp_mono (fun _ z => PostS.shift i z) ho⟩
    | rt e => exact ho
    | bk => exact ho
    | ct => exact ho
theorem psd_nil : PSsD X W H0 Xw [] (blkM ex []) := PSs_imp pss_nil fun D σ H ⟨SS, F, δ, I, h⟩ => h σ F H (Inh.refl _ _) I
theorem psd_cons (h1 : PSD X W H0 Xw st (ex s)) (h2 : PSsD X W H0 Xw sts (blkM ex ss)) : PSsD X W H0 Xw (st :: sts) (blkM ex (s :: ss)) :=
  PSs_imp (pss_cons h1 h2) fun D σ H h => tS_seq h
theorem psd_bad : PSD X W H0 Xw st (stepS S gas ev ex .bad) := PS_imp ps_never fun D σ H ⟨SS, F, δ, I, h⟩ => h.elim
theorem pd_bad : PD X W H0 Xw e (stepE S ev .bad) := ⟨fun _ _ _ _ _ _ ⟨SS, F, δ, I, h⟩ => h.elim⟩
theorem psd_pass : PSD X W H0 Xw (.Pass pos) (stepS S gas ev ex .pass) := PS_imp ps_pass fun D σ H ⟨SS, F, δ, I, h⟩ => h σ F H (Inh.refl _ _) I
theorem psd_cont : PSD X W H0 Xw (.Continue pos) (stepS S gas ev ex .cont) := PS_imp ps_continue fun D σ H ⟨SS, F, δ, I, h⟩ => h σ F H (Inh.refl _ _) I
theorem psd_brk : PSD X W H0 Xw (.Break pos) (stepS S gas ev ex .brk) := PS_imp ps_break fun D σ H ⟨SS, F, δ, I, h⟩ => h σ F H (Inh.refl _ _) I
theorem psd_retn : PSD X W H0 Xw (.Return none pos) (stepS S gas ev ex .retn) := PS_imp ps_retN fun D σ H ⟨SS, F, δ, I, h⟩ => h .non F H (Inh.refl _ _) ⟨σ, I⟩ (rep_non (W := W) (SS := SS) (F := F))
theorem psd_ex (he : PD X W H0 Xw e (ev ee)) (hs : swapsWith e none pos.line X.env = pure false := by rfl) : PSD X W H0 Xw (.Expr e pos) (stepS S gas ev ex (.ex ee)) :=
  PS_imp (ps_expr he hs) fun D σ H ⟨SS, F, δ, I, h⟩ => tS_bind I h fun p δ1 x F1 H1 st I1 q h1 => h1 σ F1 H1 (st.inh I) I1
theorem retO_inv {SS : States} {F0 F H : Hp} {σ : L2.St} {δ : Env} {o : Op} {x : V} {D : Ends} (i : Inh H0 F0 F) (I : EnvOk W SS H0 F H σ δ) (q : OpOk W SS H0 F H σ δ o x) (h : (retO o δ).wp (PostS W SS H0 Xw D F0)) : D.rt x H := by
  cases o with
  | v d => exact h x F H i ⟨σ, I⟩ q
  | f d => exact h x F H i ⟨σ, I⟩ q.1
  | b j =>
    obtain ⟨hx, e, he⟩ := q
    unfold retO at h
    simp only [he] at h
    obtain ⟨v, hv, r⟩ := I.ent j e he
    rw [hx] at hv
    cases hv
    cases e with
    | val d => exact h x F H i ⟨σ, I⟩ r
    | own d => exact h x F H i ⟨σ, I.drop⟩ r
    | bor d => exact h.elim
theorem psd_ret (he : PD X W H0 Xw e (ev ee)) : PSD X W H0 Xw (.Return (some e) pos) (stepS S gas ev ex (.ret ee)) :=
  PS_imp (ps_ret he) fun D σ H ⟨SS, F, δ, I, h⟩ => tD_mono (tS_bind (R1 := rO W H0) (Z := D.rt) I h fun p δ1 x F1 H1 st I1 q h1 => retO_inv (st.inh I) I1 q.1 h1) fun _ _ z => z
theorem psd_if {eb1 eb2 : List Stm} {b1 b2 : List Stmt} (hc : PTD X W H0 Xw c (testO (ev ec))) (h1 : PSsD X W H0 Xw b1 (blkM ex eb1)) (h2 : PSsD X W H0 Xw b2 (blkM ex eb2)) : PSD X W H0 Xw (.If c b1 b2 pos) (stepS S gas ev ex (.iff ec eb1 eb2)) :=
  PS_imp (ps_if hc h1 h2) fun D σ H ⟨SS, F, δ, I, h⟩ => by
    have h' : (((testO (ev ec)).bind fun r => blkM ex (if r then eb1 else eb2)) δ).wp (PostS W SS H0 Xw D F) := h
    refine tS_bind I h' fun p δ1 x F1 H1 st I1 q h1 => ?_
    cases q
    cases p with
    | true => exact ⟨SS, F1, δ1, I1, Tr.wp_mono (fun _ z => PostS.shift (st.inh I) z) h1⟩
    | false => exact ⟨SS, F1, δ1, I1, Tr.wp_mono (fun _ z => PostS.shift (st.inh I) z) h1⟩
/-! ### stores -/
theorem set_reads {i : Nat} {D : Ends} {σ : L2.St} {H : Hp} (h : tS W H0 Xw (stepS S gas ev ex (.set (.n i) ee)) D σ H) : tD W H0 Xw (ev ee) σ H fun x H1 => D.nx (σ.set i (some x)) H1 := by
  obtain ⟨SS, F, δ, I, h⟩ := h
  have h' : (((ev ee).bind fun o => (putM i o).bind fun _ => EvM.pure .nx) δ).wp (PostS W SS H0 Xw D F) := h
  refine tS_bind I h' fun p δ1 x F1 H1 st I1 q h1 => ?_
  obtain ⟨δ2, I2, h2, _⟩ := put_ok I1 q.1 h1
  exact h2 _ F1 H1 (st.inh I) I2
theorem psd_set {i : Nat} {x : Str} {pos' : Pos} (hN : X.N.Nodup) (hi : X.N[i]? = some x) (hx : Loc X.env.scope x) (he : PD X W H0 Xw e (ev ee)) (hs : swapsWith e (some (.Name x pos')) pos.line X.env = pure false) (hf : X.fn x = true ∨ X.env.scope.names.lookup x = some .local := by first | exact .inl rfl | exact .inr rfl | assumption) : PSD X W H0 Xw (.Assign [.Name x pos'] e pos) (stepS S gas ev ex (.set (.n i) ee)) :=
  PS_imp (ps_set hN hi hx he hs hf) fun D σ H h => set_reads h
theorem psd_setLc {i : Nat} {y : Str} {py spos : Pos} {elt iter : Expr} {ifs : List Expr} {eifs : Option Ex} {scope : Scope} {own : List (Str × Nat)} (hev : ev (.lc (own.map (·.2)) t it eifs ee) = stepE S (fun e => ev e) (.lc (own.map (·.2)) t it eifs ee) → True) {ev' : Ex → EvM Op} (hE : ev (.lc (own.map (·.2)) t it eifs ee) = stepE S ev' (.lc (own.map (·.2)) t it eifs ee)) (hc : X.calm = true) (hN : X.N.Nodup) (hy : X.N[i]? = some y) (hyl : X.env.scope.names.lookup y = some .local)
    (hsw : swapsWith (.ListComp elt [⟨tg, iter, ifs, 0⟩] scope pos) (some (.Name y py)) spos.line X.env = pure true) (hi : PID X W H0 Xw tg iter (itM ev' it)) (ok : BlkOk X.N X.env.scope scope own) (hT : ∀ j ∈ tgS t, j ∈ own.map (·.2))
    (hg : ∀ (s : Shared) (H : Hp) (C : Addr) (cl : List (Str × Addr)) (fp : List Addr), PG (X.blk s H scope (compEnvC scope cl C X.env) fp) tg (tG W H0 t))
    (ht : ∀ (s : Shared) (H : Hp) (C : Addr) (cl : List (Str × Addr)) (fp : List Addr), PTsD (X.blk s H scope (compEnvC scope cl C X.env) fp) W H0 ifs (ifM ev' eifs))
    (he : ∀ (s : Shared) (H : Hp) (C : Addr) (cl : List (Str × Addr)) (fp : List Addr), PD (X.blk s H scope (compEnvC scope cl C X.env) fp) W H0 NoX elt (ev' ee)) (hs : ∀ x, foldedSetIterable iter X.env x = pure x := by intro _; rfl) :
    PSD X W H0 Xw (.Assign [.Name y py] (.ListComp elt [⟨tg, iter, ifs, 0⟩] scope pos) spos) (stepS S gas ev ex (.set (.n i) (.lc (own.map (·.2)) t it eifs ee))) :=
  PS_imp (ps_setLc hc hN hy hyl hsw hi ok hg ht he hs) fun D σ H h => by
    have h1 := set_reads h
    rw [hE] at h1
    exact lc_reads hT h1
theorem psd_setDc {i : Nat} {y : Str} {py spos : Pos} {kx vx iter : Expr} {ifs : List Expr} {eifs : Option Ex} {ek ew : Ex} {bt : Bool} {scope : Scope} {own : List (Str × Nat)} {ev' : Ex → EvM Op} (hE : ev (.dc bt (own.map (·.2)) t it eifs ek ew) = stepE S ev' (.dc bt (own.map (·.2)) t it eifs ek ew)) (G : Good W X) (hc : X.calm = true) (hN : X.N.Nodup) (hy : X.N[i]? = some y) (hyl : X.env.scope.names.lookup y = some .local)
    (hsw : swapsWith (.DictComp kx vx [⟨tg, iter, ifs, 0⟩] scope pos) (some (.Name y py)) spos.line X.env = pure true) (hi : PID X W H0 Xw tg iter (itM ev' it)) (ok : BlkOk X.N X.env.scope scope own) (hT : ∀ j ∈ tgS t, j ∈ own.map (·.2))
    (hg : ∀ (s : Shared) (H : Hp) (C : Addr) (cl : List (Str × Addr)) (fp : List Addr), PG (X.blk s H scope (compEnvC scope cl C X.env) fp) tg (tG W H0 t))
    (ht : ∀ (s : Shared) (H : Hp) (C : Addr) (cl : List (Str × Addr)) (fp : List Addr), PTsD (X.blk s H scope (compEnvC scope cl C X.env) fp) W H0 ifs (ifM ev' eifs))
    (hk : ∀ (s : Shared) (H : Hp) (C : Addr) (cl : List (Str × Addr)) (fp : List Addr), PD (X.blk s H scope (compEnvC scope cl C X.env) fp) W H0 NoX kx (ev' ek))
    (he : ∀ (s : Shared) (H : Hp) (C : Addr) (cl : List (Str × Addr)) (fp : List Addr), PD (X.blk s H scope (compEnvC scope cl C X.env) fp) W H0 NoX vx (ev' ew)) (hs : ∀ x, foldedSetIterable iter X.env x = pure x := by intro _; rfl) :
    PSD X W H0 Xw (.Assign [.Name y py] (.DictComp kx vx [⟨tg, iter, ifs, 0⟩] scope pos) spos) (stepS S gas ev ex (.set (.n i) (.dc bt (own.map (·.2)) t it eifs ek ew))) :=
  PS_imp (ps_setDcD hy hyl hsw G hc hN hi ok hg ht hk he hs) fun D σ H h => by
    have h1 := set_reads h
    rw [hE] at h1
    exact dc_reads hT h1
theorem psd_setT (he : PD X W H0 Xw e (ev ee)) (hg : PG X tg (tG W H0 (.t ts))) (hs : swapsWithSole [tg] e pos.line X.env = pure false := by rfl) (hw : swappedStores [tg] e X.env = pure none := by rfl) (h1 : (assignEach [tg] X.env).map (·.2) = [assign tg X.env] := by rfl) : PSD X W H0 Xw (.Assign [tg] e pos) (stepS S gas ev ex (.set (.t ts) ee)) :=
  PS_imp (ps_asg he hg hs hw h1) fun D σ H ⟨SS, F, δ, I, h⟩ => by
    have h' : (((ev ee).bind fun o => (rd o).bind fun d => (tgM (.t ts) d).bind fun _ => EvM.pure .nx) δ).wp (PostS W SS H0 Xw D F) := h
    refine tS_bind I h' fun p δ1 x F1 H1 st I1 q h1 => ?_
    obtain ⟨d, l, h2⟩ := rd_inv h1
    have h3 := Tr.wp_bind.mp (show (((tgM (.t ts) d) δ1).bind _).wp _ from h2)
    have cx := I1.look q.1 l
    have r : Rep W SS F1 d x := by
      refine con_rep (fun a o z => ?_) cx
      cases d <;> try exact (show False from h3).elim
      case tup ds => exact z
    obtain ⟨δ2, e2, l2, o2, s2⟩ := tgM_out _ _ _ _ h3
    refine ⟨SS, F1, δ1, d, I1, r, ?_⟩
    rw [e2] at h3 ⊢
    exact fun σ' I' _ _ _ => h3 σ' F1 H1 (st.inh I) I'
/-- a, b = x, y | a, b, c = x, y, z, plain names -/
theorem psd_par2 {i j : Nat} {x y : Str} {e1 e2 : Ex} {px py pt : Pos} {kt k2 pt2} (hc : X.calm = true) (hN : X.N.Nodup) (hi : X.N[i]? = some x) (hj : X.N[j]? = some y) (hij : i ≠ j) (hx : X.env.scope.names.lookup x = some .local) (hy : X.env.scope.names.lookup y = some .local) (ha : PA X [a, b] (tR (rOs W H0) W H0 Xw (evs ev [e1, e2])))
    (hw : swappedStores [.Tuple [.Name x px, .Name y py] kt pt] (.Tuple [a, b] k2 pt2) X.env = pure (some [x, y])) (hs : swapsWithSole [.Tuple [.Name x px, .Name y py] kt pt] (.Tuple [a, b] k2 pt2) pos.line X.env = pure false := by rfl) :
    PSD X W H0 Xw (.Assign [.Tuple [.Name x px, .Name y py] kt pt] (.Tuple [a, b] k2 pt2) pos) (stepS S gas ev ex (.par [i, j] [e1, e2])) :=
  PS_imp (ps_par hc hN hi hj hij hx hy ha hw hs) fun D σ H ⟨SS, F, δ, I, h⟩ => by
    refine tS_bind I (show (((evs ev [e1, e2]).bind fun os => _) δ).wp _ from h) fun os δ1 xs F1 H1 st I1 q h1 => ?_
    rcases os with _ | ⟨o1, _ | ⟨o2, _ | ⟨_, _⟩⟩⟩ <;> try exact (show False from h1).elim
    obtain ⟨x1, r1, rfl, q1, q2, dd⟩ := q
    obtain ⟨x2, r2, rfl, q3, q4, _⟩ := q2
    cases (show r2 = [] from q4)
    obtain ⟨hb, h2⟩ := iteb_inv (show ((if notB i o2 then _ else EvM.bad) δ1).wp _ from h1)
    obtain ⟨δ2, I2, h3, k1, k2⟩ := put_ok I1 q1.1 h2
    refine ⟨x1, x2, rfl, ?_⟩
    rcases OpOk.put I1 q1.1 q3.1 (fun z ⟨d, hd⟩ e => dd z 0 d (by rw [hd]; rfl) (by rw [e]; rfl)) hb k1 k2 with q5 | ⟨k, rfl, hk⟩
    · obtain ⟨δ3, I3, h4, _⟩ := put_ok I2 q5 h3
      exact h4 _ F1 H1 (st.inh I) I3
    · exact (putM_none hk h3).elim
theorem psd_par3 {i j l : Nat} {x y z : Str} {e1 e2 e3 : Ex} {px py pz pt : Pos} {kt k2 pt2} (hc : X.calm = true) (hN : X.N.Nodup) (hi : X.N[i]? = some x) (hj : X.N[j]? = some y) (hl : X.N[l]? = some z) (hij : i ≠ j) (hil : i ≠ l) (hjl : j ≠ l) (hx : X.env.scope.names.lookup x = some .local) (hy : X.env.scope.names.lookup y = some .local) (hz : X.env.scope.names.lookup z = some .local) (ha : PA X [a, b, c] (tR (rOs W H0) W H0 Xw (evs ev [e1, e2, e3])))
    (hw : swappedStores [.Tuple [.Name x px, .Name y py, .Name z pz] kt pt] (.Tuple [a, b, c] k2 pt2) X.env = pure (some [x, y, z])) (hs : swapsWithSole [.Tuple [.Name x px, .Name y py, .Name z pz] kt pt] (.Tuple [a, b, c] k2 pt2) pos.line X.env = pure false := by rfl) :
    PSD X W H0 Xw (.Assign [.Tuple [.Name x px, .Name y py, .Name z pz] kt pt] (.Tuple [a, b, c] k2 pt2) pos) (stepS S gas ev ex (.par [i, j, l] [e1, e2, e3])) :=
  PS_imp (ps_par3 hc hN hi hj hl hij hil hjl hx hy hz ha hw hs) fun D σ H ⟨SS, F, δ, I, h⟩ => by
    refine tS_bind I (show (((evs ev [e1, e2, e3]).bind fun os => _) δ).wp _ from h) fun os δ1 xs F1 H1 st I1 q h1 => ?_
    rcases os with _ | ⟨o1, _ | ⟨o2, _ | ⟨o3, _ | ⟨_, _⟩⟩⟩⟩ <;> try exact (show False from h1).elim
    obtain ⟨x1, r1, rfl, q1, q2, dd⟩ := q
    obtain ⟨x2, r2, rfl, q3, q4, dd2⟩ := q2
    obtain ⟨x3, r3, rfl, q5, q6, _⟩ := q4
    cases (show r3 = [] from q6)
    obtain ⟨hb, h2⟩ := iteb_inv (show ((if notB i o2 && notB i o3 && notB j o3 then _ else EvM.bad) δ1).wp _ from h1)
    simp only [Bool.and_eq_true] at hb
    obtain ⟨δ2, I2, h3, k1, k2⟩ := put_ok I1 q1.1 h2
    refine ⟨x1, x2, x3, rfl, ?_⟩
    rcases OpOk.put I1 q1.1 q3.1 (fun z ⟨d, hd⟩ e => dd z 0 d (by rw [hd]; rfl) (by rw [e]; rfl)) hb.1.1 k1 k2 with q7 | ⟨k, rfl, hk⟩
    · obtain ⟨δ3, I3, h4, k3, k4⟩ := put_ok I2 q7 h3
      rcases OpOk.put I1 q1.1 q5.1 (fun z ⟨d, hd⟩ e => dd z 1 d (by rw [hd]; rfl) (by rw [e]; rfl)) hb.1.2 k1 k2 with q8 | ⟨k, rfl, hk⟩
      · rcases OpOk.put I2 q7 q8 (fun z ⟨d, hd⟩ e => dd2 z 0 d (by rw [hd]; rfl) (by rw [e]; rfl)) hb.2 k3 k4 with q9 | ⟨k, rfl, hk⟩
        · obtain ⟨δ4, I4, h5, _⟩ := put_ok I3 q9 h4
          exact h5 _ F1 H1 (st.inh I) I4
        · exact (putM_none hk h4).elim
      · have hk3 : δ3[k]? = some none := by
          have hkj : k ≠ j := by
            intro e
            subst e
            simp [notB] at hb
          rcases k3 k hkj with z | z
          · rw [z]; exact hk
          · exact z
        exact (putM_none hk3 h4).elim
    · exact (putM_none hk h3).elim
end
end T
end
section
set_option Elab.async false
set_option linter.all false
set_option autoImplicit false
set_option maxRecDepth 100000
/-! statements: stores into containers, loops, raise -/
namespace T
open PySem PySem.Spec PyProof.Rows L2
theorem Grow.inh {W : Wd} {SS : States} {H0 F H F' H' : Hp} {σ : L2.St} {δ : Env} (I : EnvOk W SS H0 F H σ δ) (g : Grow F H F' H') : Inh H0 F F' := by
  refine ⟨g.sub, fun b o e => ?_⟩
  rcases g.new b o e with q | q
  · exact .inl q
  · exact .inr (.inl (I.none0 q))
/-- o[i] = v -/
def rSet (W : Wd) : TSet := fun o i v H Q => (∃ p xs k j, o = .ref p ∧ i = .int k ∧ H p = some (.lst xs) ∧ ixN xs.length k = some j ∧ Q (upd H p (.lst (xs.set j v)))) ∨
  ∃ SS F p ob t kvs k d, o = .ref p ∧ Sub F H ∧ H p = some (dObj p ob) ∧ DAt W SS F t kvs p ob ∧ keyOk t k = true ∧ Rep W SS F k i ∧ Rep W SS F d v ∧ kvs.length < sizeLine ∧ ∀ ob', DAt W SS F t (dset kvs k d) p ob' → Q (upd H p (dObj p ob'))
section
variable {X : Cx} {W : Wd} {H0 : Hp} {Xw : WX} {S : Sig} {gas : Nat} {ev : Ex → EvM Op} {ex : Stm → EvM Fl} {a b c e : Expr} {ea eb ec ee : Ex} {pos : Pos} {es rest : List Expr} {eas : List Ex} {tg : Expr} {t : Tg} {ts : List Tg} {it : It} {st : Stmt} {sts : List Stmt} {s : Stm} {ss : List Stm}
theorem pset (G : Good W X) : PSet X (rSet W) := by
  intro pins s σ H o i v ov iv u Q I ro ri rv h
  rcases h with h | ⟨SS, F, p, ob, t, kvs, k, d, rfl, g1, g2, g3, g4, g5, g6, g7, q⟩
  · exact set_list pins s σ H o i v ov iv u Q I ro ri rv h
  · cases (show ov = Value.ref p from ro)
    have hu := G.hu
    exact dd_set (by omega) I G.hP G.hw G.hK g1 g2 g3 g4 g5 ri g6 rv g7 fun ob' s' h' I' => ⟨_, I', q ob' h'⟩
theorem ixSet_ix {n : Nat} {i : Int} {j : Nat} (h : ixSet n i = some j) : ixN n i = some j := by
  unfold ixSet at h
  unfold ixN
  by_cases h0 : 0 ≤ i
  · rw [if_pos h0] at h ⊢; exact h
  · rw [if_neg h0] at h ⊢
    by_cases h1 : 0 ≤ i + n
    · rw [if_pos h1] at h
      rw [if_pos (by omega)]; exact h
    · rw [if_neg h1] at h; cases h
/-- the store of a slot's own container -/
theorem setM_ok {SS : States} {F0 F H : Hp} {σ : L2.St} {δ : Env} {p : Op} {k v : D} {x i y : V} {D : Ends} (j : Inh H0 F0 F) (I : EnvOk W SS H0 F H σ δ) (q : OpOk W SS H0 F H σ δ p x) (rk : Rep W SS F k i) (rv : Rep W SS F v y) (h : (setM p k v δ).wp (PostS W SS H0 Xw D F0)) : rSet W x i y H fun H' => D.nx σ H' := by
  cases p with
  | v d => exact h.elim
  | f d => exact h.elim
  | b n =>
    obtain ⟨hx, e, he⟩ := q
    unfold setM at h
    simp only [he] at h
    cases e with
    | val d => exact h.elim
    | bor d => exact h.elim
    | own d =>
      obtain ⟨w, hw, a, o, rfl, e2, e3, e4, e5, e6⟩ := I.ent n _ he
      rw [hx] at hw
      cases hw
      simp only at h
      cases hs : setD d k v with
      | none => rw [hs] at h; exact h.elim
      | some d' =>
        rw [hs] at h
        cases d <;> try (cases hs; done)
        case lst xs =>
          cases k <;> try (cases hs; done)
          case int m =>
            obtain ⟨vs, rfl, r⟩ := e6
            have hs' : (ixSet xs.length m).map (fun j => T.D.lst (xs.set j v)) = some d' := hs
            obtain ⟨jj, h1, rfl⟩ := Option.map_eq_some_iff.mp hs'
            have : i = .int m := by unfold Rep at rk; exact rk
            subst this
            refine .inl ⟨a, vs, m, jj, rfl, rfl, e5, r.length ▸ ixSet_ix h1, ?_⟩
            exact h σ F _ j (I.mutOwn he hx e5 ⟨_, rfl, r.set rv jj⟩)
        case dct t kvs =>
          obtain ⟨ob, es, ep, rfl, g⟩ := e6
          have hs' : (dput t kvs k v).map (fun l => T.D.dct t l) = some d' := hs
          obtain ⟨kvs', h1, rfl⟩ := Option.map_eq_some_iff.mp hs'
          obtain ⟨p1, p2, rfl⟩ := dput_inv h1
          refine .inr ⟨SS, F, a, ob, t, kvs, k, v, rfl, I.sub, e5, ⟨es, ep, g⟩, p1, rk, rv, p2, fun ob' hob => ?_⟩
          obtain ⟨es', ep', g'⟩ := hob
          exact h σ F _ j (I.mutOwn he hx e5 ⟨ob', es', ep', rfl, g'⟩)
theorem psd_setix {tpos : Pos} {i : Expr} {ei : Ex} (G : Good W X) (he : PD X W H0 Xw e (ev ee)) (ho : PD X W H0 Xw a (ev ea)) (hi : PD X W H0 Xw i (ev ei)) (ha : ∀ v, assign (.Subscript a i tpos) X.env v = (do let ov ← holding [v] (eval a X.env); let iv ← holding [v, ov] (eval i X.env); standAt tpos; holding [v, ov, iv] (setItem ov iv v); release [v, ov, iv] []) := by intro _; rfl)
    (hs : swapsWithSole [.Subscript a i tpos] e pos.line X.env = pure false := by rfl) (hw : swappedStores [.Subscript a i tpos] e X.env = pure none := by rfl) (h1 : (assignEach [.Subscript a i tpos] X.env).map (·.2) = [assign (.Subscript a i tpos) X.env] := by rfl) : PSD X W H0 Xw (.Assign [.Subscript a i tpos] e pos) (stepS S gas ev ex (.setix ea ei ee)) :=
  PS_imp (ps_asg he (pg_sub ho hi (pset G) ha) hs hw h1) fun D σ H ⟨SS, F, δ, I, h⟩ => by
    have h' : ((((ev ee).bind fz).bind fun v => (ev ea).bind fun p => ((ev ei).bind fz).bind fun k => setM p k v) δ).wp (PostS W SS H0 Xw D F) := h
    rw [bind_assoc] at h'
    refine tS_bind I h' fun p δ1 x F1 H1 st1 I1 q1 h1 => ?_
    obtain ⟨v, F2, δ2, st2, I2, r2, h2⟩ := fz_inv st1 I1 q1 h1
    refine tS_bind' (st2.inh I) I2 h2 fun o δ3 y F3 H3 st3 j3 I3 q3 h3 => ?_
    rw [bind_assoc] at h3
    refine tS_bind' j3 I3 h3 fun k δ4 z F4 H4 st4 j4 I4 q4 h4 => ?_
    obtain ⟨kd, F5, δ5, st5, I5, r5, h5⟩ := fz_inv st4 I4 q4 h4
    exact setM_ok (j3.trans (st5.inh I3)) I5 (OpOk.step I3 I5 st5 q3.1) r5 (Rep.mono (st3.sub.trans st5.sub) _ _ r2) h5
/-! ### augmented stores, ints -/
theorem aug_reads {i : Nat} {o : Bop} {f : Int → Int → Int} (hf : ∀ a b, binD o (.int a) (.int b) = some (.v (.int (f a b)))) {D : Ends} {σ : L2.St} {H : Hp} (h : tS W H0 Xw (stepS S gas ev ex (.aug i o ee)) D σ H) : tAug i (tD W H0 Xw (ev ee)) (ipI f) D σ H := by
  obtain ⟨SS, F, δ, I, h⟩ := h
  have h' : ((match δ[i]? with
    | some (some (.val x)) => ((evD ev ee).bind fun y => match x, y with
        | .int a, .int b => (EvM.opt (binD o (.int a) (.int b))).bind fun r => (putM i r).bind fun _ => .pure .nx
        | _, _ => .bad) δ
    | _ => .bad : Tr (Ou Fl))).wp (PostS W SS H0 Xw D F) := h
  cases hi : δ[i]? with
  | none => rw [hi] at h'; exact h'.elim
  | some oe =>
    rw [hi] at h'
    rcases oe with _ | (x | x | x)
    · exact h'.elim
    · obtain ⟨v, hv, r⟩ := I.ent i _ hi
      refine ⟨v, hv, ?_⟩
      have h2 : (((evD ev ee).bind fun y => match x, y with
        | .int a, .int b => (EvM.opt (binD o (.int a) (.int b))).bind fun r => (putM i r).bind fun _ => .pure .nx
        | _, _ => .bad) δ).wp (PostS W SS H0 Xw D F) := h'
      rw [evD_eq] at h2
      refine tS_bind I h2 fun p δ1 y F1 H1 st1 I1 q1 h1 => ?_
      obtain ⟨d, l, h3⟩ := rd_inv h1
      cases x <;> try exact (show False from h3).elim
      case int a =>
        cases d <;> try exact (show False from h3).elim
        case int b =>
          have e1 : v = .int a := by
            have r' : Rep W SS F (.int a) v := r
            unfold Rep at r'; exact r'
          subst e1
          cases con_int (I1.look q1.1 l)
          obtain ⟨rr, er, h4⟩ := optb_inv (show (((EvM.opt (binD o (.int a) (.int b))).bind fun r => (putM i r).bind fun _ => EvM.pure Fl.nx) δ1).wp (PostS W SS H0 Xw D F) from h3)
          rw [hf] at er
          cases er
          obtain ⟨δ2, I2, h5, _⟩ := put_ok (o := .v (.int (f a b))) (x := .int (f a b)) I1 (rep_int (W := W) (SS := SS) (F := F1)) h4
          exact ⟨a, b, rfl, rfl, h5 _ F1 H1 (st1.inh I) I2⟩
    · exact h'.elim
    · exact h'.elim
theorem psd_augAdd {i : Nat} {x : Str} {pos' : Pos} (hN : X.N.Nodup) (hi : X.N[i]? = some x) (hx : Loc X.env.scope x) (he : PD X W H0 Xw e (ev ee)) (hf : X.fn x = true ∨ X.env.scope.names.lookup x = some .local := by first | exact .inl rfl | exact .inr rfl | assumption) : PSD X W H0 Xw (.AugAssign (.Name x pos') .Add e pos) (stepS S gas ev ex (.aug i .add ee)) :=
  PS_imp (ps_aug hN hi hx he ip_add hf) fun D σ H h => aug_reads (f := fun a b => a + b) (fun _ _ => rfl) h
theorem psd_augSub {i : Nat} {x : Str} {pos' : Pos} (hN : X.N.Nodup) (hi : X.N[i]? = some x) (hx : Loc X.env.scope x) (he : PD X W H0 Xw e (ev ee)) (hf : X.fn x = true ∨ X.env.scope.names.lookup x = some .local := by first | exact .inl rfl | exact .inr rfl | assumption) : PSD X W H0 Xw (.AugAssign (.Name x pos') .Sub e pos) (stepS S gas ev ex (.aug i .sub ee)) :=
  PS_imp (ps_aug hN hi hx he ip_sub hf) fun D σ H h => aug_reads (f := fun a b => a - b) (fun _ _ => rfl) h
/-! ### loops -/
theorem psd_for {iter : Expr} {body : List Stmt} {eb : List Stm} (hp : PassesOwn (model X.prog X.w) X.A X.env X.xe) (hc : X.calm = true) (hi : PID X W H0 Xw tg iter (itM ev it)) (hg : PG X tg (tG W H0 t)) (hb : PSsD X W H0 Xw body (blkM ex eb)) (hs : ∀ x, foldedSetIterable iter X.env x = pure x := by intro _; rfl) : PSD X W H0 Xw (.For tg iter body [] pos) (stepS S gas ev ex (.for_ t it eb)) :=
  PS_imp (ps_for hp hc hi hg hb hs) fun D σ H ⟨SS, F, δ, I, h⟩ => by
    have h' : (((itM ev it).bind fun xs => forM (fun x => (tgM t x).bind fun _ => blkM ex eb) xs) δ).wp (PostS W SS H0 Xw D F) := h
    refine tS_bind I h' fun xs δ1 J F1 H1 st1 I1 q1 h1 => ?_
    have q1' : DW W SS H0 F1 J xs := q1
    refine for_it (dw_walk q1') (fun i σ' H' => ∃ F' δ', Sub F1 F' ∧ Inh H0 F F' ∧ EnvOk W SS H0 F' H' σ' δ' ∧ ((forM (fun x => (tgM t x).bind fun _ => blkM ex eb) (xs.drop i)) δ').wp (PostS W SS H0 Xw D F)) ?_ ?_ ?_ ?_
    · exact ⟨F1, δ1, Sub.refl _, st1.inh I, I1, h1⟩
    · rintro i σ' H' _ ⟨F', δ', s1, j, I', _⟩
      exact ⟨s1.trans I'.sub, I'.same⟩
    · rintro i x σ' H' H'' hi ⟨F', δ', s1, j, I', rest⟩ y
      obtain ⟨F2, d, g, hd, r⟩ := y F' s1 I'.sub I'.same
      rw [drop_cons hd] at rest
      have rest' : ((((tgM t d).bind fun _ => blkM ex eb).bind fun f => match f with
        | .nx => forM (fun x => (tgM t x).bind fun _ => blkM ex eb) (xs.drop (i + 1))
        | .ct => forM (fun x => (tgM t x).bind fun _ => blkM ex eb) (xs.drop (i + 1))
        | .bk => EvM.pure .nx
        | .rt e => EvM.pure (.rt e)) δ').wp (PostS W SS H0 Xw D F) := rest
      rw [bind_assoc] at rest'
      obtain ⟨δ2, e2, _⟩ := tgM_out _ _ _ _ (Tr.wp_bind.mp rest')
      have rest2 := Tr.wp_bind.mp rest'
      rw [e2] at rest2
      refine ⟨SS, F2, δ', d, I'.grow g, r, ?_⟩
      rw [e2]
      intro σ2 I2 _ _ _
      refine ⟨SS, F2, δ2, I2, Tr.wp_mono (fun o ho => ?_) (Tr.wp_bind.mp (show ((blkM ex eb).bind _ δ2).wp _ from rest2))⟩
      have j2 : Inh H0 F F2 := j.trans (g.inh I')
      cases o with
      | exc e δ3 => exact fun c dd σ3 F3 H3 jj => ho c dd σ3 F3 H3 (j2.trans jj)
      | ok f δ3 =>
        cases f with
        | nx => exact fun σ3 F3 H3 jj I3 => ⟨F3, δ3, s1.trans (g.sub.trans jj.sub), j2.trans jj, I3, ho⟩
        | ct => exact fun σ3 F3 H3 jj I3 => ⟨F3, δ3, s1.trans (g.sub.trans jj.sub), j2.trans jj, I3, ho⟩
        | bk => exact fun σ3 F3 H3 jj I3 => ho σ3 F3 H3 (j2.trans jj) I3
        | rt e => exact fun v F3 H3 jj => ho v F3 H3 (j2.trans jj)
    · rintro σ' H' ⟨F', δ', s1, j, I', rest⟩
      rw [List.drop_length] at rest
      exact (show PostS W SS H0 Xw D F (.ok .nx δ') from rest) σ' F' H' j I'
theorem psd_while {body : List Stmt} {eb : List Stm} (hp : PassesOwn (model X.prog X.w) X.A X.env X.xe) (hc : PTD X W H0 Xw c (testO (ev ec))) (hb : PSsD X W H0 Xw body (blkM ex eb)) : PSD X W H0 Xw (.While c body [] pos) (stepS S gas ev ex (.while_ ec eb)) :=
  PS_imp (ps_while hp hc hb) fun D σ H ⟨SS, F, δ, I, h⟩ => by
    refine ⟨fun m σ' H' => ∃ F' δ', Inh H0 F F' ∧ EnvOk W SS H0 F' H' σ' δ' ∧ ((whileM (testO (ev ec)) (blkM ex eb) m) δ').wp (PostS W SS H0 Xw D F), ⟨gas, F, δ, Inh.refl _ _, I, h⟩, ?_⟩
    rintro m σ' H' ⟨F', δ', j, I', w⟩
    cases m with
    | zero => exact w.elim
    | succ m =>
      have w' : (((testO (ev ec)).bind fun b => if b then (blkM ex eb).bind fun f => match f with
        | .nx => whileM (testO (ev ec)) (blkM ex eb) m
        | .ct => whileM (testO (ev ec)) (blkM ex eb) m
        | .bk => EvM.pure .nx
        | .rt e => EvM.pure (.rt e)
      else EvM.pure .nx) δ').wp (PostS W SS H0 Xw D F) := w
      refine tS_bind' j I' w' fun b δ1 b' F1 H1 st1 j1 I1 q1 h1 => ?_
      cases q1
      cases b with
      | false => exact h1 σ' F1 H1 j1 I1
      | true =>
        refine ⟨fun σ2 H2 => ∃ F' δ', Inh H0 F F' ∧ EnvOk W SS H0 F' H2 σ2 δ' ∧ ((whileM (testO (ev ec)) (blkM ex eb) m) δ').wp (PostS W SS H0 Xw D F), fun σ2 H2 q => ⟨m, Nat.lt_succ_self m, q⟩, SS, F1, δ1, I1, Tr.wp_mono (fun o ho => ?_) (Tr.wp_bind.mp (show ((blkM ex eb).bind _ δ1).wp _ from h1))⟩
        cases o with
        | exc e δ3 => exact fun c dd σ3 F3 H3 jj => ho c dd σ3 F3 H3 (j1.trans jj)
        | ok f δ3 =>
          cases f with
          | nx => exact fun σ3 F3 H3 jj I3 => ⟨F3, δ3, j1.trans jj, I3, ho⟩
          | ct => exact fun σ3 F3 H3 jj I3 => ⟨F3, δ3, j1.trans jj, I3, ho⟩
          | bk => exact fun σ3 F3 H3 jj I3 => ho σ3 F3 H3 (j1.trans jj) I3
          | rt e => exact fun v F3 H3 jj => ho v F3 H3 (j1.trans jj)
/-! ### raise C('text') -/
theorem psd_raise0 {k : Nat} {B newId initId : String} {bmB : List Value} {x m : Str} {j : Nat} {p p2 p3 : Pos} (hc : X.calm = true) (tk : Takes X Xw) (Fx : ExcBaseFacts B newId initId bmB) (q : PySem.W.excIn X.K (W.cl k) bmB newId = true) (gC : X.mg x = some (.ref (W.cl k))) (kC : PySem.W.keepIn X.K (.ref (W.cl k)) = true) (r : Raises X (.ref (W.cl k))) (hg : Gl X x) (hS : S.exc k [] = some ⟨k, []⟩) (hdb : (x == ("__debug__" : Str)) = false := by decide) :
    PSD X W H0 Xw (.Raise (some (.Call (.Name x p) [.Constant (.str m) j p2] [] p3)) none pos) (stepS S gas ev ex (.raise k [])) :=
  PS_imp (ps_raise hc tk (pmk_own Fx q gC kC r hg hdb)) fun D σ H ⟨SS, F, δ, I, h⟩ => by
    have h' : ((match S.exc k [] with
      | some x => EvM.raise x
      | none => EvM.bad : EvM Fl) δ).wp (PostS W SS H0 Xw D F) := h
    rw [hS] at h'
    exact h' (.ref (W.cl k)) none σ F H (Inh.refl _ _) I ⟨rfl, .inl ⟨rfl, rfl⟩⟩
end
end T
end
section
set_option Elab.async false
set_option linter.all false
set_option autoImplicit false
set_option maxRecDepth 100000
/-! sorted -/
namespace T
open PySem PySem.Spec PyProof.Rows L2
section
variable {X : Cx} {pins : List (Addr × Obj)} {σ : L2.St} {H F : Hp} {s : Shared} {W : Wd} {SS : States}
theorem map_mergeSort' {α β : Type} (f : α → β) (le : β → β → Bool) (l : List α) : (l.mergeSort fun a b => le (f a) (f b)).map f = (l.map f).mergeSort le := by
  refine List.map_mergeSort fun a _ b _ => rfl
theorem each_pairs : ∀ {ds : List D} {xs : List V} {us : List Value}, Reps W SS F ds xs → Vals xs us → PySem.W.EachIs (fun (u : Value) (b : D × V) => RelV b.2 u ∧ Rep W SS F b.1 b.2) us (ds.zip xs)
  | [], _, us, h, r => by
    unfold Reps at h; subst h
    cases r; exact .nil
  | d :: ds, _, us, h, r => by
    obtain ⟨x, xs, rfl, h1, h2⟩ := h.cons_inv
    cases r with
    | cons r1 r2 => exact .cons ⟨r1, h1⟩ (each_pairs h2 r2)
theorem pairs_each : ∀ {us : List Value} {bs : List (D × V)}, PySem.W.EachIs (fun (u : Value) (b : D × V) => RelV b.2 u ∧ Rep W SS F b.1 b.2) us bs → Reps W SS F (bs.map (·.1)) (bs.map (·.2)) ∧ Vals (bs.map (·.2)) us
  | _, [], h => by cases h; exact ⟨Reps.nil, .nil⟩
  | _, b :: bs, h => by
    cases h with
    | cons h1 h2 =>
      obtain ⟨r, v⟩ := pairs_each h2
      exact ⟨.cons h1.2 r, .cons h1.1 v⟩
theorem zip_fst {ds : List D} {xs : List V} (r : Reps W SS F ds xs) : (ds.zip xs).map (·.1) = ds := by
  have := r.length
  rw [← List.unzip_fst, List.unzip_zip (by omega)]
theorem dataLe_trans (a b c : D) (h1 : PySem.W.dataLe false D.py a b = true) (h2 : PySem.W.dataLe false D.py b c = true) : PySem.W.dataLe false D.py a c = true := by
  have k1 : (!(PyProof.Rows.listOrd PyProof.Rows.itemOrd).blt (PySem.W.keyToks b.py) (PySem.W.keyToks a.py)) = true := h1
  have k2 : (!(PyProof.Rows.listOrd PyProof.Rows.itemOrd).blt (PySem.W.keyToks c.py) (PySem.W.keyToks b.py)) = true := h2
  show (!(PyProof.Rows.listOrd PyProof.Rows.itemOrd).blt (PySem.W.keyToks c.py) (PySem.W.keyToks a.py)) = true
  rw [Bool.not_eq_true'] at k1 k2 ⊢
  exact PyProof.Rows.KeyOrd.kle_trans (O := PyProof.Rows.listOrd PyProof.Rows.itemOrd) k1 k2
theorem dataLe_total (a b : D) : (PySem.W.dataLe false D.py a b || PySem.W.dataLe false D.py b a) = true := by
  cases h : PySem.W.dataLe false D.py a b with
  | true => rfl
  | false =>
    have k1 : (!(PyProof.Rows.listOrd PyProof.Rows.itemOrd).blt (PySem.W.keyToks b.py) (PySem.W.keyToks a.py)) = false := h
    show (!(PyProof.Rows.listOrd PyProof.Rows.itemOrd).blt (PySem.W.keyToks a.py) (PySem.W.keyToks b.py)) = true
    rw [Bool.not_eq_false'] at k1
    rw [Bool.not_eq_true']
    exact PyProof.Rows.KeyOrd.klt_asymm (O := PyProof.Rows.listOrd PyProof.Rows.itemOrd) k1
theorem insD_mid (x : D) : ∀ (l1 l2 : List D), (∀ b ∈ l1, PySem.W.dataLe false D.py x b = false) → (∀ b ∈ l2, PySem.W.dataLe false D.py x b = true) → insD x (l1 ++ l2) = l1 ++ x :: l2
  | [], [], _, _ => rfl
  | [], b :: l2, _, h => by
    show (match PySem.W.dataLe false D.py x b with | true => x :: b :: l2 | false => b :: insD x l2) = x :: b :: l2
    rw [h b List.mem_cons_self]
  | b :: l1, l2, h, h2 => by
    show (match PySem.W.dataLe false D.py x b with | true => x :: b :: (l1 ++ l2) | false => b :: insD x (l1 ++ l2)) = b :: (l1 ++ x :: l2)
    rw [h b List.mem_cons_self, insD_mid x l1 l2 (fun c hc => h c (List.mem_cons_of_mem _ hc)) h2]
theorem sortD_eq : ∀ l : List D, sortD l = l.mergeSort (PySem.W.dataLe false D.py)
  | [] => by rw [List.mergeSort_nil]; rfl
  | x :: l => by
    show insD x (sortD l) = _
    obtain ⟨l1, l2, e1, e2, h⟩ := List.mergeSort_cons (le := PySem.W.dataLe false D.py) (fun a b c => dataLe_trans a b c) dataLe_total x l
    have p := List.pairwise_mergeSort (le := PySem.W.dataLe false D.py) (fun a b c => dataLe_trans a b c) dataLe_total (x :: l)
    rw [sortD_eq l, e2, e1]
    rw [e1] at p
    refine insD_mid x l1 l2 (fun b hb => ?_) (fun b hb => ?_)
    · simpa using h b hb
    · exact (List.pairwise_cons.mp (List.pairwise_append.mp p).2.1).1 b hb
/-- what can be collected -/
def Coll (X : Cx) (s : Shared) (v : Value) (us : List Value) : Prop := ∀ (A : Around) (E : Value → Shared → Prop) (R : List Value → Shared → Prop), A.handled = none → (∀ h' tk, (∀ b o, s.heap.get? b = some o → h'.get? b = some o) → R us { s with heap := h', toks := tk }) → wpAny (model X.prog X.w) A (collect v) R E s
theorem sorted_ok {v : Value} {us : List Value} {ds : List D} {xs : List V} {Q : VK} {E : Value → Shared → Prop} (hu : X.A.units + 100 < cLine) (hh : X.A.handled = none) (hK : X.K = W.K) (I : Inv X pins σ H s) (hs : Sub F H) (hc : Coll X s v us) (r : Reps W SS F ds xs) (rv : Vals xs us) (ha : allAlike ds = true) (hb : sortable ds = true) (he : ds.all eqOk = true) (hz : ds.length ≤ sizeLine)
    (q : Fin W SS F H (.f (.lst (sortD ds))) Q) : wpAny (model X.prog X.w) X.A (call (.builtin "sorted") [v]) (EP X pins σ Q) E s := by
  refine Calls.call_function_entry PyProof.Rows.kind_sorted PyProof.Rows.plain_sorted PyProof.Rows.entry_sorted (PyProof.Rows.args_sorted1 _) ?_
  unfold Builtin.«sorted»
  refine wpAny_bind (m := checkCount "sorted" 1 1 _) (wpAny_pure ?_)
  refine wpAny_bind (hc X.A.in1 _ _ hh fun h' tk k => ?_)
  have I1 : Inv X pins σ H { s with heap := h', toks := tk } := I.kept k
  have hl : us.length ≤ sizeLine := by rw [← rv.length, ← r.length]; exact hz
  refine wpAny_bind (wpAny_newList ?_ hl)
  have ho : (h'.push (seqObj "list" us.toArray 0)).get? h'.objs.size = some (seqObj "list" us.toArray 0) := Heap.get?_push_size _ rfl
  show wpAny _ _ _ _ _ { s with heap := h'.push (seqObj "list" us.toArray 0), toks := tk }
  have plain : ∀ {d : D}, d ∈ ds → d.plain = true := fun hd => plain_of (List.all_eq_true.mp he _ hd)
  have ep := each_pairs r rv
  have er : PySem.W.EachIs (fun u (b : D × V) => ∃ as, Reads (PySem.W.sortingHeap (h'.push (seqObj "list" us.toArray 0)) h'.objs.size us) u b.1.py as) us (ds.zip xs) := by
    refine (PySem.W.each_mem ep).mono fun u b ⟨⟨r1, r2⟩, hb⟩ => ?_
    have hd : b.1 ∈ ds := (List.of_mem_zip hb).1
    obtain ⟨as, z⟩ := Dp.reads I1 b.1.py b.2 u (hK ▸ dp_of hs b.1 b.2 (plain hd) r2) r1
    refine ⟨as, PyProof.Rows.Reads.keeps (fun c o e => ?_) z⟩
    have hb : c < h'.objs.size := Heap.lt_size e
    exact PySem.W.sortingHeap_old (Nat.ne_of_lt hb) (Heap.get?_push_of_some _ e)
  have hal : PySem.W.AllAlike ((ds.zip xs).map fun b => b.1.py) := by
    intro d hd d' hd'
    obtain ⟨b, hb, rfl⟩ := List.mem_map.mp hd
    obtain ⟨b', hb', rfl⟩ := List.mem_map.mp hd'
    exact List.all_eq_true.mp (List.all_eq_true.mp ha _ (List.of_mem_zip hb).1) _ (List.of_mem_zip hb').1
  have hk : PySem.W.Sortable ((ds.zip xs).map fun b => b.1.py) := by
    unfold sortable at hb
    rw [Bool.or_eq_true] at hb
    rcases hb with hb | hb
    · refine .inl fun d hd => ?_
      obtain ⟨b, hm, rfl⟩ := List.mem_map.mp hd
      have z := List.all_eq_true.mp hb _ (List.of_mem_zip hm).1
      show ∃ x r, b.1.py = .tuple (x :: r)
      cases hbd : b.1 with
      | tup l =>
        rw [hbd] at z
        cases l with
        | nil => cases z
        | cons x l => exact ⟨x.py, D.pys l, by rw [D.py, D.pys]⟩
      | _ => rw [hbd] at z; cases z
    · refine .inr fun d hd => ?_
      obtain ⟨b, hm, rfl⟩ := List.mem_map.mp hd
      have z := List.all_eq_true.mp hb _ (List.of_mem_zip hm).1
      show b.1.py ≠ .none ∧ ∀ xs, b.1.py ≠ .tuple xs
      cases hbd : b.1 with
      | int i => exact ⟨(fun e => by rw [D.py] at e; cases e), (fun _ e => by rw [D.py] at e; cases e)⟩
      | bl i => exact ⟨(fun e => by rw [D.py] at e; cases e), (fun _ e => by rw [D.py] at e; cases e)⟩
      | str i => exact ⟨(fun e => by rw [D.py] at e; cases e), (fun _ e => by rw [D.py] at e; cases e)⟩
      | lst i => exact ⟨(fun e => by rw [D.py] at e; cases e), (fun _ e => by rw [D.py] at e; cases e)⟩
      | _ => rw [hbd] at z; cases z
  have hub : ∀ b : D × V, b ∈ ds.zip xs → X.A.in1.in1.units + b.1.py.depth < cLine := fun b hb => by
    have z := List.all_eq_true.mp he _ (List.of_mem_zip hb).1
    unfold eqOk at z
    rw [Bool.and_eq_true] at z
    have h3 : b.1.depth ≤ 60 := Nat.le_of_ble_eq_true z.2
    rw [(lay_py b.1 z.1).2]
    show X.A.units + 1 + 1 + b.1.depth < cLine
    omega
  refine wpAny_bind (wpAny_holding (wpAny_call_entry PyProof.Rows.slot_list_sort ⟨_, ho, rfl⟩ PyProof.Rows.entry_list_sort
    (PySem.W.list_sort_vals (s := { s with heap := h'.push (seqObj "list" us.toArray 0), toks := tk }) (κ := PySem.W.dataKind (PySem.W.sortingHeap (h'.push (seqObj "list" us.toArray 0)) h'.objs.size us) ((ds.zip xs).map fun b => b.1.py)) ho
      (PySem.W.SortsAt.data (s := { s with heap := PySem.W.sortingHeap (h'.push (seqObj "list" us.toArray 0)) h'.objs.size us, toks := tk }) (PySem.W.each_map (R := fun v d => ∃ as, Reads (PySem.W.sortingHeap (h'.push (seqObj "list" us.toArray 0)) h'.objs.size us) v d as) (fun b : D × V => b.1.py) er) hal hk (PySem.W.bound_map hub)) hl ⟨.none, rfl, ?_⟩) (PyProof.Rows.args_list_sort _)))
  have out := PySem.W.sortVals_data false ep er hal
  have outl : (PySem.W.sortVals (PySem.W.dataKind (PySem.W.sortingHeap (h'.push (seqObj "list" us.toArray 0)) h'.objs.size us) ((ds.zip xs).map fun b => b.1.py)) false us us).length = us.length := PySem.W.sortVals_length false rfl
  generalize PySem.W.sortVals (PySem.W.dataKind (PySem.W.sortingHeap (h'.push (seqObj "list" us.toArray 0)) h'.objs.size us) ((ds.zip xs).map fun b => b.1.py)) false us us = ov at out outl ⊢
  obtain ⟨ro, vo⟩ := pairs_each out
  have e1 : ((ds.zip xs).mergeSort (PySem.W.dataLe false fun b : D × V => b.1.py)).map (·.1) = sortD ds := by
    have := map_mergeSort' (fun b : D × V => b.1) (PySem.W.dataLe false D.py) (ds.zip xs)
    rw [zip_fst r] at this
    rw [sortD_eq]
    exact this
  rw [e1] at ro
  obtain ⟨ep', he'⟩ := PyProof.Rows.sortedHeap_at (vs := us) (out := ov.toArray) ho
  have hlen : ((((ds.zip xs).mergeSort (PySem.W.dataLe false fun b : D × V => b.1.py)).map (·.2)).length) ≤ sizeLine := by
    rw [vo.length, outl]; exact hl
  have nf : H h'.objs.size = none := I1.hok.fresh (Nat.le_refl _)
  refine wpAny_pure ⟨_, rfl, .ref h'.objs.size, upd H h'.objs.size (.lst _), I1.laid (t' := tk) (fun b u e => ?_) (Nat.le_refl _)
    (show ObjOk X.prog X.w _ _ _ (.lst _) from ⟨hlen, ov, ep', vo, he'⟩), rfl, q.lst hs ro nf⟩
  have hb : b < h'.objs.size := Heap.lt_size e
  rw [PyProof.Rows.sortedHeap_old (Nat.ne_of_lt hb) (by rw [size_push']; exact Nat.lt_succ_of_lt hb)]
  exact Heap.get?_push_of_some _ e
/-! ### what can be collected -/
theorem coll_seq {a : Addr} {T : String} {o : Obj} {items : Array Value} {n : Nat} (hT : T = "list" ∨ T = "tuple") (ho : s.heap.get? a = some o) (hc : o.cls = .type T) (hd : o.data = .seq items n) (hz : items.size ≤ sizeLine) : Coll X s (.ref a) items.toList := fun A E R hh k =>
  wpAny_collect_seq a hT ho hc hd (fun h' kk => k h' s.toks kk) hz
theorem repE_keys {t : Bool} : ∀ {kvs : List (D × D)} {es : List DictEntry}, RepE W SS F t kvs es → ∃ xs, Reps W SS F (kvs.map (·.1)) xs ∧ Vals xs (es.map (·.key))
  | [], _, h => by unfold RepE at h; subst h; exact ⟨[], Reps.nil, .nil⟩
  | (k, d) :: l, _, h => by
    unfold RepE at h
    obtain ⟨e, r, rfl, _, ⟨v, h2, h3⟩, _, _, h7⟩ := h
    obtain ⟨xs, q1, q2⟩ := repE_keys h7
    exact ⟨v :: xs, .cons h3 q1, .cons h2 q2⟩
theorem acc_keys {es : Array DictEntry} {acc : Array Value} (hacc : ItemsOf (fun i v => ∃ hi : i < es.size, v = es[i].key) acc es.size) : acc.toList = es.toList.map (·.key) := by
  refine List.ext_getElem? fun i => ?_
  by_cases hi : i < es.size
  · have hi' : i < acc.size := by rw [hacc.1]; exact hi
    obtain ⟨_, z⟩ := hacc.2 i acc[i] (Array.getElem?_eq_getElem hi')
    rw [Array.getElem?_toList, List.getElem?_map, Array.getElem?_toList, Array.getElem?_eq_getElem hi', Array.getElem?_eq_getElem hi, z]
    rfl
  · rw [Array.getElem?_toList, List.getElem?_map, Array.getElem?_toList, Array.getElem?_eq_none (by rw [hacc.1]; omega), Array.getElem?_eq_none (by omega)]
    rfl
theorem coll_of {v : Value} {x : V} {d : D} {ds : List D} (I : Inv X pins σ H s) (hK : X.K = W.K) (hs : Sub F H) (c : Con W SS F H d x) (r : RelV x v) (h : itemsT d = some ds) : ∃ us xs, Coll X s v us ∧ Reps W SS F ds xs ∧ Vals xs us ∧ ds.length ≤ sizeLine := by
  cases d <;> try (cases h; done)
  case lst l =>
    cases h
    obtain ⟨a, vs, rfl, h1, r1⟩ := con_lst hs c
    cases r
    obtain ⟨its, rv, ⟨o, n, g1, g2, g3, g4⟩, hz⟩ := I.list (SqL.of h1)
    have hl : its.toArray.size ≤ sizeLine := by rw [List.size_toArray, ← rv.length]; exact hz
    refine ⟨_, vs, coll_seq (.inl rfl) g1 g2 g4 hl, r1, by simpa using rv, by rw [r1.length]; exact hz⟩
  case tup l =>
    cases h
    obtain ⟨a, vs, rfl, _, h1, r1⟩ := con_tup hs c
    cases r
    obtain ⟨its, rv, ⟨o, g1, g2, n, g4⟩, hz⟩ := I.tuple (hK ▸ h1)
    have hl : its.toArray.size ≤ sizeLine := by rw [List.size_toArray, ← rv.length]; exact hz
    refine ⟨_, vs, coll_seq (.inr rfl) g1 g2 g4 hl, r1, by simpa using rv, by rw [r1.length]; exact hz⟩
  case dct t kvs =>
    cases h
    obtain ⟨a, o, es, ep, rfl, h1, g1, g2, g3, g4, g5, r1⟩ := con_dct hs c
    cases r
    have raw : s.heap.DictRaw a es ep := ⟨o, dobj_get I.hok h1, g1, g2⟩
    obtain ⟨xs, q1, q2⟩ := repE_keys r1
    refine ⟨es.toList.map (·.key), xs, fun A E R hh k => ?_, q1, q2, by rw [List.length_map, ← repE_len r1]; simpa using g4⟩
    refine PySem.W.kdu_collect (KdlSrc.rawDict g3) hh raw g4 fun h' tk acc kk hacc => ?_
    have e := acc_keys hacc
    rw [e]
    exact k h' tk kk
/-- a range's items -/
theorem coll_range {r : Addr} {a b : Int} {t u v : Tok} {n : Nat} {A : Around} {E : Value → Shared → Prop} {R : List Value → Shared → Prop} (hh : A.handled = none) (hr : IsRange s.heap r a b 1 t u v) (hsmall : Builtin.Range.small a b 1 = true) (hn : Builtin.Range.rangeSize a b 1 = n) (hlen : n ≤ 2 ^ 24)
    (h : ∀ h' tk us, (∀ b o, s.heap.get? b = some o → h'.get? b = some o) → Vals ((List.range n).map fun (k : Nat) => V.int (a + (k : Int))) us → R us { s with heap := h', toks := tk }) : wpAny (model X.prog X.w) A (collect (.ref r)) R E s := by
  have hlt : r < s.heap.objs.size := Heap.lt_size hr
  unfold collect
  refine wpAny_bind (wpAny_runValue (codeAny_builtin PySem.F.entry_proto_collect ?_))
  rw [Around.under_plainId PySem.F.plain_proto_collect _]
  show wpAny _ A.in1 (newList [] >>= fun l => again (.builtin "list.__iadd__" ⟨[l, .ref r], []⟩)) _ _ s
  refine wpAny_bind (wpAny_newObj_type ?_)
  refine wpAny_pure ⟨plainId_quiet PySem.F.plain_list_iadd _, codeAny_builtin PySem.F.entry_list_iadd ?_⟩
  rw [Around.under_plainId PySem.F.plain_list_iadd _]
  have hS₁ : (s.heap.push { cls := .type "list", data := .seq ([] : List Value).toArray }).get? s.heap.objs.size = some { cls := .type "list", data := .seq #[] } := Heap.get?_push_size _ rfl
  show wpAny _ A.in1 (Builtin.List.listExtendWith (.ref s.heap.objs.size) (.ref r) (.ref s.heap.objs.size)) _ _ _
  have key := wpAny_extend_range (prog := X.prog) (w := X.w) (A := A) (s := { s with heap := s.heap.push { cls := .type "list", data := .seq ([] : List Value).toArray } })
    (R := fun (q : Result) (s' : Shared) => ∃ (h' : Heap) (tk : Nat) (acc' : Array Value) (c' : Nat), q = .ok (.ret (.ref s.heap.objs.size)) ∧ s' = { s with heap := h', toks := tk } ∧
      (∀ b o, s.heap.get? b = some o → h'.get? b = some o) ∧ h'.get? s.heap.objs.size = some { cls := .type "list", dict := none, data := .seq acc' c', slots := #[] } ∧ ItemsOf (fun i v => ∃ t, v = .int (a + i * 1) t) acc' n)
    hh (show IsRange _ r a b 1 t u v from Heap.get?_push_of_some _ hr) hsmall hn hlen s.heap.objs.size (.ref s.heap.objs.size) 0 hS₁
    (fun h' tk acc' c' hk hS' hacc => ⟨h', tk, acc', c', rfl, rfl, fun b o e => hk b o (Nat.ne_of_lt (Heap.lt_size e)) (Heap.get?_push_of_some _ e), hS', hacc⟩)
  have fin : ∀ {h' : Heap} {tk : Nat} {acc' : Array Value}, (∀ b o, s.heap.get? b = some o → h'.get? b = some o) → ItemsOf (fun i v => ∃ t, v = .int (a + i * 1) t) acc' n → R acc'.toList { s with heap := h', toks := tk } := fun {h' tk acc'} hk hacc => by
    refine h h' tk _ hk ?_
    have gen : ∀ (l : List Value) (j : Nat), (∀ (i : Nat) (v : Value), l[i]? = some v → ∃ t, v = .int (a + ((j + i : Nat) : Int)) t) → Vals ((List.range' j l.length).map fun (k : Nat) => V.int (a + (k : Int))) l := by
      intro l
      induction l with
      | nil => intro j _; exact .nil
      | cons x l ih =>
        intro j hx
        rw [List.length_cons, List.range'_succ, List.map_cons]
        obtain ⟨t, e⟩ := hx 0 x rfl
        refine .cons ⟨t, by rw [e]; rfl⟩ (ih (j + 1) fun i v hv => ?_)
        obtain ⟨t, e⟩ := hx (i + 1) v (by simpa using hv)
        exact ⟨t, by rw [e]; congr 2; omega⟩
    have z := gen acc'.toList 0 fun i v hv => by
      obtain ⟨t, e⟩ := hacc.2 i v (by rw [← Array.getElem?_toList]; exact hv)
      exact ⟨t, by rw [e, Int.mul_one, Nat.zero_add]⟩
    rw [Array.length_toList, hacc.1, ← List.range_eq_range'] at z
    exact z
  refine wpAny_mono key (fun f s' x => ?_) fun e s' x => ?_
  · cases f with
    | done f =>
      obtain ⟨h', tk, acc', c', e, rfl, hk, hS', hacc⟩ := x
      cases e
      show wpAny _ A (load s.heap.objs.size >>= _) _ _ _
      refine wpAny_bind (wpAny_load hS' ?_)
      exact wpAny_pure (fin hk hacc)
    | again c₁ =>
      refine ⟨x.1, codeAny_mono x.2 fun q s₂ y => ?_⟩
      obtain ⟨h', tk, acc', c', rfl, rfl, hk, hS', hacc⟩ := y
      show wpAny _ A (load s.heap.objs.size >>= _) _ _ _
      refine wpAny_bind (wpAny_load hS' ?_)
      exact wpAny_pure (fin hk hacc)
  · obtain ⟨_, _, _, _, e', _⟩ := x
    cases e'
end
end T
end
section
set_option Elab.async false
set_option linter.all false
set_option autoImplicit false
set_option maxRecDepth 100000
/-! isinstance -/
namespace T
open PySem PySem.Spec PyProof.Rows L2
/-- a datum's type, as the deciders take it -/
def tyVal (W : Wd) : D → Option Value
  | .non => some (.type "NoneType") | .bl _ => some (.type "bool") | .int _ => some (.type "int") | .str _ => some (.type "str")
  | .tup _ => some (.type "tuple") | .lst _ => some (.type "list") | .dct _ _ => some (.type "dict")
  | .obj c _ => some (.ref (W.cl c)) | .exv c [] => some (.ref (W.cl c))
  | _ => none
/-- what the classes of instances and of exceptions must have, to be asked -/
structure KCls (K : PySem.W.Frag) (C : Addr) : Prop where
  cls : Cls K C
  ha : PySem.W.findIn K (.ref C) "__class__" = some (some (.builtin "object.__class__"))
  hn : PySem.W.specialIn K (.builtin "object.__class__") "__get__" = some (some (.builtin "getset_descriptor.__get__"))
  ht : PySem.W.takesIn K (.builtin "object.__class__") = some true
  hm : PySem.W.mroIn K C (.type "object") = some true
structure KExc (K : PySem.W.Frag) (C : Addr) : Prop where
  hga : PySem.W.findIn K (.ref C) "__getattribute__" = some (some (.builtin "BaseException.__getattribute__"))
  hgt : PySem.W.findIn K (.ref C) "__getattr__" = some none
  hsub : PySem.W.subIn K (.ref C) (.type "BaseException") = some true
  hd : PySem.W.hasDictIn K C = true
  ha : PySem.W.findIn K (.ref C) "__class__" = some (some (.builtin "object.__class__"))
  hn : PySem.W.specialIn K (.builtin "object.__class__") "__get__" = some (some (.builtin "getset_descriptor.__get__"))
  ht : PySem.W.takesIn K (.builtin "object.__class__") = some true
  hm : PySem.W.mroIn K C (.type "object") = some true
/-- each datum's class is one that may be asked -/
def KAll (W : Wd) (K : PySem.W.Frag) : D → Prop
  | .obj c _ => KCls K (W.cl c)
  | .exv c _ => KExc K (W.cl c)
  | _ => True
section
variable {X : Cx} {pins : List (Addr × Obj)} {σ : L2.St} {H F : Hp} {s : Shared} {W : Wd} {SS : States}
theorem kit_D {d : D} {x : V} {u t : Value} (I : Inv X pins σ H s) (hK : X.K = W.K) (hs : Sub F H) (c : Con W SS F H d x) (r : RelV x u) (ht : tyVal W d = some t) (ka : KAll W X.K d) : ∃ P : Heap → Prop, PySem.W.KitX X.K u t P ∧ P s.heap ∧ u ≠ .builtin "__main__.__loader__#opaque" := by
  cases d with
  | non => cases con_non c; cases ht; exact kit_of I r (.base .non)
  | bl b => cases con_bl c; cases ht; exact kit_of I r (.base (.bl b))
  | int i => cases con_int c; cases ht; exact kit_of I r (.base (.int i))
  | str y => cases con_str c; cases ht; exact kit_of I r (.base (.str y))
  | tup l =>
    obtain ⟨a, vs, rfl, _, h1, r1⟩ := con_tup hs c
    cases ht
    cases (show u = Value.ref a from r)
    obtain ⟨its, rv, ⟨o, g1, g2, _⟩, hz⟩ := I.tuple (hK ▸ h1)
    exact ⟨_, PySem.W.kitx_tuple, ⟨o, g1, g2⟩, fun z => nomatch z⟩
  | lst l =>
    obtain ⟨a, vs, rfl, h1, r1⟩ := con_lst hs c
    cases ht
    exact kit_of I r (.base (.lst h1))
  | dct tt kvs =>
    obtain ⟨a, o, es, ep, rfl, h1, g1, _⟩ := con_dct hs c
    cases ht
    cases (show u = Value.ref a from r)
    exact ⟨_, PySem.W.kitx_dict, ⟨o, dobj_get I.hok h1, g1.1⟩, fun z => nomatch z⟩
  | obj k fs =>
    obtain ⟨a, dx, fvs, rfl, h1, _⟩ := con_obj hs c
    cases ht
    exact kit_of I r (.base (.ins h1 ka.cls ka.ha ka.hn ka.ht ka.hm))
  | exv k fs =>
    cases fs with
    | cons _ _ => cases ht
    | nil =>
      cases ht
      have ka' : KExc X.K (W.cl k) := ka
      rcases c with c | ⟨_, _, _, _, c⟩
      · unfold Rep at c
        obtain ⟨a, d, rfl, q, z⟩ := c
        cases (show u = Value.ref a from r)
        obtain ⟨⟨oe, vs, g1, g2, g3⟩, _⟩ := (show ObjOk X.prog X.w H s.heap a (exK a (.ref (W.cl k)) d) from I.hok a _ (hs _ _ q))
        have hd : d = none := by
          rcases z with ⟨_, z⟩ | ⟨z, _⟩
          · exact z
          · exact absurd rfl z
        subst hd
        refine ⟨_, PySem.W.handS_kitx_exc ka'.hga ka'.hgt ka'.hsub ka'.hd ka'.ha ka'.hn ka'.ht ka'.hm (ox := oe), ?_, fun z => nomatch z⟩
        obtain ⟨oc, od, oda, osl⟩ := oe
        obtain ⟨h1, h2⟩ := g2
        dsimp only at h1 h2 g3
        subst h1 h2 g3
        exact ⟨g1, rfl, rfl, trivial⟩
      · exact c.elim
  | clo _ _ => cases ht
  | stt _ => cases ht
/-- isinstance(x, c) -/
def rIs1 (W : Wd) (K : PySem.W.Frag) (cls : Value) (f : D → Option Bool) : List V → Hp → VK → Prop := fun xs H Q => ∃ SS F d x c b, xs = [x, c] ∧ (∀ u, RelV c u → u = cls) ∧ Sub F H ∧ Con W SS F H d x ∧ f d = some b ∧ Q (.bl b) H
/-- what the deciders must say of a class -/
def KitOk (W : Wd) (K : PySem.W.Frag) (cls : Value) (f : D → Option Bool) : Prop := ∀ d b, f d = some b → KAll W K d ∧ ∃ t, tyVal W d = some t ∧ PySem.W.kitOne K t cls = some b
theorem call_is1 {cls : Value} {f : D → Option Bool} (hK : X.K = W.K) (k : KitOk W X.K cls f) : CallR X (.builtin "isinstance") (rIs1 W X.K cls f) := by
  intro pins s σ H xs us Q I r h
  obtain ⟨SS, F, d, x, c, b, rfl, hc, hs, cx, e, q⟩ := h
  obtain ⟨u1, u2, rfl, r1, r2⟩ := vals2 r
  cases hc u2 r2
  obtain ⟨ka, t, e1, e2⟩ := k d b e
  obtain ⟨P, Z, p, hx⟩ := kit_D I hK hs cx r1 e1 ka
  exact PySem.W.kia_one Z I.kIn p e2 hx fun tk => ⟨.bl b, H, I.tok tk, rfl, q⟩
/-- two built-in types -/
theorem kitOk_blt {K : PySem.W.Frag} {T : String} {f : D → Option Bool} (h : ∀ d b, f d = some b → KAll W K d ∧ ∃ a, tyVal W d = some (.type a) ∧ kitB a T = some b) : KitOk W K (.type T) f := fun d b e => by
  obtain ⟨h1, a, h2, h3⟩ := h d b e
  exact ⟨h1, _, h2, kit_ty h3⟩
/-- several classes -/
def rIsN (W : Wd) (clss : List Value) (f : D → Option Bool) : List V → Hp → VK → Prop := fun xs H Q => ∃ SS F d x tp cs b, xs = [x, .ref tp] ∧ H tp = some (.tup cs) ∧ Paired ClsV cs clss ∧ Sub F H ∧ Con W SS F H d x ∧ f d = some b ∧ Q (.bl b) H
def KitOkN (W : Wd) (K : PySem.W.Frag) (clss : List Value) (f : D → Option Bool) : Prop := ∀ d b, f d = some b → KAll W K d ∧ ∃ t, tyVal W d = some t ∧ PySem.W.kitAny K t clss = some b
end
end T
end
section
set_option Elab.async false
set_option linter.all false
set_option autoImplicit false
set_option maxRecDepth 100000
/-! built-in functions -/
namespace T
open PySem PySem.Spec PyProof.Rows L2
def ConsOk (W : Wd) (SS : States) (F H : Hp) : List D → List V → Prop
  | [], xs => xs = []
  | d :: ds, xs => ∃ x r, xs = x :: r ∧ Con W SS F H d x ∧ ConsOk W SS F H ds r
def rBlt (W : Wd) (k : Nat) : List V → Hp → VK → Prop := fun vs H Q => ∃ SS F ds op, Sub F H ∧ ConsOk W SS F H ds vs ∧ bltD k ds = some op ∧ Fin W SS F H op Q
section
variable {X : Cx} {W : Wd} {H0 : Hp} {Xw : WX} {S : Sig} {ev : Ex → EvM Op} {a b c e : Expr} {ea eb ec ee : Ex} {pos : Pos} {es rest : List Expr} {eas : List Ex}
theorem rds_inv {β : Type} {SS : States} {Hs F H : Hp} {σ : L2.St} {δ : Env} {P : Ou β → Prop} (I : EnvOk W SS H0 F H σ δ) : ∀ {os : List Op} {xs : List V} {f : List D → EvM β}, OpsOk W H0 SS σ Hs F H δ os xs → (((rds os).bind f) δ).wp P → ∃ ds, ConsOk W SS F H ds xs ∧ (f ds δ).wp P
  | [], _, f, q, h => ⟨[], q, h⟩
  | o :: os, _, f, ⟨x, r, e, q1, q2, _⟩, h => by
    subst e
    have h' : ((((rd o).bind fun d => (rds os).bind fun ds => EvM.pure (d :: ds)).bind f) δ).wp P := h
    rw [bind_assoc] at h'
    obtain ⟨d, l, h2⟩ := rd_inv h'
    rw [bind_assoc] at h2
    obtain ⟨ds, c, h3⟩ := rds_inv I q2 h2
    exact ⟨d :: ds, ⟨x, r, rfl, I.look q1.1 l, c⟩, h3⟩
theorem blt_reads {k : Nat} {σ : L2.St} {H : Hp} {Q : VK} (h : tD W H0 Xw (stepE S ev (.blt k eas)) σ H Q) : tCB (rBlt W k) (tR (rOs W H0) W H0 Xw (evs ev eas)) σ H Q := by
  obtain ⟨SS, F, δ, I, h⟩ := h
  have h' : (((evs ev eas).bind fun os => (rds os).bind fun ds => .opt (bltD k ds)) δ).wp (Post W SS H0 Xw σ F H δ Q) := h
  refine tR_bind rO_m I h' fun os δ1 xs F1 H1 st1 I1 q1 h1 => ?_
  obtain ⟨ds, c, h2⟩ := rds_inv I1 q1 h1
  obtain ⟨op, e, h3⟩ := opt_inv h2
  exact ⟨SS, F1, ds, op, I1.sub, c, e, fin_of I1 h3⟩
theorem pd_bltB {k : Nat} {id : String} {x : Str} {p : Pos} (hc : CallR X (.builtin id) (rBlt W k)) (hg : Gl X x) (hm : X.mg x = none) (hv : bootBuiltins x = some (.builtin id)) (ha : PA X (e :: es) (tR (rOs W H0) W H0 Xw (evs ev eas))) (hn : x ≠ "__name__" := by decide) (hdb : (x == ("__debug__" : Str)) = false := by decide)
    (he : starEach (e :: es) X.env = (false, eval e X.env) :: starEach es X.env := by rfl) (hpl : (backTo pos (starEach es X.env)).any (·.1) = false := by rfl) : PD X W H0 Xw (.Call (.Name x p) (e :: es) [] pos) (stepE S ev (.blt k eas)) :=
  PE_imp (pe_callB hc hg hm hv ha hn hdb he hpl) fun σ H Q h => blt_reads h
theorem pd_bltT {k : Nat} {ty : String} {x : Str} {p : Pos} (hc : CallR X (.type ty) (rBlt W k)) (hg : Gl X x) (hm : X.mg x = none) (hv : bootBuiltins x = some (.type ty)) (ha : PA X (e :: es) (tR (rOs W H0) W H0 Xw (evs ev eas))) (hn : x ≠ "__name__" := by decide) (hdb : (x == ("__debug__" : Str)) = false := by decide)
    (he : starEach (e :: es) X.env = (false, eval e X.env) :: starEach es X.env := by rfl) (hpl : (backTo pos (starEach es X.env)).any (·.1) = false := by rfl) : PD X W H0 Xw (.Call (.Name x p) (e :: es) [] pos) (stepE S ev (.blt k eas)) :=
  PE_imp (pe_callTy hc hg hm hv ha hn hdb he hpl) fun σ H Q h => blt_reads h
/-- one argument -/
theorem cons1 {SS : States} {F H : Hp} {ds : List D} {vs : List V} (h : ConsOk W SS F H ds vs) (d : D) (e : ds = [d]) : ∃ x, vs = [x] ∧ Con W SS F H d x := by
  subst e
  obtain ⟨x, r, rfl, c, q⟩ := h
  cases (show r = [] from q)
  exact ⟨x, rfl, c⟩
theorem blt_len (G : Good W X) : CallR X (.builtin "len") (rBlt W 0) := by
  intro pins s σ H vs us Q I r h
  obtain ⟨SS, F, ds, op, hs, c, e, fin⟩ := h
  rcases ds with _ | ⟨d, _ | ⟨_, _⟩⟩
  · cases e
  · obtain ⟨x, rfl, cx⟩ := cons1 c d rfl
    have e' : (lenD d).map (fun n => Op.v (.int n)) = some op := e
    obtain ⟨n, e1, rfl⟩ := Option.map_eq_some_iff.mp e'
    cases d <;> try (cases e1; done)
    case str y =>
      cases con_str cx
      have e2 : (if fits y.length then some (y.length : Int) else none) = some n := e1
      simp only [Option.ite_none_right_eq_some, Option.some.injEq] at e2
      obtain ⟨hz, rfl⟩ := e2
      exact call_len pins s σ H _ us Q I r ⟨_, y.length, rfl, ⟨fits_ok hz, rfl⟩, fin.int hs⟩
    case tup l =>
      obtain ⟨a, ws, rfl, _, h1, r1⟩ := con_tup hs cx
      cases e1
      refine call_len pins s σ H _ us Q I r ⟨_, ws.length, rfl, .inr ⟨ws, G.hK ▸ h1, rfl⟩, ?_⟩
      rw [← r1.length]
      exact fin.int hs
    case lst l =>
      obtain ⟨a, ws, rfl, h1, r1⟩ := con_lst hs cx
      cases e1
      refine call_len pins s σ H _ us Q I r ⟨_, ws.length, rfl, .inl ⟨ws, SqL.of h1, rfl⟩, ?_⟩
      rw [← r1.length]
      exact fin.int hs
    case dct t kvs =>
      obtain ⟨a, o, es, ep, rfl, h1, g1, g2, g3, g4, g5, r1⟩ := con_dct hs cx
      cases e1
      obtain ⟨u, rfl, ru⟩ := vals1 r
      cases ru
      have hz : (es.size : Int) < 2 ^ 63 := by rw [sizeLine_eq] at g4; omega
      refine PyProof.Rows.call_len_slot (n := es.size) ⟨o, dobj_get I.hok h1, g1.1⟩ PySem.F.slot_dict_len (fun Q' hq => call_len_raw g3 ⟨o, dobj_get I.hok h1, g1, g2⟩ hq) (by omega) (by omega) ⟨.int es.size, H, I.tok _, ⟨_, rfl⟩, ?_⟩
      have : (kvs.length : Int) = es.size := by rw [← repE_len r1]; simp
      rw [← this]
      exact fin.int hs
  · have z : (none : Option Op) = some op := e
    cases z
theorem blt_sorted (G : Good W X) (hc : X.calm = true) : CallR X (.builtin "sorted") (rBlt W 3) := by
  intro pins s σ H vs us Q I r h
  obtain ⟨SS, F, ds, op, hs, c, e, fin⟩ := h
  rcases ds with _ | ⟨d, _ | ⟨_, _⟩⟩
  · cases e
  · obtain ⟨x, rfl, cx⟩ := cons1 c d rfl
    obtain ⟨u, rfl, ru⟩ := vals1 r
    have e' : (match itemsT d with
      | some l => if allAlike l && sortable l && l.all eqOk then some (Op.f (.lst (sortD l))) else none
      | none => none) = some op := e
    cases hi : itemsT d with
    | none => rw [hi] at e'; cases e'
    | some l =>
      rw [hi] at e'
      simp only [Option.ite_none_right_eq_some, Option.some.injEq, Bool.and_eq_true] at e'
      obtain ⟨⟨⟨h1, h2⟩, h3⟩, rfl⟩ := e'
      obtain ⟨us, xs, q1, q2, q3, q4⟩ := coll_of I G.hK hs cx ru hi
      exact sorted_ok G.hu (I.ok.hd hc) G.hK I hs q1 q2 q3 h1 h2 h3 q4 fin
  · have z : (none : Option Op) = some op := e
    cases z
/-- list(x) -/
theorem blt_list (G : Good W X) (hc : X.calm = true) : CallR X (.type "list") (rBlt W 1) := by
  intro pins s σ H vs us Q I r h
  obtain ⟨SS, F, ds, op, hs, c, e, fin⟩ := h
  rcases ds with _ | ⟨d, _ | ⟨_, _⟩⟩
  · cases e
  · obtain ⟨x, rfl, cx⟩ := cons1 c d rfl
    have e' : (itemsT d).map (fun l => Op.f (.lst l)) = some op := e
    obtain ⟨l, e1, rfl⟩ := Option.map_eq_some_iff.mp e'
    cases d <;> try (cases e1; done)
    case lst m =>
      cases e1
      obtain ⟨a, ws, rfl, h1, r1⟩ := con_lst hs cx
      exact call_list_of pins s σ H _ us Q I r ⟨a, ws, rfl, .inl (SqL.of h1), fun p n => fin.lst hs r1 n⟩
    case tup m =>
      cases e1
      obtain ⟨a, ws, rfl, _, h1, r1⟩ := con_tup hs cx
      exact call_list_of pins s σ H _ us Q I r ⟨a, ws, rfl, .inr (G.hK ▸ h1), fun p n => fin.lst hs r1 n⟩
    case dct t kvs =>
      cases e1
      obtain ⟨a, o, es, ep, rfl, h1, g1, g2, g3, g4, g5, r1⟩ := con_dct hs cx
      obtain ⟨u, rfl, ru⟩ := vals1 r
      cases ru
      obtain ⟨xs, q1, q2⟩ := repE_keys r1
      have hz : xs.length ≤ sizeLine := by rw [q2.length, List.length_map]; simpa using g4
      have nf : H s.heap.objs.size = none := I.hok.fresh (Nat.le_refl _)
      refine PySem.W.kdl_call (KdlSrc.rawDict g3) (I.ok.hd hc) ⟨o, dobj_get I.hok h1, g1, g2⟩ g4 fun h' tk acc' c' kk hS hacc => ⟨.ref s.heap.objs.size, upd H s.heap.objs.size (.lst xs), I.laid (t' := tk) kk (Nat.le_refl _) ?_, rfl, fin.lst hs q1 nf⟩
      have e := acc_keys hacc
      refine ⟨hz, es.toList.map (·.key), c', q2, ?_⟩
      rw [hS, ← e]
  · have z : (none : Option Op) = some op := e
    cases z
theorem blt_tuple (G : Good W X) : CallR X (.type "tuple") (rBlt W 2) := by
  intro pins s σ H vs us Q I r h
  obtain ⟨SS, F, ds, op, hs, c, e, fin⟩ := h
  rcases ds with _ | ⟨d, _ | ⟨_, _⟩⟩
  · cases e
  · obtain ⟨x, rfl, cx⟩ := cons1 c d rfl
    cases d <;> try (have z : (none : Option Op) = some op := e; cases z; done)
    case lst m =>
      cases (Option.some.inj (show some (Op.v (.tup m)) = some op from e))
      obtain ⟨a, ws, rfl, h1, r1⟩ := con_lst hs cx
      exact call_tuple_of pins s σ H _ us Q I r ⟨a, ws, rfl, .inl ⟨SqL.of h1, fun p n => fin.tup hs r1 n⟩⟩
    case tup m =>
      cases (Option.some.inj (show some (Op.v (.tup m)) = some op from e))
      obtain ⟨a, ws, rfl, h0, h1, r1⟩ := con_tup hs cx
      refine call_tuple_of pins s σ H _ us Q I r ⟨a, ws, rfl, .inr ⟨G.hK ▸ h1, fin.rep hs ?_⟩⟩
      unfold Rep
      exact ⟨a, ws, rfl, h0, r1⟩
  · have z : (none : Option Op) = some op := by
      cases d <;> exact e
    cases z
theorem blt_all (hc : X.calm = true) : CallR X (.builtin "all") (rBlt W 4) := by
  intro pins s σ H vs us Q I r h
  obtain ⟨SS, F, ds, op, hs, c, e, fin⟩ := h
  rcases ds with _ | ⟨d, _ | ⟨_, _⟩⟩
  · cases e
  · obtain ⟨x, rfl, cx⟩ := cons1 c d rfl
    cases d <;> try (have z : (none : Option Op) = some op := e; cases z; done)
    case lst m =>
      have e' : (allBl m).map (fun bs => Op.v (.bl (bs.all id))) = some op := e
      obtain ⟨bs, e1, rfl⟩ := Option.map_eq_some_iff.mp e'
      obtain ⟨a, ws, rfl, h1, r1⟩ := con_lst hs cx
      rw [bls_of e1 r1] at h1
      exact cr_all hc pins s σ H _ us Q I r ⟨a, bs, rfl, SqL.of h1, fin.bl hs⟩
  · have z : (none : Option Op) = some op := by
      cases d <;> exact e
    cases z
theorem blt_any (hc : X.calm = true) : CallR X (.builtin "any") (rBlt W 5) := by
  intro pins s σ H vs us Q I r h
  obtain ⟨SS, F, ds, op, hs, c, e, fin⟩ := h
  rcases ds with _ | ⟨d, _ | ⟨_, _⟩⟩
  · cases e
  · obtain ⟨x, rfl, cx⟩ := cons1 c d rfl
    cases d <;> try (have z : (none : Option Op) = some op := e; cases z; done)
    case lst m =>
      have e' : (allBl m).map (fun bs => Op.v (.bl (bs.any id))) = some op := e
      obtain ⟨bs, e1, rfl⟩ := Option.map_eq_some_iff.mp e'
      obtain ⟨a, ws, rfl, h1, r1⟩ := con_lst hs cx
      rw [bls_of e1 r1] at h1
      exact cr_any hc pins s σ H _ us Q I r ⟨a, bs, rfl, SqL.of h1, fin.bl hs⟩
  · have z : (none : Option Op) = some op := by
      cases d <;> exact e
    cases z
theorem blt_abs : CallR X (.builtin "abs") (rBlt W 9) := by
  intro pins s σ H vs us Q I r h
  obtain ⟨SS, F, ds, op, hs, c, e, fin⟩ := h
  rcases ds with _ | ⟨d, _ | ⟨_, _⟩⟩
  · cases e
  · obtain ⟨x, rfl, cx⟩ := cons1 c d rfl
    cases d <;> try (have z : (none : Option Op) = some op := e; cases z; done)
    case int i =>
      cases (Option.some.inj (show some (Op.v (.int (if i < 0 then -i else i))) = some op from e))
      cases con_int cx
      exact call_abs pins s σ H _ us Q I r ⟨i, rfl, fin.int hs⟩
  · have z : (none : Option Op) = some op := by
      cases d <;> exact e
    cases z
end
end T
end
section
set_option Elab.async false
set_option linter.all false
set_option autoImplicit false
set_option maxRecDepth 100000
/-! tuple(range(..)), list(range(..)) -/
namespace T
open PySem PySem.Spec PyProof.Rows L2
theorem rsize {lo hi : Int} : Builtin.Range.rangeSize lo hi 1 = ((hi - lo).toNat : Int) := rangeSize_nat lo hi
section
variable {X : Cx} {A : Around} {E : Value → Shared → Prop} {s : Shared}
theorem tuple_new_rg {r : Addr} {a b : Int} {t u v : Tok} {n : Nat} {Q₁ : Value → Shared → Prop} (hh : A.handled = none) (hr : IsRange s.heap r a b 1 t u v) (hsmall : Builtin.Range.small a b 1 = true) (hn : Builtin.Range.rangeSize a b 1 = n) (hlen : n ≤ 2 ^ 24)
    (h : ∀ (h' : Heap) (tk : Nat) (us : List Value), (∀ b o, s.heap.get? b = some o → h'.get? b = some o) → Vals ((List.range n).map fun (k : Nat) => V.int (a + (k : Int))) us → Q₁ (.ref h'.objs.size) { s with heap := h'.push { cls := .type "tuple", data := .seq us.toArray }, toks := tk }) :
    codeAny (model X.prog X.w) A (.call (.builtin "tuple.__new__") ⟨[.type "tuple", .ref r], []⟩) (wants Q₁ E) s := by
  refine codeAny_of_tree ?_
  show wpAny _ A.in1 (do checkBuiltinCall "tuple.__new__" ⟨[.type "tuple", .ref r], []⟩; again (.builtin "tuple.__new__" ⟨[.type "tuple", .ref r], []⟩)) _ _ s
  refine wpAny_bind (wpAny_of_eq (F.newCall_tuple_1 _) (wpAny_pure ⟨plainId_quiet F.plain_tuple_new _, codeAny_builtin F.entry_tuple_new ?_⟩))
  rw [Around.under_plainId F.plain_tuple_new _]
  have hsub := sub_tuple_self
  have hinit := init_tuple_lookup
  have hmh := madeHere_tuple
  have hTI : s.TypeIs (.ref r) "range" := ⟨_, hr, rfl⟩
  have hh1 : A.in1.handled = none := hh
  wp_walk using wpAny_typeOf hTI, coll_range (X := X) (A := A.in1) hh1 hr hsmall hn hlen
  intro h' tk us hk hv
  show wpAny _ _ (Builtin.Tuple.tupleExact us.toArray >>= fun v => ret v) _ _ _
  unfold Builtin.Tuple.tupleExact
  have hl : us.length = n := by rw [← hv.length]; simp
  have hz : us.toArray.size ≤ sizeLine := by rw [List.size_toArray, hl, sizeLine_eq]; exact hlen
  refine wpAny_bind (wpAny_newObj_type ?_ hz)
  exact wpAny_pure (h h' tk us hk hv)
end
/-- what a range's call gives -/
def rRg (lo : Option Unit) : List V → Hp → VK → Prop := fun vs H Q => (∃ j, vs = [V.int j] ∧ ∀ p, H p = none → Q (.ref p) (upd H p (.rng 0 j))) ∨ ∃ i j, vs = [V.int i, V.int j] ∧ ∀ p, H p = none → Q (.ref p) (upd H p (.rng i j))
section
variable {X : Cx}
theorem cr_rg : CallR X (.type "range") (rRg none) := by
  intro pins s σ H vs us Q I r h
  rcases h with ⟨j, rfl, q⟩ | h
  · obtain ⟨u, rfl, ⟨t, rfl⟩⟩ := vals1 r
    refine call_range_1 ⟨.ref s.heap.objs.size, upd H s.heap.objs.size (.rng 0 j), I.laid (t' := s.toks + 1 + 1) (fun b o e => Heap.get?_push_of_some _ e) (Nat.le_refl _) ?_, rfl, q _ (I.hok.fresh (Nat.le_refl _))⟩
    exact ⟨s.toks, t, s.toks + 1, Heap.get?_push_size _ rfl⟩
  · exact cr_range2 pins s σ H vs us Q I r h
def rgV (lo hi : Int) : List V := (List.range (hi - lo).toNat).map fun (k : Nat) => V.int (lo + (k : Int))
/-- tuple(r), list(r) of a range object -/
def rOfRg (tq : Bool) : List V → Hp → VK → Prop := fun vs H Q => ∃ p lo hi, vs = [V.ref p] ∧ H p = some (.rng lo hi) ∧ (-(2 ^ 62) ≤ lo ∧ lo < 2 ^ 62 ∧ -(2 ^ 62) ≤ hi ∧ hi < 2 ^ 62) ∧ (hi - lo).toNat ≤ sizeLine ∧ ∀ q, H q = none → Q (.ref q) (upd H q (if tq then .tup (rgV lo hi) else .lst (rgV lo hi)))
theorem cr_list_rg (hc : X.calm = true) : CallR X (.type "list") (rOfRg false) := by
  intro pins s σ H vs us Q I r h
  obtain ⟨p, lo, hi, rfl, hp, ⟨b1, b2, b3, b4⟩, hz, q⟩ := h
  obtain ⟨u, rfl, ru⟩ := vals1 r
  cases ru
  obtain ⟨t, u, v, e⟩ := (show ObjOk X.prog X.w H s.heap p (.rng lo hi) from I.hok p _ hp)
  have hz2 : (hi - lo).toNat ≤ 2 ^ 24 := by rw [sizeLine_eq] at hz; exact hz
  have nf : H s.heap.objs.size = none := I.hok.fresh (Nat.le_refl _)
  refine call_list_range (I.ok.hd hc) (show IsRange s.heap p lo hi 1 t u v from e) (small_one b1 b2 b3 b4) rsize hz2 fun h' tk acc' c' kk hS hacc => ⟨.ref s.heap.objs.size, upd H s.heap.objs.size (.lst (rgV lo hi)), I.laid (t' := tk) kk (Nat.le_refl _) ?_, rfl, q _ nf⟩
  refine ⟨by unfold rgV; simpa using hz, acc'.toList, c', ?_, by rw [hS]⟩
  have gen : ∀ (l : List Value) (j : Nat), (∀ (i : Nat) (v : Value), l[i]? = some v → ∃ t, v = .int (lo + ((j + i : Nat) : Int)) t) → Vals ((List.range' j l.length).map fun (k : Nat) => V.int (lo + (k : Int))) l := by
    intro l
    induction l with
    | nil => intro j _; exact .nil
    | cons x l ih =>
      intro j hx
      rw [List.length_cons, List.range'_succ, List.map_cons]
      obtain ⟨t, e⟩ := hx 0 x rfl
      refine .cons ⟨t, by rw [e]; rfl⟩ (ih (j + 1) fun i v hv => ?_)
      obtain ⟨t, e⟩ := hx (i + 1) v (by simpa using hv)
      exact ⟨t, by rw [e]; congr 2; omega⟩
  have z := gen acc'.toList 0 fun i v hv => by
    obtain ⟨t, e⟩ := hacc.2 i v (by rw [← Array.getElem?_toList]; exact hv)
    exact ⟨t, by rw [e, Int.mul_one, Nat.zero_add]⟩
  rw [Array.length_toList, hacc.1, ← List.range_eq_range'] at z
  exact z
theorem cr_tuple_rg (hc : X.calm = true) : CallR X (.type "tuple") (rOfRg true) := by
  intro pins s σ H vs us Q I r h
  obtain ⟨p, lo, hi, rfl, hp, ⟨b1, b2, b3, b4⟩, hz, q⟩ := h
  obtain ⟨u, rfl, ru⟩ := vals1 r
  cases ru
  obtain ⟨t, u, v, e⟩ := (show ObjOk X.prog X.w H s.heap p (.rng lo hi) from I.hok p _ hp)
  have hz2 : (hi - lo).toNat ≤ 2 ^ 24 := by rw [sizeLine_eq] at hz; exact hz
  refine callType_codes (Q₁ := fun obj s₁ => s₁.TypeIs obj "tuple" ∧ EP X pins σ Q obj s₁) F.called_tuple (F.typeCall_tuple_1 _) F.entry_object_init
    (tuple_new_rg (X := X) (A := X.A.in1) (show X.A.in1.handled = none from I.ok.hd hc) (show IsRange s.heap p lo hi 1 t u v from e) (small_one b1 b2 b3 b4) rsize hz2 fun h' tk us kk hv => ⟨⟨_, Heap.get?_push_size _ rfl, rfl⟩, ?_⟩) fun obj s₁ h₁ => ?_
  · have I1 : Inv X pins σ H { s with heap := h', toks := tk } := I.kept kk
    have I2 : Inv X pins σ (upd H h'.objs.size (.tup (rgV lo hi))) { s with heap := h'.push { cls := .type "tuple", data := .seq us.toArray }, toks := tk } :=
      I1.laid (t' := tk) (fun b o e => Heap.get?_push_of_some _ e) (Nat.le_refl _) (show ObjOk X.prog X.w _ _ _ (.tup (rgV lo hi)) from ⟨by unfold rgV; simpa using hz, us, hv, IsTup.new _ _⟩)
    exact ⟨.ref h'.objs.size, _, I2, rfl, q _ (I1.hok.fresh (Nat.le_refl _))⟩
  · exact ⟨h₁.1, F.args_object_init_2 obj _, object_init_meets F.called_tuple.init.lookup F.called_tuple.made (by decide) X.prog X.w X.A.in1 _ s₁ ⟨h₁.1, rfl, h₁.2⟩⟩
end
section
variable {X : Cx} {W : Wd} {H0 : Hp} {Xw : WX} {S : Sig} {ev : Ex → EvM Op} {a b c e : Expr} {ea eb ec ee : Ex} {pos : Pos}
theorem reps_rg {SS : States} {F : Hp} (lo hi : Int) : Reps W SS F ((List.range (hi - lo).toNat).map fun (k : Nat) => D.int (lo + (k : Int))) (rgV lo hi) := by
  unfold rgV
  generalize List.range (hi - lo).toNat = l
  induction l with
  | nil => exact Reps.nil
  | cons x l ih => exact .cons rep_int ih
/-- behind the bounds: the range object, then the row -/
theorem rg_fin {SS : States} {F H : Hp} {σ : L2.St} {δ : Env} {Q : VK} {tq : Bool} {lo hi : Int} {ds : List D} (I : EnvOk W SS H0 F H σ δ) (e : rngD lo hi = some ds) (h : Post W SS H0 Xw σ F H δ Q (.ok (if tq then Op.v (.tup ds) else Op.f (.lst ds)) δ)) : ∀ p, H p = none → rOfRg tq [V.ref p] (upd H p (.rng lo hi)) Q := fun p n => by
  obtain ⟨g1, g5, rfl⟩ := rngD_inv e
  have g := Grow.lay (o := .rng lo hi) I.sub n
  have I' := I.grow g
  have h' := PostR.shift rO_m I (Stp.grow (SS := SS) (σ := σ) (δ := δ) g) h
  refine ⟨p, lo, hi, rfl, upd_same, g1, g5, fun q nq => ?_⟩
  cases tq with
  | true => exact (fin_of I' h').tup I'.sub (reps_rg lo hi) nq
  | false => exact (fin_of I' h').lst I'.sub (reps_rg lo hi) nq
theorem rg1_reads {tq : Bool} {σ : L2.St} {H : Hp} {Q : VK} (h : tD W H0 Xw (stepE S ev (.rng tq none ea)) σ H Q) : tCB (rOfRg tq) (tCons (tCB (rRg none) (tCons (tD W H0 Xw (ev ea)) tNil)) tNil) σ H Q := by
  obtain ⟨SS, F, δ, I, h⟩ := h
  have h' : ((((evD ev ea).bind fun d => match intD d with
      | some i => EvM.opt (rngD 0 i)
      | none => .bad).bind fun xs => EvM.pure (if tq then Op.v (.tup xs) else .f (.lst xs))) δ).wp (Post W SS H0 Xw σ F H δ Q) := h
  rw [bind_assoc, evD_eq] at h'
  refine tR_bind rO_m I h' fun p δ1 x F1 H1 st1 I1 q1 h1 => ?_
  obtain ⟨d, l, h2⟩ := rd_inv h1
  cases hi : intD d with
  | none => rw [hi] at h2; exact h2.elim
  | some i =>
    rw [hi] at h2
    cases intD_inv hi
    cases con_int (I1.look q1.1 l)
    obtain ⟨ds, e, h3⟩ := optb_inv h2
    exact .inl ⟨i, rfl, rg_fin I1 e h3⟩
theorem rg2_reads {tq : Bool} {σ : L2.St} {H : Hp} {Q : VK} (h : tD W H0 Xw (stepE S ev (.rng tq (some ea) eb)) σ H Q) : tCB (rOfRg tq) (tCons (tCB (rRg none) (tCons (tD W H0 Xw (ev ea)) (tCons (tD W H0 Xw (ev eb)) tNil))) tNil) σ H Q := by
  obtain ⟨SS, F, δ, I, h⟩ := h
  have h' : ((((evD ev ea).bind fun c => (evD ev eb).bind fun d => match intD c, intD d with
      | some i, some j => EvM.opt (rngD i j)
      | _, _ => .bad).bind fun xs => EvM.pure (if tq then Op.v (.tup xs) else .f (.lst xs))) δ).wp (Post W SS H0 Xw σ F H δ Q) := h
  rw [bind_assoc, evD_eq] at h'
  refine tR_bind rO_m I h' fun p δ1 x F1 H1 st1 I1 q1 h1 => ?_
  obtain ⟨c, l, h2⟩ := rd_inv h1
  rw [bind_assoc, evD_eq] at h2
  have cx := I1.look q1.1 l
  refine tR_bind rO_m I1 h2 fun p2 δ2 y F2 H2 st2 I2 q2 h3 => ?_
  obtain ⟨d, l2, h4⟩ := rd_inv h3
  have cy := I2.look q2.1 l2
  cases hc : intD c with
  | none => rw [hc] at h4; exact h4.elim
  | some i =>
    cases hi : intD d with
    | none => rw [hc, hi] at h4; exact h4.elim
    | some j =>
      rw [hc, hi] at h4
      cases intD_inv hc
      cases intD_inv hi
      cases con_int cx
      cases con_int cy
      obtain ⟨ds, e, h5⟩ := optb_inv h4
      exact .inr ⟨i, j, rfl, rg_fin I2 e h5⟩
theorem pd_rg1 {tq : Bool} {ty : String} {p p2 p3 : Pos} {y : Str} (hcT : CallR X (.type ty) (rOfRg tq)) (hg : Gl X y) (hm : X.mg y = none) (hv : bootBuiltins y = some (.type ty)) (hg2 : Gl X "range") (hm2 : X.mg "range" = none) (ha : PD X W H0 Xw a (ev ea)) (hn : y ≠ "__name__" := by decide) (hdb : (y == ("__debug__" : Str)) = false := by decide)
    (h1 : starEach [a] X.env = (false, eval a X.env) :: starEach [] X.env := by rfl) (h2 : starEach [.Call (.Name "range" p2) [a] [] p3] X.env = (false, eval (.Call (.Name "range" p2) [a] [] p3) X.env) :: starEach [] X.env := by rfl) :
    PD X W H0 Xw (.Call (.Name y p) [.Call (.Name "range" p2) [a] [] p3] [] pos) (stepE S ev (.rng tq none ea)) :=
  PE_imp (pe_callTy hcT hg hm hv (pa_cons (pe_callTy cr_rg hg2 hm2 boot_range (pa_cons ha pa_nil h1) (by decide) (by decide) h1 rfl) pa_nil h2) hn hdb h2 rfl) fun σ H Q h => rg1_reads h
theorem pd_rg2 {tq : Bool} {ty : String} {p p2 p3 : Pos} {y : Str} (hcT : CallR X (.type ty) (rOfRg tq)) (hg : Gl X y) (hm : X.mg y = none) (hv : bootBuiltins y = some (.type ty)) (hg2 : Gl X "range") (hm2 : X.mg "range" = none) (ha : PD X W H0 Xw a (ev ea)) (hb : PD X W H0 Xw b (ev eb)) (hn : y ≠ "__name__" := by decide) (hdb : (y == ("__debug__" : Str)) = false := by decide)
    (h1 : starEach [a, b] X.env = (false, eval a X.env) :: starEach [b] X.env := by rfl) (h3 : starEach [b] X.env = (false, eval b X.env) :: starEach [] X.env := by rfl) (hpl : (backTo p3 (starEach [b] X.env)).any (·.1) = false := by rfl) (h2 : starEach [.Call (.Name "range" p2) [a, b] [] p3] X.env = (false, eval (.Call (.Name "range" p2) [a, b] [] p3) X.env) :: starEach [] X.env := by rfl) :
    PD X W H0 Xw (.Call (.Name y p) [.Call (.Name "range" p2) [a, b] [] p3] [] pos) (stepE S ev (.rng tq (some ea) eb)) :=
  PE_imp (pe_callTy hcT hg hm hv (pa_cons (pe_callTy cr_rg hg2 hm2 boot_range (pa_cons ha (pa_cons hb pa_nil h3) h1) (by decide) (by decide) h1 hpl) pa_nil h2) hn hdb h2 rfl) fun σ H Q h => rg2_reads h
end
end T
end
section
set_option Elab.async false
set_option linter.all false
set_option autoImplicit false
set_option maxRecDepth 100000
/-! methods of lists; isinstance as an expression -/
namespace T
open PySem PySem.Spec PyProof.Rows L2
section
variable {X : Cx} {W : Wd} {H0 : Hp} {Xw : WX} {S : Sig} {ev : Ex → EvM Op} {a b c e : Expr} {ea eb ec ee : Ex} {pos : Pos} {es rest : List Expr} {eas : List Ex}
theorem ownL_inv {β : Type} {i : Nat} {f : Unit → EvM β} {δ : Env} {P : Ou β → Prop} (h : (((ownL i).bind f) δ).wp P) : ∃ l, δ[i]? = some (some (.own (.lst l))) ∧ (f () δ).wp P := by
  unfold EvM.bind ownL at h
  cases hi : δ[i]? with
  | none => simp only [hi] at h; exact h.elim
  | some oe =>
    rcases oe with _ | (d | d | d)
    · simp only [hi] at h; exact h.elim
    · simp only [hi] at h; exact h.elim
    · cases d <;> try (simp only [hi] at h; exact (show False from h).elim)
      case lst l => simp only [hi] at h; exact ⟨l, rfl, h⟩
    · simp only [hi] at h; exact h.elim
/-- the end of a method that changes a list -/
def rMut (W : Wd) (H0 : Hp) (Xw : WX) (σ : L2.St) (k i : Nat) : V → List V → Hp → VK → Prop := fun x vs H Q => ∃ SS F δ ds xs ws l, x = .ref l ∧ EnvOk W SS H0 F H σ δ ∧ σ[i]? = some (some (.ref l)) ∧ δ[i]? = some (some (.own (.lst xs))) ∧ H l = some (.lst ws) ∧ Reps W SS F xs ws ∧ Reps W SS F ds vs ∧ (mutM k i ds δ).wp (Post W SS H0 Xw σ F H δ Q)
theorem mut_reads {k i : Nat} {σ : L2.St} {H : Hp} {Q : VK} (h : tD W H0 Xw (stepE S ev (.mut k i eas)) σ H Q) : ∃ x, σ[i]? = some (some x) ∧ tyV X.K "list" x H ∧ tR (rVs W) W H0 Xw (evsV ev eas) σ H fun vs H1 => rMut W H0 Xw σ k i x vs H1 Q := by
  obtain ⟨SS, F, δ, I, h⟩ := h
  have h' : (((ownL i).bind fun _ => (evsV ev eas).bind fun ds => mutM k i ds) δ).wp (Post W SS H0 Xw σ F H δ Q) := h
  obtain ⟨l0, hl0, h1⟩ := ownL_inv h'
  obtain ⟨x, hx, a, o, rfl, e2, e3, e4, e5, vs0, rfl, r0⟩ := I.ent i _ hl0
  refine ⟨.ref a, hx, .inl ⟨rfl, vs0, SqL.of e5⟩, ?_⟩
  refine tR_bind rO_m I h1 fun ds δ1 vs F1 H1 st1 I1 q1 h2 => ?_
  have q1' : Reps W SS F1 ds vs := q1
  have hm : ∃ d, δ1[i]? = some (some (.own d)) ∧ ∃ r, mutD k d ds = some r := by
    unfold mutM at h2
    cases hi : δ1[i]? with
    | none => simp only [hi] at h2; exact h2.elim
    | some oe =>
      rcases oe with _ | (d | d | d)
      · simp only [hi] at h2; exact h2.elim
      · simp only [hi] at h2; exact h2.elim
      · simp only [hi] at h2
        cases hd : mutD k d ds with
        | none => simp only [hd] at h2; exact h2.elim
        | some r => exact ⟨d, rfl, r, hd⟩
      · simp only [hi] at h2; exact h2.elim
  obtain ⟨d, hd, r, hr⟩ := hm
  have : ∃ xs, d = .lst xs := by
    rcases k with _ | _ | _ | _ | k <;> cases d <;> first | exact ⟨_, rfl⟩ | (have z : (none : Option (D × Op)) = some r := hr; cases z)
  obtain ⟨xs, rfl⟩ := this
  obtain ⟨x1, hx1, a1, o1, e6, e7, e8, e9, e10, vs1, rfl, r1⟩ := I1.ent i _ hd
  rw [hx] at hx1
  cases hx1
  cases e6
  exact ⟨SS, F1, δ1, ds, xs, vs1, a, rfl, I1, hx, hd, e10, r1, q1', h2⟩
theorem mutM_some {k i : Nat} {ds : List D} {δ : Env} {d d' : D} {o : Op} {P : Ou Op → Prop} (h1 : δ[i]? = some (some (.own d))) (h2 : mutD k d ds = some (d', o)) (h : (mutM k i ds δ).wp P) : P (.ok o (δ.set i (some (.own d')))) := by
  unfold mutM at h
  simp only [h1, h2] at h
  exact h
theorem mut_none {k i : Nat} {ds : List D} {δ : Env} {d : D} {P : Ou Op → Prop} (h1 : δ[i]? = some (some (.own d))) (h2 : mutD k d ds = none) (h : (mutM k i ds δ).wp P) : False := by
  unfold mutM at h
  simp only [h1, h2] at h
  exact h
/-- .. and what is wanted behind it -/
theorem mut_end {SS : States} {F H : Hp} {σ : L2.St} {δ : Env} {Q : VK} {i : Nat} {l : Addr} {xs xs' : List D} {ws ws' : List V} {o : Op} {v : V} (I : EnvOk W SS H0 F H σ δ) (hx : σ[i]? = some (some (.ref l))) (hd : δ[i]? = some (some (.own (.lst xs)))) (hl : H l = some (.lst ws)) (r : Reps W SS F xs' ws') (ho : ∃ d, o = .v d ∧ Rep W SS F d v) (h : Post W SS H0 Xw σ F H δ Q (.ok o (δ.set i (some (.own (.lst xs')))))) : Q v (upd H l (.lst ws')) := by
  obtain ⟨d, rfl, rd⟩ := ho
  exact h v F _ (Stp.mutOwn hd hx) (I.mutOwn hd hx hl ⟨ws', rfl, r⟩) ⟨rd, fun _ e => by cases e⟩
theorem mt_app (σ : L2.St) (i : Nat) {x : V} {vs : List V} {H : Hp} {Q : VK} (h : rMut W H0 Xw σ 0 i x vs H Q) : rAppend x vs H Q := by
  obtain ⟨SS, F, δ, ds, xs, ws, l, rfl, I, hx, hd, hl, r, rv, h⟩ := h
  rcases ds with _ | ⟨d, _ | ⟨_, _⟩⟩
  · exact (mut_none hd rfl h).elim
  · obtain ⟨v, rs, rfl, r1, r2⟩ := rv.cons_inv
    unfold Reps at r2
    subst r2
    by_cases hb : Nat.blt xs.length 16777216 = true
    · have h2 : mutD 0 (.lst xs) [d] = some (.lst (xs ++ [d]), .v .non) := by
        show (if Nat.blt xs.length 16777216 then _ else _) = _
        rw [if_pos hb]
      have hz : xs.length < 16777216 := Nat.le_of_ble_eq_true hb
      exact ⟨l, ws, v, rfl, rfl, hl, by rw [← r.length, sizeLine_eq]; exact hz, mut_end I hx hd hl (r.append (.cons r1 .nil)) ⟨.non, rfl, rep_non⟩ (mutM_some hd h2 h)⟩
    · have h2 : mutD 0 (.lst xs) [d] = none := by
        show (if Nat.blt xs.length 16777216 then _ else _) = _
        rw [if_neg hb]
      exact (mut_none hd h2 h).elim
  · exact (mut_none hd rfl h).elim
theorem mt_pp (σ : L2.St) (i : Nat) {x : V} {H : Hp} {Q : VK} (h : rMut W H0 Xw σ 1 i x [] H Q) : rPop x [] H Q := by
  obtain ⟨SS, F, δ, ds, xs, ws, l, rfl, I, hx, hd, hl, r, rv, h⟩ := h
  rcases ds with _ | ⟨d, ds⟩
  · cases hg : xs.getLast? with
    | none =>
      have h2 : mutD 1 (.lst xs) [] = none := by
        show (match xs.getLast? with | some y => _ | none => _) = _
        rw [hg]
      exact (mut_none hd h2 h).elim
    | some y =>
      have h2 : mutD 1 (.lst xs) [] = some (.lst xs.dropLast, .v y) := by
        show (match xs.getLast? with | some y => _ | none => _) = _
        rw [hg]
      rw [List.getLast?_eq_getElem?] at hg
      obtain ⟨v, g1, g2⟩ := r.get hg
      rw [r.length] at g1
      exact ⟨l, ws, v, rfl, rfl, hl, g1, mut_end I hx hd hl r.dropLast ⟨y, rfl, g2⟩ (mutM_some hd h2 h)⟩
  · obtain ⟨v, rs, e, _⟩ := rv.cons_inv
    cases e
theorem mt_ppAt (σ : L2.St) (i : Nat) {x : V} {vs : List V} {H : Hp} {Q : VK} (hz : ∀ l ws, H l = some (.lst ws) → ws.length ≤ sizeLine → True) (h : rMut W H0 Xw σ 2 i x vs H Q) : ∃ l xs i k y, x = .ref l ∧ vs = [.int i] ∧ H l = some (.lst xs) ∧ 0 ≤ i ∧ k = i.toNat ∧ xs[k]? = some y ∧ Q y (upd H l (.lst (xs.eraseIdx k))) := by
  obtain ⟨SS, F, δ, ds, xs, ws, l, rfl, I, hx, hd, hl, r, rv, h⟩ := h
  rcases ds with _ | ⟨d, _ | ⟨_, _⟩⟩
  · exact (mut_none hd rfl h).elim
  · obtain ⟨v, rs, rfl, r1, r2⟩ := rv.cons_inv
    unfold Reps at r2
    subst r2
    cases d <;> try exact (mut_none hd rfl h).elim
    case int j =>
      have e1 : v = .int j := by unfold Rep at r1; exact r1
      subst e1
      by_cases hj : 0 ≤ j
      · cases hg : xs[j.toNat]? with
        | none =>
          have h2 : mutD 2 (.lst xs) [.int j] = none := by
            show (if 0 ≤ j then (match xs[j.toNat]? with | some y => _ | none => _) else _) = _
            rw [if_pos hj, hg]
          exact (mut_none hd h2 h).elim
        | some y =>
          have h2 : mutD 2 (.lst xs) [.int j] = some (.lst (xs.eraseIdx j.toNat), .v y) := by
            show (if 0 ≤ j then (match xs[j.toNat]? with | some y => _ | none => _) else _) = _
            rw [if_pos hj, hg]
          obtain ⟨v, g1, g2⟩ := r.get hg
          exact ⟨l, ws, j, j.toNat, v, rfl, rfl, hl, hj, rfl, g1, mut_end I hx hd hl (r.eraseIdx _) ⟨y, rfl, g2⟩ (mutM_some hd h2 h)⟩
      · have h2 : mutD 2 (.lst xs) [.int j] = none := by
          show (if 0 ≤ j then (match xs[j.toNat]? with | some y => _ | none => _) else _) = _
          rw [if_neg hj]
        exact (mut_none hd h2 h).elim
  · refine (mut_none hd ?_ h).elim
    cases d <;> rfl
/-- list.pop(i), told of the heap's own bound -/
def rPopN : V → List V → Hp → VK → Prop := fun x vs H Q => ∃ l xs i k y, x = .ref l ∧ vs = [.int i] ∧ H l = some (.lst xs) ∧ 0 ≤ i ∧ k = i.toNat ∧ xs[k]? = some y ∧ Q y (upd H l (.lst (xs.eraseIdx k)))
theorem mt_popN : MtR X "list.pop" rPopN := by
  intro pins s σ H x vs v us Q I rx rv h
  obtain ⟨l, xs, i, k, y, rfl, rfl, hl, h0, rfl, hy, q⟩ := h
  have hz : xs.length ≤ sizeLine := (I.lstM hl).1
  have hk : i.toNat < xs.length := by
    rcases Nat.lt_or_ge i.toNat xs.length with z | z
    · exact z
    · rw [List.getElem?_eq_none z] at hy; cases hy
  rw [sizeLine_eq] at hz
  refine mt_popAt pins s σ H _ _ v us Q I rx rv ⟨l, xs, i, i.toNat, y, rfl, rfl, hl, by omega, by omega, ?_, hy, q⟩
  have hix : ixN xs.length i = some i.toNat := by
    unfold ixN
    rw [if_pos h0, if_pos (by omega)]
  exact (ixN_seq hix).1
theorem tR_mono {α β : Type} {R : RelR α β} {m : EvM α} {σ : L2.St} {H : Hp} {Q Q' : β → Hp → Prop} (h : tR R W H0 Xw m σ H Q) (i : ∀ x H, Q x H → Q' x H) : tR R W H0 Xw m σ H Q' := by
  obtain ⟨SS, F, δ, I, h⟩ := h
  refine ⟨SS, F, δ, I, Tr.wp_mono (fun r hr => ?_) h⟩
  cases r with
  | ok p δ1 => exact fun x F1 H1 st e q => i _ _ (hr x F1 H1 st e q)
  | exc e δ1 => exact hr
theorem tR_nil {σ : L2.St} {H : Hp} {Q : List V → Hp → Prop} (h : tR (rVs W) W H0 Xw (evsV ev []) σ H Q) : Q [] H := by
  obtain ⟨SS, F, δ, I, h⟩ := h
  exact h [] F H .refl I Reps.nil
theorem pd_append {i : Nat} {x : Str} {px apos cpos : Pos} (hN : X.N[i]? = some x) (hv : Vis X.env.scope x) (ha : PA X [e] (tR (rVs W) W H0 Xw (evsV ev [ee]))) (hs : starEach [e] X.env = (false, eval e X.env) :: starEach [] X.env := by rfl) (hfew : ((backTo cpos (starEach [e] X.env)).all (fun x => !x.1) && (backToKw cpos (keywordEach [] X.env)).all (fun x => x.1.isSome) && decide (([e] : List Expr).length + ([] : List Keyword).length + (if ([] : List Keyword).isEmpty then 0 else 1) < 30)) = true := by rfl) (hbase : attributeBase (.Name x px) "append" X.env (eval (.Name x px) X.env) = eval (.Name x px) X.env := by rfl) (hline : (apos.endLine == cpos.line) = true := by rfl)
    (hd : (x == ("__debug__" : Str)) = false := by decide) (hcd : (x == ("__classdict__" : Str)) = false := by decide) : PD X W H0 Xw (.Call (.Attribute (.Name x px) "append" apos) [e] [] cpos) (stepE S ev (.mut 0 i [ee])) :=
  PE_imp (pe_bm PySem.F.plainAttrs_list PySem.F.slot_list_append PySem.F.type_list_append mt_append (pe_var hN hv hd hcd) ha hbase hfew hline hs rfl) fun σ H Q h => by
    obtain ⟨x, hx, ty, t⟩ := mut_reads (X := X) h
    exact ⟨x, hx, ty, tR_mono t fun vs H1 q => mt_app σ i q⟩
theorem pd_pop {i : Nat} {x : Str} {px apos cpos : Pos} (hN : X.N[i]? = some x) (hv : Vis X.env.scope x) (hbase : attributeBase (.Name x px) "pop" X.env (eval (.Name x px) X.env) = eval (.Name x px) X.env := by rfl) (hline : (apos.endLine == cpos.line) = true := by rfl)
    (hd : (x == ("__debug__" : Str)) = false := by decide) (hcd : (x == ("__classdict__" : Str)) = false := by decide) : PD X W H0 Xw (.Call (.Attribute (.Name x px) "pop" apos) [] [] cpos) (stepE S ev (.mut 1 i [])) :=
  PE_imp (pe_bm0 PySem.F.plainAttrs_list PySem.F.slot_list_pop PySem.F.type_list_pop mt_pop (pe_var hN hv hd hcd) hbase hline) fun σ H Q h => by
    obtain ⟨x, hx, ty, t⟩ := mut_reads (X := X) h
    exact ⟨x, hx, ty, mt_pp σ i (tR_nil t)⟩
theorem pd_popAt {i : Nat} {x : Str} {px apos cpos : Pos} (hN : X.N[i]? = some x) (hv : Vis X.env.scope x) (ha : PA X [e] (tR (rVs W) W H0 Xw (evsV ev [ee]))) (hs : starEach [e] X.env = (false, eval e X.env) :: starEach [] X.env := by rfl) (hfew : ((backTo cpos (starEach [e] X.env)).all (fun x => !x.1) && (backToKw cpos (keywordEach [] X.env)).all (fun x => x.1.isSome) && decide (([e] : List Expr).length + ([] : List Keyword).length + (if ([] : List Keyword).isEmpty then 0 else 1) < 30)) = true := by rfl) (hbase : attributeBase (.Name x px) "pop" X.env (eval (.Name x px) X.env) = eval (.Name x px) X.env := by rfl) (hline : (apos.endLine == cpos.line) = true := by rfl)
    (hd : (x == ("__debug__" : Str)) = false := by decide) (hcd : (x == ("__classdict__" : Str)) = false := by decide) : PD X W H0 Xw (.Call (.Attribute (.Name x px) "pop" apos) [e] [] cpos) (stepE S ev (.mut 2 i [ee])) :=
  PE_imp (pe_bm PySem.F.plainAttrs_list PySem.F.slot_list_pop PySem.F.type_list_pop mt_popN (pe_var hN hv hd hcd) ha hbase hfew hline hs rfl) fun σ H Q h => by
    obtain ⟨x, hx, ty, t⟩ := mut_reads (X := X) h
    exact ⟨x, hx, ty, tR_mono t fun vs H1 q => mt_ppAt σ i (fun _ _ _ _ => True.intro) q⟩
/-! ### index, count -/
theorem findIx_some {y : D} : ∀ {xs : List D} {k j : Nat}, findIx y xs k = some j → k ≤ j ∧ ∃ z, xs[j - k]? = some z ∧ D.eqv z y = true ∧ ∀ (m : Nat) (z' : D), m < j - k → xs[m]? = some z' → D.eqv z' y = false
  | [], _, _, h => by cases h
  | x :: xs, k, j, h => by
    have h' : (if D.eqv x y then some k else findIx y xs (k + 1)) = some j := h
    by_cases hx : D.eqv x y = true
    · rw [if_pos hx] at h'
      cases h'
      exact ⟨Nat.le_refl _, x, by simp, hx, fun m z' hm => by omega⟩
    · rw [if_neg hx] at h'
      obtain ⟨h1, z, h2, h3, h4⟩ := findIx_some h'
      refine ⟨by omega, z, ?_, h3, fun m z' hm hz => ?_⟩
      · have : j - k = (j - (k + 1)) + 1 := by omega
        rw [this]
        simpa using h2
      · rcases m with _ | m
        · cases (Option.some.inj hz)
          exact Bool.not_eq_true _ ▸ hx
        · exact h4 m z' (by omega) (by simpa using hz)
theorem pys_get : ∀ {xs : List D} {i : Nat}, (D.pys xs)[i]? = (xs[i]?).map D.py
  | [], i => by simp [D.pys]
  | x :: xs, 0 => by simp [D.pys]
  | x :: xs, i + 1 => by
    rw [D.pys, List.getElem?_cons_succ, List.getElem?_cons_succ]
    exact pys_get
def rIxD (W : Wd) : V → List V → Hp → VK → Prop := fun x vs H Q => ∃ SS F xs d y k, vs = [y] ∧ Sub F H ∧ Con W SS F H (.lst xs) x ∧ Rep W SS F d y ∧ eqOk d = true ∧ xs.all eqOk = true ∧ findIx d xs 0 = some k ∧ Q (.int (k : Nat)) H
theorem mt_ixD (G : Good W X) : MtR X "list.index" (rIxD W) := by
  intro pins s σ H x vs v us Q I rx rv h
  obtain ⟨SS, F, xs, d, y, k, rfl, hs, cx, ry, h1, h2, h3, q⟩ := h
  have hu := G.hu
  obtain ⟨a, ws, rfl, _, _⟩ := con_lst hs cx
  have pl := plains_all h2
  obtain ⟨_, z, g1, g2, g3⟩ := findIx_some h3
  rw [Nat.sub_zero] at g1 g3
  have pz : ∀ {z : D} {m : Nat}, xs[m]? = some z → z.plain = true := fun hm => plain_of (List.all_eq_true.mp h2 _ (List.mem_of_getElem? hm))
  have dl : Dp W.K H (V.ref a) (.list (D.pys xs)) := by
    have := dp_con (d := .lst xs) hs (by unfold D.plain; exact pl.1) cx
    rw [D.py] at this
    exact this
  refine mt_indexD (by omega) pins s σ H _ _ v us Q I rx rv ⟨a, y, d.py, D.pys xs, k, z.py, rfl, rfl, G.hK ▸ dl, G.hK ▸ dp_of hs d y (plain_of h1) ry, shaped_list h2, shaped_py h1, by rw [pys_get, g1]; rfl, by rw [eqv_py z d (pz g1) (plain_of h1)]; exact g2, fun m z' hm hz => ?_, q⟩
  rw [pys_get] at hz
  obtain ⟨w, hw, rfl⟩ := Option.map_eq_some_iff.mp hz
  rw [eqv_py w d (pz hw) (plain_of h1)]
  exact g3 m w hm hw
def rCnD (W : Wd) : V → List V → Hp → VK → Prop := fun x vs H Q => ∃ SS F xs d y, vs = [y] ∧ Sub F H ∧ Con W SS F H (.lst xs) x ∧ Rep W SS F d y ∧ eqOk d = true ∧ xs.all eqOk = true ∧ Q (.int (xs.countP fun z => D.eqv z d : Nat)) H
theorem pys_count {d : D} (hd : d.plain = true) : ∀ {xs : List D}, D.plains xs = true → ((D.pys xs).countP fun z => PyData.eqv z d.py) = xs.countP fun z => D.eqv z d
  | [], _ => rfl
  | x :: xs, h => by
    rw [D.plains, Bool.and_eq_true] at h
    rw [D.pys, List.countP_cons, List.countP_cons, eqv_py x d h.1 hd, pys_count hd h.2]
theorem mt_cnD (G : Good W X) : MtR X "list.count" (rCnD W) := by
  intro pins s σ H x vs v us Q I rx rv h
  obtain ⟨SS, F, xs, d, y, rfl, hs, cx, ry, h1, h2, q⟩ := h
  have hu := G.hu
  obtain ⟨a, ws, rfl, hl, rr⟩ := con_lst hs cx
  cases rx
  obtain ⟨u, rfl, ru⟩ := vals1 rv
  have pl := plains_all h2
  obtain ⟨its, rvs, p, hz⟩ := I.list (SqL.of hl)
  obtain ⟨as, rs⟩ := Dp.readsAll I (D.pys xs) ws its (G.hK ▸ dps_of hs xs ws pl.1 rr) rvs
  obtain ⟨bs, rd⟩ := Dp.reads I d.py y u (G.hK ▸ dp_of hs d y (plain_of h1) ry) ru
  have hd := lay_py d (plain_of h1)
  have hx := lays_py xs pl.1
  have p1 : PyData.plainAll (D.pys xs) = true := by
    have z := PyData.plain_of_canLay0 (.list (D.pys xs)) (by rw [PyData.canLay0]; exact hx.1)
    rw [PyData.plain] at z
    exact z
  refine SeqAt.count_list_data (s := s) (l := a) (vs := its.toArray) p.isList (by simpa using rs) rd p1 (PyData.plain_of_canLay0 _ hd.1) ?_ ⟨.int _, H, I.tok _, ⟨_, rfl⟩, ?_⟩
  · have h3 : d.depth ≤ 60 := by
      unfold eqOk at h1
      rw [Bool.and_eq_true] at h1
      exact Nat.le_of_ble_eq_true h1.2
    rw [hd.2]
    omega
  · rw [pys_count (plain_of h1) pl.1]
    exact q
theorem bm_reads {k : Nat} {σ : L2.St} {H : Hp} {Q : VK} {r : V → List V → Hp → VK → Prop} (hk : ∀ y, bmKind k y = true → ∃ l, y = .lst l) (hz : ∀ z ds op, bmD k z ds = some op → ∃ xs, z = .lst xs) (hr : ∀ SS F H xs ds x vs op Q, Sub F H → Con W SS F H (.lst xs) x → Reps W SS F ds vs → bmD k (.lst xs) ds = some op → Fin W SS F H op Q → r x vs H Q) (h : tD W H0 Xw (stepE S ev (.bm k ea eas)) σ H Q) : tBM X.K "list" r (tD W H0 Xw (ev ea)) (tR (rVs W) W H0 Xw (evsV ev eas)) σ H Q := by
  obtain ⟨SS, F, δ, I, h⟩ := h
  have h' : (((ev ea).bind fun p => (rd p).bind fun y => if bmKind k y then (evsV ev eas).bind fun ds => (rd p).bind fun x => EvM.opt (bmD k x ds) else .bad) δ).wp (Post W SS H0 Xw σ F H δ Q) := h
  refine tR_bind rO_m I h' fun p δ1 x F1 H1 st1 I1 q1 h1 => ?_
  obtain ⟨y, l1, h2⟩ := rd_inv h1
  obtain ⟨hb, h3⟩ := iteb_inv h2
  obtain ⟨l, rfl⟩ := hk y hb
  obtain ⟨a, ws, rfl, hl, _⟩ := con_lst I1.sub (I1.look q1.1 l1)
  refine ⟨.inl ⟨rfl, ws, SqL.of hl⟩, ?_⟩
  refine tR_bind rO_m I1 h3 fun ds δ2 vs F2 H2 st2 I2 q2 h4 => ?_
  obtain ⟨z, l2, h5⟩ := rd_inv h4
  obtain ⟨op, e, h6⟩ := opt_inv h5
  have q3 := OpOk.step I1 I2 st2 q1.1
  have cz := I2.look q3 l2
  have := hz z ds op e
  obtain ⟨xs, rfl⟩ := this
  exact hr SS F2 H2 xs ds _ vs op Q I2.sub cz q2 e (fin_of I2 h6)
theorem bm_lst {k : Nat} (hk : k = 2 ∨ k = 3) {z : D} {ds : List D} {op : Op} (e : bmD k z ds = some op) : ∃ xs, z = .lst xs := by
  rcases hk with rfl | rfl
  · cases z with
    | lst xs => exact ⟨xs, rfl⟩
    | _ => rcases ds with _ | ⟨_, _ | ⟨_, _⟩⟩ <;> exact (none_some e).elim
  · cases z with
    | lst xs => exact ⟨xs, rfl⟩
    | _ => rcases ds with _ | ⟨_, _ | ⟨_, _⟩⟩ <;> exact (none_some e).elim
theorem pd_index {apos cpos : Pos} (G : Good W X) (ho : PD X W H0 Xw a (ev ea)) (ha : PA X [e] (tR (rVs W) W H0 Xw (evsV ev [ee]))) (hs : starEach [e] X.env = (false, eval e X.env) :: starEach [] X.env := by rfl) (hfew : ((backTo cpos (starEach [e] X.env)).all (fun x => !x.1) && (backToKw cpos (keywordEach [] X.env)).all (fun x => x.1.isSome) && decide (([e] : List Expr).length + ([] : List Keyword).length + (if ([] : List Keyword).isEmpty then 0 else 1) < 30)) = true := by rfl)
    (hbase : attributeBase a "index" X.env (eval a X.env) = eval a X.env := by rfl) (hline : (apos.endLine == cpos.line) = true := by rfl) : PD X W H0 Xw (.Call (.Attribute a "index" apos) [e] [] cpos) (stepE S ev (.bm 2 ea [ee])) :=
  PE_imp (pe_bm PySem.F.plainAttrs_list PySem.F.slot_list_index PySem.F.type_list_index (mt_ixD G) ho ha hbase hfew hline hs rfl) fun σ H Q h => bm_reads (fun y hy => by cases y <;> first | exact ⟨_, rfl⟩ | cases hy) (fun z ds op e => bm_lst (by simp) e) (fun SS F H xs ds x vs op Q hs c r e fin => by
    rcases ds with _ | ⟨d, _ | ⟨_, _⟩⟩
    · cases e
    · obtain ⟨v, rs, rfl, r1, r2⟩ := r.cons_inv
      unfold Reps at r2
      subst r2
      have e' := e
      unfold bmD at e'
      simp only [Option.ite_none_right_eq_some, Bool.and_eq_true, Option.map_eq_some_iff] at e'
      obtain ⟨⟨h1, h2⟩, k, h3, rfl⟩ := e'
      exact ⟨SS, F, xs, d, v, k, rfl, hs, c, r1, h1, h2, h3, fin.int hs⟩
    · cases e) h
theorem pd_count {apos cpos : Pos} (G : Good W X) (ho : PD X W H0 Xw a (ev ea)) (ha : PA X [e] (tR (rVs W) W H0 Xw (evsV ev [ee]))) (hs : starEach [e] X.env = (false, eval e X.env) :: starEach [] X.env := by rfl) (hfew : ((backTo cpos (starEach [e] X.env)).all (fun x => !x.1) && (backToKw cpos (keywordEach [] X.env)).all (fun x => x.1.isSome) && decide (([e] : List Expr).length + ([] : List Keyword).length + (if ([] : List Keyword).isEmpty then 0 else 1) < 30)) = true := by rfl)
    (hbase : attributeBase a "count" X.env (eval a X.env) = eval a X.env := by rfl) (hline : (apos.endLine == cpos.line) = true := by rfl) : PD X W H0 Xw (.Call (.Attribute a "count" apos) [e] [] cpos) (stepE S ev (.bm 3 ea [ee])) :=
  PE_imp (pe_bm PySem.F.plainAttrs_list PySem.F.slot_list_count PySem.F.type_list_count (mt_cnD G) ho ha hbase hfew hline hs rfl) fun σ H Q h => bm_reads (fun y hy => by cases y <;> first | exact ⟨_, rfl⟩ | cases hy) (fun z ds op e => bm_lst (by simp) e) (fun SS F H xs ds x vs op Q hs c r e fin => by
    rcases ds with _ | ⟨d, _ | ⟨_, _⟩⟩
    · cases e
    · obtain ⟨v, rs, rfl, r1, r2⟩ := r.cons_inv
      unfold Reps at r2
      subst r2
      have e' : (if eqOk d && xs.all eqOk then some (Op.v (.int (xs.countP fun x => D.eqv x d : Nat))) else none) = some op := e
      simp only [Option.ite_none_right_eq_some, Bool.and_eq_true, Option.some.injEq] at e'
      obtain ⟨⟨h1, h2⟩, rfl⟩ := e'
      exact ⟨SS, F, xs, d, v, rfl, hs, c, r1, h1, h2, fin.int hs⟩
    · cases e) h
/-! ### isinstance -/
def isiF (S : Sig) (ts : List Ty) (x : D) : Option Bool := ts.foldl (fun (r : Option Bool) t => match r with
  | some true => some true
  | some false => isTy S.sub S.ko S.kx x t
  | none => none) (some false)
theorem call_isN {clss : List Value} {f : D → Option Bool} (hK : X.K = W.K) (k : KitOkN W X.K clss f) : CallR X (.builtin "isinstance") (rIsN W clss f) := by
  intro pins s σ H xs us Q I r h
  obtain ⟨SS, F, d, x, tp, cs, b, rfl, hT, hc, hs, cx, e, q⟩ := h
  obtain ⟨u1, u2, rfl, r1, r2⟩ := vals2 r
  cases (show u2 = Value.ref tp from r2)
  obtain ⟨ka, t, e1, e2⟩ := k d b e
  obtain ⟨P, Z, p, hx⟩ := kit_D I hK hs cx r1 e1 ka
  obtain ⟨_, its, rv, o, h1, h2, n, h3⟩ := (show ObjOk X.prog X.w H s.heap tp (.tup cs) from I.hok tp _ hT)
  have e3 := ClsV.all hc rv
  subst e3
  obtain ⟨oc, od, dt, sl⟩ := o
  simp only at h2 h3
  subst h2 h3
  exact PySem.W.kia_tup Z I.kIn p h1 e2 hx fun tk => ⟨.bl b, H, I.tok tk, rfl, q⟩
theorem isi_reads {ts : List Ty} {σ : L2.St} {H : Hp} {Q : VK} (h : tD W H0 Xw (stepE S ev (.isi ea ts)) σ H Q) : tD W H0 Xw (ev ea) σ H fun x H1 => ∃ SS F d b, Sub F H1 ∧ Con W SS F H1 d x ∧ isiF S ts d = some b ∧ ∀ H2, (∃ F2, Grow F H1 F2 H2) → Q (.bl b) H2 := by
  obtain ⟨SS, F, δ, I, h⟩ := h
  have h' : (((evD ev ea).bind fun x => match isiF S ts x with
    | some b => EvM.pure (.v (.bl b))
    | none => .bad) δ).wp (Post W SS H0 Xw σ F H δ Q) := h
  rw [evD_eq] at h'
  refine tR_bind rO_m I h' fun p δ1 x F1 H1 st1 I1 q1 h1 => ?_
  obtain ⟨d, l, h2⟩ := rd_inv h1
  cases hb : isiF S ts d with
  | none => rw [hb] at h2; exact h2.elim
  | some b =>
    rw [hb] at h2
    exact ⟨SS, F1, d, b, I1.sub, I1.look q1.1 l, hb, fun H2 ⟨F2, g⟩ => fin_of I1 h2 _ F2 H2 g (rep_bl (W := W) (SS := SS) (F := F2))⟩
theorem pd_isi1 {c : Expr} {cv : V} {cls : Value} {ts : List Ty} {p : Pos} (hK : X.K = W.K) (k : KitOk W X.K cls (isiF S ts)) (hg : Gl X "isinstance") (hm : X.mg "isinstance" = none) (ha : PD X W H0 Xw a (ev ea)) (hc : PE X c (tC cv)) (hcv : ∀ u, RelV cv u → u = cls)
    (h1 : starEach [a, c] X.env = (false, eval a X.env) :: starEach [c] X.env := by rfl) (h2 : starEach [c] X.env = (false, eval c X.env) :: starEach [] X.env := by rfl) (hpl : (backTo pos (starEach [c] X.env)).any (·.1) = false := by rfl) : PD X W H0 Xw (.Call (.Name "isinstance" p) [a, c] [] pos) (stepE S ev (.isi ea ts)) :=
  PE_imp (pe_callB (call_is1 hK k) hg hm PyProof.Rows.boot_isinstance (pa_cons ha (pa_cons hc pa_nil h2) h1) (by decide) (by decide) h1 hpl) fun σ H Q h =>
    tD_mono (isi_reads h) fun x H1 ⟨SS, F, d, b, hs, cx, e, q⟩ => ⟨SS, F, d, x, cv, b, rfl, hcv, hs, cx, e, q H1 ⟨F, .refl hs⟩⟩
/-- isinstance(x, (c, d)) -/
theorem pd_isi2 {c d : Expr} {cv dv : V} {cls dls : Value} {ts : List Ty} {p pt : Pos} {kt} (hK : X.K = W.K) (k : KitOkN W X.K [cls, dls] (isiF S ts)) (hg : Gl X "isinstance") (hm : X.mg "isinstance" = none) (ha : PD X W H0 Xw a (ev ea)) (hc : PE X c (tC cv)) (hd : PE X d (tC dv)) (hcv : ClsV cv cls) (hdv : ClsV dv dls)
    (h1 : starEach [a, .Tuple [c, d] kt pt] X.env = (false, eval a X.env) :: starEach [.Tuple [c, d] kt pt] X.env := by rfl) (h2 : starEach [.Tuple [c, d] kt pt] X.env = (false, eval (.Tuple [c, d] kt pt) X.env) :: starEach [] X.env := by rfl) (h3 : starEach [c, d] X.env = (false, eval c X.env) :: starEach [d] X.env := by rfl) (h4 : starEach [d] X.env = (false, eval d X.env) :: starEach [] X.env := by rfl) (hpl : (backTo pos (starEach [.Tuple [c, d] kt pt] X.env)).any (·.1) = false := by rfl) : PD X W H0 Xw (.Call (.Name "isinstance" p) [a, .Tuple [c, d] kt pt] [] pos) (stepE S ev (.isi ea ts)) :=
  PE_imp (pe_callB (call_isN hK k) hg hm PyProof.Rows.boot_isinstance (pa_cons ha (pa_cons (pe_tup (pa_cons hc (pa_cons hd pa_nil h4) h3)) pa_nil h2) h1) (by decide) (by decide) h1 hpl) fun σ H Q h =>
    tD_mono (isi_reads h) fun x H1 ⟨SS, F, d, b, hs, cx, e, q⟩ => ⟨by show (2 : Nat) ≤ sizeLine; rw [sizeLine_eq]; decide, fun tp n => by
      have g := Grow.put (o := .tup [cv, dv]) hs n
      refine ⟨SS, upd F tp (.tup [cv, dv]), d, x, tp, [cv, dv], b, rfl, upd_same, .cons hcv (.cons hdv .nil), g.inn, ?_, e, q _ ⟨_, g⟩⟩
      rcases cx with cx | ⟨a2, o2, rfl, e3, t2⟩
      · exact .inl (Rep.mono g.sub d x cx)
      · exact .inr ⟨a2, o2, rfl, g.all _ _ e3, t2.mono g.sub fun dx h => g.all _ _ h⟩⟩
end
end T
end
section
set_option Elab.async false
set_option linter.all false
set_option autoImplicit false
set_option maxRecDepth 100000
/-! calls, defs -/
namespace T
open PySem PySem.Spec PyProof.Rows L2
/-- how a call's heap lies behind it -/
structure RetH (W : Wd) (SS : States) (F H F' H' : Hp) : Prop where
  inh : Inh H F F'
  env : EnvOk W SS H F' H' [] []
def RetQ (W : Wd) (SS : States) (F H : Hp) (Q : VK) (E : XK) : Res → Prop
  | .ok (.val d) => ∀ v F' H', RetH W SS F H F' H' → Rep W SS F' d v → Q v H'
  | .ok (.own d) => ∀ v F' H', RetH W SS F H F' H' → OwnOk W SS H F' H' d v → Q v H'
  | .ok (.bor _) => False
  | .exc x => ∀ c dd F' H', RetH W SS F H F' H' → ExcOk W SS F' H' x c dd → E c dd H'
def EntsOk (W : Wd) (SS : States) (F H : Hp) : List Ent → List V → Prop
  | [], vs => vs = []
  | e :: es, vs => ∃ v r, vs = v :: r ∧ (∀ d, e ≠ .own d) ∧ EntOk W SS H F H e v ∧ EntsOk W SS F H es r
/-- a def's promise: n arguments -/
def spD (W : Wd) (n : Nat) (m : Fnc) : Sp := fun vs H Q E => ∃ SS F es, es.length = n ∧ EnvOk W SS H F H [] [] ∧ EntsOk W SS F H es vs ∧ (m es).wp (RetQ W SS F H Q E)
section
variable {W : Wd} {SS : States} {H0 F H F' H' : Hp} {σ : L2.St} {δ : Env}
theorem EnvOk.empty (I : EnvOk W SS H0 F H σ δ) : EnvOk W SS H0 F H [] [] :=
  ⟨I.same, I.sub, I.sts, I.nds, I.tab, fun i e h => by simp at h, fun i j d d' a _ h => by simp at h, rfl⟩
theorem EnvOk.entry (I : EnvOk W SS H0 F H σ δ) : EnvOk W SS H F H [] [] :=
  ⟨SameS.refl SS H, I.sub, I.sts, I.nds, I.tab, fun i e h => by simp at h, fun i j d d' a _ h => by simp at h, rfl⟩
theorem EntsOk.length : ∀ {es : List Ent} {vs : List V}, EntsOk W SS F H es vs → es.length = vs.length
  | [], _, h => by unfold EntsOk at h; subst h; rfl
  | e :: es, _, h => by
    obtain ⟨v, r, rfl, _, _, t⟩ := h
    rw [List.length_cons, List.length_cons, EntsOk.length t]
theorem EntsOk.get : ∀ {es : List Ent} {vs : List V} {i : Nat} {e : Ent}, EntsOk W SS F H es vs → es[i]? = some e → ∃ v, vs[i]? = some v ∧ (∀ d, e ≠ .own d) ∧ EntOk W SS H F H e v
  | [], _, _, _, _, h => by simp at h
  | x :: es, _, 0, e, h, he => by
    obtain ⟨v, r, rfl, g1, g2, t⟩ := h
    cases (Option.some.inj he)
    exact ⟨v, rfl, g1, g2⟩
  | x :: es, _, i + 1, e, h, he => by
    obtain ⟨v, r, rfl, g1, g2, t⟩ := h
    obtain ⟨v, q⟩ := EntsOk.get (i := i) t (by simpa using he)
    exact ⟨v, by simpa using q⟩
/-- the slots at a def's entry -/
theorem entry_env {es : List Ent} {vs : List V} {N : List Str} (I : EnvOk W SS H F H [] []) (h : EntsOk W SS F H es vs) : EnvOk W SS H F H (L2.start N vs) (es.map some ++ List.replicate (N.length - es.length) none) := by
  have hl := h.length
  have at_ : ∀ {i : Nat} {e : Ent}, (es.map some ++ List.replicate (N.length - es.length) none)[i]? = some (some e) → es[i]? = some e := fun {i e} q => by
    rcases Nat.lt_or_ge i (es.map some).length with z | z
    · rw [List.getElem?_append_left z, List.getElem?_map] at q
      obtain ⟨e', h1, h2⟩ := Option.map_eq_some_iff.mp q
      cases h2; exact h1
    · rw [List.getElem?_append_right z] at q
      have := List.mem_of_getElem? q
      rw [List.mem_replicate] at this
      cases this.2
  refine ⟨I.same, I.sub, I.sts, I.nds, I.tab, fun i e he => ?_, fun i j d d' a _ h1 _ _ _ => ?_, ?_⟩
  · obtain ⟨v, hv, _, q⟩ := h.get (at_ he)
    refine ⟨v, ?_, q⟩
    unfold L2.start
    have z : i < (vs.map some).length := by
      rw [List.length_map]
      rcases Nat.lt_or_ge i vs.length with z | z
      · exact z
      · rw [List.getElem?_eq_none z] at hv; cases hv
    rw [List.getElem?_append_left z, List.getElem?_map, hv]
    rfl
  · obtain ⟨v, _, no, _⟩ := h.get (at_ h1)
    exact no d rfl
  · unfold L2.start
    rw [List.length_append, List.length_append, List.length_map, List.length_map, List.length_replicate, List.length_replicate, hl]
/-- behind a call, the caller's slots -/
theorem EnvOk.ret (I : EnvOk W SS H0 F H σ δ) (r : RetH W SS F H F' H') : EnvOk W SS H0 F' H' σ δ ∧ Stp SS σ F H δ F' H' δ := by
  have keep : ∀ {b : Addr} {o : HO}, b ∉ addrs SS → H b = some o → H' b = some o := fun nb e => r.env.same _ _ nb e
  have gone : ∀ b, H' b = none → H b = none := fun b e => by
    cases z : H b with
    | none => rfl
    | some o => rw [keep (r.env.fresh e).2 z] at e; cases e
  refine ⟨⟨I.same.trans r.env.same, r.env.sub, r.env.sts, r.env.nds, r.env.tab, fun i e he => ?_, I.sep, I.len⟩, ⟨r.inh.sub, fun b o nb _ e => keep nb e, fun b o e => ?_, fun _ h => h, fun _ e h => ⟨e, h⟩, gone⟩⟩
  · obtain ⟨v, hv, q⟩ := I.ent i e he
    refine ⟨v, hv, ?_⟩
    cases e with
    | val d => exact Rep.mono r.inh.sub d v q
    | own d =>
      obtain ⟨a, o, rfl, e2, e3, e4, e5, e6⟩ := q
      have e7 := keep e4 e5
      refine ⟨a, o, rfl, e2, ?_, e4, e7, e6.mono r.inh.sub fun dx hx => keep (I.notOwn hx) hx⟩
      cases z : F' a with
      | none => rfl
      | some y =>
        rcases r.inh.new a y z with q | q | hI
        · rw [e3] at q; cases q
        · rw [e5] at q; cases q
        · have := r.env.sub _ _ z
          rw [e7] at this
          rw [← Option.some.inj this] at hI
          exact absurd hI (topo_cont e6).not
    | bor d =>
      rcases q with q | ⟨a, o, e1, e2, e3, e4, e5⟩
      · exact .inl (Rep.mono r.inh.sub d v q)
      · exact .inr ⟨a, o, e1, e2, e3, e4.mono r.inh.sub fun dx h => h, e5⟩
  · rcases r.inh.new b o e with q | q | q
    · exact .inl q
    · exact .inr (.inl q)
    · exact .inr (.inr (.inr q))
/-- what a call's answer does for the caller -/
theorem res_inv {Hs : Hp} {Xw : WX} {Q : VK} {t : Tr Res} (hg : ∀ b, H b = none → Hs b = none) (I : EnvOk W SS H0 F H σ δ) (h : (resM t δ).wp (PostR (rO W H0) W SS H0 Xw σ F H δ Q)) : t.wp (RetQ W SS F H Q (fun c dd H' => Xw c dd σ H')) := by
  refine Tr.wp_mono (fun r hr => ?_) (Tr.wp_bind.mp (show (t.bind _).wp _ from h))
  cases r with
  | exc x => exact fun c dd F' H' rh q => hr c dd F' H' ((I.ret rh).2.inh I) (I.ret rh).1 q
  | ok e =>
    cases e with
    | val d => exact fun v F' H' rh q => hr v F' H' (I.ret rh).2 (I.ret rh).1 ⟨q, fun _ e => by cases e⟩
    | bor d => exact hr.elim
    | own d =>
      intro v F' H' rh q
      obtain ⟨a, o, rfl, e2, e3, e4, e5, e6⟩ := q
      refine hr (.ref a) F' H' (I.ret rh).2 (I.ret rh).1 ⟨⟨⟨a, o, rfl, I.none0 e2, e3, e4, e5, e6⟩, fun i hi z => ?_⟩, fun _ _ => ⟨a, rfl, e2⟩⟩
      obtain ⟨a', o', f1, f2, _⟩ := own_there I hi
      rw [z] at f1
      cases f1
      rw [e2] at f2
      cases f2
/-- what is lent, what is handed over -/
theorem lend_inv {β : Type} {o : Op} {x : V} {f : D → EvM β} {P : Ou β → Prop} (I : EnvOk W SS H0 F H σ δ) (q : OpOk W SS H0 F H σ δ o x) (h : (((lend o).bind f) δ).wp P) : ∃ d, BorOk W SS H F d x ∧ (f d δ).wp P := by
  cases o with
  | v d => exact ⟨d, .inl q, h⟩
  | f d => exact h.elim
  | b i =>
    obtain ⟨hx, e, he⟩ := q
    obtain ⟨v, hv, r⟩ := I.ent i e he
    rw [hx] at hv
    cases hv
    unfold EvM.bind lend at h
    simp only [he] at h
    cases e with
    | val d => exact ⟨d, .inl r, h⟩
    | own d =>
      simp only at h
      by_cases hb : d.isObj = true
      · simp only [hb, if_true] at h; exact h.elim
      · simp only [hb] at h
        obtain ⟨a, o, rfl, e2, e3, e4, e5, e6⟩ := r
        exact ⟨d, .inr ⟨a, o, rfl, e5, e4, e6, fun c fs e => hb (by subst e; rfl)⟩, h⟩
    | bor d =>
      simp only at h
      by_cases hb : d.isObj = true
      · simp only [hb, if_true] at h; exact h.elim
      · simp only [hb] at h
        rcases r with r | ⟨a, o, rfl, e2, e3, e4, e5⟩
        · exact ⟨d, .inl r, h⟩
        · exact ⟨d, .inr ⟨a, o, rfl, I.same _ _ e3 e2, e3, e4.same e5, e5⟩, h⟩
theorem lendM_inv {β : Type} : ∀ {ms : List Bool} {os : List Op} {xs : List V} {f : List Ent → EvM β} {P : Ou β → Prop}, EnvOk W SS H0 F H σ δ → OpsA W H0 SS σ F H δ os xs → (((lendM ms os).bind f) δ).wp P → ∃ es, EntsOk W SS F H es xs ∧ es.length = os.length ∧ (f es δ).wp P
  | ms, [], _, f, P, I, q, h => ⟨[], q, rfl, by cases ms <;> exact h⟩
  | ms, o :: os, _, f, P, I, ⟨x, r, e, q1, q2⟩, h => by
    subst e
    unfold lendM at h
    by_cases hm : ms.headD false = true
    · rw [if_pos hm, bind_assoc] at h
      obtain ⟨d, hb, h2⟩ := lend_inv I q1 h
      rw [bind_assoc] at h2
      obtain ⟨es, g1, g2, h3⟩ := lendM_inv I q2 h2
      exact ⟨.bor d :: es, ⟨x, r, rfl, (fun _ e => by cases e), hb, g1⟩, by simp [g2], h3⟩
    · rw [if_neg hm] at h
      cases o with
      | v d =>
        simp only at h
        rw [bind_assoc] at h
        obtain ⟨es, g1, g2, h3⟩ := lendM_inv I q2 h
        exact ⟨.val d :: es, ⟨x, r, rfl, (fun _ e => by cases e), q1, g1⟩, by simp [g2], h3⟩
      | f d => exact h.elim
      | b i => exact h.elim
end
section
variable {X : Cx} {W : Wd} {H0 : Hp} {Xw : WX} {S : Sig} {ev : Ex → EvM Op} {a b c e : Expr} {ea eb ec ee : Ex} {pos : Pos} {es rest : List Expr} {eas : List Ex}
theorem evA_len : ∀ {eas : List Ex} {ms : List Bool} {δ : Env} {P : Ou (List Op) → Prop}, True := fun {_ _ _ _} => True.intro
theorem OpsA.length {SS : States} {σ : L2.St} {F H : Hp} {δ : Env} : ∀ {os : List Op} {xs : List V}, OpsA W H0 SS σ F H δ os xs → os.length = xs.length
  | [], _, h => by unfold OpsA at h; subst h; rfl
  | o :: os, _, ⟨x, r, e, _, t⟩ => by rw [e, List.length_cons, List.length_cons, OpsA.length t]
/-- f(e, ..) -/
theorem call_reads {k n : Nat} {ms : List Bool} {σ : L2.St} {H : Hp} {Q : VK} (hn : ∀ as, (as.length = n → False) → S.fn k as = .bad) (h : tD W H0 Xw (stepE S ev (.call k ms eas)) σ H Q) : tCallS (spD W n (S.fn k)) (WE Xw) (tR (rAs W H0) W H0 Xw (evA ev ms eas)) σ H Q := by
  obtain ⟨SS, F, δ, I, h⟩ := h
  have h' : (((evA ev ms eas).bind fun os => (lendM ms os).bind fun as => resM (S.fn k as)) δ).wp (Post W SS H0 Xw σ F H δ Q) := h
  refine tR_bind rO_m I h' fun os δ1 xs F1 H1 st1 I1 q1 h1 => ?_
  obtain ⟨as, g1, g2, h2⟩ := lendM_inv I1 q1 h1
  have hl : as.length = n := by
    by_cases hl : as.length = n
    · exact hl
    · rw [hn as hl] at h2; exact h2.elim
  exact ⟨SS, F1, as, hl, I1.entry, g1, res_inv (fun _ e => e) I1 h2⟩
theorem pd_call {k kf n : Nat} {ms : List Bool} {f : Addr} {fd : FuncData} {ps : List Str} {x : Str} {p : Pos} (F : FnOk X.prog X.w X.K X.mg X.base (L2.CX X.prog X.w) k f fd ps (spD W n (S.fn kf))) (hr : Room k X.A) (hg : Gl X x) (hm : X.mg x = some (.ref f)) (hk : PySem.W.keepIn X.K (.ref f) = true) (hb : Binds X.K fd ps []) (tk : Takes X Xw) (hn : ∀ as, (as.length = n → False) → S.fn kf as = .bad) (ha : PA X (e :: es) (tR (rAs W H0) W H0 Xw (evA ev ms eas))) (hdb : (x == ("__debug__" : Str)) = false := by decide)
    (he : starEach (e :: es) X.env = (false, eval e X.env) :: starEach es X.env := by rfl) (hpl : (backTo pos (starEach es X.env)).any (·.1) = false := by rfl) : PD X W H0 Xw (.Call (.Name x p) (e :: es) [] pos) (stepE S ev (.call kf ms eas)) :=
  PE_imp (pe_callS F hr hg hm hk hb (fun σ => passAt tk σ) ha hdb he hpl) fun σ H Q h => call_reads hn h
end
/-- a def of the text keeps its promise -/
theorem fn_def {W : Wd} {P : Program} {w : World} {K : PySem.W.Frag} {mg : Str → Option Value} {base : Heap} {k : Nat} {f : Addr} {name qual : Str} {params : Arguments} {body : List Stmt} {scope : Scope} {dV kV doc pm cdv ct oc : Value} {an od : Option Addr} {osl : Array (Option Value)} {N ps : List Str} {S : Sig} {gas : Nat} {b : List Stm}
    (lk : K.lookup f = some ⟨oc, od, .func (PySem.W.fnOf name qual params body scope dV kV doc pm an cdv ct), osl⟩) (hcd : PySem.W.codeIn K cdv qual = true) (Sc : FnScope N ps scope)
    (hb : ∀ (A : Around) (outer : List PySem.Env) (s : Shared) (H : Hp) (Q : VK) (E : XK), Room k (A.deeper (envOfC qual scope s.heap.objs.size f cdv)) → PSsD (cxOf (L2.CX P w) P w K mg base N qual scope f cdv A outer s H E) W H (fun c d _ H' => E c d H') body (bodyM S gas b)) :
    FnOk P w K mg base (L2.CX P w) (k + 1) f (PySem.W.fnOf name qual params body scope dV kV doc pm an cdv ct) ps (spD W ps.length (defM S gas N.length b)) := by
  refine fn_of lk hcd Sc (fun vs H Q E ⟨SS, F, es, hl, _, he, _⟩ => by rw [← he.length, hl]) fun A outer s H vs Q E hr ⟨SS, F, es, hl, I, he, h⟩ => ⟨_, hb A outer s H Q E hr, SS, F, _, entry_env I he, ?_⟩
  refine Tr.wp_mono (fun o ho => ?_) (Tr.wp_bind.mp (show (((bodyM S gas b) _).bind _).wp _ from h))
  cases o with
  | exc x δ' => exact fun c dd σ' F' H' j e q => ho c dd F' H' ⟨j, e.empty⟩ q
  | ok fl δ' =>
    cases fl with
    | nx => exact fun σ' F' H' j e => ho .non F' H' ⟨j, e.empty⟩ (rep_non (W := W) (SS := SS) (F := F'))
    | bk => exact ho.elim
    | ct => exact ho.elim
    | rt e =>
      cases e with
      | val d => exact fun v F' H' j ⟨σ', e⟩ q => ho v F' H' ⟨j, e.empty⟩ q
      | own d => exact fun v F' H' j ⟨σ', e⟩ q => ho v F' H' ⟨j, e.empty⟩ q
      | bor d => exact ho.elim
end T
end
section
set_option Elab.async false
set_option linter.all false
set_option autoImplicit false
set_option maxRecDepth 100000
/-! exceptions that are caught, and kept -/
namespace T
open PySem PySem.Spec PyProof.Rows L2
section
variable {X : Cx} {pins : List (Addr × Obj)} {σ : L2.St} {H : Hp} {s : Shared}
/-- a caught exception is known from now on -/
theorem exK_track {a : Addr} {cls : Value} {d : Option Addr} {oe : Obj} {vs : Array Value} (I : Inv X pins σ H s) (hz : Zc cls d oe) (hd : oe.data = .fields vs) (he : s.heap.get? a = some oe) (na : H a = none) (nL : a ≠ X.env.locals)
    (n0 : X.s_0.heap.get? a = none) (np : ∀ p ∈ X.pn ++ pins, p.1 ≠ a) : Inv X pins σ (upd H a (exK a cls d)) s := by
  have sm : ∀ b u, H b = some u → b ≠ a := fun b u e => ne_of_none e na
  refine ⟨I.ok, I.os, I.bare, ⟨I.base.keep, I.base.slot, fun b o e n hx => ?_, I.base.there, fun b xs e => ?_, fun b o u e => ?_, fun b ps e => ?_⟩, I.loc, I.cell, ?_, fun y c e => ?_, fun p hp => ?_, fun b u e => ?_, I.len⟩
  · have hb : b ≠ a := fun z => by rw [z, n0] at e; cases e
    rw [upd_ne hb]; exact I.base.free b o e n hx
  · have q := I.base.tups b xs e
    rw [upd_ne (sm _ _ q)]; exact q
  · have q := I.base.frzs b o u e
    rw [upd_ne (sm _ _ q)]; exact q
  · obtain ⟨more, q⟩ := I.base.tbls b ps e
    exact ⟨more, by rw [upd_ne (sm _ _ q)]; exact q⟩
  · rw [upd_ne (Ne.symm nL)]; exact I.free
  · obtain ⟨v, o, ho, hc⟩ := I.cell y c e
    have hb : c ≠ a := fun z => by
      rw [z, he] at ho
      cases ho
      rw [hd] at hc; cases hc
    rw [upd_ne hb]; exact I.freeC y c e
  · obtain ⟨h1, h2, h3⟩ := I.pin p hp
    exact ⟨h1, by rw [upd_ne (np p hp)]; exact h2, h3⟩
  · by_cases hb : b = a
    · subst hb
      rw [upd_same] at e
      cases e
      exact ⟨⟨oe, vs, he, hz, hd⟩, ⟨oe, he⟩, fun h1 h2 ⟨oe', vs', e1, e2, e3⟩ st => ⟨oe', vs', st _ e1, e2, e3⟩⟩
    · rw [upd_ne hb] at e
      exact (I.hok b u e).stay (fun c v _ q => q) (fun c q => by rw [upd_ne (sm _ _ q)]; exact q) fun c xs q => by rw [upd_ne (sm _ _ q)]; exact q
end
/-- what the clause 'except x as n' wishes of an exception of the body: slot i is n's -/
def wAsK (K : PySem.W.Frag) (c : Value) (i : Nat) (ts : TS) (Wout : WX) (D : Ends) : WX := fun cls d σ H =>
  ∃ b, PySem.W.exmOne K cls c = some b ∧ (b = true → ∀ a, H a = none → ts { nx := fun σ' H' => D.nx (σ'.set i none) H', rt := D.rt, bk := fun σ' H' => D.bk (σ'.set i none) H', ct := fun σ' H' => D.ct (σ'.set i none) H' } (σ.set i (some (.ref a))) (upd H a (exK a cls d))) ∧
    (b = false → Wout cls d σ H)
section
variable {X : Cx} {x n : Str} {c : Value} {i : Nat} {body suite : List Stmt} {b₀ : Stmt} {np pos pos' : Pos} {tb : WX → TS} {ts : TS} {Wout : WX}
theorem ps_try_asK (hs : X.stack = X.env :: X.outer) (hf : X.env.frame = some X.env.locals) (hex : X.ex = []) (hN : X.N.Nodup) (hi : X.N[i]? = some n) (hln : X.env.kindOf n = some .local) (hc : Names X x c) (tk : Takes X Wout)
    (hb : ∀ (W : WX) (pn : List (Addr × Obj)) (xe : Value → Shared → Prop), Takes (X.tr pn xe) W → PassesOwn (model X.prog X.w) X.A X.env xe → PSs (X.tr pn xe) body (tb W))
    (hsu : ∀ (a : Addr) (pn : List (Addr × Obj)), PSs (X.suite a pn) (b₀ :: suite) ts) :
    PS X (.Try body [.ExceptHandler (some (.Name x np)) (some n) (b₀ :: suite) pos'] [] [] pos) (fun D σ H => tb (wAsK X.K c i ts Wout D) D σ H) := by
  refine ⟨fun pins s σ H D I h => ?_⟩
  have ok := I.ok
  have hfr : X.A.frames = some (X.env :: X.outer) := by rw [ok.frames, hs]
  have hloc : Loc X.env.scope n := .inl hln
  refine wpAny_Try_except ?_
  refine wpAny_mono ((hb (wAsK X.K c i ts Wout D) (X.pn ++ pins) (fun e s₁ => wpAny (model X.prog X.w) X.A (noteFrame e X.env) (fun _ s₂ => wpAny (model X.prog X.w) X.A (setFlight e none) (fun _ s₃ =>
    wpAny (model X.prog X.w) X.A (handleBy e X.env [.ExceptHandler (some (.Name x np)) (some n) (b₀ :: suite) pos']) (SP X pins D) X.xe s₃) X.xe s₂) X.xe s₁) (fun u s' xx => ?_) PassesOwn.looking).run [] s σ H D (I.toTry _) h) (fun f s1 hsp => ?_) (fun e s1 he => he)
  · -- the catch
    obtain ⟨a, B, sI, pins', σ', H', cls, d, rfl, J', nb, up, sky, na, os, ag, b, hb1, hyes, hno⟩ := xx
    have J : Inv X pins σ' H' sI := J'.ofTry ok
    have sky' : Sky B (X.env :: X.outer) a (Zc cls d) X.env.locals s'.heap := by rw [← hs]; exact sky
    show wpAny (model X.prog X.w) X.A (noteFrame (.ref a) X.env) _ _ _
    refine Sky.land Zc.steady hfr hf sky' fun h3 fl3 up3 => ?_
    have J3 : Inv X pins σ' H' { s' with heap := h3 } := J.landed nb fl3.1 (up.trans up3) os ag
    obtain ⟨oe3, vs3, he3, hz3, hd3⟩ := fl3.there
    have notFr : ∀ {h : Heap} {o : Obj} {vs : Array Value}, h.FunFrames B (X.env :: X.outer) → h.get? a = some o → o.data = .fields vs → a ∉ frs (X.env :: X.outer) := fun {h o vs} ff e dd hm => by
      obtain ⟨_, o', e', hnf⟩ := ff.mem hm
      rw [e] at e'; cases e'
      exact hnf _ dd
    have nfr := notFr fl3.2.2.1 he3 hd3
    have nL : a ≠ X.env.locals := fun z => nfr (List.mem_filterMap.mpr ⟨X.env, List.mem_cons_self, by rw [hf, z]⟩)
    have nF : a ∉ X.fs := fun hm => by
      obtain ⟨e, he, q⟩ := List.mem_filterMap.mp hm
      exact nfr (List.mem_filterMap.mpr ⟨e, List.mem_cons_of_mem _ he, q⟩)
    have nB : B.get? a = none := fl3.2.1
    have nI : sI.heap.get? a = none := by
      cases z : sI.heap.get? a with
      | none => rfl
      | some o => rw [nb a o z (by rw [hs]; exact nfr)] at nB; cases nB
    have n0 : X.s_0.heap.get? a = none := by
      cases z : X.s_0.heap.get? a with
      | none => rfl
      | some o =>
        obtain ⟨o', e'⟩ := J.base.there a o z (by rw [hex]; simp)
        rw [nI] at e'; cases e'
    have npn : ∀ p ∈ X.pn ++ pins, p.1 ≠ a := fun p hp z => by
      have := (J.pin p hp).1
      rw [z, nI] at this; cases this
    have S3 := J3.suite he3 hd3 na nL nF
    refine wpAny_handleBy_cons (codeAny_handlers_test ?_) (by intro q; cases q)
    have LT : PySem.W.Looks (model X.prog X.w) h3 (typeOf (.ref a)) cls := fun A Q E s k q => wpAny_typeOf_ref (k _ _ he3) (by rw [hz3.1]; exact q)
    have LM := PySem.W.exm_one (M := model X.prog X.w) (J3.kIn) LT hb1
    have test : ∀ {Q : Value → Shared → Prop} {E : Value → Shared → Prop}, Q c { s' with heap := h3 } → wpAny (model X.prog X.w) (X.A.mark (some (.ref a))) (eval (.Name x np) X.env) Q E { s' with heap := h3 } := fun {Q E} q => by
      obtain ⟨hg, hdbg, hm | ⟨hm, hv, hnn⟩⟩ := hc
      · exact ld_glob (X := X.suite a ((a, oe3) :: (X.pn ++ pins))) S3 hg hm q hdbg
      · exact ld_blt (X := X.suite a ((a, oe3) :: (X.pn ++ pins))) S3 hg hm hv q hnn hdbg
    refine test (LM.here ?_)
    cases b with
    | true =>
      refine codeAny_handlers_suite_as ?_
      refine HandSPX.lands_againZ fl3 fun h4 fl4 up4 => ?_
      have J4 : Inv X pins σ' H' { s' with heap := h4 } := J.landed nb fl4.1 ((up.trans up3).trans up4) os ag
      obtain ⟨oe4, vs4, he4, hz4, hd4⟩ := fl4.there
      have K4 : Inv X pins σ' (upd H' a (exK a cls d)) { s' with heap := h4 } := exK_track J4 hz4 hd4 he4 na nL n0 npn
      have S4 : Inv (X.suite a (X.pn ++ pins)) [] σ' (upd H' a (exK a cls d)) { s' with heap := h4 } :=
        ⟨K4.ok.suite _ _, K4.os, K4.bare, K4.base, K4.loc, K4.cell, K4.free, K4.freeC, fun p hp => K4.pin p (by rw [List.append_nil] at hp; exact hp), K4.hok, K4.len⟩
      refine store_ok (X := X.suite a (X.pn ++ pins)) (v := .ref a) S4 hN hi hloc rfl (fun s5 S5 => ?_) (.inr hln)
      refine wpAny_mono ((hsu a (X.pn ++ pins)).run [] s5 _ _ _ S5 (hyes rfl a na)) (fun f s6 hsp => ?_) (fun _ _ z => False.elim z)
      have unsu : ∀ {σ6 : L2.St} {H6 : Hp}, Inv (X.suite a (X.pn ++ pins)) [] σ6 H6 s6 → Inv X pins σ6 H6 s6 := fun {σ6 H6} I =>
        ⟨ok, I.os, I.bare, I.base, I.loc, I.cell, I.free, I.freeC, fun p hp => I.pin p (List.mem_append_left _ hp), I.hok, I.len⟩
      have end_ : ∀ {σ6 : L2.St} {H6 : Hp} {Q : Shared → Prop}, Inv (X.suite a (X.pn ++ pins)) [] σ6 H6 s6 → (∀ s7, Inv X pins (σ6.set i none) H6 s7 → Q s7) →
          wpAny (model X.prog X.w) X.A (do bindName X.env n .none; unbindBehindTheSuite X.env n pos') (fun _ s7 => Q s7) X.xe s6 := fun {σ6 H6 Q} S6 hq => gone_ok (unsu S6) hN hi hln hq
      cases f with
      | next =>
        obtain ⟨σ6, H6, S6, q6⟩ := hsp
        exact end_ S6 fun s7 J7 => ⟨_, _, J7, q6⟩
      | brk =>
        obtain ⟨σ6, H6, S6, q6⟩ := hsp
        exact end_ S6 fun s7 J7 => ⟨_, _, J7, q6⟩
      | cont =>
        obtain ⟨σ6, H6, S6, q6⟩ := hsp
        exact end_ S6 fun s7 J7 => ⟨_, _, J7, q6⟩
      | ret u =>
        obtain ⟨v6, σ6, H6, S6, r6, q6⟩ := hsp
        exact end_ S6 fun s7 J7 => ⟨_, _, _, J7, r6, q6⟩
    | false =>
      show wpAny _ X.A (handleBy (.ref a) X.env []) _ _ _
      refine wpAny_handleBy_nil ?_
      obtain ⟨k1, k2, k3, oe, vs, T, oT, ts', he, hz, hd, h1, hr⟩ := id fl3
      unfold PySem.passOn
      refine wpAny_bind (wpAny_field he hd h1 ?_)
      rw [if_neg (show ¬ ((Value.ref T == Value.none) = true) from by simp)]
      have fin : wpAny (model X.prog X.w) X.A (setFlight (.ref a) X.env.frame) (fun _ s4 => wpAny (model X.prog X.w) X.A (throw (.ref a) : Sem Flow) (SP X pins D) X.xe s4) X.xe { s' with heap := h3 } := by
        rw [hf]
        refine HandSPX.setFlight_upZ fl3 fun h4 hh4 up4 => wpAny_throw (tk _ _ ?_)
        exact ⟨a, B, sI, pins, σ', H', cls, d, rfl, J, nb, (up.trans up3).trans up4, .inr (.inr (by rw [hs]; exact hh4)), na, os, ag, hno rfl⟩
      first
        | exact wpAny_bind (wpAny_pure (wpAny_bind fin))
        | exact wpAny_bind fin
  · cases f with
    | next =>
      obtain ⟨σ', H', J', q⟩ := hsp
      exact wpAny_execs_nil ⟨σ', H', J'.ofTry ok, q⟩
    | brk =>
      obtain ⟨σ', H', J', q⟩ := hsp
      exact ⟨σ', H', J'.ofTry ok, q⟩
    | cont =>
      obtain ⟨σ', H', J', q⟩ := hsp
      exact ⟨σ', H', J'.ofTry ok, q⟩
    | ret u =>
      obtain ⟨v, σ', H', J', r, q⟩ := hsp
      exact ⟨v, σ', H', J'.ofTry ok, r, q⟩
end
/-! ### the statements by data -/
section
variable {X : Cx} {W : Wd} {H0 : Hp} {Xw : WX} {S : Sig} {gas : Nat} {ev : Ex → EvM Op} {ex : Stm → EvM Fl} {body suite : List Stmt} {b₀ : Stmt} {eb eh : List Stm} {np pos pos' : Pos} {x n : Str} {i k : Nat}
theorem rep_exv {SS : States} {F F' H' : Hp} {e : Exc} {c : Value} {dd : Option Addr} {a : Addr} (s : Sub F F') (h : ExcOk W SS F H' e c dd) (ha : F' a = some (exK a c dd)) : Rep W SS F' (.exv e.c e.fs) (.ref a) := by
  obtain ⟨rfl, h⟩ := h
  unfold Rep
  refine ⟨a, dd, rfl, ha, ?_⟩
  rcases h with h | ⟨h0, da, fvs, h1, h2, h3⟩
  · exact .inl h
  · exact .inr ⟨h0, da, fvs, h1, s _ _ h2, RepX.mono s _ _ h3⟩
/-- the clause's suite, the exception held by slot i -/
theorem suite_as {SS : States} {F0 F' H' : Hp} {σ' : L2.St} {δ' : Env} {D : Ends} {e : Exc} {c : Value} {dd : Option Addr} {a : Addr} (j : Inh H0 F0 F') (I : EnvOk W SS H0 F' H' σ' δ') (hx : ExcOk W SS F' H' e c dd) (na : H' a = none) (hi : i < δ'.length)
    (h : ((blkM ex eh (δ'.set i (some (.val (.exv e.c e.fs))))).bind fun o => match o with
          | .ok f δ2 => .ret (.ok f (δ2.set i none))
          | .exc e δ2 => .bad).wp (PostS W SS H0 Xw D F0)) :
    tS W H0 NoX (blkM ex eh) { nx := fun σ' H' => D.nx (σ'.set i none) H', rt := D.rt, bk := fun σ' H' => D.bk (σ'.set i none) H', ct := fun σ' H' => D.ct (σ'.set i none) H' } (σ'.set i (some (.ref a))) (upd H' a (exK a c dd)) := by
  have g : Grow F' H' (upd F' a (exK a c dd)) (upd H' a (exK a c dd)) := Grow.put I.sub na
  have I1 := I.grow g
  have r : Rep W SS (upd F' a (exK a c dd)) (.exv e.c e.fs) (.ref a) := rep_exv g.sub hx upd_same
  refine ⟨SS, _, _, I1.put r hi, Tr.wp_mono (fun o ho => ?_) (Tr.wp_bind.mp h)⟩
  have j2 : Inh H0 F0 (upd F' a (exK a c dd)) := j.trans (g.inh I)
  cases o with
  | exc e δ3 => exact (show False from ho).elim
  | ok f δ3 =>
    cases f with
    | nx => exact fun σ3 F3 H3 jj I3 => ho _ F3 H3 (j2.trans jj) I3.drop2
    | ct => exact fun σ3 F3 H3 jj I3 => ho _ F3 H3 (j2.trans jj) I3.drop2
    | bk => exact fun σ3 F3 H3 jj I3 => ho _ F3 H3 (j2.trans jj) I3.drop2
    | rt e => exact fun v F3 H3 jj ⟨σ3, I3⟩ q => ho v F3 H3 (j2.trans jj) ⟨_, I3.drop2⟩ q
/-- try: body / except x as n: suite -/
theorem psd_try (hs : X.stack = X.env :: X.outer) (hf : X.env.frame = some X.env.locals) (hex : X.ex = []) (hK : X.K = W.K) (hN : X.N.Nodup) (hi : X.N[i]? = some n) (hln : X.env.kindOf n = some .local) (hc : Names X x (.ref (W.cl k))) (tk : Takes X Xw)
    (hsub : ∀ c, PySem.W.exmOne X.K (.ref (W.cl c)) (.ref (W.cl k)) = some (S.sub c k))
    (hb : ∀ (Xb : WX) (pn : List (Addr × Obj)) (xe : Value → Shared → Prop), Takes (X.tr pn xe) Xb → PassesOwn (model X.prog X.w) X.A X.env xe → PSsD (X.tr pn xe) W H0 Xb body (blkM ex eb))
    (hsu : ∀ (a : Addr) (pn : List (Addr × Obj)), PSsD (X.suite a pn) W H0 NoX (b₀ :: suite) (blkM ex eh)) :
    PSD X W H0 Xw (.Try body [.ExceptHandler (some (.Name x np)) (some n) (b₀ :: suite) pos'] [] [] pos) (stepS S gas ev ex (.try_ eb k (some i) eh)) :=
  PS_imp (ps_try_asK (tb := fun Xb => tS W H0 Xb (blkM ex eb)) hs hf hex hN hi hln hc tk hb hsu) fun D σ H ⟨SS, F, δ, I, h⟩ => by
    refine ⟨SS, F, δ, I, Tr.wp_mono (fun o ho => ?_) (Tr.wp_bind.mp (show (((blkM ex eb) δ).bind _).wp _ from h))⟩
    cases o with
    | ok f δ' => cases f <;> exact ho
    | exc e δ' =>
      intro c dd σ' F' H' j I' hx
      have hcc : c = .ref (W.cl e.c) := hx.1
      refine ⟨S.sub e.c k, by rw [hcc]; exact hsub e.c, fun hb a na => ?_, fun hb => ?_⟩
      · simp only [hb, if_true] at ho
        by_cases hl : i < δ'.length
        · simp only [hl, if_true] at ho
          exact suite_as j I' hx na hl ho
        · simp only [hl, if_false] at ho
          exact (show False from ho).elim
      · simp only [hb] at ho
        exact ho c dd σ' F' H' j I' hx
/-- try: body / except x: suite -/
theorem psd_try0 (hs : X.stack = X.env :: X.outer) (hf : X.env.frame = some X.env.locals) (hK : X.K = W.K) (hc : Names X x (.ref (W.cl k))) (tk : Takes X Xw)
    (hsub : ∀ c, PySem.W.exmOne X.K (.ref (W.cl c)) (.ref (W.cl k)) = some (S.sub c k))
    (hb : ∀ (Xb : WX) (pn : List (Addr × Obj)) (xe : Value → Shared → Prop), Takes (X.tr pn xe) Xb → PassesOwn (model X.prog X.w) X.A X.env xe → PSsD (X.tr pn xe) W H0 Xb body (blkM ex eb))
    (hsu : ∀ (a : Addr) (pn : List (Addr × Obj)), PSsD (X.suite a pn) W H0 NoX (b₀ :: suite) (blkM ex eh)) :
    PSD X W H0 Xw (.Try body [.ExceptHandler (some (.Name x np)) none (b₀ :: suite) pos'] [] [] pos) (stepS S gas ev ex (.try_ eb k none eh)) :=
  PS_imp (ps_try_only (tb := fun Xb => tS W H0 Xb (blkM ex eb)) (ts := fun _ _ _ => tS W H0 NoX (blkM ex eh)) hs hf hc tk hb (fun a oe cls d pn _ _ => hsu a _)) fun D σ H ⟨SS, F, δ, I, h⟩ => by
    refine ⟨SS, F, δ, I, Tr.wp_mono (fun o ho => ?_) (Tr.wp_bind.mp (show (((blkM ex eb) δ).bind _).wp _ from h))⟩
    cases o with
    | ok f δ' => cases f <;> exact ho
    | exc e δ' =>
      intro c dd σ' F' H' j I' hx
      have hcc : c = .ref (W.cl e.c) := hx.1
      refine ⟨S.sub e.c k, by rw [hcc]; exact hsub e.c, fun hb a na => ?_, fun hb => ?_⟩
      · simp only [hb, if_true] at ho
        refine ⟨SS, F', δ', I', Tr.wp_mono (fun o ho => ?_) (Tr.wp_bind.mp ho)⟩
        cases o with
        | exc e δ3 => exact (show False from ho).elim
        | ok f δ3 =>
          cases f with
          | nx => exact fun σ3 F3 H3 jj I3 => ho _ F3 H3 (j.trans jj) I3
          | ct => exact fun σ3 F3 H3 jj I3 => ho _ F3 H3 (j.trans jj) I3
          | bk => exact fun σ3 F3 H3 jj I3 => ho _ F3 H3 (j.trans jj) I3
          | rt e => exact fun v F3 H3 jj I3 q => ho v F3 H3 (j.trans jj) I3 q
      · simp only [hb] at ho
        exact ho c dd σ' F' H' j I' hx
end
end T
end
section
set_option Elab.async false
set_option linter.all false
set_option autoImplicit false
set_option maxRecDepth 100000
/-! draws -/
namespace T
open PySem PySem.Spec PyProof.Rows L2
/-- what the def that draws promises: any number below the bound -/
def spDraw (W : Wd) : Sp := fun vs H Q E => ∃ (SS : States) (F : Hp) (k : Nat) (n : Int) (p : Addr × Addr), SS.ps[k]? = some p ∧ vs = [.ref p.1, .int n] ∧ EnvOk W SS H F H [] [] ∧ 0 < n ∧ n < 1073741824 ∧ ∀ (r : Nat) H', r < n.toNat → RetH W SS F H F H' → Q (.int (r : Int)) H'
section
variable {X : Cx} {W : Wd} {H0 : Hp} {Xw : WX} {S : Sig} {ev : Ex → EvM Op} {a b c e : Expr} {ea eb ec ee : Ex} {pos : Pos}
theorem rep_stt {SS : States} {F H : Hp} {k : Nat} {x : V} (h : Con W SS F H (.stt k) x) : ∃ p, SS.ps[k]? = some p ∧ x = .ref p.1 := by
  rcases h with h | ⟨_, _, _, _, h⟩
  · unfold Rep at h; exact h
  · exact h.elim
theorem draw_reads {σ : L2.St} {H : Hp} {Q : VK} (h : tD W H0 Xw (stepE S ev (.draw ea eb)) σ H Q) : tCallS (spDraw W) (WE Xw) (tCons (tD W H0 Xw (ev ea)) (tCons (tD W H0 Xw (ev eb)) tNil)) σ H Q := by
  obtain ⟨SS, F, δ, I, h⟩ := h
  have h' : (((evD ev ea).bind fun a => (evD ev eb).bind fun b => match a, b with
    | .stt _, .int m => fun δ => if decide (0 < m) && decide (m < 1073741824) then .draw m.toNat fun r => .ret (.ok (.v (.int (r : Int))) δ) else .bad
    | _, _ => .bad) δ).wp (Post W SS H0 Xw σ F H δ Q) := h
  rw [evD_eq] at h'
  refine tR_bind rO_m I h' fun p δ1 x F1 H1 st1 I1 q1 h1 => ?_
  obtain ⟨c, l, h2⟩ := rd_inv h1
  rw [evD_eq] at h2
  have cx := I1.look q1.1 l
  refine tR_bind rO_m I1 h2 fun p2 δ2 y F2 H2 st2 I2 q2 h3 => ?_
  obtain ⟨d, l2, h4⟩ := rd_inv h3
  have cy := I2.look q2.1 l2
  cases c <;> try exact (show False from h4).elim
  case stt k =>
    cases d <;> try exact (show False from h4).elim
    case int m =>
      obtain ⟨pp, hp, rfl⟩ := rep_stt cx
      cases con_int cy
      have h5 : (if decide (0 < m) && decide (m < 1073741824) then (Tr.draw m.toNat fun r => Tr.ret (Ou.ok (Op.v (.int (r : Int))) δ2)) else .bad).wp (Post W SS H0 Xw σ F2 H2 δ2 Q) := h4
      by_cases hb : (decide (0 < m) && decide (m < 1073741824)) = true
      · rw [if_pos hb] at h5
        simp only [Bool.and_eq_true, decide_eq_true_eq] at hb
        refine ⟨SS, F2, k, m, pp, hp, rfl, I2.entry, hb.1, hb.2, fun r H' hr rh => ?_⟩
        exact h5.2 r hr (.int (r : Int)) F2 H' (I2.ret rh).2 (I2.ret rh).1 ⟨rep_int (W := W) (SS := SS) (F := F2), fun _ e => by cases e⟩
      · rw [if_neg hb] at h5; exact h5.elim
theorem pd_draw {k : Nat} {f : Addr} {fd : FuncData} {ps : List Str} {x : Str} {p : Pos} (F : FnOk X.prog X.w X.K X.mg X.base (L2.CX X.prog X.w) k f fd ps (spDraw W)) (hr : Room k X.A) (hg : Gl X x) (hm : X.mg x = some (.ref f)) (hk : PySem.W.keepIn X.K (.ref f) = true) (hb : Binds X.K fd ps []) (tk : Takes X Xw) (ha : PD X W H0 Xw a (ev ea)) (hbb : PD X W H0 Xw b (ev eb)) (hdb : (x == ("__debug__" : Str)) = false := by decide)
    (he : starEach [a, b] X.env = (false, eval a X.env) :: starEach [b] X.env := by rfl) (he2 : starEach [b] X.env = (false, eval b X.env) :: starEach [] X.env := by rfl) (hpl : (backTo pos (starEach [b] X.env)).any (·.1) = false := by rfl) : PD X W H0 Xw (.Call (.Name x p) [a, b] [] pos) (stepE S ev (.draw ea eb)) :=
  PE_imp (pe_callS F hr hg hm hk hb (fun σ => passAt tk σ) (pa_cons ha (pa_cons hbb pa_nil he2) he) hdb he hpl) fun σ H Q h => draw_reads h
end
end T
end
section
set_option Elab.async false
set_option linter.all false
set_option autoImplicit false
set_option maxRecDepth 100000
/-! the def that draws -/
namespace T
open PySem PySem.Spec PyProof.Rows L2
/-- a name of the body -/
structure NmOk (X : Cx) (i : Nat) (x : Str) : Prop where
  at_ : X.N[i]? = some x
  vis : Vis X.env.scope x
  loc : Loc X.env.scope x
  fn : X.fn x = true
  dbg : (x == ("__debug__" : Str)) = false
  cld : (x == ("__classdict__" : Str)) = false
section
variable {X : Cx}
abbrev vN (x : Str) (p : Pos) : Expr := .Name x p
abbrev kI (i : Int) (j : Nat) (p : Pos) : Expr := .Constant (.int i) j p
abbrev tIx (K : PySem.W.Frag) (i : Nat) (k : Int) : TE := tOp (rIxL K) (tVar i) (tC (.int k))
theorem nm_pe {i : Nat} {x : Str} {p : Pos} (n : NmOk X i x) : PE X (.Name x p) (tVar i) := pe_var n.at_ n.vis n.dbg n.cld
theorem plainIx_const {i : Int} {j : Nat} {p : Pos} : PlainIx (.Constant (.int i) j p) := fun _ _ => by with_unfolding_all rfl
theorem plainIx_name {x : Str} {p : Pos} : PlainIx (.Name x p) := fun _ _ => by with_unfolding_all rfl
theorem ix_pe {i : Nat} {x : Str} {p p2 p3 : Pos} {k : Int} {j : Nat} (n : NmOk X i x) : PE X (.Subscript (.Name x p) (.Constant (.int k) j p2) p3) (tIx X.K i k) := pe_ix ix_list (nm_pe n) pe_int plainIx_const
abbrev rMod : R2 := L2.rI (fun _ j => 0 < j) fun i j => .int (i % j)
abbrev rFd : R2 := L2.rI CDiv fun i j => .int (i / j)
abbrev rMu : R2 := L2.rI CMul fun i j => .int (i * j)
abbrev rAd : R2 := L2.rI0 fun i j => .int (i + j)
abbrev rGe : R2 := L2.rI0 fun i j => .bl (decide (j ≤ i))
/-- what the text reads as -/
def tDraw (K : PySem.W.Frag) : TS :=
  tSeq (tAsg (tIx K 0 0) (gName 2)) <|
  tSeq (tAsg (tOp rMod (tIx K 0 1) (tCB (fun xs H Q => ∃ x n, xs = [x] ∧ LenV K x H n ∧ Q (.int n) H) (tCons (tVar 2) tNil))) (gName 3)) <|
  tSeq (tAsg (tOp (rIxL K) (tVar 2) (tVar 3)) (gName 4)) <|
  tSeq (tIfS (tTest (tOp rGe (tVar 4) (tC (.int 1000000000000000000)))) (tSeq (tAsg (tOp rFd (tVar 4) (tVar 1)) (gSub (tVar 2) (tVar 3) rSetL)) (tSeq (tRet (tOp rMod (tVar 4) (tVar 1))) tNext)) tNext) <|
  tSeq (tAsg (tOp rAd (tIx K 0 1) (tC (.int 1))) (gSub (tVar 0) (tC (.int 1)) rSetL)) <|
  tSeq (tAsg (tOp rMod (tOp rAd (tOp rAd (tOp rMu (tIx K 0 2) (tC (.int 48271))) (tVar 4)) (tC (.int 12345))) (tC (.int 2147483647))) (gSub (tVar 0) (tC (.int 2)) rSetL)) <|
  tSeq (tRet (tOp rMod (tOp rFd (tOp rMod (tOp rMu (tIx K 0 2) (tIx K 0 2)) (tC (.int 2147483629))) (tC (.int 16))) (tVar 1))) tNext
theorem atI0 {α : Type} {a b c : α} : atI [a, b, c] 0 = some a ∧ atI [a, b, c] 1 = some b ∧ atI [a, b, c] 2 = some c := ⟨rfl, rfl, rfl⟩
/-- the plain law of a draw -/
theorem draw_run {W : Wd} {K : PySem.W.Frag} {σ : L2.St} {H : Hp} {Q : VK} {D : Ends} (hD : D.rt = Q) (n : Int) (hn : 0 < n) (hn2 : n < 1073741824) (p : Addr × Addr) (hne : p.1 ≠ p.2) (s0 : σ[0]? = some (some (.ref p.1))) (s1 : σ[1]? = some (some (.int n))) (hl : σ.length = 5) (cells : List Int) (i j : Int) (h1 : H p.1 = some (.lst [.ref p.2, .int i, .int j])) (h2 : H p.2 = some (.lst (cells.map V.int))) (hc : cells ≠ []) (hc0 : ∀ x ∈ cells, 0 ≤ x) (hi : 0 ≤ i) (hj : 0 ≤ j)
    (q1 : ∀ (r : Nat) (cells' : List Int), r < n.toNat → cells' ≠ [] → (∀ x ∈ cells', 0 ≤ x) → Q (.int r) (upd H p.2 (.lst (cells'.map V.int))))
    (q2 : ∀ (r : Nat) (i' j' : Int), r < n.toNat → 0 ≤ i' → 0 ≤ j' → Q (.int r) (upd (upd H p.1 (.lst [.ref p.2, .int i', .int j])) p.1 (.lst [.ref p.2, .int i', .int j']))) : tDraw K D σ H := by
  have hlen : (0 : Int) < cells.length := by
    cases cells with
    | nil => exact absurd rfl hc
    | cons x l => simp only [List.length_cons]; omega
  have hm0 : 0 ≤ i % (cells.length : Int) := Int.emod_nonneg _ (by omega)
  have hm1 : i % (cells.length : Int) < cells.length := Int.emod_lt_of_pos _ hlen
  obtain ⟨m, hm⟩ : ∃ m : Nat, i % (cells.length : Int) = m := ⟨(i % (cells.length : Int)).toNat, by omega⟩
  have hml : m < cells.length := by omega
  have ltn : ∀ z : Int, 0 ≤ z % n ∧ ∃ r : Nat, z % n = r ∧ r < n.toNat := fun z => by
    have a := Int.emod_nonneg z (show n ≠ 0 by omega)
    have b := Int.emod_lt_of_pos z hn
    exact ⟨a, (z % n).toNat, by omega, by omega⟩
  refine ⟨_, s0, p.1, _, 0, .ref p.2, rfl, rfl, SqL.of h1, atI0.1, ?_⟩
  refine ⟨_, by rw [getElem?_set_ne (by decide)]; exact s0, p.1, _, 1, .int i, rfl, rfl, SqL.of h1, atI0.2.1, ?_⟩
  obtain ⟨c, hc1⟩ : ∃ c, cells[m]? = some c := ⟨cells[m], List.getElem?_eq_getElem hml⟩
  have hcp : 0 ≤ c := hc0 c (List.mem_of_getElem? hc1)
  have hcm : (cells.map V.int)[m]? = some (.int c) := by rw [List.getElem?_map, hc1]; rfl
  have hix : ixN (cells.map V.int).length (m : Int) = some m := by
    unfold ixN
    rw [if_pos (by omega), List.length_map, if_pos (by omega)]
    rfl
  have g2 : (σ.set 2 (some (V.ref p.2)))[2]? = some (some (.ref p.2)) := List.getElem?_set_self (by rw [hl]; decide)
  have k2 : ((σ.set 2 (some (V.ref p.2))).set 3 (some (.int (i % (cells.length : Int)))))[2]? = some (some (.ref p.2)) := by rw [getElem?_set_ne (by decide)]; exact g2
  have k3 : ((σ.set 2 (some (V.ref p.2))).set 3 (some (.int (i % (cells.length : Int)))))[3]? = some (some (.int (i % (cells.length : Int)))) := List.getElem?_set_self (by rw [List.length_set, hl]; decide)
  have l0 : (((σ.set 2 (some (V.ref p.2))).set 3 (some (.int (i % (cells.length : Int))))).set 4 (some (.int c)))[0]? = some (some (.ref p.1)) := by
    rw [getElem?_set_ne (by decide), getElem?_set_ne (by decide), getElem?_set_ne (by decide)]; exact s0
  have l1 : (((σ.set 2 (some (V.ref p.2))).set 3 (some (.int (i % (cells.length : Int))))).set 4 (some (.int c)))[1]? = some (some (.int n)) := by
    rw [getElem?_set_ne (by decide), getElem?_set_ne (by decide), getElem?_set_ne (by decide)]; exact s1
  have l2 : (((σ.set 2 (some (V.ref p.2))).set 3 (some (.int (i % (cells.length : Int))))).set 4 (some (.int c)))[2]? = some (some (.ref p.2)) := by rw [getElem?_set_ne (by decide)]; exact k2
  have l3 : (((σ.set 2 (some (V.ref p.2))).set 3 (some (.int (i % (cells.length : Int))))).set 4 (some (.int c)))[3]? = some (some (.int (i % (cells.length : Int)))) := by rw [getElem?_set_ne (by decide)]; exact k3
  have l4 : (((σ.set 2 (some (V.ref p.2))).set 3 (some (.int (i % (cells.length : Int))))).set 4 (some (.int c)))[4]? = some (some (.int c)) := List.getElem?_set_self (by rw [List.length_set, List.length_set, hl]; decide)
  refine ⟨.ref p.2, g2, .ref p.2, cells.length, rfl, .inl ⟨_, SqL.of h2, by rw [List.length_map]⟩, i, _, rfl, rfl, hlen, ?_⟩
  refine ⟨_, k2, _, k3, p.2, _, _, .int c, rfl, rfl, SqL.of h2, by rw [hm]; exact atI_nat hcm, ?_⟩
  refine ⟨_, l4, c, _, rfl, rfl, _, rfl, ?_⟩
  by_cases hg : (1000000000000000000 : Int) ≤ c
  · refine Eq.mpr (if_pos (decide_eq_true hg)) ?_
    refine ⟨_, l4, _, l1, c, n, rfl, rfl, ⟨hn, hn2⟩, _, l2, _, l3, p.2, _, _, m, rfl, rfl, h2, by rw [hm]; exact hix, ?_⟩
    refine ⟨_, l4, _, l1, c, n, rfl, rfl, hn, ?_⟩
    obtain ⟨a, r, e, hr⟩ := ltn c
    have q := q1 r (cells.set m (c / n)) hr (fun e => by have := congrArg List.length e; rw [List.length_set, List.length_nil] at this; omega) (fun x hx => by
      rcases List.mem_or_eq_of_mem_set hx with h | h
      · exact hc0 x h
      · rw [h]; exact Int.ediv_nonneg hcp (by omega))
    rw [List.map_set, ← e, ← hD] at q
    exact q
  · refine Eq.mpr (if_neg (by simpa using hg)) ?_
    refine ⟨_, l0, p.1, _, 1, .int i, rfl, rfl, SqL.of h1, atI0.2.1, ?_⟩
    refine ⟨i, 1, rfl, rfl, _, l0, p.1, _, 1, 1, rfl, rfl, h1, rfl, ?_⟩
    refine ⟨_, l0, p.1, [.ref p.2, .int (i + 1), .int j], 2, .int j, rfl, rfl, SqL.of upd_same, atI0.2.2, j, 48271, rfl, rfl, .inr ⟨by decide, by decide⟩, _, l4, _, c, rfl, rfl, _, 12345, rfl, rfl, _, 2147483647, rfl, rfl, show (0 : Int) < 2147483647 by decide, ?_⟩
    refine ⟨_, l0, p.1, [.ref p.2, .int (i + 1), .int j], 2, 2, rfl, rfl, upd_same, rfl, ?_⟩
    have z0 : 0 ≤ (j * 48271 + c + 12345) % 2147483647 := Int.emod_nonneg _ (by decide)
    have z1 : (j * 48271 + c + 12345) % 2147483647 < 2147483647 := Int.emod_lt_of_pos _ (by decide)
    refine ⟨_, l0, p.1, [.ref p.2, .int (i + 1), .int ((j * 48271 + c + 12345) % 2147483647)], 2, .int ((j * 48271 + c + 12345) % 2147483647), rfl, rfl, SqL.of upd_same, atI0.2.2, _, l0, p.1, [.ref p.2, .int (i + 1), .int ((j * 48271 + c + 12345) % 2147483647)], 2, .int ((j * 48271 + c + 12345) % 2147483647), rfl, rfl, SqL.of upd_same, atI0.2.2, ((j * 48271 + c + 12345) % 2147483647), ((j * 48271 + c + 12345) % 2147483647), rfl, rfl, .inl ⟨by omega, by omega⟩, _, 2147483629, rfl, rfl, show (0 : Int) < 2147483629 by decide, _, 16, rfl, rfl, ⟨by decide, by decide⟩, _, l1, _, n, rfl, rfl, hn, ?_⟩
    obtain ⟨a, r, e, hr⟩ := ltn (((j * 48271 + c + 12345) % 2147483647) * ((j * 48271 + c + 12345) % 2147483647) % 2147483629 / 16)
    have q := q2 r (i + 1) ((j * 48271 + c + 12345) % 2147483647) hr (by omega) z0
    rw [← e, ← hD] at q
    exact q
end
end T
end
section
set_option Elab.async false
set_option linter.all false
set_option autoImplicit false
set_option maxRecDepth 100000
/-! the def that draws: its body -/
namespace T
open PySem PySem.Spec PyProof.Rows L2
section
variable {X : Cx}
/-- the body, at any places -/
theorem draw_body (nd : X.N.Nodup) (a0 : NmOk X 0 "state") {mn : Str} (a1 : NmOk X 1 mn) (a2 : NmOk X 2 "cells") (a3 : NmOk X 3 "at") (a4 : NmOk X 4 "cell") (gl : Gl X "len") (gm : X.mg "len" = none) {p1 p2 p3 p4 p5 p6 p7 p8 p9 p10 p11 p12 p13 p14 p15 p16 p17 p18 p19 p20 p21 p22 p23 p24 p25 p26 p27 p28 p29 p30 p31 p32 p33 p34 p35 p36 p37 p38 p39 p40 p41 p42 p43 p44 p45 p46 p47 p48 p49 p50 p51 p52 p53 p54 p55 p56 p57 p58 p59 p60 p61 p62 p63 p64 p65 p66 p67 p68 p69 p70 p71 p72 : Pos} :
    PSs X [.Assign [(.Name "cells" p1)] (.Subscript (.Name "state" p2) (.Constant (.int 0) 0 p3) p4) p5,
      .Assign [(.Name "at" p6)] (.BinOp (.Subscript (.Name "state" p7) (.Constant (.int 1) 0 p8) p9) .Mod (.Call (.Name "len" p10) [(.Name "cells" p11)] [] p12) p13) p14,
      .Assign [(.Name "cell" p15)] (.Subscript (.Name "cells" p16) (.Name "at" p17) p18) p19,
      .If (.Compare (.Name "cell" p20) [.GtE] [(.Constant (.int 1000000000000000000) 0 p21)] p22) [.Assign [(.Subscript (.Name "cells" p23) (.Name "at" p24) p25)] (.BinOp (.Name "cell" p26) .FloorDiv (.Name mn p27) p28) p29, .Return (some (.BinOp (.Name "cell" p30) .Mod (.Name mn p31) p32)) p33] [] p34,
      .Assign [(.Subscript (.Name "state" p35) (.Constant (.int 1) 0 p36) p37)] (.BinOp (.Subscript (.Name "state" p38) (.Constant (.int 1) 0 p39) p40) .Add (.Constant (.int 1) 0 p41) p42) p43,
      .Assign [(.Subscript (.Name "state" p44) (.Constant (.int 2) 0 p45) p46)] (.BinOp (.BinOp (.BinOp (.BinOp (.Subscript (.Name "state" p47) (.Constant (.int 2) 0 p48) p49) .Mult (.Constant (.int 48271) 0 p50) p51) .Add (.Name "cell" p52) p53) .Add (.Constant (.int 12345) 0 p54) p55) .Mod (.Constant (.int 2147483647) 0 p56) p57) p58,
      .Return (some (.BinOp (.BinOp (.BinOp (.BinOp (.Subscript (.Name "state" p59) (.Constant (.int 2) 0 p60) p61) .Mult (.Subscript (.Name "state" p62) (.Constant (.int 2) 0 p63) p64) p65) .Mod (.Constant (.int 2147483629) 0 p66) p67) .FloorDiv (.Constant (.int 16) 0 p68) p69) .Mod (.Name mn p70) p71)) p72] (tDraw X.K) := by
  refine pss_cons (ps_asg (ix_pe a0) (pg_name nd a2.at_ a2.loc (.inl a2.fn))) ?_
  refine pss_cons (ps_asg (pe_op op_mod (ix_pe a0) (pe_callB call_len gl gm rfl (pa_cons (nm_pe a2) pa_nil))) (pg_name nd a3.at_ a3.loc (.inl a3.fn))) ?_
  refine pss_cons (ps_asg (pe_ix ix_list (nm_pe a2) (nm_pe a3) plainIx_name) (pg_name nd a4.at_ a4.loc (.inl a4.fn))) ?_
  refine pss_cons (ps_if (pt_cmpR op_ge (nm_pe a4) pe_int (by rfl)) (pss_cons (ps_asg (pe_op op_fdiv (nm_pe a4) (nm_pe a1)) (pg_sub (nm_pe a2) (nm_pe a3) set_list)) (pss_cons (ps_ret (pe_op op_mod (nm_pe a4) (nm_pe a1))) pss_nil)) pss_nil) ?_
  refine pss_cons (ps_asg (pe_op op_add (ix_pe a0) pe_int) (pg_sub (nm_pe a0) pe_int set_list)) ?_
  refine pss_cons (ps_asg (pe_op op_mod (pe_op op_add (pe_op op_add (pe_op op_mul (ix_pe a0) pe_int) (nm_pe a4)) pe_int) pe_int) (pg_sub (nm_pe a0) pe_int set_list)) ?_
  exact pss_cons (ps_ret (pe_op op_mod (pe_op op_fdiv (pe_op op_mod (pe_op op_mul (ix_pe a0) (ix_pe a0)) pe_int) pe_int) (nm_pe a1))) pss_nil

end
end T
end
section
set_option Elab.async false
set_option linter.all false
set_option autoImplicit false
set_option maxRecDepth 100000
/-! the def that draws keeps its promise -/
namespace T
open PySem PySem.Spec PyProof.Rows L2
theorem nds_ne {ps : List (Addr × Addr)} : (ps.flatMap fun p => [p.1, p.2]).Nodup → ∀ {a b : Addr × Addr} {x : Addr}, a ∈ ps → b ∈ ps → a ≠ b → x ∈ [a.1, a.2] → x ∈ [b.1, b.2] → False := by
  induction ps with
  | nil => intro _ a b x h; exact absurd h (by simp)
  | cons c l ih =>
    intro h a b x ha hb hne hx hy
    rw [List.flatMap_cons] at h
    obtain ⟨_, h2, h3⟩ := List.nodup_append.mp h
    rcases List.mem_cons.mp ha with rfl | ha2
    · rcases List.mem_cons.mp hb with rfl | hb2
      · exact hne rfl
      · exact h3 x hx x (List.mem_flatMap.mpr ⟨b, hb2, hy⟩) rfl
    · rcases List.mem_cons.mp hb with rfl | hb2
      · exact h3 x hy x (List.mem_flatMap.mpr ⟨a, ha2, hx⟩) rfl
      · exact ih h2 ha2 hb2 hne hx hy
section
variable {W : Wd} {SS : States} {F H H' : Hp}
theorem RetH.state {p : Addr × Addr} (I : EnvOk W SS H F H [] []) (hm : p ∈ SS.ps) (e : ∀ b, b ≠ p.1 → b ≠ p.2 → H' b = H b) (ok : StOk H' p) (tab : TabsW W SS F H') : RetH W SS F H F H' := by
  refine ⟨Inh.refl H F, ⟨fun b o nb q => ?_, fun b o q => ?_, fun p' hp' => ?_, I.nds, tab, fun i e h => by simp at h, fun i j d d' a _ h => by simp at h, rfl⟩⟩
  · rw [e b (fun z => nb (z ▸ (mem_a hm).1)) (fun z => nb (z ▸ (mem_a hm).2))]; exact q
  · obtain ⟨_, n1, n2⟩ := I.sts p hm
    rw [e b (fun z => by rw [z, n1] at q; cases q) (fun z => by rw [z, n2] at q; cases q)]
    exact I.sub b o q
  · obtain ⟨s, n1, n2⟩ := I.sts p' hp'
    by_cases z : p' = p
    · subst z; exact ⟨ok, n1, n2⟩
    · refine ⟨?_, n1, n2⟩
      obtain ⟨cells, i, j, h1, h2, r⟩ := s
      have ne : ∀ x ∈ [p'.1, p'.2], x ≠ p.1 ∧ x ≠ p.2 := fun x hx => ⟨fun q => nds_ne I.nds hp' hm z hx (by rw [q]; simp), fun q => nds_ne I.nds hp' hm z hx (by rw [q]; simp)⟩
      have a1 := ne p'.1 (by simp)
      have a2 := ne p'.2 (by simp)
      exact ⟨cells, i, j, by rw [e _ a1.1 a1.2]; exact h1, by rw [e _ a2.1 a2.2]; exact h2, r⟩
theorem draw_fn {P : Program} {w : World} {K : PySem.W.Frag} {mg : Str → Option Value} {base : Heap} {k : Nat} {f : Addr} {name qual : Str} {params : Arguments} {body : List Stmt} {scope : Scope} {dV kV doc pm cdv ct oc : Value} {an od : Option Addr} {osl : Array (Option Value)} {N : List Str} {mn : Str}
    (lk : K.lookup f = some ⟨oc, od, .func (PySem.W.fnOf name qual params body scope dV kV doc pm an cdv ct), osl⟩) (hcd : PySem.W.codeIn K cdv qual = true) (Sc : FnScope N ["state", mn] scope) (hN : N.length = 5)
    (hb : ∀ (A : Around) (outer : List PySem.Env) (s : Shared) (H : Hp) (E : XK), PSs (cxOf (L2.CX P w) P w K mg base N qual scope f cdv A outer s H E) body (tDraw K)) :
    FnOk P w K mg base (L2.CX P w) (k + 1) f (PySem.W.fnOf name qual params body scope dV kV doc pm an cdv ct) ["state", mn] (spDraw W) := by
  refine fn_of lk hcd Sc (fun vs H Q E h => ?_) fun A outer s H vs Q E hr h => ⟨_, hb A outer s H E, ?_⟩
  · obtain ⟨SS, F, i, n, p, hp, e, _⟩ := h
    rw [e]; rfl
  · obtain ⟨SS, F, i, n, p, hp, rfl, I, hn, hn2, q⟩ := h
    have hm := List.mem_of_getElem? hp
    obtain ⟨⟨cells, a, b, h1, h2, hc, hc0, ha, hb0⟩, n1, n2⟩ := I.sts p hm
    have hne : p.1 ≠ p.2 := fun z => by
      rw [z, h2] at h1
      injection h1 with h1
      injection h1 with h1
      cases cells with
      | nil => exact hc rfl
      | cons x l => rw [List.map_cons] at h1; cases h1
    have c1 : ∀ (xs : List V) (H1 : Hp) (y : Addr), H1 y = some (.lst xs) → ∀ u, H1 y = some u → Cont y u := fun xs H1 y e u e2 => by
      rw [e] at e2; cases e2; exact cont_lst
    refine draw_run (W := W) rfl n hn hn2 p hne (by unfold L2.start; rfl) (by unfold L2.start; rfl) (by unfold L2.start; simp [hN]) cells a b h1 h2 hc hc0 ha hb0 (fun r cells' hr hc' hc0' => ?_) (fun r i' j' hr hi' hj' => ?_)
    · refine q r _ hr (RetH.state I hm (fun x _ x2 => upd_ne x2) ⟨cells', a, b, by rw [upd_ne hne]; exact h1, upd_same, hc', hc0', ha, hb0⟩ (tabs_upd I.tab (c1 _ _ _ h2)))
    · refine q r _ hr (RetH.state I hm (fun x x1 _ => by rw [upd_ne x1, upd_ne x1]) ⟨cells, i', j', upd_same, by rw [upd_ne hne.symm, upd_ne hne.symm]; exact h2, hc, hc0, hi', hj'⟩ (tabs_upd (tabs_upd I.tab (c1 _ _ _ h1)) (c1 _ _ _ upd_same)))
end
end T
end
section
set_option Elab.async false
set_option linter.all false
set_option autoImplicit false
set_option maxRecDepth 100000
/-! the def that makes a state of draws -/
namespace T
open PySem PySem.Spec PyProof.Rows L2
def absI (i : Int) : Int := if i < 0 then -i else i
theorem absI_nn (i : Int) : 0 ≤ absI i := by unfold absI; split <;> omega
abbrev rAbsC : List V → Hp → VK → Prop := fun xs H Q => ∃ i, xs = [.int i] ∧ Q (.int (absI i)) H
theorem cut_int (ns : List Int) (lo hi : Option Int) : ∃ ms : List Int, cutV (ns.map V.int) lo hi = ms.map V.int ∧ ms.length ≤ ns.length := by
  refine ⟨(ns.drop (HT.sIx ns.length 0 lo)).take (HT.sIx ns.length ns.length hi - HT.sIx ns.length 0 lo), ?_, ?_⟩
  · unfold cutV; rw [List.length_map, List.map_take, List.map_drop]
  · rw [List.length_take, List.length_drop]; omega
theorem ite_t {a b : Prop} (h : a) : if true = true then a else b := by rw [if_pos rfl]; exact h
/-- abs of each, and [7] when there is none -/
theorem cells_run {K : PySem.W.Frag} {σ : L2.St} {H : Hp} {Q : VK} {tl : TE} {ms : List Int} (hz : ms.length ≤ 63) (hl : σ.length = 2)
    (h : ∀ Q' : VK, (∀ p H1, (∀ b o, H b = some o → H1 b = some o) → H1 p = some (.lst (ms.map V.int)) → Q' (.ref p) H1) → tl σ H Q')
    (q : ∀ D H', H D = none → (∀ b o, H b = some o → H' b = some o) → H' D = some (.lst (ms.map fun i => V.int (absI i))) → Q (.ref D) H') :
    tLc (iList K tl) (gName 1) tYes (tCB rAbsC (tCons (tVar 1) tNil)) [1] σ H Q := by
  refine h _ fun p H1 e1 hp => ⟨p, rfl, ⟨_, SqL.of hp⟩, fun D hD => ?_⟩
  have hD0 : H D = none := by
    cases z : H D with
    | none => rfl
    | some o => rw [e1 _ _ z] at hD; cases hD
  refine lc_list (xs := ms.map V.int) (fun i H' => (∀ b o, H1 b = some o → H' b = some o) ∧ H' D = some (.lst ((ms.take i).map fun i => V.int (absI i)))) ⟨fun b o e => by rw [upd_ne (fun z => by rw [z, hD] at e; cases e)]; exact e, by rw [upd_same]; rfl⟩ (fun i H' _ pv => SqL.of (pv.1 _ _ hp)) (fun i x H' hi pv => ?_) (fun H' pv => q D H' hD0 (fun b o e => pv.1 _ _ (e1 _ _ e)) (by have := pv.2; rw [List.length_map, List.take_length] at this; exact this))
  rw [List.getElem?_map] at hi
  obtain ⟨m, hm, rfl⟩ := Option.map_eq_some_iff.mp hi
  have hil : i < ms.length := (List.getElem?_eq_some_iff.mp hm).1
  have g1 : ((wipe σ [1]).set 1 (some (V.int m)))[1]? = some (some (.int m)) := List.getElem?_set_self (by rw [wipe_length, hl]; decide)
  have hD1 := pv.2
  refine ⟨?_, ?_⟩
  · show ((List.set σ 1 none).set 1 _).set 1 none = List.set σ 1 none
    rw [List.set_set, List.set_set]
  suffices fin : tCB rAbsC (tCons (tVar 1) tNil) ((wipe σ [1]).set 1 (some (V.int m))) H' (fun y H4 => ∃ acc, H4 D = some (.lst acc) ∧ acc.length < sizeLine ∧ ((∀ b o, H1 b = some o → (upd H4 D (.lst (acc ++ [y]))) b = some o) ∧ (upd H4 D (.lst (acc ++ [y]))) D = some (.lst ((ms.take (i + 1)).map fun i => V.int (absI i))))) from fin
  refine ⟨.int m, g1, m, rfl, _, hD1, ?_, fun b o e => ?_, ?_⟩
  · rw [List.length_map, List.length_take, sizeLine_eq]; omega
  · rw [upd_ne (fun z => by rw [z, hD] at e; cases e)]; exact pv.1 b o e
  · rw [upd_same, List.take_succ, hm, List.map_append]; rfl
/-- what makes the state -/
def tState (K : PySem.W.Frag) (tl : TE) : TS :=
  tSeq (tRet (tLst (tCons (tOrT K (tLc (iList K tl) (gName 1) tYes (tCB rAbsC (tCons (tVar 1) tNil)) [1]) (tLst (tCons (tC (.int 7)) tNil))) (tCons (tC (.int 0)) (tCons (tC (.int 1)) tNil))))) tNext
theorem lst_or {K : PySem.W.Frag} {σ : L2.St} {H : Hp} {Q : VK} {x y : TE} {t : TA} (h : x σ H fun v H1 => ∃ k, TruV K v H1 k ∧ if k = true then (t σ H1 fun vs H2 => (v :: vs).length ≤ sizeLine ∧ ∀ p, H2 p = none → Q (.ref p) (upd H2 p (.lst (v :: vs)))) else y σ H1 fun v H1 => (t σ H1 fun vs H2 => (v :: vs).length ≤ sizeLine ∧ ∀ p, H2 p = none → Q (.ref p) (upd H2 p (.lst (v :: vs))))) : tLst (tCons (tOrT K x y) t) σ H Q := h
theorem state_run {K : PySem.W.Frag} {σ : L2.St} {H : Hp} {Q : VK} {Dn : Ends} (hD : Dn.rt = Q) {a : Addr} {ns : List Int} (s0 : σ[0]? = some (some (.ref a))) (hl : σ.length = 2) (hx : SqL K H a (ns.map V.int)) (hz : ns.length ≤ 63)
    (q : ∀ (p : Addr × Addr) H', H p.1 = none → H p.2 = none → (∀ b o, H b = some o → H' b = some o) → StOk H' p → Q (.ref p.1) H') :
    tState K (tSl (rSlL K) (tVar 0) tNoPart (tPart (tC (.int 63)))) Dn σ H := by
  obtain ⟨ms, em, lm⟩ := cut_int ns none (some 63)
  have fin : ∀ (D : Addr) H1 (cells : List Int), H D = none → (∀ b o, H b = some o → H1 b = some o) → H1 D = some (.lst (cells.map V.int)) → cells ≠ [] → (∀ x ∈ cells, 0 ≤ x) → ∀ p, H1 p = none → Q (.ref p) (upd H1 p (.lst [.ref D, .int 0, .int 1])) := fun D H1 cells d1 d2 d3 d4 d5 p hp => by
    have hp0 : H p = none := by
      cases z : H p with
      | none => rfl
      | some o => rw [d2 _ _ z] at hp; cases hp
    exact q (p, D) _ hp0 d1 (fun b o e => by rw [upd_ne (fun z => by rw [z, hp0] at e; cases e)]; exact d2 b o e) ⟨cells, 0, 1, upd_same, by rw [upd_ne (fun z => by rw [show D = p from z, hp] at d3; cases d3)]; exact d3, d4, d5, by decide, by decide⟩
  show tLst _ σ H Dn.rt
  rw [hD]
  refine lst_or ?_
  refine cells_run (ms := ms) (by omega) hl ?_ ?_
  · exact fun Q' hq => ⟨_, s0, 63, rfl, a, ns.map V.int, rfl, hx, fun p hp => hq p (upd H p (.lst (cutV (ns.map V.int) none (some 63)))) (fun b o e => by rw [upd_ne (fun z => by rw [z, hp] at e; cases e)]; exact e) (by rw [upd_same, em])⟩
  · intro D H' d1 d2 d3
    refine ⟨!(ms.map fun i => V.int (absI i)).isEmpty, .inl ⟨_, SqL.of d3, rfl⟩, ?_⟩
    cases ms with
    | nil =>
      rw [if_neg (by simp)]
      refine ⟨by rw [sizeLine_eq]; decide, fun p hp => ?_⟩
      have hp0 : H p = none := by
        cases z : H p with
        | none => rfl
        | some o => rw [d2 _ _ z] at hp; cases hp
      refine ⟨by rw [sizeLine_eq]; show (3 : Nat) ≤ _; decide, fun p1 hp1 => ?_⟩
      exact fin p _ [7] hp0 (fun b o e => by rw [upd_ne (fun z => by rw [z, hp0] at e; cases e)]; exact d2 b o e) upd_same (by simp) (by simp) p1 hp1
    | cons m l =>
      rw [if_pos (by simp)]
      refine ⟨by rw [sizeLine_eq]; show (3 : Nat) ≤ _; decide, fun p1 hp1 => ?_⟩
      exact fin D _ ((m :: l).map absI) d1 d2 (by rw [List.map_map]; exact d3) (by simp) (fun x hx => by
        obtain ⟨y, _, rfl⟩ := List.mem_map.mp hx
        exact absI_nn y) p1 hp1
end T
end
section
set_option Elab.async false
set_option linter.all false
set_option autoImplicit false
set_option maxRecDepth 100000
/-! the def that makes a state of draws keeps its promise -/
namespace T
open PySem PySem.Spec PyProof.Rows L2
/-- what it promises: a new state, all else kept -/
def spState (K : PySem.W.Frag) : Sp := fun vs H Q _ => ∃ a ns, vs = [.ref a] ∧ SqL K H a (List.map V.int ns) ∧ ns.length ≤ 63 ∧ ∀ (p : Addr × Addr) H', H p.1 = none → H p.2 = none → (∀ b o, H b = some o → H' b = some o) → StOk H' p → Q (.ref p.1) H'
abbrev tState1 (K : PySem.W.Frag) : TS := tState K (tSl (rSlL K) (tVar 0) tNoPart (tPart (tC (.int 63))))
theorem state_fn {P : Program} {w : World} {K : PySem.W.Frag} {mg : Str → Option Value} {base : Heap} {k : Nat} {f : Addr} {name qual : Str} {params : Arguments} {body : List Stmt} {scope : Scope} {dV kV doc pm cdv ct oc : Value} {an od : Option Addr} {osl : Array (Option Value)} {N : List Str}
    (lk : K.lookup f = some ⟨oc, od, .func (PySem.W.fnOf name qual params body scope dV kV doc pm an cdv ct), osl⟩) (hcd : PySem.W.codeIn K cdv qual = true) (Sc : FnScope N ["script"] scope) (hN : N.length = 2)
    (hb : ∀ (A : Around) (outer : List PySem.Env) (s : Shared) (H : Hp) (E : XK), PSs (cxOf (L2.CX P w) P w K mg base N qual scope f cdv A outer s H E) body (tState1 K)) :
    FnOk P w K mg base (L2.CX P w) (k + 1) f (PySem.W.fnOf name qual params body scope dV kV doc pm an cdv ct) ["script"] (spState K) := by
  refine fn_of lk hcd Sc (fun vs H Q E h => ?_) fun A outer s H vs Q E hr h => ⟨_, hb A outer s H E, ?_⟩
  · obtain ⟨a, ns, e, _⟩ := h
    rw [e]; rfl
  · obtain ⟨a, ns, rfl, hx, hz, q⟩ := h
    exact state_run rfl (by unfold L2.start; rfl) (by unfold L2.start; simp [hN]) hx hz q
end T
end
section
set_option Elab.async false
set_option linter.all false
set_option autoImplicit false
set_option maxRecDepth 100000
/-! the def that makes a state of draws: its body -/
namespace T
open PySem PySem.Spec PyProof.Rows L2
section
variable {X : Cx}
theorem call_absC : CallR X (.builtin "abs") rAbsC := call_abs
theorem state_body {sc : Scope} (hc : X.calm = true) (nd : X.N.Nodup) (a0 : NmOk X 0 "script") (ok : BlkOk X.N X.env.scope sc [("cell", 1)]) {p1 p2 p3 p4 p5 p6 p7 p8 p9 p10 p11 p12 p13 p14 p15 p16 : Pos}
    (hg : ∀ (s : Shared) (H : Hp) (C : Addr) (cl : List (Str × Addr)) (fp : List Addr), PG (X.blk s H sc (compEnvC sc cl C X.env) fp) (.Name "cell" p4) (gName 1))
    (he : ∀ (s : Shared) (H : Hp) (C : Addr) (cl : List (Str × Addr)) (fp : List Addr), PE (X.blk s H sc (compEnvC sc cl C X.env) fp) (.Call (.Name "abs" p1) [.Name "cell" p2] [] p3) (tCB rAbsC (tCons (tVar 1) tNil))) :
    PSs X [.Return (some (.List [.BoolOp .Or [.ListComp (.Call (.Name "abs" p1) [.Name "cell" p2] [] p3) [⟨.Name "cell" p4, .Subscript (.Name "script" p5) (.Slice none (some (.Constant (.int 63) 0 p6)) none p7) p8, [], 0⟩] sc p9, .List [.Constant (.int 7) 0 p10] p11] p12, .Constant (.int 0) 0 p13, .Constant (.int 1) 0 p14] p15)) p16] (tState1 X.K) :=
  pss_cons (ps_ret (pe_lst (pa_cons (pe_orT (pe_lc hc nd (pi_list (pe_slice sl_list (nm_pe a0) po_none (po_some pe_int))) ok hg (fun _ _ _ _ _ => pts_nil) he) (pe_one (pe_lst (pa_cons pe_int pa_nil)))) (pa_cons pe_int (pa_cons pe_int pa_nil))))) pss_nil
end
end T
end
section
set_option Elab.async false
set_option linter.all false
set_option autoImplicit false
set_option maxRecDepth 100000
/-! defs of the text, by the head's facts -/
namespace T
open PySem PySem.Spec PyProof.Rows L2
/-- a def of the top keeps its promise -/
structure Okf (P : Program) (w : World) (K : PySem.W.Frag) (mg : Str → Option Value) (base : Heap) (x : Str) (k : Nat) (ps : List Str) (sp : Sp) : Prop where
  ex : ∃ fd, FnOk P w K mg base (L2.CX P w) k (He.ga K x) fd ps sp ∧ Binds K fd ps []
  gl : mg x = some (.ref (He.ga K x))
  kp : PySem.W.keepIn K (.ref (He.ga K x)) = true
section
variable {S : Sig} {ev : Ex → EvM Op}
theorem evA_post : ∀ {eas : List Ex} {ms : List Bool} {δ : Env} {P : Ou (List Op) → Prop}, (evA ev ms eas δ).wp P → (evA ev ms eas δ).wp fun o => P o ∧ ∀ os δ', o = .ok os δ' → os.length = eas.length
  | [], ms, δ, P, h => by
    have e : evA ev ms [] = EvM.pure [] := by cases ms <;> rfl
    rw [e] at h ⊢
    exact ⟨h, fun os δ' q => by cases q; rfl⟩
  | e :: es, ms, δ, P, h => by
    unfold evA at h ⊢
    have fin : ∀ (o : Op) (δ1 : Env), (((evA ev ms.tail es).bind fun os => EvM.pure (o :: os)) δ1).wp P → (((evA ev ms.tail es).bind fun os => EvM.pure (o :: os)) δ1).wp fun r => P r ∧ ∀ os δ', r = .ok os δ' → os.length = (e :: es).length := fun o δ1 z => by
      refine Tr.wp_bind.mpr (Tr.wp_mono (fun r hr => ?_) (evA_post (Tr.wp_bind.mp z)))
      cases r with
      | exc x δ2 => exact ⟨hr.1, fun os δ' q => by cases q⟩
      | ok os δ2 => exact ⟨hr.1, fun os' δ' q => by cases q; rw [List.length_cons, List.length_cons, hr.2 os δ2 rfl]⟩
    by_cases hm : ms.headD false = true
    · rw [if_pos hm] at h ⊢
      refine Tr.wp_bind.mpr (Tr.wp_mono (fun r hr => ?_) (Tr.wp_bind.mp h))
      cases r with
      | exc x δ2 => exact ⟨hr, fun os δ' q => by cases q⟩
      | ok o δ2 =>
        refine Tr.wp_bind.mpr (Tr.wp_mono (fun r hr => ?_) (Tr.wp_bind.mp hr))
        cases r with
        | exc x δ3 => exact ⟨hr, fun os δ' q => by cases q⟩
        | ok o δ3 => exact fin o δ3 hr
    · rw [if_neg hm] at h ⊢
      refine Tr.wp_bind.mpr (Tr.wp_mono (fun r hr => ?_) (Tr.wp_bind.mp h))
      cases r with
      | exc x δ2 => exact ⟨hr, fun os δ' q => by cases q⟩
      | ok o δ2 =>
        refine Tr.wp_bind.mpr (Tr.wp_mono (fun r hr => ?_) (Tr.wp_bind.mp hr))
        cases r with
        | exc x δ3 => exact ⟨hr, fun os δ' q => by cases q⟩
        | ok d δ3 => exact fin (.v d) δ3 hr
end
section
variable {X : Cx} {W : Wd} {H0 : Hp} {Xw : WX} {S : Sig} {ev : Ex → EvM Op} {a b c e : Expr} {ea eb ec ee : Ex} {pos : Pos} {es rest : List Expr} {eas : List Ex}
/-- arguments, how many they are -/
theorem evA_tR {β γ : Type} {R2 : RelR β γ} (hR : RM R2) {ms : List Bool} {SS : States} {F H : Hp} {σ : L2.St} {δ : Env} {Q : γ → Hp → Prop} {Z : List V → Hp → Prop} {f : List Op → EvM β} (I : EnvOk W SS H0 F H σ δ) (h : (((evA ev ms eas).bind f) δ).wp (PostR R2 W SS H0 Xw σ F H δ Q))
    (k : ∀ os δ1 xs F1 H1, os.length = eas.length → Stp SS σ F H δ F1 H1 δ1 → EnvOk W SS H0 F1 H1 σ δ1 → OpsA W H0 SS σ F1 H1 δ1 os xs → (f os δ1).wp (PostR R2 W SS H0 Xw σ F1 H1 δ1 Q) → Z xs H1) : tR (rAs W H0) W H0 Xw (evA ev ms eas) σ H Z := by
  refine ⟨SS, F, δ, I, Tr.wp_mono ?_ (evA_post (Tr.wp_bind.mp h))⟩
  intro r hr
  cases r with
  | ok p δ1 => exact fun x F1 H1 st e q => k p δ1 x F1 H1 (hr.2 p δ1 rfl) st e q (Tr.wp_mono (fun _ z => PostR.shift hR I st z) hr.1)
  | exc e δ1 => exact hr.1
theorem calls_reads {m : Fnc} {n : Nat} {ms : List Bool} {σ : L2.St} {H : Hp} {Q : VK} (hn : eas.length = n) (h : tD W H0 Xw ((evA ev ms eas).bind fun os => (lendM ms os).bind fun as => resM (m as)) σ H Q) : tCallS (spD W n m) (WE Xw) (tR (rAs W H0) W H0 Xw (evA ev ms eas)) σ H Q := by
  obtain ⟨SS, F, δ, I, h⟩ := h
  refine evA_tR rO_m I h fun os δ1 xs F1 H1 hl st1 I1 q1 h1 => ?_
  obtain ⟨as, g1, g2, h2⟩ := lendM_inv I1 q1 h1
  exact ⟨SS, F1, as, by rw [g2, hl, hn], I1.entry, g1, res_inv (fun _ e => e) I1 h2⟩
/-- f(e, ..) of the top -/
theorem pdo_call {k j kf n : Nat} {m : Fnc} {ms : List Bool} {ps : List Str} {x : Str} {p : Pos} (F : Okf X.prog X.w X.K X.mg X.base x k ps (spD W n m)) (hr : Room j X.A) (hk : k ≤ j) (hg : Gl X x) (tk : Takes X Xw) (hm : S.fn kf = m) (hn : eas.length = n) (ha : PA X (e :: es) (tR (rAs W H0) W H0 Xw (evA ev ms eas))) (hdb : (x == ("__debug__" : Str)) = false := by decide)
    (he : starEach (e :: es) X.env = (false, eval e X.env) :: starEach es X.env := by rfl) (hpl : (backTo pos (starEach es X.env)).any (·.1) = false := by rfl) : PD X W H0 Xw (.Call (.Name x p) (e :: es) [] pos) (stepE S ev (.call kf ms eas)) := by
  obtain ⟨fd, F1, hb⟩ := F.ex
  refine PE_imp (pe_callS F1 (hr.mono hk) hg F.gl F.kp hb (fun σ => passAt tk σ) ha hdb he hpl) fun σ H Q h => calls_reads hn ?_
  rw [← hm]
  exact h
/-- a draw -/
theorem pdo_draw {k j : Nat} {ps : List Str} {x : Str} {p : Pos} (F : Okf X.prog X.w X.K X.mg X.base x k ps (spDraw W)) (hr : Room j X.A) (hk : k ≤ j) (hg : Gl X x) (tk : Takes X Xw) (ha : PD X W H0 Xw a (ev ea)) (hb : PD X W H0 Xw b (ev eb)) (hdb : (x == ("__debug__" : Str)) = false := by decide)
    (he : starEach [a, b] X.env = (false, eval a X.env) :: starEach [b] X.env := by rfl) (he2 : starEach [b] X.env = (false, eval b X.env) :: starEach [] X.env := by rfl) (hpl : (backTo pos (starEach [b] X.env)).any (·.1) = false := by rfl) : PD X W H0 Xw (.Call (.Name x p) [a, b] [] pos) (stepE S ev (.draw ea eb)) := by
  obtain ⟨fd, F1, hbb⟩ := F.ex
  exact pd_draw F1 (hr.mono hk) hg F.gl F.kp hbb tk ha hb hdb he he2 hpl
end
/-- a def of the top, from its body -/
theorem okf {W : Wd} {P : Program} {w : World} {K : PySem.W.Frag} {mg : Str → Option Value} {base : Heap} {k : Nat} {x : Str} {params : Arguments} {body : List Stmt} {scope : Scope} {N ps : List Str} {S : Sig} {gas : Nat} {b : List Stm}
    (F : ∃ fd, FunD K x x params body scope [] [] (He.ga K x) fd) (gl : mg x = some (.ref (He.ga K x))) (Sc : FnScope N ps scope)
    (hbd : ∀ (kV doc pm : Value) (an : Option Addr) (cdv ct : Value) (us : List Value), us.length = ps.length → bindArgs (PySem.W.fnOf x x params body scope .none kV doc pm an cdv ct) ⟨us, []⟩ = pure (ps.zip us))
    (hb : ∀ (f : Addr) (cdv : Value) (A : Around) (outer : List PySem.Env) (s : Shared) (H : Hp) (Q : VK) (E : XK), Room k (A.deeper (envOfC x scope s.heap.objs.size f cdv)) → PSsD (cxOf (L2.CX P w) P w K mg base N x scope f cdv A outer s H E) W H (fun c d _ H' => E c d H') body (bodyM S gas b)) :
    Okf P w K mg base x (k + 1) ps (spD W ps.length (defM S gas N.length b)) := by
  obtain ⟨fd, F⟩ := F
  refine ⟨⟨fd, ?_, F.bindsN hbd⟩, gl, F.kp⟩
  obtain ⟨oc, od, dV, kV, doc, pm, an, cdv, ct, osl, rfl, lk, hcd, _, _⟩ := F.ex
  exact fn_def lk hcd Sc fun A outer s H Q E hr => hb _ _ A outer s H Q E hr
/-- the body's context is a good one -/
theorem good_of {W : Wd} {X : Cx} {k : Nat} (hK : X.K = W.K) (hP : W.P = X.prog) (hw : W.w = X.w) (hr : Room k X.A) : Good W X := ⟨hK, hP, hw, by have := hr.un; omega⟩
end T
end
section
set_option Elab.async false
set_option linter.all false
set_option autoImplicit false
set_option maxRecDepth 100000
/-! the rules, as a printer takes them -/
namespace T
open PySem PySem.Spec PyProof.Rows L2
section
variable {X : Cx} {W : Wd} {H0 : Hp} {Xw : WX} {S : Sig} {ev : Ex → EvM Op} {a b c e : Expr} {ea eb ec ee : Ex} {pos : Pos} {es rest : List Expr} {eas : List Ex}
theorem pdv (i : Nat) {x : Str} (hN : X.N[i]? = some x := by rfl) (hv : Vis X.env.scope x := by first | exact Or.inl rfl | exact Or.inr (Or.inl rfl) | exact Or.inr (Or.inr rfl)) (hd : (x == ("__debug__" : Str)) = false := by decide) (hcd : (x == ("__classdict__" : Str)) = false := by decide) : PD X W H0 Xw (.Name x pos) (stepE S ev (.var i)) := pd_var hN hv hd hcd
/-- a number, a text of the top -/
theorem pd_gint {x : Str} {i : Int} (hm : ∃ t, X.mg x = some (.int i t)) (hg : Gl X x := by rfl) (hd : (x == ("__debug__" : Str)) = false := by decide) : PD X W H0 Xw (.Name x pos) (stepE S ev (.cst (.int i))) := by
  obtain ⟨t, hm⟩ := hm
  exact pd_cst (pe_glob (v := .int i) hg hm ⟨t, rfl⟩ hd) fun _ _ => rep_int
theorem pd_gstr {x y : Str} (hm : ∃ t, X.mg x = some (.str y t)) (hg : Gl X x := by rfl) (hd : (x == ("__debug__" : Str)) = false := by decide) : PD X W H0 Xw (.Name x pos) (stepE S ev (.cst (.str y))) := by
  obtain ⟨t, hm⟩ := hm
  exact pd_cst (pe_glob (v := .str y) hg hm ⟨t, rfl⟩ hd) fun _ _ => rep_str
/-! ### isinstance of built-in types -/
theorem isiF_one {S : Sig} {t : Ty} {d : D} : isiF S [t] d = isTy S.sub S.ko S.kx d t := by
  unfold isiF
  simp only [List.foldl]
/-- a type that is asked for -/
def Ty.nm : Ty → String
  | .int => "int" | .bool => "bool" | .str => "str" | .tuple => "tuple" | .list => "list" | .dict => "dict" | .vale => "ValueError" | .own _ => ""
def Ty.blt : Ty → Bool
  | .int => true | .bool => true | .str => true | .tuple => true | .list => true | .dict => true | _ => false
theorem kit_b1 {t : Ty} (h : t.blt = true) : KitOk W X.K (.type t.nm) (isiF S [t]) := by
  refine kitOk_blt fun d b e => ?_
  rw [isiF_one] at e
  cases t <;> first | cases h; done | skip
  all_goals
    cases d <;> first
      | (cases e; exact ⟨trivial, _, rfl, by decide +kernel⟩)
      | (unfold isTy at e; dsimp only at e; split at e <;> cases e)
      | cases e
theorem pdi {Tn : Str} {t : Ty} {p p2 : Pos} (hK : X.K = W.K) (h : t.blt = true) (hm : X.mg "isinstance" = none) (hmT : X.mg Tn = none) (hv : bootBuiltins Tn = some (.type t.nm)) (ha : PD X W H0 Xw a (ev ea)) (hg : Gl X "isinstance" := by rfl) (hgT : Gl X Tn := by rfl) (hn : Tn ≠ "__name__" := by decide) (hdb : (Tn == ("__debug__" : Str)) = false := by decide)
    (h1 : starEach [a, .Name Tn p2] X.env = (false, eval a X.env) :: starEach [.Name Tn p2] X.env := by rfl) (h2 : starEach [.Name Tn p2] X.env = (false, eval (.Name Tn p2) X.env) :: starEach [] X.env := by rfl) (hpl : (backTo pos (starEach [.Name Tn p2] X.env)).any (·.1) = false := by rfl) : PD X W H0 Xw (.Call (.Name "isinstance" p) [a, .Name Tn p2] [] pos) (stepE S ev (.isi ea [t])) :=
  pd_isi1 (cv := .ty t.nm) hK (kit_b1 h) hg hm ha (pe_bltn hgT hmT hv rfl hn hdb) (fun u r => r) h1 h2 hpl
theorem isiF_two {S : Sig} {t u : Ty} {d : D} {b : Bool} (h : isiF S [t, u] d = some b) : (isiF S [t] d = some true ∧ b = true) ∨ (isiF S [t] d = some false ∧ isiF S [u] d = some b) := by
  rw [isiF_one, isiF_one]
  unfold isiF at h
  simp only [List.foldl] at h
  cases q : isTy S.sub S.ko S.kx d t with
  | none => rw [q] at h; cases h
  | some k =>
    rw [q] at h
    cases k with
    | true => cases h; exact .inl ⟨rfl, rfl⟩
    | false => exact .inr ⟨rfl, h⟩
theorem kit_bN {t u : Ty} (h : t.blt = true) (h2 : u.blt = true) : KitOkN W X.K [.type t.nm, .type u.nm] (isiF S [t, u]) := fun d b e => by
  rcases isiF_two e with ⟨e1, rfl⟩ | ⟨e1, e2⟩
  · obtain ⟨k, y, h3, h4⟩ := kit_b1 (X := X) (W := W) h d _ e1
    exact ⟨k, y, h3, kitAny_cons h4 (fun z => by cases z) fun _ => rfl⟩
  · obtain ⟨k, y, h3, h4⟩ := kit_b1 (X := X) (W := W) h d _ e1
    obtain ⟨k', y', h5, h6⟩ := kit_b1 (X := X) (W := W) h2 d _ e2
    rw [h3] at h5
    cases h5
    exact ⟨k, y, h3, kitAny_cons h4 (fun _ => kitAny_cons h6 (fun z => by rw [z]; rfl) fun z => z) fun z => by cases z⟩
theorem pdi2 {Tn Un : Str} {t u : Ty} {p p2 p3 pt : Pos} {kt} (hK : X.K = W.K) (h : t.blt = true) (h' : u.blt = true) (hm : X.mg "isinstance" = none) (hmT : X.mg Tn = none) (hmU : X.mg Un = none) (hv : bootBuiltins Tn = some (.type t.nm)) (hv' : bootBuiltins Un = some (.type u.nm)) (ha : PD X W H0 Xw a (ev ea)) (hg : Gl X "isinstance" := by rfl) (hgT : Gl X Tn := by rfl) (hgU : Gl X Un := by rfl) (hn : Tn ≠ "__name__" := by decide) (hdb : (Tn == ("__debug__" : Str)) = false := by decide) (hn' : Un ≠ "__name__" := by decide) (hdb' : (Un == ("__debug__" : Str)) = false := by decide)
    (h1 : starEach [a, .Tuple [.Name Tn p2, .Name Un p3] kt pt] X.env = (false, eval a X.env) :: starEach [.Tuple [.Name Tn p2, .Name Un p3] kt pt] X.env := by rfl) : PD X W H0 Xw (.Call (.Name "isinstance" p) [a, .Tuple [.Name Tn p2, .Name Un p3] kt pt] [] pos) (stepE S ev (.isi ea [t, u])) :=
  pd_isi2 (cv := .ty t.nm) (dv := .ty u.nm) hK (kit_bN h h') hg hm ha (pe_bltn hgT hmT hv rfl hn hdb) (pe_bltn hgU hmU hv' rfl hn' hdb') (.ty _) (.ty _) h1
end
end T
end
section
set_option Elab.async false
set_option linter.all false
set_option autoImplicit false
set_option maxRecDepth 100000
/-! dict displays; sequences turned about; what a body needs besides -/
namespace T
open PySem PySem.Spec PyProof.Rows L2
section
variable {X : Cx} {W : Wd} {H0 : Hp} {Xw : WX} {S : Sig} {gas : Nat} {ev : Ex → EvM Op} {ex : Stm → EvM Fl} {a b c e : Expr} {ea eb ec ee : Ex} {pos : Pos} {es rest : List Expr} {eas : List Ex}
theorem big_ne {pins : List (Addr × Obj)} {σ : L2.St} {H : Hp} {s : Shared} (I : Inv X pins σ H s) : (s.heap.objs.size == sysModules) = false := beq_eq_false_iff_ne.mpr (Ne.symm (Nat.ne_of_lt I.big))
theorem lay_new {pins : List (Addr × Obj)} {σ : L2.St} {H : Hp} {s : Shared} (I : Inv X pins σ H s) : Inv X pins σ (upd H s.heap.objs.size (dObj s.heap.objs.size newD)) { s with heap := s.heap.push { cls := .type "dict", data := .dict #[] } } :=
  I.laid (a := s.heap.objs.size) (o := dObj s.heap.objs.size newD) (t' := s.toks) (fun _ _ q => Heap.get?_push_of_some _ q) (Nat.le_refl _) (dobj_ok (Heap.get?_push_size _ rfl))
/-- {} -/
theorem pd_dnew0 {t : Bool} : PD X W H0 Xw (.Dict [] [] pos) (stepE S ev (.dnew t [] [])) := ⟨fun pins s σ H Q I ⟨SS, F, δ, E, h⟩ => by
  have n : H s.heap.objs.size = none := I.hok.fresh (Nat.le_refl _)
  refine wpAny_Dict_empty ⟨.ref s.heap.objs.size, _, lay_new I, rfl, ?_⟩
  have h' : Post W SS H0 Xw σ F H δ Q (.ok (.f (.dct t [])) δ) := h
  obtain ⟨es, ep, g⟩ := newD_ok (W := W) (SS := SS) (F := F) (t := t) (big_ne I)
  exact fin_of E h' _ _ _ (Grow.lay E.sub n) ⟨_, _, rfl, n, (E.fresh n).1, upd_same, newD, es, ep, rfl, g⟩⟩
/-- {k: v} -/
theorem pd_dnew1 {t : Bool} (G : Good W X) (hk : PD X W H0 Xw a (ev ea)) (hv : PD X W H0 Xw b (ev eb)) : PD X W H0 Xw (.Dict [some a] [b] pos) (stepE S ev (.dnew t [ea] [eb])) := ⟨fun pins s σ H Q I ⟨SS, F, δ, E, h⟩ => by
  have n : H s.heap.objs.size = none := I.hok.fresh (Nat.le_refl _)
  have hm := big_ne I
  refine wpAny_Dict_any rfl rfl (by simp) (by show 1 ≤ 15; omega) ?_
  have g1 : Grow F H F (upd H s.heap.objs.size (dObj s.heap.objs.size newD)) := Grow.lay E.sub n
  have J1 := lay_new I
  generalize hP : s.heap.objs.size = p at *
  have E1 := E.grow g1
  have nF := (E.fresh n).1
  have nA := (E.fresh n).2
  have n0 := E.none0 n
  have no : ∀ i : Nat, isOwn δ i → σ[i]? ≠ some (some (.ref p)) := fun i hi q => by
    obtain ⟨a, o, e1, e2, _⟩ := own_there E hi
    rw [q] at e1; cases e1; rw [n] at e2; cases e2
  have h' : (((evsV ev [ea]).bind fun kd => (evsV ev [eb]).bind fun vd => match dctOf t (List.zipWith (fun x y => D.tup [x, y]) kd vd) [] with
    | some kvs => EvM.pure (.f (.dct t kvs))
    | none => .bad) δ).wp (Post W SS H0 Xw σ F H δ Q) := h
  unfold evsV at h'
  rw [bind_assoc] at h'
  have key : tD W H0 Xw (ev ea) σ (upd H p (dObj p newD)) fun x H2 => tD W H0 Xw (ev eb) σ H2 fun y H4 => ∃ SS F5 kd vd, Sub F5 H4 ∧ H4 p = some (dObj p newD) ∧ keyOk t kd = true ∧ Rep W SS F5 kd x ∧ Rep W SS F5 vd y ∧ ∀ ob, DAt W SS F5 t (dset [] kd vd) p ob → Q (.ref p) (upd H4 p (dObj p ob)) := by
    refine tR_bindE E (Stp.grow g1) E1 h' fun o δ2 x F2 H2 st2 E2 q2 h2 => ?_
    have cN : ¬ Inert p (dObj p newD) := (cont_dct (es := #[]) (ep := 0) rfl).not
    have l2 : H2 p = some (dObj p newD) := st2.same p _ nA no upd_same
    rw [bind_assoc] at h2
    obtain ⟨kd, F3, δ3, st3, E3, r3, h3⟩ := fz_inv st2 E2 q2 h2
    rw [bind_assoc] at h3
    have h3' : (((evsV ev [eb]).bind fun vd => match dctOf t (List.zipWith (fun x y => D.tup [x, y]) [kd] vd) [] with
      | some kvs => EvM.pure (.f (.dct t kvs))
      | none => .bad) δ3).wp (Post W SS H0 Xw σ F H δ Q) := h3
    unfold evsV at h3'
    rw [bind_assoc] at h3'
    have s13 := (Stp.grow g1).trans st3
    refine tR_bindE E s13 E3 h3' fun o δ4 y F4 H4 st4 E4 q4 h4 => ?_
    rw [bind_assoc] at h4
    have no3 : ∀ i : Nat, isOwn δ3 i → σ[i]? ≠ some (some (.ref p)) := fun i hi => no i (s13.own i hi)
    have l4 : H4 p = some (dObj p newD) := st4.same p _ nA no3 l2
    obtain ⟨vd, F5, δ5, st5, E5, r5, h5⟩ := fz_inv st4 E4 q4 h4
    have h5' : ((match dctOf t [D.tup [kd, vd]] [] with
      | some kvs => EvM.pure (.f (.dct t kvs))
      | none => EvM.bad : EvM Op) δ5).wp (Post W SS H0 Xw σ F H δ Q) := h5
    have ed : dctOf t [D.tup [kd, vd]] [] = dput t [] kd vd := by
      show (match pairD (D.tup [kd, vd]) with
        | some p => match dput t [] p.1 p.2 with
          | some acc' => dctOf t [] acc'
          | none => none
        | none => none) = _
      show (match dput t [] kd vd with
          | some acc' => dctOf t [] acc'
          | none => none) = _
      cases dput t [] kd vd <;> rfl
    rw [ed] at h5'
    cases hp : dput t [] kd vd with
    | none => rw [hp] at h5'; exact h5'.elim
    | some kvs =>
      rw [hp] at h5'
      obtain ⟨p1, p2, rfl⟩ := dput_inv hp
      have s15 := s13.trans st5
      have no5 : ∀ i : Nat, isOwn δ5 i → σ[i]? ≠ some (some (.ref p)) := fun i hi => no i (s15.own i hi)
      have nF5 : F5 p = none := by
        cases z : F5 p with
        | none => rfl
        | some o' =>
          rcases s15.new p o' z with q | q | ⟨i, hi, q⟩ | hI
          · rw [nF] at q; cases q
          · have := E5.sub _ _ z
            have e5 : F5 p = some o' := z
            rcases st5.new p o' e5 with q' | q' | ⟨i, hi, q'⟩ | hI
            · have q3 : F3 p = some o' := q'
              rcases st3.new p o' q3 with q4' | q4' | ⟨i, hi, q4'⟩ | hI
              · rw [nF] at q4'; cases q4'
              · rw [upd_same] at q4'; cases q4'
              · exact absurd q4' (no i hi)
              · rw [l4] at this; rw [← Option.some.inj this] at hI; exact absurd hI cN
            · rw [l2] at q'; cases q'
            · exact absurd q' (no3 i hi)
            · rw [l4] at this; rw [← Option.some.inj this] at hI; exact absurd hI cN
          · exact absurd q (no i hi)
          · have := E5.sub _ _ z
            rw [l4] at this; rw [← Option.some.inj this] at hI; exact absurd hI cN
      refine ⟨SS, F5, kd, vd, E5.sub, l4, p1, Rep.mono st5.sub _ _ r3, r5, fun ob hd => ?_⟩
      have E6 : EnvOk W SS H0 F5 (upd H4 p (dObj p ob)) σ δ5 := E5.mutD nF5 nA n0 no5 fun u hu' => by
        rw [l4] at hu'; cases hu'
        exact cont_dct rfl
      have s16 : Stp SS σ F H δ F5 (upd H4 p (dObj p ob)) δ5 := s15.mutD n
      obtain ⟨es, ep, g⟩ := hd
      exact h5' (.ref p) F5 _ s16 E6 ⟨⟨⟨p, _, rfl, n0, nF5, nA, upd_same, ob, es, ep, rfl, g⟩, no5⟩, fun _ _ => ⟨p, rfl, n⟩⟩
  refine pairTrees_cons_walk (thn (hk.run pins _ σ _ _ J1 key) fun u s2 ⟨x, H2, I2, rx, q2⟩ => thn (hv.run pins s2 σ H2 _ I2 q2) fun w2 s3 ⟨y, H4, I3, ry, q3⟩ => pairTrees_nil_walk ?_)
  obtain ⟨SS, F5, kd, vd, hs, l4, p1, r3, r5, fin⟩ := q3
  have hu := G.hu
  unfold storeAll
  rw [List.forIn_cons]
  refine wpAny_bind (wpAny_bind (dd_cset (by omega) I3 G.hP G.hw G.hK hs l4 (newD_ok hm) p1 r3 rx r5 ry (by rw [sizeLine_eq]; decide) fun ob s4 hd I4 => wpAny_pure ?_))
  simp only [List.forIn_nil]
  exact wpAny_pure ⟨.ref p, _, I4, rfl, fin ob hd⟩⟩
end
end T
end
section
set_option Elab.async false
set_option linter.all false
set_option autoImplicit false
set_option maxRecDepth 100000
/-! xs[::-1] of a list, of a tuple -/
namespace T
open PySem PySem.Spec PyProof.Rows L2
section
variable {prog : Program} {w : World} {A : Around} {E : Value → Shared → Prop} {s : Shared}
theorem applied_rev {sl : Addr} {t : Tok} {n : Nat} {Q : Int × Int × Nat → Shared → Prop} (hs : s.heap.IsSliceOf sl .none .none (.int (-1) t)) (h : Q ((n : Int) - 1, -1, n) s) : wpAny (model prog w) A (Builtin.Slice.sliceApplied (.ref sl) (pure (n : Int))) Q E s := by
  obtain ⟨os, hos, hcs, hds⟩ := id hs
  unfold Builtin.Slice.sliceApplied Builtin.Slice.sliceFields
  refine wpAny_bind (wpAny_bind (wpAny_field hos hds (x := .none) rfl (wpAny_bind (wpAny_field hos hds (x := .none) rfl (wpAny_bind (wpAny_field hos hds (x := .int (-1) t) rfl (wpAny_pure ?_)))))))
  refine wpAny_bind (HT.slicePart_ (IsPart.int (-1) t) ?_)
  show wpAny _ _ (if ((-1 : Int) == 0) = true then _ else _) _ _ s
  rw [if_neg (by decide)]
  refine wpAny_bind (HT.slicePart_ .none (wpAny_bind (HT.slicePart_ .none (wpAny_bind (wpAny_pure ?_)))))
  have e : Builtin.Slice.slicePlaces ((n : Int) - 1) (-1) (-1) = n := by
    unfold Builtin.Slice.slicePlaces
    rw [if_neg (by decide)]
    by_cases h : (n : Int) - 1 > -1
    · rw [if_pos h]
      have : (n : Int) - 1 - -1 - 1 = (n : Int) - 1 := by omega
      rw [this, show (- -1 : Int) = 1 by decide, Int.ediv_one]
      omega
    · rw [if_neg h]; omega
  show wpAny _ _ (pure ((n : Int) - 1, (-1 : Int), Builtin.Slice.slicePlaces ((n : Int) - 1) (-1) (-1))) _ _ s
  rw [e]
  exact wpAny_pure h
theorem pick_rev (xs : Array Value) : ((List.range xs.size).filterMap fun (m : Nat) => xs[(((xs.size : Int) - 1) + (m : Int) * -1).toNat]?).toArray = xs.toList.reverse.toArray := by
  have h := PySem.W.krv_pick xs
  unfold slicePick at h
  rw [PySem.W.krv_bounds] at h
  have h2 : ((sliceRange ((xs.size : Int) - 1) (-1) (-1)).filterMap (xs[·]?)).toArray = xs.toList.reverse.toArray := h
  rw [PySem.W.krv_sliceRange, List.filterMap_map] at h2
  rw [← h2]
  have e : ∀ l : List Nat, (∀ m ∈ l, m < xs.size) → (l.filterMap fun (m : Nat) => xs[(((xs.size : Int) - 1) + (m : Int) * -1).toNat]?) = l.filterMap ((fun x => xs[x]?) ∘ fun k => xs.size - 1 - k) := fun l => by
    induction l with
    | nil => intro _; rfl
    | cons m r ih =>
      intro hl
      have hm := hl m (by simp)
      have e1 : (((xs.size : Int) - 1) + (m : Int) * -1).toNat = xs.size - 1 - m := by omega
      rw [List.filterMap_cons, List.filterMap_cons, ih fun k hk => hl k (by simp [hk]), e1]
      rfl
  rw [e _ fun m hm => List.mem_range.mp hm]
theorem getItem_tuple_rev {t sl : Addr} {items : Array Value} {tk : Tok} {Q : Value → Shared → Prop} (ht : IsTup s.heap t items) (hs : s.heap.IsSliceOf sl .none .none (.int (-1) tk))
    (h : Q (.ref s.heap.objs.size) { s with heap := s.heap.push { cls := .type "tuple", data := .seq items.toList.reverse.toArray } }) (hsz : items.size ≤ sizeLine) : wpAny (model prog w) A (getItem (.ref t) (.ref sl)) Q E s := by
  have htake : sizeOk (.seq items.toList.reverse.toArray) := by
    show items.toList.reverse.toArray.size ≤ sizeLine
    rw [List.size_toArray, List.length_reverse, Array.length_toList]
    exact hsz
  obtain ⟨os, hos, hcs, hds⟩ := id hs
  have hTs : s.TypeIs (.ref sl) "slice" := ⟨os, hos, hcs⟩
  unfold getItem
  try with_reducible refine wpAny_holding ?_
  first | refine wpAny_bind (wpAny_pure ?_) | skip
  refine wpAny_bind (wpAny_sequenceKey ht.typeIs (by decide) ?_)
  refine wpAny_bind (wpAny_callSpecial?_slot (name := Str.ofString "__getitem__") ht.typeIs PyProof.Rows.slot_tuple_getitem
    (wpAny_call_entry PyProof.Rows.slot_tuple_getitem ht.typeIs entry_tuple_getitem ?_ (args_tuple_getitem _ _)))
  show wpAny _ _ (Builtin.Tuple.tupleItemsOf (.ref t) >>= _) _ _ s
  refine wpAny_bind (tupleItemsOf_ ht ?_)
  refine wpAny_bind (wpAny_typeOf hTs ?_)
  rw [if_pos (by decide)]
  refine wpAny_bind (applied_rev hs ?_)
  show wpAny _ _ (if (((items.size : Int) - 1) == 0 && (-1 : Int) == 1 && items.size == items.size) = true then _ else _) _ _ s
  rw [if_neg (by simp), pick_rev]
  first
    | exact wpAny_bind (m := Builtin.Tuple.tupleExact _) (wpAny_newObj_type (wpAny_pure ⟨_, rfl, wpAny_pure h⟩) htake)
    | exact wpAny_bind (m := Builtin.Tuple.tupleExact _) (wpAny_newObj_type (wpAny_bind (wpAny_pure (wpAny_pure ⟨_, rfl, wpAny_pure h⟩))) htake)
    | exact wpAny_bind (wpAny_bind (m := Builtin.Tuple.tupleExact _) (wpAny_newObj_type (wpAny_pure (wpAny_pure ⟨_, rfl, wpAny_pure h⟩)) htake))
    | exact wpAny_bind (wpAny_bind (m := Builtin.Tuple.tupleExact _) (wpAny_newObj_type (wpAny_pure ⟨_, rfl, wpAny_pure h⟩) htake))
end
section
variable {X : Cx} {W : Wd} {H0 : Hp} {Xw : WX} {S : Sig} {ev : Ex → EvM Op} {a : Expr} {ea : Ex} {pos : Pos}
/-- e[::-1] -/
theorem pd_rev {k : Nat} {p1 p2 p3 : Pos} (hK : X.K = W.K) (ha : PD X W H0 Xw a (ev ea)) : PD X W H0 Xw (.Subscript a (.Slice none none (some (.UnaryOp .USub (.Constant (.int 1) k p1) p2)) p3) pos) (stepE S ev (.rev ea)) := by
  refine ⟨fun pins s σ H Q I ⟨SS, F, δ, E, h⟩ => ?_⟩
  have h' : (((evD ev ea).bind fun x => EvM.opt (revD x)) δ).wp (Post W SS H0 Xw σ F H δ Q) := h
  rw [evD_eq] at h'
  have key : tD W H0 Xw (ev ea) σ H fun x H1 => ∃ SS F dx op, Sub F H1 ∧ Con W SS F H1 dx x ∧ revD dx = some op ∧ Fin W SS F H1 op Q := by
    refine tR_bind rO_m E h' fun p δ1 x F1 H1 st1 I1 q1 h1 => ?_
    obtain ⟨d, l, h2⟩ := rd_inv h1
    obtain ⟨op, e, h3⟩ := opt_inv h2
    exact ⟨SS, F1, d, op, I1.sub, I1.look q1.1 l, e, fin_of I1 h3⟩
  refine Subscript_ (thn (ha.run pins s σ H _ I key) fun v s1 ⟨x, H1, I1, r1, SS, F, dx, op, hs, c, e, fin⟩ => ?_)
  have hst : PO X (some (.UnaryOp .USub (.Constant (.int 1) k p1) p2)) (tPart (tUn (rU fun i => .int (-i)) (tC (.int 1)))) := po_some (pe_un un_neg pe_int)
  refine wpAny_Slice (thn (po_none.run pins s1 σ H1 (fun o H2 => o = none ∧ H2 = H1) I1 ⟨rfl, rfl⟩) fun vl s2 ⟨l, H2, I2, pl, el, e2⟩ => ?_)
  subst el e2
  refine thn (po_none.run pins s2 σ H2 (fun o H3 => o = none ∧ H3 = H2) I2 ⟨rfl, rfl⟩) fun vu s3 ⟨u, H3, I3, pu, eu, e3⟩ => ?_
  subst eu e3
  refine thn (hst.run pins s3 σ H3 (fun o H4 => o = some (-1) ∧ H4 = H3) I3 ⟨1, rfl, -1, rfl, rfl, rfl⟩) fun vs s4 ⟨o, H4, I4, ps, eo, e4⟩ => ?_
  subst eo e4
  cases pl
  cases pu
  generalize ho : some (-1 : Int) = o1 at ps
  cases ps with
  | none => cases ho
  | int i tk =>
    cases ho
    have I5 : Inv X pins σ H4 { s4 with heap := s4.heap.push { cls := .type "slice", data := .fields #[.none, .none, .int (-1) tk] } } := I4.kept (t' := s4.toks) fun b ob q => Heap.get?_push_of_some _ q
    cases dx <;> try (cases e; done)
    case lst xs =>
      cases (Option.some.inj e)
      obtain ⟨a', vs, rfl, hH, r⟩ := con_lst hs c
      cases r1
      obtain ⟨its, rv, ht, hz⟩ := I5.list (SqL.of (K := X.K) hH)
      have hlen := rv.length
      show wpAny (model X.prog X.w) X.A (subscriptTail a (.Slice none none (some (.UnaryOp .USub (.Constant (.int 1) k p1) p2)) p3) (.ref a') (.ref s4.heap.objs.size)) (EP X pins σ Q) X.xe { s4 with heap := s4.heap.push { cls := .type "slice", data := .fields #[.none, .none, .int (-1) tk] } }
      refine tail_any (ops := [.ref a', .ref s4.heap.objs.size]) ht.isList.typeIs (PySem.slot_list_getitem.lookup) ?_ (by with_unfolding_all rfl)
      refine wpAny_getItem_list_slice ht.isList (Heap.IsSliceOf.new _ .none .none (.int (-1) tk)) .none .none (.int (-1) tk) (by decide) ?_ (by rw [List.size_toArray]; omega)
      rw [PySem.W.krv_pick]
      refine ⟨.ref _, _, I5.laid (t' := s4.toks) (o := .lst vs.reverse) (fun b ob q => Heap.get?_push_of_some _ q) (Nat.le_refl _) ?_, rfl, fin.lst hs r.reverse (I5.hok.fresh (Nat.le_refl _))⟩
      exact ⟨by rw [List.length_reverse]; exact hz, _, 0, rv.reverse, Heap.get?_push_size _ rfl⟩
    case tup xs =>
      cases (Option.some.inj e)
      obtain ⟨a', vs, rfl, hF, hH, r⟩ := con_tup hs c
      cases r1
      obtain ⟨its, rv, ht, hz⟩ := I5.tuple (hK ▸ hH)
      have hlen := rv.length
      show wpAny (model X.prog X.w) X.A (subscriptTail a (.Slice none none (some (.UnaryOp .USub (.Constant (.int 1) k p1) p2)) p3) (.ref a') (.ref s4.heap.objs.size)) (EP X pins σ Q) X.xe { s4 with heap := s4.heap.push { cls := .type "slice", data := .fields #[.none, .none, .int (-1) tk] } }
      refine tail_any (ops := [.ref a', .ref s4.heap.objs.size]) ht.typeIs (PyProof.Rows.slot_tuple_getitem.lookup) ?_ (by with_unfolding_all rfl)
      refine getItem_tuple_rev ht (Heap.IsSliceOf.new _ .none .none (.int (-1) tk)) ?_ (by rw [List.size_toArray]; omega)
      refine ⟨.ref _, _, I5.laid (t' := s4.toks) (o := .tup vs.reverse) (fun b ob q => Heap.get?_push_of_some _ q) (Nat.le_refl _) ?_, rfl, fin.tup hs r.reverse (I5.hok.fresh (Nat.le_refl _))⟩
      exact ⟨by rw [List.length_reverse]; exact hz, _, rv.reverse, IsTup.new _ _⟩
end
end T
end
section
set_option Elab.async false
set_option linter.all false
set_option autoImplicit false
set_option maxRecDepth 100000
/-! what printed proofs lean on -/
namespace T
open PySem PySem.Spec PyProof.Rows L2
/-- an exception class of the text, made with a text alone -/
structure XF (K : PySem.W.Frag) (mg : Str → Option Value) (x : Str) : Prop where
  gl : mg x = some (.ref (He.ga K x))
  ex : PySem.W.excIn K (He.ga K x) He.veBase "ValueError.__new__" = true
  kp : PySem.W.keepIn K (.ref (He.ga K x)) = true
  sb : PySem.W.subIn K (.ref (He.ga K x)) (.type "BaseException") = some true
  ty : PySem.W.typeIn K (.ref (He.ga K x)) = some (.type "type")
theorem XF.of {K : PySem.W.Frag} {h : Heap} {mg : Str → Option Value} {x : Str} (X : K.In h) (G : h.Ns mainGlobals mg) (c1 : (He.Fa.glo x).ok K = true) (c2 : (He.Fa.exc x).ok K = true) : XF K mg x :=
  ⟨He.glo_ok X G c1, (He.exc_ok c2).1, (He.exc_ok c2).2.1, (He.exc_ok c2).2.2.1, (He.exc_ok c2).2.2.2⟩
section
variable {X : Cx} {W : Wd} {H0 : Hp} {Xw : WX} {S : Sig} {gas : Nat} {ev : Ex → EvM Op} {ex : Stm → EvM Fl} {pos : Pos}
theorem psd_rz {k : Nat} {x m : Str} {j : Nat} {p p2 p3 : Pos} (h : XF X.K X.mg x) (tk : Takes X Xw) (hc : X.calm = true := by rfl) (hcl : W.cl k = He.ga X.K x := by rfl) (hg : Gl X x := by rfl) (hS : S.exc k [] = some ⟨k, []⟩ := by rfl) (hdb : (x == ("__debug__" : Str)) = false := by decide) :
    PSD X W H0 Xw (.Raise (some (.Call (.Name x p) [.Constant (.str m) j p2] [] p3)) none pos) (stepS S gas ev ex (.raise k [])) :=
  psd_raise0 hc tk PySem.F.excBase_ValueError (by rw [hcl]; exact h.ex) (by rw [hcl]; exact h.gl) (by rw [hcl]; exact h.kp) (by rw [hcl]; exact raises_own h.sb h.ty) hg hS hdb
theorem pgdn (i : Nat) {x : Str} {pos : Pos} (hN : X.N.Nodup) (hi : X.N[i]? = some x := by rfl) (hx : Loc X.env.scope x := by first | exact Or.inl rfl | exact Or.inr rfl) (hf : X.fn x = true ∨ X.env.scope.names.lookup x = some .local := by first | exact .inl rfl | exact .inr rfl) : PG X (.Name x pos) (tG W H0 (.n i)) := pgd_name hN hi hx hf
end
/-- a def of the top, from its body -/
theorem okg {W : Wd} {P : Program} {w : World} {K : PySem.W.Frag} {mg : Str → Option Value} {base : Heap} {k n : Nat} {x : Str} {params : Arguments} {body : List Stmt} {scope : Scope} {N ps : List Str} {S : Sig} {gas : Nat} {b : List Stm}
    (F : ∃ fd, FunD K x x params body scope [] [] (He.ga K x) fd) (gl : mg x = some (.ref (He.ga K x))) (Sc : FnScope N ps scope)
    (hbd : ∀ (kV doc pm : Value) (an : Option Addr) (cdv ct : Value) (us : List Value), us.length = ps.length → bindArgs (PySem.W.fnOf x x params body scope .none kV doc pm an cdv ct) ⟨us, []⟩ = pure (ps.zip us))
    (hn : N.length = n)
    (hb : ∀ (f : Addr) (cdv : Value) (A : Around) (outer : List PySem.Env) (s : Shared) (H : Hp) (E : XK), Room k (A.deeper (envOfC x scope s.heap.objs.size f cdv)) → Takes (cxOf (L2.CX P w) P w K mg base N x scope f cdv A outer s H E) (fun c d _ H' => E c d H') →
      PassesOwn (model P w) (A.deeper (envOfC x scope s.heap.objs.size f cdv)) (envOfC x scope s.heap.objs.size f cdv) (cxOf (L2.CX P w) P w K mg base N x scope f cdv A outer s H E).xe → PSsD (cxOf (L2.CX P w) P w K mg base N x scope f cdv A outer s H E) W H (fun c d _ H' => E c d H') body (bodyM S gas b)) :
    Okf P w K mg base x (k + 1) ps (spD W ps.length (defM S gas n b)) := by
  rw [← hn]
  exact okf F gl Sc hbd fun f cdv A outer s H Q E hr => hb f cdv A outer s H E hr (takes_of rfl rfl rfl rfl) (passes_of rfl)
end T
end
section
set_option Elab.async false
set_option linter.all false
set_option autoImplicit false
set_option maxRecDepth 100000
/-! lambdas without parameters, kept in a list -/
namespace T
open PySem PySem.Spec PyProof.Rows L2 LamX
section
variable {X : Cx} {pins : List (Addr × Obj)} {σ : L2.St} {H : Hp} {s : Shared}
theorem lamO_ok {P : Program} {w : World} {H : Hp} {h : Heap} {f : Addr} {l : LamD} {cl : List (Str × Addr)} {pm ct : Value} {c : Addr} (e : h.get? f = some (PySem.W.kla_obj "<lambda>" l.qual l.params l.body l.scope cl pm c ct)) : ObjOk P w H h f (lamO f l cl pm c ct) :=
  ⟨e, ⟨_, e⟩, fun h1 h2 a st => st _ a⟩
/-- the lambda is made, its function known from now on; what else is written: the table, a code object -/
theorem lam_makeD {T : List (Addr × Str)} {c P : Addr} {l : LamD} {pos : Pos} {E : Value → Shared → Prop} {Q : Value → Shared → Prop} (I : Inv X pins σ H s) (TB : TabB X.base X.mg c P) (hcode : X.env.code = .ref c) (hq : l.qual = X.env.qual ++ "<lambda>")
    (hm : (P, l.qual) ∈ T) (hu : ∀ p ∈ T, p.1 = P → p.2 = l.qual) (hT : Tabs T H) (hdef : defaultsOf l.params X.env = ([], [])) (hfree : ∀ y ∈ l.scope.names, y.2 = .free → ∃ c, X.env.cells.lookup y.1 = some c)
    (h : ∀ (f c' : Addr) (pm ctv : Value) (H1 : Hp) (s' : Shared), Inv X pins σ (upd H1 f (lamO f l (cloFrom X.env.cells l.scope.names []) pm c' ctv)) s' → (∀ b, b ≠ P → b ≠ c' → H1 b = H b) → (∃ ps, H1 P = some (.tbl ps)) → Tabs T H1 → (H c' = none ∨ H c' = some (CodeO c' l.qual)) → H1 c' = some (CodeO c' l.qual) → H1 f = none → Q (.ref f) s') :
    wpAny (model X.prog X.w) X.A (eval (.Lambda l.params l.body l.scope pos) X.env) Q E s := by
  obtain ⟨ps, hP, ht, ha⟩ := hT _ hm
  refine PySem.W.kla_eval hdef ?_
  have bP : s.heap.BuiltinsAt X.mg P := TB.bm.keeps I.bk
  have hP' : s.heap.get? P = some { cls := .none, data := .fields ps } := I.hok P _ hP
  cases hc : codeAmong pos ps.toList with
  | none =>
    refine PySem.W.kla_makeFunction (mg := X.mg) (c := c) (P := P) (ps := ps) (closure_ok hfree) I.ok.glob (I.mod.glob.keeps I.bk) hcode (TB.code.keeps I.bk) hP' ht hc TB.gP bP fun c' ctv h' tk hx hge hlt hrec htb => ?_
    obtain ⟨c2, oc, vs, t, e2, hoc, hd, hv⟩ := hrec
    cases e2
    rw [← hq] at hv ⊢
    have hsz : s.heap.objs.size ≤ h'.objs.size := Nat.le_trans hge (Nat.le_of_lt hlt)
    have nC : H c' = none := I.hok.fresh hge
    have I1 : Inv X pins σ (upd (upd H P (.tbl (ps ++ #[rawInt pos.line, rawInt pos.col, .ref c']))) c' (CodeO c' l.qual)) { s with heap := h', toks := tk } :=
      inv_table (t' := tk) (more := #[rawInt pos.line, rawInt pos.col, .ref c']) (h' := h') I hP (fun b o hb e => hx b o hb e) htb hge ⟨oc, vs, t, hoc, hd, hv⟩
    generalize hH1 : upd (upd H P (.tbl (ps ++ #[rawInt pos.line, rawInt pos.col, .ref c']))) c' (CodeO c' l.qual) = H1 at I1
    have hE : ∀ b, b ≠ P → b ≠ c' → H1 b = H b := fun b h1 h2 => by rw [← hH1, upd_ne h2, upd_ne h1]
    have nPc : P ≠ c' := ne_of_none hP nC
    have eP : H1 P = some (.tbl (ps ++ #[rawInt pos.line, rawInt pos.col, .ref c'])) := by rw [← hH1, upd_ne nPc, upd_same]
    have eC : H1 c' = some (CodeO c' l.qual) := by rw [← hH1, upd_same]
    have nF : H1 h'.objs.size = none := I1.hok.fresh (Nat.le_refl _)
    have eL : (ps ++ #[rawInt pos.line, rawInt pos.col, .ref c']).toList = ps.toList ++ [rawInt pos.line, rawInt pos.col, .ref c'] := by simp
    have keepC : ∀ {c0 : Addr} {q : Str}, H c0 = some (CodeO c0 q) → H1 c0 = some (CodeO c0 q) := fun {c0 q} e => by
      rw [hE c0 (fun z => by rw [z, hP] at e; exact codeO_ne ps (Option.some.inj e).symm) (ne_of_none e nC)]; exact e
    refine h h'.objs.size c' ((X.mg "__name__").getD .none) ctv H1 _ (I1.laid (t' := tk) (fun b o e => Heap.get?_push_of_some _ e) (Nat.le_refl _) (lamO_ok (Heap.get?_push_size _ rfl))) hE ⟨_, eP⟩ (fun p hp => ?_) (.inl nC) eC nF
    by_cases hb : p.1 = P
    · rw [hu p hp hb, hb]
      refine ⟨_, eP, by rw [eL]; exact PySem.TriplesOk_snoc _ _ _ _ ht, fun p' cv hcv => ?_⟩
      rw [eL] at hcv
      rcases among_app _ ht hcv with z | z
      · obtain ⟨c0, e1, e2⟩ := ha p' cv z
        exact ⟨c0, e1, keepC e2⟩
      · exact ⟨c', z, eC⟩
    · obtain ⟨ps', a1, a2, a3⟩ := hT p hp
      refine ⟨ps', by rw [hE _ hb (ne_of_none a1 nC)]; exact a1, a2, fun p' cv hcv => ?_⟩
      obtain ⟨c0, e1, e2⟩ := a3 p' cv hcv
      exact ⟨c0, e1, keepC e2⟩
  | some cv =>
    obtain ⟨c', e, hco⟩ := ha pos cv hc
    subst e
    refine PySem.W.kla_makeFunctionHit (mg := X.mg) (c := c) (P := P) (ps := ps) (closure_ok hfree) I.ok.glob (I.mod.glob.keeps I.bk) hcode (TB.code.keeps I.bk) hP' ht hc bP fun ctv h' tk hx hsz => ?_
    rw [← hq]
    have I1 : Inv X pins σ H { s with heap := h', toks := tk } := I.kept fun b o e => hx b o e
    exact h h'.objs.size c' ((X.mg "__name__").getD .none) ctv H _ (I1.laid (t' := tk) (fun b o e => Heap.get?_push_of_some _ e) (Nat.le_refl _) (lamO_ok (Heap.get?_push_size _ rfl))) (fun _ _ _ => rfl) ⟨_, hP⟩ hT (.inr hco) hco (I1.hok.fresh (Nat.le_refl _))
end
section
variable {X : Cx} {W : Wd} {H0 : Hp} {Xw : WX} {S : Sig} {ev : Ex → EvM Op} {pos : Pos}
/-- lambda: body -/
theorem pd_lam {n : Nat} {c P : Addr} {params : Arguments} {body : Expr} {scope : Scope} (TB : TabB X.base X.mg c P) (hcode : X.env.code = .ref c) (hl : W.lam n = ⟨X.env.qual ++ "<lambda>", params, body, scope⟩) (hm : (P, X.env.qual ++ "<lambda>") ∈ W.tb) (hu : ∀ p ∈ W.tb, p.1 = P → p.2 = X.env.qual ++ "<lambda>")
    (L : LamS X.env.scope scope) (hcl : S.cl n = cloFrom X.env.cells scope.names []) (hdef : defaultsOf params X.env = ([], []) := by rfl) : PD X W H0 Xw (.Lambda params body scope pos) (stepE S ev (.lam n)) := by
  refine ⟨fun pins s σ H Q I ⟨SS, F, δ, E, h⟩ => ?_⟩
  have h' : Post W SS H0 Xw σ F H δ Q (.ok (.v (.clo n (S.cl n))) δ) := h
  have eT : SS.tb = W.tb := E.tab.1
  refine lam_makeD (T := SS.tb) (l := ⟨X.env.qual ++ "<lambda>", params, body, scope⟩) I TB hcode rfl (by rw [eT]; exact hm) (by rw [eT]; exact hu) E.tab.2.1 hdef (L.has I.ok) fun f c' pm ctv H1 s' I1 hE hP1 hT1 hc0 hc1 hf1 => ?_
  refine ⟨.ref f, _, I1, rfl, ?_⟩
  have aP : P ∈ addrs SS := List.mem_append_left _ (List.mem_map.mpr ⟨(P, X.env.qual ++ "<lambda>"), by rw [eT]; exact hm, rfl⟩)
  have hPt : ∃ ps, H P = some (.tbl ps) := by
    obtain ⟨ps, e, _⟩ := E.tab.2.1 (P, X.env.qual ++ "<lambda>") (by rw [eT]; exact hm)
    exact ⟨ps, e⟩
  obtain ⟨psP, hPt⟩ := hPt
  have cP : c' ≠ P := fun z => by
    obtain ⟨ps, e⟩ := hP1
    rw [z, e] at hc1
    exact codeO_ne ps (Option.some.inj hc1).symm
  have keep : ∀ b o, b ≠ P → H b = some o → H1 b = some o := fun b o hb e => by
    by_cases z : b = c'
    · subst z
      rcases hc0 with q | q
      · rw [q] at e; cases e
      · rw [q] at e; cases e; exact hc1
    · rw [hE b hb z]; exact e
  have nfH : ∀ b o, H b = some o → b ≠ f := fun b o e z => by
    by_cases hb : b = P
    · subst hb
      obtain ⟨ps, e2⟩ := hP1
      rw [z, hf1] at e2; cases e2
    · have := keep b o hb e
      rw [z, hf1] at this; cases this
  have fH : H f = none := by
    cases z : H f with
    | none => rfl
    | some o => exact absurd rfl (nfH f o z)
  have cf : c' ≠ f := ne_of_none hc1 hf1
  have fF : F f = none := (E.fresh fH).1
  have fA : f ∉ addrs SS := (E.fresh fH).2
  let lo := lamO f ⟨X.env.qual ++ "<lambda>", params, body, scope⟩ (cloFrom X.env.cells scope.names []) pm c' ctv
  let F' := upd (upd F c' (CodeO c' (X.env.qual ++ "<lambda>"))) f lo
  have nPF : F P = none := E.tab.2.2 (P, X.env.qual ++ "<lambda>") (by rw [eT]; exact hm)
  have sF : Sub F F' := fun b o e => by
    show upd (upd F c' _) f lo b = some o
    rw [upd_ne (fun z => by rw [z, fF] at e; cases e)]
    by_cases z : b = c'
    · subst z
      rw [upd_same]
      have := E.sub _ _ e
      rcases hc0 with q | q
      · rw [q] at this; cases this
      · rw [q] at this; exact this
    · rw [upd_ne z]; exact e
  have sFH : Sub F' (upd H1 f lo) := fun b o e => by
    have e : upd (upd F c' (CodeO c' (X.env.qual ++ "<lambda>"))) f lo b = some o := e
    by_cases z : b = f
    · subst z; rw [upd_same] at e ⊢; exact e
    · rw [upd_ne z] at e ⊢
      by_cases z2 : b = c'
      · subst z2; rw [upd_same] at e; cases e; exact hc1
      · rw [upd_ne z2] at e
        exact keep b o (fun q => by rw [q, nPF] at e; cases e) (E.sub _ _ e)
  have all : ∀ b o, b ≠ P → H b = some o → upd H1 f lo b = some o := fun b o hb e => by
    rw [upd_ne (nfH b o e)]; exact keep b o hb e
  have newF : ∀ b o, F' b = some o → F b = some o ∨ H b = none ∨ Inert b o := fun b o e => by
    have e : upd (upd F c' (CodeO c' (X.env.qual ++ "<lambda>"))) f lo b = some o := e
    by_cases z : b = f
    · subst z; exact .inr (.inl fH)
    · rw [upd_ne z] at e
      by_cases z2 : b = c'
      · subst z2; rw [upd_same] at e; cases e; exact .inr (.inr (.inr ⟨_, rfl⟩))
      · rw [upd_ne z2] at e; exact .inl e
  have gone : ∀ b, upd H1 f lo b = none → H b = none := fun b e => by
    cases z : H b with
    | none => rfl
    | some o =>
      by_cases hb : b = P
      · subst hb
        obtain ⟨ps, e2⟩ := hP1
        rw [upd_ne (nfH _ _ z), e2] at e; cases e
      · rw [all b o hb z] at e; cases e
  have st : Stp SS σ F H δ F' (upd H1 f lo) δ := by
    refine ⟨sF, fun b o nb _ e => all b o (fun z => nb (z ▸ aP)) e, fun b o e => ?_, fun _ h => h, fun _ e h => ⟨e, h⟩, gone⟩
    rcases newF b o e with q | q | q
    · exact .inl q
    · exact .inr (.inl q)
    · exact .inr (.inr (.inr q))
  have noC : ∀ {a : Addr} {d : T.D} {o : HO} {F2 H2 : Hp}, H a = some o → TopO W SS F2 H2 a d o → F a = none → F' a = none := fun {a d o F2 H2} ha t hf => by
    cases z : F' a with
    | none => rfl
    | some y =>
      rcases newF a y z with q | q | q
      · rw [hf] at q; cases q
      · rw [ha] at q; cases q
      · have e1 := sFH _ _ z
        by_cases hb : a = P
        · subst hb
          rw [hPt] at ha
          cases ha
          exact absurd rfl ((topo_cont t).tbl psP)
        · rw [all a o hb ha] at e1
          cases e1
          exact absurd q (topo_cont t).not
  have E' : EnvOk W SS H0 F' (upd H1 f lo) σ δ := by
    refine ⟨fun b o nb e => all b o (fun z => nb (z ▸ aP)) (E.same b o nb e), sFH, fun p hp => ?_, E.nds, ⟨E.tab.1, fun p hp => ?_, fun p hp => ?_⟩, fun i e he => ?_, E.sep, E.len⟩
    · obtain ⟨⟨cells, i, j, h1, h2, h3⟩, h4, h5⟩ := E.sts p hp
      have n1 : p.1 ≠ P := fun z => by rw [z, hPt] at h1; cases h1
      have n2 : p.2 ≠ P := fun z => by rw [z, hPt] at h2; cases h2
      have nn : ∀ {b : Addr} {vs : List V}, H b = some (.lst vs) → F b = none → F' b = none := fun {b vs} hb hf => by
        cases z : F' b with
        | none => rfl
        | some y =>
          rcases newF b y z with q | q | q
          · rw [hf] at q; cases q
          · rw [hb] at q; cases q
          · have e1 := sFH _ _ z
            rw [all b _ (fun z => by rw [z, hPt] at hb; cases hb) hb] at e1
            cases e1
            exact absurd q cont_lst.not
      exact ⟨⟨cells, i, j, all _ _ n1 h1, all _ _ n2 h2, h3⟩, nn h1 h4, nn h2 h5⟩
    · refine (hT1 p hp).ext fun b o e => ?_
      rw [upd_ne (fun z => by rw [z, hf1] at e; cases e)]; exact e
    · obtain ⟨ps, e, _⟩ := hT1 p hp
      cases z : F' p.1 with
      | none => rfl
      | some y =>
        have z' : upd (upd F c' (CodeO c' (X.env.qual ++ "<lambda>"))) f lo p.1 = some y := z
        rw [upd_ne (fun q => by rw [q, hf1] at e; cases e)] at z'
        rw [upd_ne (fun q => by rw [q, hc1] at e; exact codeO_ne ps (Option.some.inj e)), E.tab.2.2 p hp] at z'
        cases z'
    · obtain ⟨v, hv, q⟩ := E.ent i e he
      refine ⟨v, hv, ?_⟩
      cases e with
      | val d => exact Rep.mono sF d v q
      | own d =>
        obtain ⟨a, o, e1, e2, e3, e4, e5, e6⟩ := q
        exact ⟨a, o, e1, e2, noC e5 e6 e3, e4, all a o (fun z => e4 (z ▸ aP)) e5, e6.mono sF fun dx hx => all dx _ (fun z => by rw [z, hPt] at hx; cases hx) hx⟩
      | bor d =>
        rcases q with q | ⟨a, o, e1, e2, e3, e4, e5⟩
        · exact .inl (Rep.mono sF d v q)
        · exact .inr ⟨a, o, e1, e2, e3, e4.mono sF fun dx h => h, e5⟩
  have r : Rep W SS F' (.clo n (S.cl n)) (.ref f) := by
    unfold Rep
    refine ⟨f, pm, c', ctv, rfl, ?_, ?_⟩
    · show upd (upd F c' _) f lo f = _
      rw [upd_same, hl, hcl]
    · show upd (upd F c' _) f lo c' = _
      rw [upd_ne cf, upd_same, hl]
  exact h' (.ref f) F' _ st E' ⟨r, fun _ e => by cases e⟩
end
end T
end
section
set_option Elab.async false
set_option linter.all false
set_option autoImplicit false
set_option maxRecDepth 100000
/-! a list of lambdas, each handed to a def that calls it -/
namespace T
open PySem PySem.Spec PyProof.Rows L2 LamX
section
variable {X : Cx}
/-- a list by comprehension, its element told of the state of the def around -/
theorem lc_coreM {pins : List (Addr × Obj)} {s : Shared} {σ : L2.St} {H : Hp} {Q : VK} {elt tg iter : Expr} {ifs : List Expr} {scope : Scope} {own : List (Str × Nat)} {pos pos' : Pos} {wi : TI} {g : TG} {tt : TT} {te : TE} {use : Option (Value → Sem Unit)} {Qf : Value → Shared → Prop}
    (hc : X.calm = true) (hN : X.N.Nodup) (I : Inv X pins σ H s) (hi : PI X tg iter wi) (ok : BlkOk X.N X.env.scope scope own)
    (hg : ∀ (s : Shared) (H : Hp) (C : Addr) (cl : List (Str × Addr)) (fp : List Addr), PG (X.blk s H scope (compEnvC scope cl C X.env) fp) tg g) (ht : ∀ (s : Shared) (H : Hp) (C : Addr) (cl : List (Str × Addr)) (fp : List Addr), PTs (X.blk s H scope (compEnvC scope cl C X.env) fp) ifs tt)
    (he : ∀ (s3 : Shared) (H3 : Hp) (C : Addr) (cl : List (Str × Addr)) (fp : List Addr), (∀ (pins' : List (Addr × Obj)) (σ' : L2.St) (H' : Hp) (s' : Shared), Inv (X.blk s3 H3 scope (compEnvC scope cl C X.env) fp) pins' σ' H' s' → Inv X pins σ H' s') →
      ∀ (pins8 : List (Addr × Obj)) (s8 : Shared) (σ8 : L2.St) (H8 : Hp) (Q8 : VK), wipe σ8 (own.map (·.2)) = wipe σ (own.map (·.2)) → Inv (X.blk s3 H3 scope (compEnvC scope cl C X.env) fp) pins8 σ8 H8 s8 → te σ8 H8 Q8 → wpAny (model X.prog X.w) X.A (eval elt (compEnvC scope cl C X.env)) (EP (X.blk s3 H3 scope (compEnvC scope cl C X.env) fp) pins8 σ8 Q8) (fun _ _ => False) s8) (hs : ∀ x, foldedSetIterable iter X.env x = pure x)
    (h : tLc wi g tt te (own.map (·.2)) σ H Q)
    (hRR : ∀ D C s' m H', Inv X pins σ H' s' → Q (.ref D) H' → s'.heap.Ns C m → FpOk X pins H' C → compPost (model X.prog X.w) X.A X.xe use Qf (.ref D) C (.ok .next) s') :
    wpAny (model X.prog X.w) X.A (comprehension (.ListComp elt [⟨tg, iter, ifs, 0⟩] scope pos) scope X.env pos' (newList []) false (eval iter X.env) use) Qf X.xe s := by
  have hfree : ∀ y ∈ scope.names, y.2 = .free → ∃ c, X.env.cells.lookup y.1 = some c := fun y hy e => by
    rcases ok.free y hy e with k | k
    · exact I.ok.has _ (.inl k)
    · exact I.ok.has _ (.inr k)
  refine wpAny_comprehension_free (use := use) rfl hs (closure_ok hfree) ok.kind (fun y hy e => by rw [ok.uniq y hy, e])
    (thn (hi.run pins s σ H _ I h) fun xv s1 hx => thn hx fun itv s2 h2 => ?_)
  obtain ⟨it, fp, tn, J, H2, e, I2, T, st2, f2, q⟩ := h2
  subst e
  refine wpAny_newObj_type (newEnv_comp ?_) (by show 0 ≤ sizeLine; decide)
  generalize hD : s2.heap.objs.size = D
  have hDn : H2 D = none := I2.hok.fresh (Nat.le_of_eq hD)
  obtain ⟨W, ⟨m0, w0⟩, turn⟩ := q D hDn
  -- the new list
  generalize hs3 : ({ s2 with heap := s2.heap.push { cls := .type "list", data := .seq ([] : List Value).toArray } } : Shared) = s3
  have I3 : Inv X pins σ (upd H2 D (.lst [])) s3 := by
    rw [← hs3]
    refine I2.laid (t' := s2.toks) (fun b o e => Heap.get?_push_of_some _ e) (Nat.le_of_eq hD) ⟨Nat.zero_le _, [], 0, .nil, ?_⟩
    rw [← hD]
    exact Heap.get?_push_size _ rfl
  have h3 : s3.heap = s2.heap.push { cls := .type "list", data := .seq ([] : List Value).toArray } := by rw [← hs3]
  have sz : ∀ b ∈ fp, b < s2.heap.objs.size := fun b hb => by
    obtain ⟨o, e, _⟩ := T.obj _ _ st2 b hb
    exact Heap.lt_size e
  have f3 : ∀ b ∈ fp, FpOk X pins (upd H2 D (.lst [])) b ∧ b < s3.heap.objs.size := fun b hb => by
    have hlt := sz b hb
    refine ⟨⟨?_, (f2 b hb).2⟩, by rw [h3, Heap.size_push]; exact Nat.lt_succ_of_lt hlt⟩
    rw [upd_ne (by rw [← hD]; exact Nat.ne_of_lt hlt)]
    exact (f2 b hb).1
  have st3 : tn 0 s3.heap := T.keep _ _ _ st2 fun b _ o e => by rw [h3]; exact Heap.get?_push_of_some _ e
  have I4 := block_start I3 ok hN f3
  have pg := hg s3 (upd H2 D (.lst [])) s3.heap.objs.size (cellsFrom (s3.heap.objs.size + 1) scope.names (cloFrom X.env.cells scope.names [])) fp
  have pt := ht s3 (upd H2 D (.lst [])) s3.heap.objs.size (cellsFrom (s3.heap.objs.size + 1) scope.names (cloFrom X.env.cells scope.names [])) fp
  have pe := he s3 (upd H2 D (.lst [])) s3.heap.objs.size (cellsFrom (s3.heap.objs.size + 1) scope.names (cloFrom X.env.cells scope.names [])) fp (fun pins' σ' H' s' I6 => I3.call' (ch := fp) I6.os I6.base I6.hok I6.bare fun b hb => ⟨(f3 b hb).1.2.2.2.1, (f3 b hb).1.2.1, (f3 b hb).1.2.2.2.2.1, (f3 b hb).1.2.2.2.2.2⟩)
  show codeAny _ _ (.compStart (.ListComp elt [⟨tg, iter, ifs, 0⟩] scope pos) 0 (.ref it) (.ref D) (compEnvC scope (cellsFrom (s3.heap.objs.size + 1) scope.names (cloFrom X.env.cells scope.names [])) s3.heap.objs.size X.env)) (compPost (model X.prog X.w) X.A X.xe use Qf (.ref D) s3.heap.objs.size) { s3 with heap := pushCells (s3.heap.push { cls := .type "dict", data := .dict #[] }) scope.names }
  have nfp : ∀ b ∈ fp, (upd H2 D (.lst [])) b = none := fun b hb => (f3 b hb).1.1
  generalize hce : compEnvC scope (cellsFrom (s3.heap.objs.size + 1) scope.names (cloFrom X.env.cells scope.names [])) s3.heap.objs.size X.env = ce at I4 pg pt pe ⊢
  have cL : ce.locals = s3.heap.objs.size := by subst hce; rfl
  generalize hH3 : upd H2 D (.lst []) = H3 at I3 I4 pg pt pe w0 nfp f3
  generalize hs4 : ({ s3 with heap := pushCells (s3.heap.push { cls := .type "dict", data := .dict #[] }) scope.names } : Shared) = s4 at I4 ⊢
  have st4 : tn 0 s4.heap := T.keep _ _ _ st3 fun b _ o e => by rw [← hs4]; exact pushCells_keeps _ _ _ _ (Heap.get?_push_of_some _ e)
  have stat : ∀ {σ' : L2.St} {H' : Hp} {s' : Shared}, Inv (X.blk s3 H3 scope ce fp) [] σ' H' s' → (∀ b ∈ fp, H' b = none) → ∀ b ∈ fp, FpOk (X.blk s3 H3 scope ce fp) [] H' b := fun {σ' H' s'} I' hn b hb =>
    ⟨hn b hb, (I'.ok.exf b hb).1, I'.ok.exfs b hb, .inl hb, fun x c e => (I'.ok.exf b hb).2 x c e, fun p hp => absurd (show p ∈ ([] : List (Addr × Obj)) ++ [] from hp) (by simp)⟩
  have loop : codeAny (model X.prog X.w) X.A (.compLoop (.ListComp elt [⟨tg, iter, ifs, 0⟩] scope pos) 0 (.ref it) (.ref D) ce) (compPost (model X.prog X.w) X.A X.xe use Qf (.ref D) s3.heap.objs.size) s4 := by
    refine compLoop_any (fun n s' => ∃ i H', Inv (X.blk s3 H3 scope ce fp) [] (wipe σ (own.map (·.2))) H' s' ∧ tn i s'.heap ∧ (∀ b ∈ fp, H' b = none) ∧ W i n H') ?_ m0 ⟨0, H3, I4, st4, nfp, w0⟩
    rintro n s5 ⟨i, H5, I5, st5, n5, w5⟩
    rcases turn i n H5 w5 with ⟨stop, qq⟩ | ⟨go, Nx, hNx, step⟩
    · have td := T.done (X.blk s3 H3 scope ce fp) rfl rfl rfl hc i [] s5 _ H5 (fun _ _ => False) I5 (stat I5 n5) st5 stop
      refine thnF td fun r s6 ⟨hr, I6⟩ => ?_
      subst hr
      -- back in the def's context
      have I7 : Inv X pins σ H5 s6 := I3.call' (ch := fp) I6.os I6.base I6.hok I6.bare fun b hb => ⟨(f3 b hb).1.2.2.2.1, (f3 b hb).1.2.1, (f3 b hb).1.2.2.2.2.1, (f3 b hb).1.2.2.2.2.2⟩
      have nC : H5 s3.heap.objs.size = none := by
        have z : H5 ce.locals = none := I6.free
        rw [cL] at z
        exact z
      obtain ⟨m, hn, _⟩ := I6.loc
      have hn : s6.heap.Ns ce.locals m := hn
      rw [cL] at hn
      exact hRR D s3.heap.objs.size s6 m H5 I7 qq hn (I3.fpOk (Nat.le_refl _) nC)
    · have ti := T.item (X.blk s3 H3 scope ce fp) rfl rfl rfl hc i [] s5 _ H5 (fun _ _ => False) I5 (stat I5 n5) st5 go
      refine thnF ti fun r s6 ⟨u, hr, h6⟩ => ?_
      subst hr
      refine thnF h6 fun _ s7 ⟨x, H7, I7, r7, y7, st7, n7⟩ => ?_
      have I7' := I7.pinned (stat I7 n7) (T.obj _ _ st7)
      refine thnF (pg.run _ s7 _ H7 x u _ I7' r7 (step x H7 y7)) fun _ s8 ⟨σ8, H8, I8, hw8, q8⟩ => ?_
      refine thnF (pt.run _ s8 σ8 H8 _ I8 q8) fun b s9 ⟨H9, I9, q9⟩ => ?_
      -- the turn's end
      have fin : ∀ {s' : Shared} {H' : Hp}, Inv (X.blk s3 H3 scope ce fp) ([] ++ pinsAt fp s7.heap) σ8 H' s' → Nx H' → ∃ m, m < n ∧ ∃ i H', Inv (X.blk s3 H3 scope ce fp) [] (wipe σ (own.map (·.2))) H' s' ∧ tn i s'.heap ∧ (∀ b ∈ fp, H' b = none) ∧ W i m H' := fun {s' H'} I' nx => by
        obtain ⟨m', hm, w'⟩ := hNx H' nx
        have pin' : ∀ b ∈ fp, ∀ o, s7.heap.get? b = some o → s'.heap.get? b = some o ∧ H' b = none := fun b hb o e =>
          let z := I'.pin (b, o) (List.mem_append_right _ (List.mem_append_right _ (mem_pinsAt hb e)))
          ⟨z.1, z.2.1⟩
        have hl : (wipe σ (own.map (·.2))).length = σ8.length := by rw [← hw8, wipe_length]
        refine ⟨m', hm, i + 1, H', (I'.unpinned (pins := [])).weak hl (fun j v e => ?_), T.keep _ _ _ st7 fun b hb o e => (pin' b hb o e).1, fun b hb => ?_, w'⟩
        · rw [← hw8] at e
          exact (wipe_some e).1
        · obtain ⟨o, e, _⟩ := T.obj _ _ st7 b hb
          exact (pin' b hb o e).2
      cases b with
      | false =>
        simp only [Bool.false_eq_true, if_false] at q9 ⊢
        exact fin I9 q9
      | true =>
        simp only [if_true] at q9 ⊢
        refine thnF (pe _ s9 σ8 H9 _ hw8 I9 q9) fun z s10 ⟨yv, H10, I10, r10, acc, hD10, hz10, nx⟩ => ?_
        exact app_ok (X := X.blk s3 H3 scope ce fp) I10 hD10 hz10 r10 fun s11 I11 => fin I11 nx
  exact codeAny_compStart_list loop (T.self X.A 0 _ _ _ st4 loop)
/-- x(), in the def that got the lambda; the function and its code object are known at the call -/
theorem pe_actK {pins : List (Addr × Obj)} {σ : L2.St} {H : Hp} {s : Shared} {CXg : CXT} {Eg : XK} {Ng : List Str} {qg : Str} {sg : Scope} {g : Addr} {cdg : Value} {params : Arguments} {body : Expr} {scope : Scope} {k i : Nat} {a : Str} {pn : List (Addr × Obj)} {xe : Value → Shared → Prop} {W : WX} {tb : XK → TE} {p1 p2 : Pos}
    (I : Inv X pins σ H s) (L : LamS X.env.scope scope)
    (hbind : ∀ (pm cv ctv : Value), bindArgs (PySem.W.kla_fn "<lambda>" (X.env.qual ++ "<lambda>") params body scope (cloFrom X.env.cells scope.names []) pm cv ctv) ⟨[], []⟩ = pure [])
    (tk : Takes ((cxOf CXg X.prog X.w X.K X.mg X.base Ng qg sg g cdg X.A X.stack s H Eg).tr pn xe) W) (hr : Room (k + 1) (X.A.deeper (envOfC qg sg s.heap.objs.size g cdg)))
    (hbody : ∀ (E : XK) (f c' : Addr) (A : Around) (outer : List PySem.Env) (s : Shared) (H : Hp), Room k (A.deeper (lamEnv X scope s.heap.objs.size f c')) → PE (lamCx X A outer s H E scope f c') body (tb E))
    (hN : Ng[i]? = some a) (hv : Vis sg a) (hd : (a == ("__debug__" : Str)) = false := by decide) (hcd : (a == ("__classdict__" : Str)) = false := by decide) :
    PE ((cxOf CXg X.prog X.w X.K X.mg X.base Ng qg sg g cdg X.A X.stack s H Eg).tr pn xe) (.Call (.Name a p1) [] [] p2)
      (fun σZ HZ Q => ∃ f pm c' ctv, σZ[i]? = some (some (.ref f)) ∧ HZ f = some (lamO f ⟨X.env.qual ++ "<lambda>", params, body, scope⟩ (cloFrom X.env.cells scope.names []) pm c' ctv) ∧ HZ c' = some (CodeO c' (X.env.qual ++ "<lambda>")) ∧ tb (fun cls d H' => W cls d σZ H') σ HZ Q) := by
  refine ⟨fun pinsZ sZ σZ HZ Q IZ ⟨f, pm, c', ctv, hs, hf, hc, ht⟩ => ?_⟩
  refine wpAny_Call_Name_kw (thn ((pe_var (pos := p1) (i := i) hN hv hd hcd).run pinsZ sZ σZ HZ (fun v H1 => v = .ref f ∧ H1 = HZ) IZ ⟨.ref f, hs, rfl, rfl⟩) fun u s1 ⟨v, H1, I1, r1, ev, eH⟩ => ?_)
  subst ev
  rw [eH] at I1
  obtain rfl : u = Value.ref f := r1
  have of1 : s1.heap.get? f = some (PySem.W.kla_obj "<lambda>" (X.env.qual ++ "<lambda>") params body scope (cloFrom X.env.cells scope.names []) pm c' ctv) := (I1.hok f _ hf).1
  refine PySem.W.callWith_F0 ⟨_, _, _, _, of1⟩ ?_
  obtain ⟨⟨oc, vs, t, hoc, hdc, hvc⟩, _, _⟩ := I1.hok c' _ hc
  have hx := passAt tk σZ
  refine wpAny_call (codeAny_mono (?rc : codeAny (model X.prog X.w) (X.A.deeper (envOfC qg sg s.heap.objs.size g cdg)) (.call (.ref f) ⟨[], []⟩) (CR (L2.CX X.prog X.w) (envOfC qg sg s.heap.objs.size g cdg :: X.stack) X.prog X.w HZ s1 Q (fun cls d H' => W cls d σZ H')) s1) fun r s' hq => ?_)
  case rc =>
    refine PySem.W.kla_callFunE hr.depth of1 rfl L.co L.gen rfl ⟨c', oc, vs, t, rfl, hoc, hdc, hvc⟩ ?_
    rw [hbind]
    refine wpAny_pure (wpAny_newFunctionEnv (fun y hy => (L.own y hy).2) (fun y hy => absurd hy (by simp)) (fun h₁ hns hsb => ⟨I1.nolimit.fresh _ hsb, ?_⟩) L.kind)
    have kp : ∀ b o, s1.heap.get? b = some o → h₁.get? b = some o := fun b o e => hsb.extBut b o (Nat.ne_of_lt (Heap.lt_size e)) (Heap.get?_push_of_some _ e)
    have J := lam_start2 (E := fun cls d H' => W cls d σZ H') (f := f) (c' := c') (tk := s1.toks + ([] : List (Str × Value)).length) I L I1.env0 hr.hd I1.base hns kp
    refine PySem.W.kla_codeExpr (wpAny_mono ((hbody _ f c' _ _ s1 HZ (hr.deeper _)).run [] _ _ HZ Q J ht) (fun v s' ⟨w', H', J', rv, q⟩ => ?_) fun e s' hq => hq)
    exact ⟨w', H', J'.os, J'.bare, J'.base, J'.hok, rv, q⟩
  cases r with
  | error e => exact hx pinsZ HZ s1 e s' I1 hq
  | ok fl =>
    cases fl with
    | ret u => exact I1.after hq
    | next => exact False.elim hq
    | brk => exact False.elim hq
    | cont => exact False.elim hq
end
end T
end
section
set_option Elab.async false
set_option linter.all false
set_option autoImplicit false
set_option maxRecDepth 100000
/-! a def that calls what it was handed, and keeps the exception -/
namespace T
open PySem PySem.Spec PyProof.Rows L2 LamX
section
variable {W : Wd} {SS : States} {H0 F H : Hp} {σ σ8 : L2.St} {δ : Env}
/-- the frozen slots, told of other slots that are so, too -/
theorem EnvOk.vals {vs : List Nat} (I : EnvOk W SS H0 F H σ8 δ) (h : ∀ j, j ∉ vs → σ8[j]? = σ[j]?) (hl : σ8.length = σ.length) : EnvOk W SS H F H σ (valsE (wipeE δ vs)) := by
  have g : ∀ {j : Nat} {e : Ent}, (valsE (wipeE δ vs))[j]? = some (some e) → j ∉ vs ∧ ∃ d, e = .val d ∧ δ[j]? = some (some (.val d)) := fun {j e} q => by
    unfold valsE at q
    rw [List.getElem?_map] at q
    obtain ⟨o, h1, h2⟩ := Option.map_eq_some_iff.mp q
    rcases o with _ | (d | d | d)
    · cases h2
    · cases h2
      have hj : j ∉ vs := fun z => wipeE_in z h1
      rw [wipeE_out hj] at h1
      exact ⟨hj, d, rfl, h1⟩
    · cases h2
    · cases h2
  refine ⟨SameS.refl SS H, I.sub, I.sts, I.nds, I.tab, fun i e he => ?_, fun i j d d' a _ h1 _ _ _ => ?_, ?_⟩
  · obtain ⟨hj, d, rfl, h1⟩ := g he
    obtain ⟨v, hv, q⟩ := I.ent i _ h1
    exact ⟨v, by rw [← h i hj]; exact hv, q⟩
  · obtain ⟨_, d, e, _⟩ := g h1
    cases e
  · unfold valsE
    rw [List.length_map, wipeE_length, I.len, hl]
end
/-- the def's first statements: nothing yet; try what was handed in, the exception kept -/
def wordB (k : Nat) (rest : List Stm) : List Stm := .set (.n 1) (.cst .non) :: .try_ [.ex .act] k (some 2) [.set (.n 1) (.var 2)] :: rest
section
variable {X : Cx} {pins : List (Addr × Obj)} {σ : L2.St} {H : Hp} {s : Shared}
set_option maxHeartbeats 1000000 in
/-- the promise's body, the lambda's maker being X at that very state -/
theorem word_body {W : Wd} {SS : States} {F : Hp} {S : Sig} {gas n lv kx : Nat} {N : List Str} {x wn en nn cn : Str} {sg : Scope} {g f : Addr} {cdg : Value} {params : Arguments} {body : Expr} {scope : Scope} {cl : List (Str × Addr)} {m : EvM Op} {δv : Env} {rest : List Stm} {restS : List Stmt} {Q : VK} {E0 : XK} {p1 p2 p3 p4 p5 p6 p7 p8 p9 p10 p11 p12 : Pos} {j1 : Nat}
    (I : Inv X pins σ H s) (L : LamS X.env.scope scope) (hl : W.lam n = ⟨X.env.qual ++ "<lambda>", params, body, scope⟩) (hcl : cl = cloFrom X.env.cells scope.names [])
    (hbind : ∀ (pm cv ctv : Value), bindArgs (PySem.W.kla_fn "<lambda>" (X.env.qual ++ "<lambda>") params body scope (cloFrom X.env.cells scope.names []) pm cv ctv) ⟨[], []⟩ = pure [])
    (hr : Room (lv + 1) (X.A.deeper (envOfC x sg s.heap.objs.size g cdg)))
    (hbody : ∀ (E : XK) (f c' : Addr) (A : Around) (outer : List PySem.Env) (s : Shared) (H : Hp) (H0 : Hp), Room lv (A.deeper (lamEnv X scope s.heap.objs.size f c')) → PD (lamCx X A outer s H E scope f c') W H0 (fun c d _ H' => E c d H') body m)
    (ER : EnvOk W SS H F H [] []) (rep : Rep W SS F (.clo n cl) (.ref f)) (EV : EnvOk W SS H F H σ (valsE δv))
    (hN : N.Nodup) (hNl : 3 ≤ N.length) (h0 : N[0]? = some wn) (h1 : N[1]? = some en) (h2 : N[2]? = some nn) (v0 : Vis sg wn) (v1 : Vis sg en) (v2 : sg.names.lookup nn = some .local) (l1 : Loc sg en) (hw : (wn == ("__debug__" : Str)) = false) (hw2 : (wn == ("__classdict__" : Str)) = false) (hn1 : (nn == ("__debug__" : Str)) = false) (hn2 : (nn == ("__classdict__" : Str)) = false)
    (hc : Names (cxOf (L2.CX X.prog X.w) X.prog X.w X.K X.mg X.base N x sg g cdg X.A X.stack s H E0) cn (.ref (W.cl kx))) (hK : X.K = W.K)
    (hsub : ∀ c, PySem.W.exmOne X.K (.ref (W.cl c)) (.ref (W.cl kx)) = some (S.sub c kx))
    (sw1 : swapsWith (.Constant .none j1 p1) (some (.Name en p2)) p3.line (envOfC x sg s.heap.objs.size g cdg) = pure false) (sw2 : swapsWith (.Call (.Name wn p4) [] [] p5) none p6.line (envOfC x sg s.heap.objs.size g cdg) = pure false) (sw3 : swapsWith (.Name nn p7) (some (.Name en p8)) p9.line (envOfC x sg s.heap.objs.size g cdg) = pure false)
    (hrest : PSsD (cxOf (L2.CX X.prog X.w) X.prog X.w X.K X.mg X.base N x sg g cdg X.A X.stack s H E0) W H (fun c d _ H' => E0 c d H') restS (blkM (exS { S with act := lamT m δv } gas (evE { S with act := lamT m δv } deep) deep) rest))
    (h : (defM { S with act := lamT m δv } gas N.length (wordB kx rest) [.val (.clo n cl)]).wp (RetQ W SS F H Q E0)) :
    ∃ t, PSs (cxOf (L2.CX X.prog X.w) X.prog X.w X.K X.mg X.base N x sg g cdg X.A X.stack s H E0) (.Assign [.Name en p2] (.Constant .none j1 p1) p3 :: .Try [.Expr (.Call (.Name wn p4) [] [] p5) p6] [.ExceptHandler (some (.Name cn p10)) (some nn) [.Assign [.Name en p8] (.Name nn p7) p9] p11] [] [] p12 :: restS) t ∧
      t { nx := fun _ H' => Q .non H', rt := Q } (L2.start N [.ref f]) H := by
  let Z := cxOf (L2.CX X.prog X.w) X.prog X.w X.K X.mg X.base N x sg g cdg X.A X.stack s H E0
  let Xw : WX := fun c d _ H' => E0 c d H'
  have tk : Takes Z Xw := takes_of rfl rfl rfl rfl
  let S' : Sig := { S with act := lamT m δv }
  let ex := exS S' gas (evE S' deep) deep
  let ex1 := exS S' gas (evE S' deep) 39
  refine ⟨_, pss_cons (ps_set (X := Z) (i := 1) hN h1 l1 pe_non sw1) (pss_cons (ps_try_asK (X := Z) (i := 2) (c := .ref (W.cl kx)) (tb := fun Xb => _) (ts := tS W H NoX (blkM ex1 [.set (.n 1) (.var 2)])) (Wout := Xw) rfl rfl rfl hN h2 v2 hc tk
    (fun Xb pn xe tkb _ => pss_one (ps_expr (pe_actK (i := 0) (tb := fun E σ HZ Q => tD W HZ (fun c d _ H' => E c d H') m σ HZ Q) I L hbind tkb hr (fun E f c' A outer sL HL hr2 => ⟨fun pins' s' σ' H' Q' I' q => (hbody E f c' A outer sL HL H' hr2).run pins' s' σ' H' Q' I' q⟩) h0 v0 hw hw2) sw2))
    (fun a pn => psd_cons (psd_set (X := Z.suite a pn) (i := 1) hN h1 l1 (pd_var (X := Z.suite a pn) (i := 2) h2 (.inl v2) hn1 hn2) sw3) psd_nil)) hrest), ?_⟩
  -- the reading
  have hN0 : (0 : Nat) < N.length := by omega
  have s0 : (L2.start N [.ref f])[0]? = some (some (.ref f)) := by unfold L2.start; rfl
  have sl : (L2.start N [.ref f]).length = N.length := by unfold L2.start; simp; omega
  have I0 : EnvOk W SS H F H (L2.start N [.ref f]) ([some (.val (.clo n cl))] ++ List.replicate (N.length - 1) none) :=
    entry_env (es := [.val (.clo n cl)]) ER ⟨.ref f, [], rfl, (fun _ e => by cases e), rep, rfl⟩
  have dl : ([some (.val (.clo n cl))] ++ List.replicate (N.length - 1) none : Env).length = N.length := by simp; omega
  generalize hδ0 : ([some (.val (.clo n cl))] ++ List.replicate (N.length - 1) none : Env) = δ0 at I0 dl
  generalize hσ0 : L2.start N [.ref f] = σ0 at *
  have I1 : EnvOk W SS H F H (σ0.set 1 (some .non)) (δ0.set 1 (some (.val .non))) := I0.put rep_non (by rw [dl]; omega)
  have g0 : (σ0.set 1 (some V.non))[0]? = some (some (.ref f)) := by rw [List.getElem?_set_ne (by decide)]; exact s0
  -- the evaluator's first step
  have hb : ((blkM ex (wordB kx rest)) δ0).wp fun o => (PostS W SS H Xw { nx := fun _ H' => Q .non H', rt := Q } F) o := by
    have h' : (((blkM ex (wordB kx rest)) δ0).bind fun o => match o with
      | .ok (.rt (.bor _)) _ => Tr.bad
      | .ok (.rt e) _ => .ret (.ok e)
      | .ok .nx _ => .ret (.ok (.val .non))
      | .ok _ _ => .bad
      | .exc x _ => .ret (.exc x)).wp (RetQ W SS F H Q E0) := by rw [← hδ0]; exact h
    refine Tr.wp_mono (fun o ho => ?_) (Tr.wp_bind.mp h')
    cases o with
    | exc x δ' => exact fun c dd σ' F' H' j e q => ho c dd F' H' ⟨j, e.empty⟩ q
    | ok fl δ' =>
      cases fl with
      | nx => exact fun σ' F' H' j e => ho .non F' H' ⟨j, e.empty⟩ (rep_non (W := W) (SS := SS) (F := F'))
      | bk => exact ho.elim
      | ct => exact ho.elim
      | rt e =>
        cases e with
        | val d => exact fun v F' H' j ⟨σ', e⟩ q => ho v F' H' ⟨j, e.empty⟩ q
        | own d => exact fun v F' H' j ⟨σ', e⟩ q => ho v F' H' ⟨j, e.empty⟩ q
        | bor d => exact ho.elim
  have e1 : (blkM ex (wordB kx rest)) δ0 = (seqM (tryM S'.sub (blkM ex1 [.ex .act]) kx (some 2) (blkM ex1 [.set (.n 1) (.var 2)])) (blkM ex rest)) (δ0.set 1 (some (.val .non))) := by
    have e2 : ex (.set (.n 1) (.cst .non)) = (evE S' deep (.cst .non)).bind fun o => (putM 1 o).bind fun _ => EvM.pure Fl.nx := rfl
    have e3 : evE S' deep (.cst .non) = EvM.pure (.v .non) := rfl
    have e4 : blkM ex (wordB kx rest) = seqM (ex (.set (.n 1) (.cst .non))) (seqM (tryM S'.sub (blkM ex1 [.ex .act]) kx (some 2) (blkM ex1 [.set (.n 1) (.var 2)])) (blkM ex rest)) := rfl
    have e5 : (putM 1 (.v .non)) δ0 = .ret (.ok () (δ0.set 1 (some (.val .non)))) := by
      unfold putM
      rw [if_pos (show 1 < δ0.length by rw [dl]; omega)]
    rw [e4, e2, e3]
    show (((((putM 1 (.v .non)) δ0).bind _).bind _) : Tr (Ou Fl)) = _
    rw [e5]
    rfl
  rw [e1] at hb
  generalize hδ1 : δ0.set 1 (some (.val .non)) = δ1 at *
  generalize hσ1 : σ0.set 1 (some V.non) = σ1 at *
  have dl1 : δ1.length = N.length := by rw [← hδ1, List.length_set]; exact dl
  let D0 : Ends := { nx := fun _ H' => Q .non H', rt := Q }
  let D2 : Ends := { D0 with nx := tS W H Xw (blkM ex rest) D0 }
  have hb2 : ((tryM S'.sub (blkM ex1 [.ex .act]) kx (some 2) (blkM ex1 [.set (.n 1) (.var 2)])) δ1).wp (PostS W SS H Xw D2 F) := by
    refine Tr.wp_mono (fun o ho => ?_) (Tr.wp_bind.mp (show (((tryM S'.sub (blkM ex1 [.ex .act]) kx (some 2) (blkM ex1 [.set (.n 1) (.var 2)])) δ1).bind _).wp _ from hb))
    cases o with
    | exc e δ1 => exact ho
    | ok f δ1 =>
      cases f with
      | nx => exact fun σ' F' H' i I' => ⟨SS, F', δ1, I', Tr.wp_mono (fun _ z => PostS.shift i z) ho⟩
      | rt e => exact ho
      | bk => exact ho
      | ct => exact ho
  have hb3 := Tr.wp_bind.mp (show (((blkM ex1 [.ex .act]) δ1).bind _).wp _ from hb2)
  have rep' := rep
  unfold Rep at rep'
  obtain ⟨f', pm, c', ctv, ef, hf, hc'⟩ := rep'
  cases ef
  rw [hl, hcl] at hf
  rw [hl] at hc'
  have gl2 : 2 < δ1.length := by rw [dl1]; omega
  subst hσ1
  refine ⟨f, pm, c', ctv, g0, ER.sub _ _ hf, ER.sub _ _ hc', SS, F, valsE δv, EV, ?_⟩
  have e6 : blkM ex1 [.ex .act] = seqM ((resM (lamT m δv)).bind fun _ => EvM.pure Fl.nx) (EvM.pure Fl.nx) := rfl
  rw [e6] at hb3
  have hb4 := Tr.wp_bind.mp (show ((((resM (lamT m δv)).bind fun _ => EvM.pure Fl.nx) δ1).bind _).wp _ from hb3)
  have hb5 := Tr.wp_bind.mp (show ((((resM (lamT m δv)) δ1).bind _)).wp _ from hb4)
  have hb6 := Tr.wp_bind.mp (show (((lamT m δv).bind _)).wp _ from hb5)
  have hb7 := Tr.wp_bind.mp (show (((m (valsE δv)).bind _)).wp _ from hb6)
  refine Tr.wp_mono (fun o ho => ?_) hb7
  cases o with
  | ok op δ' =>
    have key : (PostS W SS H Xw D2 F (.ok .nx δ1)) → ∀ (x : V) (F' H' : Hp), Stp SS σ F H (valsE δv) F' H' δ' → EnvOk W SS H F' H' σ δ' → D2.nx (σ0.set 1 (some V.non)) H' := fun z x F' H' st E' => by
      have rh : RetH W SS F H F' H' := ⟨st.inh EV, E'.empty⟩
      exact z _ F' H' rh.inh (I1.ret rh).1
    cases op with
    | v d => exact fun x F' H' st E' _ => key ho x F' H' st E'
    | f d => exact fun x F' H' st E' _ => key ho x F' H' st E'
    | b i => exact (show False from ho).elim
  | exc e δ' =>
    intro c dd F' H' ih E' hx
    have rh : RetH W SS F H F' H' := ⟨ih, E'.empty⟩
    have I2 := (I1.ret rh).1
    have hcc : c = .ref (W.cl e.c) := hx.1
    refine ⟨S.sub e.c kx, by rw [hcc]; exact hsub e.c, fun hb a na => ?_, fun hb => ?_⟩
    · have ho2 : Tr.wp (PostS W SS H Xw D2 F) (if S'.sub e.c kx = true then (if 2 < List.length δ1 then (blkM ex1 [Stm.set (Tg.n 1) (Ex.var 2)] (List.set δ1 2 (some (Ent.val (T.D.exv e.c e.fs))))).bind (fun o => match o with
          | Ou.ok f δ2 => Tr.ret (Ou.ok f (List.set δ2 2 none))
          | Ou.exc x δ => Tr.bad) else Tr.bad) else Tr.ret (Ou.exc e δ1)) := ho
      rw [if_pos (show S'.sub e.c kx = true from hb), if_pos gl2] at ho2
      exact suite_as ih I2 hx na gl2 ho2
    · have ho2 : Tr.wp (PostS W SS H Xw D2 F) (if S'.sub e.c kx = true then (if 2 < List.length δ1 then (blkM ex1 [Stm.set (Tg.n 1) (Ex.var 2)] (List.set δ1 2 (some (Ent.val (T.D.exv e.c e.fs))))).bind (fun o => match o with
          | Ou.ok f δ2 => Tr.ret (Ou.ok f (List.set δ2 2 none))
          | Ou.exc x δ => Tr.bad) else Tr.bad) else Tr.ret (Ou.exc e δ1)) := ho
      rw [if_neg (show ¬ S'.sub e.c kx = true from by rw [show S'.sub e.c kx = false from hb]; simp)] at ho2
      exact ho2 c dd _ F' H' ih I2 hx
end
end T
end
section
set_option Elab.async false
set_option linter.all false
set_option autoImplicit false
set_option maxRecDepth 100000
/-! [f(x) for x in a list of lambdas], f a def that calls what it was handed -/
namespace T
open PySem PySem.Spec PyProof.Rows L2 LamX
theorem evE_var {S : Sig} {n i : Nat} {δ : Env} {ev : Ex → EvM Op} : evE S (n + 1) (.var i) δ = stepE S ev (.var i) δ := rfl
theorem evE_succ {S : Sig} {n : Nat} {e : Ex} : evE S (n + 1) e = stepE S (evE S n) e := rfl
/-- what each lambda of a def must have -/
structure LamIn (X : Cx) (W : Wd) (S : Sig) (ev : Ex → EvM Op) (lv n : Nat) : Prop where
  ex : ∃ (params : Arguments) (body : Expr) (scope : Scope), W.lam n = ⟨X.env.qual ++ "<lambda>", params, body, scope⟩ ∧ LamS X.env.scope scope ∧ S.cl n = cloFrom X.env.cells scope.names [] ∧
    (∀ (pm cv ctv : Value), bindArgs (PySem.W.kla_fn "<lambda>" (X.env.qual ++ "<lambda>") params body scope (cloFrom X.env.cells scope.names []) pm cv ctv) ⟨[], []⟩ = pure []) ∧
    ∀ (E : XK) (f c' : Addr) (A : Around) (outer : List PySem.Env) (s : Shared) (H H0 : Hp), Room lv (lamCx X A outer s H E scope f c').A → Takes (lamCx X A outer s H E scope f c') (fun c d _ H' => E c d H') → PD (lamCx X A outer s H E scope f c') W H0 (fun c d _ H' => E c d H') body (ev (S.lamB n))
theorem LamIn.mk' {X : Cx} {W : Wd} {S : Sig} {ev : Ex → EvM Op} {lv n : Nat} {params : Arguments} {body : Expr} {scope sc : Scope} (h1 : W.lam n = ⟨X.env.qual ++ "<lambda>", params, body, scope⟩) (hsc : X.env.scope = sc) (h2 : lamSB sc scope = true) (h3 : S.cl n = cloFrom X.env.cells scope.names [])
    (h4 : ∀ (pm cv ctv : Value), bindArgs (PySem.W.kla_fn "<lambda>" (X.env.qual ++ "<lambda>") params body scope (cloFrom X.env.cells scope.names []) pm cv ctv) ⟨[], []⟩ = pure [])
    (h5 : ∀ (E : XK) (f c' : Addr) (A : Around) (outer : List PySem.Env) (s : Shared) (H H0 : Hp), Room lv (lamCx X A outer s H E scope f c').A → Takes (lamCx X A outer s H E scope f c') (fun c d _ H' => E c d H') → PD (lamCx X A outer s H E scope f c') W H0 (fun c d _ H' => E c d H') body (ev (S.lamB n))) : LamIn X W S ev lv n :=
  ⟨params, body, scope, h1, by rw [hsc]; exact lamS_by h2, h3, h4, h5⟩
/-- the def that calls what it was handed: its facts, its body's rest -/
structure WordIn (P : Program) (w : World) (K : PySem.W.Frag) (mg : Str → Option Value) (base : Heap) (W : Wd) (Sw : Sig) (gas kx lv : Nat) (rest : List Stm) (x : Str) (N : List Str) : Prop where
  ex : ∃ (params : Arguments) (scope : Scope) (restS : List Stmt) (wn en nn cn : Str) (j1 : Nat) (p1 p2 p3 p4 p5 p6 p7 p8 p9 p10 p11 p12 : Pos),
    (∃ fd, FunD K x x params (.Assign [.Name en p2] (.Constant .none j1 p1) p3 :: .Try [.Expr (.Call (.Name wn p4) [] [] p5) p6] [.ExceptHandler (some (.Name cn p10)) (some nn) [.Assign [.Name en p8] (.Name nn p7) p9] p11] [] [] p12 :: restS) scope [] [] (He.ga K x) fd ∧ Binds K fd [wn] []) ∧
    FnScope N [wn] scope ∧ 3 ≤ N.length ∧ N[0]? = some wn ∧ N[1]? = some en ∧ N[2]? = some nn ∧ Vis scope wn ∧ Vis scope en ∧ scope.names.lookup nn = some .local ∧ Loc scope en ∧ (wn == ("__debug__" : Str)) = false ∧ (wn == ("__classdict__" : Str)) = false ∧ (nn == ("__debug__" : Str)) = false ∧ (nn == ("__classdict__" : Str)) = false ∧
    scope.names.lookup cn = some .globalImplicit ∧ (cn == ("__debug__" : Str)) = false ∧ mg cn = some (.ref (W.cl kx)) ∧ K = W.K ∧ (∀ c, PySem.W.exmOne K (.ref (W.cl c)) (.ref (W.cl kx)) = some (Sw.sub c kx)) ∧
    (∀ (a g : Addr) (cdg : Value), swapsWith (.Constant .none j1 p1) (some (.Name en p2)) p3.line (envOfC x scope a g cdg) = pure false ∧ swapsWith (.Call (.Name wn p4) [] [] p5) none p6.line (envOfC x scope a g cdg) = pure false ∧ swapsWith (.Name nn p7) (some (.Name en p8)) p9.line (envOfC x scope a g cdg) = pure false) ∧
    ∀ (act : Tr Res) (g : Addr) (cdg : Value) (A : Around) (outer : List PySem.Env) (s : Shared) (H : Hp) (E0 : XK), Room lv (A.deeper (envOfC x scope s.heap.objs.size g cdg)) → PSsD (cxOf (L2.CX P w) P w K mg base N x scope g cdg A outer s H E0) W H (fun c d _ H' => E0 c d H') restS (blkM (exS { Sw with act := act } gas (evE { Sw with act := act } deep) deep) rest)
  gl : mg x = some (.ref (He.ga K x))
  kp : PySem.W.keepIn K (.ref (He.ga K x)) = true
section
variable {X : Cx} {W : Wd} {H0 : Hp} {Xw : WX} {S Sw : Sig} {ev ev1 : Ex → EvM Op} {pos : Pos}
set_option maxHeartbeats 1000000 in
theorem pd_lcW {k kx gas lv iw : Nat} {rest : List Stm} {x wv : Str} {Ng : List Str} {iter : Expr} {scope : Scope} {pc pw pl pt : Pos} {it : It} (G : Good W X) (hrm : Room (lv + 2) X.A) (WD : WordIn X.prog X.w X.K X.mg X.base W Sw gas kx lv rest x Ng) (hlam : ∀ n, S.lamK n = true → LamIn X W S ev1 lv n)
    (hwfn : ∀ cl n act, S.wfn k cl n act = defM { Sw with act := act } gas Ng.length (wordB kx rest) [.val (.clo n cl)])
    (hE : ev (.wcall k [iw] (.var iw)) = stepE S ev1 (.wcall k [iw] (.var iw))) (hV : ∀ δ, ev1 (.var iw) δ = stepE S ev1 (.var iw) δ) (hc : X.calm = true) (hN : X.N.Nodup) (hi : PID X W H0 Xw (.Name wv pt) iter (itM ev it)) (ok : BlkOk X.N X.env.scope scope [(wv, iw)]) (hiw : X.N[iw]? = some wv)
    (hg : ∀ (s : Shared) (H : Hp) (C : Addr) (cl : List (Str × Addr)) (fp : List Addr), PG (X.blk s H scope (compEnvC scope cl C X.env) fp) (.Name wv pt) (tG W H0 (.n iw)))
    (hgx : ∀ (C : Addr) (cl : List (Str × Addr)), (compEnvC scope cl C X.env).kindOf x = some .globalImplicit) (hvw : ∀ (C : Addr) (cl : List (Str × Addr)), Vis (compEnvC scope cl C X.env).scope wv) (hdb : (x == ("__debug__" : Str)) = false) (hwd : (wv == ("__debug__" : Str)) = false) (hwc : (wv == ("__classdict__" : Str)) = false)
    (hs : ∀ x, foldedSetIterable iter X.env x = pure x := by intro _; rfl) :
    PD X W H0 Xw (.ListComp (.Call (.Name x pc) [.Name wv pw] [] pl) [⟨.Name wv pt, iter, [], 0⟩] scope pos) (stepE S ev (.lc [iw] (.n iw) it none (.wcall k [iw] (.var iw)))) := by
  refine ⟨fun pins s σ H Q I h => ?_⟩
  rw [eval_ListComp]
  have hT : ∀ j ∈ tgS (.n iw), j ∈ [iw] := fun j hj => hj
  refine lc_coreM (own := [(wv, iw)]) (g := tG W H0 (.n iw)) (tt := tT W H0 NoX (ifM ev none)) (te := tD W H0 NoX (ev (.wcall k [iw] (.var iw)))) hc hN I hi ok hg (fun _ _ _ _ _ => ptsd_nil) (fun s3 H3 C cl_ fp conv pins8 s8 σ8 H8 Q8 hw I8 ht => ?_) hs (lc_reads (S := S) (ev := ev) hT h) fun D C s' m H' I' q hn f => ⟨m, hn, fun h'' sb => ?_⟩
  · rw [hE] at ht
    obtain ⟨SS, F, δ8, E8, h8⟩ := ht
    have h8' : (((ev1 (.var iw)).bind fun p => (fz p).bind fun x => (match x with
      | .clo n cl => if S.lamK n && decide (cl = S.cl n) then (fun δ => resM (S.wfn k cl n (lamT (ev1 (S.lamB n)) (wipeE δ [iw]))) δ : EvM Op) else EvM.bad
      | _ => EvM.bad : EvM Op)) δ8).wp (Post W SS H0 NoX σ8 F H8 δ8 Q8) := h8
    have h9 := Tr.wp_bind.mp (show (((ev1 (.var iw)) δ8).bind _).wp _ from h8')
    rw [hV] at h9
    cases hδ : δ8[iw]? with
    | none =>
      have z : stepE S ev1 (.var iw) δ8 = .bad := by show (match δ8[iw]? with | some (some (.val d)) => _ | some (some _) => _ | _ => _) = _; rw [hδ]
      rw [z] at h9; exact h9.elim
    | some oe =>
      rcases oe with _ | (d | d | d)
      · have z : stepE S ev1 (.var iw) δ8 = .bad := by show (match δ8[iw]? with | some (some (.val d)) => _ | some (some _) => _ | _ => _) = _; rw [hδ]
        rw [z] at h9; exact h9.elim
      · have z : stepE S ev1 (.var iw) δ8 = .ret (.ok (.v d) δ8) := by show (match δ8[iw]? with | some (some (.val d)) => _ | some (some _) => _ | _ => _) = _; rw [hδ]
        rw [z] at h9
        cases d with
        | clo n cl =>
          have h11 : ((if S.lamK n && decide (cl = S.cl n) then (fun δ => resM (S.wfn k cl n (lamT (ev1 (S.lamB n)) (wipeE δ [iw]))) δ : EvM Op) else EvM.bad) δ8).wp (Post W SS H0 NoX σ8 F H8 δ8 Q8) := h9
          by_cases hb : (S.lamK n && decide (cl = S.cl n)) = true
          · rw [if_pos hb] at h11
            simp only [Bool.and_eq_true, decide_eq_true_eq] at hb
            obtain ⟨hbn, hbc⟩ := hb
            rw [hwfn] at h11
            have h13 := res_inv (fun _ e => e) E8 h11
            obtain ⟨v, hv, rep⟩ := E8.ent iw _ hδ
            have rep' : Rep W SS F (.clo n cl) v := rep
            have rep2 := rep'
            unfold Rep at rep2
            obtain ⟨f, pm, c', ctv, rfl, _, _⟩ := rep2
            obtain ⟨lparams, lbody, lscope, l1, l2, l3, l4, l5⟩ := (hlam n hbn).ex
            obtain ⟨params, wscope, restS, wn, en, nn, cn, j1, p1, p2, p3, p4, p5, p6, p7, p8, p9, p10, p11, p12, ⟨fd, FD, hbi⟩, Sc, wN, w0, w1, w2, wv0, wv1, wv2, wl1, wd0, wd1, wd2, wd3, wcn, wcd, wcg, wK, wsub, wsw, wrest⟩ := WD.ex
            have agree : ∀ j, j ∉ [iw] → σ8[j]? = σ[j]? := fun j hj => by
              have e1 := wipe_out (σ := σ8) hj
              have e2 := wipe_out (σ := σ) hj
              rw [← e1, ← e2, show wipe σ8 [iw] = wipe σ [iw] from hw]
            have hlen : σ8.length = σ.length := by
              have := congrArg List.length (show wipe σ8 [iw] = wipe σ [iw] from hw)
              rw [wipe_length, wipe_length] at this
              exact this
            have ha := pa_cons (X := X.blk s3 H3 scope (compEnvC scope cl_ C X.env) fp) (pe_var (pos := pw) (i := iw) hiw (hvw C cl_) hwd hwc) pa_nil
            refine wpAny_Call_Name_kw (ld_glob I8 (hgx C cl_) WD.gl ?_ hdb)
            refine PySem.W.callWith_K (h₀ := X.base) I8.ok.mod.kin WD.kp (thn (ha.run pl pins8 s8 σ8 H8 (fun vs H1 => vs = [V.ref f] ∧ H1 = H8) I8 ⟨.ref f, hv, rfl, rfl⟩) fun us s9 ⟨vs, H9, I9, r9, ev9, eH9⟩ => ⟨I9.kIn, ?_⟩) rfl rfl
            subst ev9 eH9
            obtain ⟨oc, od, dV, kV, doc, pm2, an, cdv, ct, osl, rfl, lk, hcd, _, _⟩ := FD.ex
            have hul : us.length = 1 := by rw [← r9.length]; rfl
            have bb := hbi s9 us I9.kIn (by rw [List.append_nil]; exact hul)
            rw [List.append_nil] at bb
            have rc : codeAny (model X.prog X.w) X.A (.call (.ref (He.ga X.K x)) ⟨us, []⟩) (CR (L2.CX X.prog X.w) X.stack X.prog X.w H9 s9 Q8 (fun _ _ _ => False)) s9 := by
              refine run_ofS (CX := L2.CX X.prog X.w) (N := Ng) (ps := [wn]) (k := lv + 1) lk hcd Sc hrm I9.env0 bb r9 rfl fun hr' => ?_
              exact word_body (conv pins8 σ8 H9 s9 I9) l2 l1 (hbc.trans l3) l4 hr' (fun E f c' A outer s H H0 hr2 => l5 E f c' A outer s H H0 hr2 (takes_of rfl rfl rfl rfl)) E8.entry rep' (E8.vals agree hlen) Sc.nd wN w0 w1 w2 wv0 wv1 wv2 wl1 wd0 wd1 wd2 wd3 ⟨wcn, wcd, .inl wcg⟩ wK wsub (wsw _ _ _).1 (wsw _ _ _).2.1 (wsw _ _ _).2.2 (wrest _ _ _ _ _ _ _ _ (hr'.mono (Nat.le_succ lv))) h13
            refine wpAny_call (codeAny_mono rc fun r s' hq => ?_)
            cases r with
            | error e => 
              obtain ⟨_, _, _, _, _, _, _, _, _, _, _, _, q⟩ := (show L2.CX X.prog X.w X.stack H9 s9 (fun _ _ _ => False) e s' from hq)
              exact q.elim
            | ok fl =>
              cases fl with
              | ret u => exact I9.after hq
              | next => exact False.elim hq
              | brk => exact False.elim hq
              | cont => exact False.elim hq
          · rw [if_neg hb] at h11; exact h11.elim
        | _ => exact (show False from h9).elim
      · have z : stepE S ev1 (.var iw) δ8 = .ret (.ok (.b iw) δ8) := by show (match δ8[iw]? with | some (some (.val d)) => _ | some (some _) => _ | _ => _) = _; rw [hδ]
        rw [z] at h9
        obtain ⟨v, hv, a, o, e1, e2, e3, e4, e5, e6⟩ := E8.ent iw _ hδ
        have hf : fz (.b iw) δ8 = .ret (.ok d (δ8.set iw (some (.val d)))) := by unfold fz; simp only [hδ]
        have h9' := Tr.wp_bind.mp (show (((fz (.b iw)) δ8).bind _).wp _ from h9)
        rw [hf] at h9'
        cases d with
        | clo n cl => exact e6.elim
        | _ => exact (show False from h9').elim
      · have z : stepE S ev1 (.var iw) δ8 = .ret (.ok (.b iw) δ8) := by show (match δ8[iw]? with | some (some (.val d)) => _ | some (some _) => _ | _ => _) = _; rw [hδ]
        rw [z] at h9
        have hf : fz (.b iw) δ8 = .bad := by unfold fz; simp only [hδ]
        have h9' := Tr.wp_bind.mp (show (((fz (.b iw)) δ8).bind _).wp _ from h9)
        rw [hf] at h9'
        exact h9'.elim
  · obtain ⟨f0, f1, f2, f3, f4, f5⟩ := f
    exact ⟨.ref D, H', I'.turned (t' := s'.toks) (fun b o hb e => (sb.2 b hb).trans e) f0 f1 f3 f4 f5, rfl, q⟩
end
end T
end
section
set_option Elab.async false
set_option linter.all false
set_option autoImplicit false
set_option maxRecDepth 100000
/-! a def with lambdas; a law -/
namespace T
open PySem PySem.Spec PyProof.Rows L2 LamX
theorem code_at {K : PySem.W.Frag} {x : Str} {oc : Value} {od : Option Addr} {osl : Array (Option Value)} {fd : FuncData} {q : Str} (lk : K.lookup (He.ga K x) = some ⟨oc, od, .func fd, osl⟩) (hcd : PySem.W.codeIn K fd.code q = true) : fd.code = .ref (He.codeOf K (x, none)) := by
  obtain ⟨c, e⟩ := He.codeIn_ref hcd
  rw [He.codeOf_eq (p := (x, none)) lk e, e]
/-- a def of the top whose lambdas' cells are its frame's -/
theorem okgL {W : Wd} {P : Program} {w : World} {K : PySem.W.Frag} {mg : Str → Option Value} {base : Heap} {k n : Nat} {x : Str} {params : Arguments} {body : List Stmt} {scope : Scope} {N ps : List Str} {S : Sig} {gas : Nat} {b : List Stm} {m : Fnc} (lams : Nat → Scope)
    (F : ∃ fd, FunD K x x params body scope [] [] (He.ga K x) fd) (gl : mg x = some (.ref (He.ga K x))) (Sc : FnScope N ps scope)
    (hbd : ∀ (kV doc pm : Value) (an : Option Addr) (cdv ct : Value) (us : List Value), us.length = ps.length → bindArgs (PySem.W.fnOf x x params body scope .none kV doc pm an cdv ct) ⟨us, []⟩ = pure (ps.zip us))
    (hn : N.length = n) (hm : ∀ es P cl, (m es).wp P → (defM { S with cl := cl } gas n b es).wp P)
    (hb : ∀ (f : Addr) (cdv : Value) (A : Around) (outer : List PySem.Env) (s : Shared) (H : Hp) (E : XK), cdv = .ref (He.codeOf K (x, none)) → Room k (A.deeper (envOfC x scope s.heap.objs.size f cdv)) → Takes (cxOf (L2.CX P w) P w K mg base N x scope f cdv A outer s H E) (fun c d _ H' => E c d H') →
      PassesOwn (model P w) (A.deeper (envOfC x scope s.heap.objs.size f cdv)) (envOfC x scope s.heap.objs.size f cdv) (cxOf (L2.CX P w) P w K mg base N x scope f cdv A outer s H E).xe →
      PSsD (cxOf (L2.CX P w) P w K mg base N x scope f cdv A outer s H E) W H (fun c d _ H' => E c d H') body (bodyM { S with cl := fun i => cloFrom (envOfC x scope s.heap.objs.size f cdv).cells (lams i).names [] } gas b)) :
    Okf P w K mg base x (k + 1) ps (spD W ps.length m) := by
  obtain ⟨fd, F⟩ := F
  refine ⟨⟨fd, ?_, F.bindsN hbd⟩, gl, F.kp⟩
  obtain ⟨oc, od, dV, kV, doc, pm, an, cdv, ct, osl, rfl, lk, hcd, _, _⟩ := F.ex
  refine fn_of lk hcd Sc (fun vs H Q E ⟨SS, F, es, hl, _, he, _⟩ => by rw [← he.length, hl]) fun A outer s H vs Q E hr ⟨SS, F, es, hl, I, he, h⟩ => ⟨_, hb _ cdv A outer s H E (code_at lk hcd) hr (takes_of rfl rfl rfl rfl) (passes_of rfl), SS, F, _, entry_env I he, ?_⟩
  have h2 := hm es _ (fun i => cloFrom (envOfC x scope s.heap.objs.size (He.ga K x) cdv).cells (lams i).names []) h
  rw [← hn] at h2
  refine Tr.wp_mono (fun o ho => ?_) (Tr.wp_bind.mp (show (((bodyM _ gas b) _).bind _).wp _ from h2))
  cases o with
  | exc x δ' => exact fun c dd σ' F' H' j e q => ho c dd F' H' ⟨j, e.empty⟩ q
  | ok fl δ' =>
    cases fl with
    | nx => exact fun σ' F' H' j e => ho .non F' H' ⟨j, e.empty⟩ (rep_non (W := W) (SS := SS) (F := F'))
    | bk => exact ho.elim
    | ct => exact ho.elim
    | rt e =>
      cases e with
      | val d => exact fun v F' H' j ⟨σ', e⟩ q => ho v F' H' ⟨j, e.empty⟩ q
      | own d => exact fun v F' H' j ⟨σ', e⟩ q => ho v F' H' ⟨j, e.empty⟩ q
      | bor d => exact ho.elim
/-- True is handed back -/
def IsT : Ou Fl → Prop
  | .ok (.rt (.val (.bl true))) _ => True
  | _ => False
/-- what a law is called with -/
def spLaw (W : Wd) : Sp := fun vs H Q _ => ∃ (a : Addr) (ns : List Int), vs = [.ref a] ∧ SqL W.K H a (ns.map V.int) ∧ ns.length ≤ 63 ∧ (∀ p ∈ W.tb, H p.1 = some (.tbl #[])) ∧ ∀ H', Q (.bl true) H'
/-- a law: the state of draws by hand, all else by data -/
theorem law_ok {W : Wd} {P : Program} {w : World} {K : PySem.W.Frag} {mg : Str → Option Value} {base : Heap} {k kd i : Nat} {x y sn : Str} {params : Arguments} {rest : List Stmt} {scope : Scope} {N psd : List Str} {S : Sig} {gas : Nat} {b : List Stm} {p1 p2 p3 p4 p5 : Pos} {fd : FuncData} (lams : Nat → Scope)
    (F : FunD K x x params (.Assign [.Name sn p1] (.Call (.Name y p2) [.Name "script" p3] [] p4) p5 :: rest) scope [] [] (He.ga K x) fd) (Sc : FnScope N ["script"] scope) (hK : W.K = K)
    (hd : Okf P w K mg base y kd psd (spState K)) (hkd : kd ≤ k) (hi : N[i]? = some sn) (hi0 : i ≠ 0) (hs0 : N[0]? = some ("script" : Str)) (v0 : Vis scope "script") (hy : scope.names.lookup y = some .globalImplicit) (hsn : scope.names.lookup sn = some .local) (hdb : (y == ("__debug__" : Str)) = false)
    (hsw : ∀ (a f : Addr) (cdv : Value), swapsWith (.Call (.Name y p2) [.Name "script" p3] [] p4) (some (.Name sn p1)) p5.line (envOfC x scope a f cdv) = pure false)
    (hm : ∀ cl, ((blkM (exS { S with cl := cl } gas (evE { S with cl := cl } deep) deep) b) ((List.replicate N.length none).set i (some (.val (.stt 0))))).wp IsT)
    (hb : ∀ (f : Addr) (cdv : Value) (A : Around) (outer : List PySem.Env) (s : Shared) (H : Hp) (E : XK), cdv = .ref (He.codeOf K (x, none)) → Room k (A.deeper (envOfC x scope s.heap.objs.size f cdv)) → Takes (cxOf (L2.CX P w) P w K mg base N x scope f cdv A outer s H E) (fun c d _ H' => E c d H') →
      PassesOwn (model P w) (A.deeper (envOfC x scope s.heap.objs.size f cdv)) (envOfC x scope s.heap.objs.size f cdv) (cxOf (L2.CX P w) P w K mg base N x scope f cdv A outer s H E).xe →
      PSsD (cxOf (L2.CX P w) P w K mg base N x scope f cdv A outer s H E) W H (fun c d _ H' => E c d H') rest (bodyM { S with cl := fun i => cloFrom (envOfC x scope s.heap.objs.size f cdv).cells (lams i).names [] } gas b)) :
    FnOk P w K mg base (L2.CX P w) (k + 1) (He.ga K x) fd ["script"] (spLaw W) := by
  obtain ⟨oc, od, dV, kV, doc, pm, an, cdv, ct, osl, rfl, lk, hcd, _, _⟩ := F.ex
  obtain ⟨fdd, FD, hbd⟩ := hd.ex
  refine fn_of lk hcd Sc (fun vs H Q E ⟨a, ns, e, _⟩ => by rw [e]; rfl) fun A outer s H vs Q E hr hsp => ?_
  obtain ⟨a, ns, rfl, hx, hz, ht, q⟩ := hsp
  have tk : Takes (cxOf (L2.CX P w) P w K mg base N x scope (He.ga K x) cdv A outer s H E) (fun c d _ H' => E c d H') := takes_of rfl rfl rfl rfl
  refine ⟨_, pss_cons (ps_set (X := cxOf (L2.CX P w) P w K mg base N x scope (He.ga K x) cdv A outer s H E) (i := i) Sc.nd hi (.inl hsn) (pe_callS FD (hr.mono hkd) hy hd.gl hd.kp hbd (fun σ => passAt tk σ) (pa_cons (pe_var (i := 0) hs0 v0 (by decide) (by decide)) pa_nil) hdb) (hsw _ _ _) (.inr hsn)) (hb _ cdv A outer s H E (code_at lk hcd) hr tk (passes_of rfl)), ?_⟩
  have hs : (L2.start N [.ref a])[0]? = some (some (.ref a)) := by unfold L2.start; rfl
  have hil : i < N.length := by
    rcases Nat.lt_or_ge i N.length with z | z
    · exact z
    · rw [List.getElem?_eq_none z] at hi; cases hi
  have sl : (L2.start N [.ref a]).length = N.length := by unfold L2.start; simp; omega
  refine ⟨.ref a, hs, a, ns, rfl, hK ▸ hx, hz, fun p H' n1 n2 keep st => ?_⟩
  obtain ⟨cells, i1, j1, h1, h2, h3⟩ := id st
  have hne : p.1 ≠ p.2 := fun z => by
    rw [z, h2] at h1
    injection h1 with h1
    injection h1 with h1
    cases cells with
    | nil => exact h3.1 rfl
    | cons x l => rw [List.map_cons] at h1; cases h1
  let SS : States := { ps := [p], tb := W.tb, me := 0 }
  have dl : ((List.replicate N.length none).set i (some (Ent.val (T.D.stt 0))) : Env).length = N.length := by simp
  have ix : ∀ {j : Nat} {e : Ent}, ((List.replicate N.length none).set i (some (Ent.val (T.D.stt 0))) : Env)[j]? = some (some e) → j = i ∧ e = .val (.stt 0) := fun {j e} z => by
    by_cases hj : i = j
    · subst hj
      rw [List.getElem?_set_self (by simp; exact hil)] at z
      cases z
      exact ⟨rfl, rfl⟩
    · rw [List.getElem?_set_ne hj] at z
      have := List.mem_of_getElem? z
      rw [List.mem_replicate] at this
      cases this.2
  refine ⟨SS, fun _ => none, (List.replicate N.length none).set i (some (Ent.val (T.D.stt 0))), ⟨fun b o nb e => keep b o e, (fun b o e => by cases e), fun p' hp' => ?_, ?_, ⟨rfl, fun p' hp' => TabS.nil (keep _ _ (ht p' hp')), fun _ _ => rfl⟩, fun j e he => ?_, fun j l d d' _ _ z => ?_, ?_⟩, ?_⟩
  · cases (List.mem_singleton.mp hp')
    exact ⟨st, rfl, rfl⟩
  · show ([p].flatMap fun p => [p.1, p.2]).Nodup
    simp [hne]
  · obtain ⟨rfl, rfl⟩ := ix he
    refine ⟨.ref p.1, by rw [List.getElem?_set_self (by rw [sl]; exact hil)], ?_⟩
    show Rep W SS (fun _ => none) (.stt 0) _
    unfold Rep
    exact ⟨p, rfl, rfl⟩
  · obtain ⟨_, z2⟩ := ix z
    cases z2
  · rw [dl, List.length_set, sl]
  · refine Tr.wp_mono (fun o ho => ?_) (hm (fun i => cloFrom (envOfC x scope s.heap.objs.size (He.ga K x) cdv).cells (lams i).names []))
    cases o with
    | exc _ _ => exact ho.elim
    | ok fl δ' =>
      cases fl with
      | nx => exact ho.elim
      | bk => exact ho.elim
      | ct => exact ho.elim
      | rt e =>
        cases e with
        | own _ => exact ho.elim
        | bor _ => exact ho.elim
        | val d =>
          cases d with
          | bl bb =>
            cases bb with
            | false => exact ho.elim
            | true =>
              intro v F' H'' _ _ r
              have r' : Rep W SS F' (.bl true) v := r
              unfold Rep at r'
              rw [r']
              exact q H''
          | _ => exact ho.elim
end T
end
section
set_option Elab.async false
set_option linter.all false
set_option autoImplicit false
set_option maxRecDepth 100000
/-! isinstance of the text's own classes -/
namespace T
open PySem PySem.Spec PyProof.Rows L2
def kexB (K : PySem.W.Frag) (C : Addr) : Bool := decide (PySem.W.findIn K (.ref C) "__getattribute__" = some (some (.builtin "BaseException.__getattribute__"))) && (decide (PySem.W.findIn K (.ref C) "__getattr__" = some none) && (decide (PySem.W.subIn K (.ref C) (.type "BaseException") = some true) && (PySem.W.hasDictIn K C && (decide (PySem.W.findIn K (.ref C) "__class__" = some (some (.builtin "object.__class__"))) && (decide (PySem.W.specialIn K (.builtin "object.__class__") "__get__" = some (some (.builtin "getset_descriptor.__get__"))) && (decide (PySem.W.takesIn K (.builtin "object.__class__") = some true) && decide (PySem.W.mroIn K C (.type "object") = some true)))))))
theorem kexB_ok {K : PySem.W.Frag} {C : Addr} (h : kexB K C = true) : KExc K C := by
  unfold kexB at h
  simp only [Bool.and_eq_true, decide_eq_true_eq] at h
  obtain ⟨h1, h2, h3, h4, h5, h6, h7, h8⟩ := h
  exact ⟨h1, h2, h3, h4, h5, h6, h7, h8⟩
def kclB (K : PySem.W.Frag) (C : Addr) : Bool := decide (PySem.W.findIn K (.ref C) "__class__" = some (some (.builtin "object.__class__"))) && (decide (PySem.W.specialIn K (.builtin "object.__class__") "__get__" = some (some (.builtin "getset_descriptor.__get__"))) && (decide (PySem.W.takesIn K (.builtin "object.__class__") = some true) && decide (PySem.W.mroIn K C (.type "object") = some true)))
theorem kclB_ok {K : PySem.W.Frag} {C : Addr} (c : Cls K C) (h : kclB K C = true) : KCls K C := by
  unfold kclB at h
  simp only [Bool.and_eq_true, decide_eq_true_eq] at h
  obtain ⟨h1, h2, h3, h4⟩ := h
  exact ⟨c, h1, h2, h3, h4⟩
def baseTs : List String := ["NoneType", "bool", "int", "str", "tuple", "list", "dict"]
def kitB0 (K : PySem.W.Frag) (C : Addr) : Bool := baseTs.all fun T => decide (PySem.W.kitOne K (.type T) (.ref C) = some false)
theorem kitB0_ok {K : PySem.W.Frag} {C : Addr} (h : kitB0 K C = true) {T : String} (hT : T ∈ baseTs) : PySem.W.kitOne K (.type T) (.ref C) = some false := by
  unfold kitB0 at h
  exact of_decide_eq_true (List.all_eq_true.mp h T hT)
section
variable {X : Cx} {W : Wd} {H0 : Hp} {Xw : WX} {S : Sig} {ev : Ex → EvM Op} {a : Expr} {ea : Ex} {pos : Pos}
theorem kit_own {j : Nat} (h0 : kitB0 X.K (W.cl j) = true) (hx : ∀ c, S.kx c = true → KExc X.K (W.cl c) ∧ PySem.W.kitOne X.K (.ref (W.cl c)) (.ref (W.cl j)) = some (S.sub c j)) (ho : ∀ c, S.ko c = true → KCls X.K (W.cl c) ∧ PySem.W.kitOne X.K (.ref (W.cl c)) (.ref (W.cl j)) = some (S.sub c j)) : KitOk W X.K (.ref (W.cl j)) (isiF S [.own j]) := fun d b e => by
  rw [isiF_one] at e
  cases d with
  | non => cases e; exact ⟨trivial, _, rfl, kitB0_ok h0 (by decide)⟩
  | bl _ => cases e; exact ⟨trivial, _, rfl, kitB0_ok h0 (by decide)⟩
  | int _ => cases e; exact ⟨trivial, _, rfl, kitB0_ok h0 (by decide)⟩
  | str _ => cases e; exact ⟨trivial, _, rfl, kitB0_ok h0 (by decide)⟩
  | tup _ => cases e; exact ⟨trivial, _, rfl, kitB0_ok h0 (by decide)⟩
  | lst _ => cases e; exact ⟨trivial, _, rfl, kitB0_ok h0 (by decide)⟩
  | dct _ _ => cases e; exact ⟨trivial, _, rfl, kitB0_ok h0 (by decide)⟩
  | obj c fs =>
    have e' : (if S.ko c = true then some (S.sub c j) else none) = some b := e
    by_cases hc : S.ko c = true
    · rw [if_pos hc] at e'; cases e'; exact ⟨(ho c hc).1, _, rfl, (ho c hc).2⟩
    · rw [if_neg hc] at e'; cases e'
  | exv c fs =>
    have e' : (if (S.kx c && fs.isEmpty) = true then some (S.sub c j) else none) = some b := e
    by_cases hc : (S.kx c && fs.isEmpty) = true
    · rw [if_pos hc] at e'; cases e'
      simp only [Bool.and_eq_true] at hc
      cases fs with
      | nil => exact ⟨(hx c hc.1).1, _, rfl, (hx c hc.1).2⟩
      | cons _ _ => exact absurd hc.2 (by simp)
    · rw [if_neg hc] at e'; cases e'
  | clo _ _ => cases e
  | stt _ => cases e
theorem kit_vale (hx : ∀ c, S.kx c = true → KExc X.K (W.cl c) ∧ PySem.W.kitOne X.K (.ref (W.cl c)) (.type "ValueError") = some true) : KitOk W X.K (.type "ValueError") (isiF S [.vale]) := fun d b e => by
  rw [isiF_one] at e
  cases d with
  | non => cases e; exact ⟨trivial, _, rfl, kit_ty (by decide +kernel)⟩
  | bl _ => cases e; exact ⟨trivial, _, rfl, kit_ty (by decide +kernel)⟩
  | int _ => cases e; exact ⟨trivial, _, rfl, kit_ty (by decide +kernel)⟩
  | str _ => cases e; exact ⟨trivial, _, rfl, kit_ty (by decide +kernel)⟩
  | tup _ => cases e; exact ⟨trivial, _, rfl, kit_ty (by decide +kernel)⟩
  | lst _ => cases e; exact ⟨trivial, _, rfl, kit_ty (by decide +kernel)⟩
  | dct _ _ => cases e; exact ⟨trivial, _, rfl, kit_ty (by decide +kernel)⟩
  | obj c fs =>
    have e' : (if S.ko c = true then (none : Option Bool) else none) = some b := e
    by_cases hc : S.ko c = true
    · rw [if_pos hc] at e'; cases e'
    · rw [if_neg hc] at e'; cases e'
  | exv c fs =>
    have e' : (if (S.kx c && fs.isEmpty) = true then some true else none) = some b := e
    by_cases hc : (S.kx c && fs.isEmpty) = true
    · rw [if_pos hc] at e'; cases e'
      simp only [Bool.and_eq_true] at hc
      cases fs with
      | nil => exact ⟨(hx c hc.1).1, _, rfl, (hx c hc.1).2⟩
      | cons _ _ => exact absurd hc.2 (by simp)
    · rw [if_neg hc] at e'; cases e'
  | clo _ _ => cases e
  | stt _ => cases e
theorem pdi_own {j : Nat} {x : Str} {p p2 : Pos} (hK : X.K = W.K) (k : KitOk W X.K (.ref (W.cl j)) (isiF S [.own j])) (hm : X.mg "isinstance" = none) (gl : X.mg x = some (.ref (W.cl j))) (ha : PD X W H0 Xw a (ev ea)) (hg : Gl X "isinstance" := by rfl) (hgT : Gl X x := by rfl) (hdb : (x == ("__debug__" : Str)) = false := by decide)
    (h1 : starEach [a, .Name x p2] X.env = (false, eval a X.env) :: starEach [.Name x p2] X.env := by rfl) : PD X W H0 Xw (.Call (.Name "isinstance" p) [a, .Name x p2] [] pos) (stepE S ev (.isi ea [.own j])) :=
  pd_isi1 (cv := .ref (W.cl j)) hK k hg hm ha (pe_glob hgT gl rfl hdb) (fun u r => r) h1 rfl rfl
theorem pdi_vale {p p2 : Pos} (hK : X.K = W.K) (k : KitOk W X.K (.type "ValueError") (isiF S [.vale])) (hm : X.mg "isinstance" = none) (hmV : X.mg "ValueError" = none) (ha : PD X W H0 Xw a (ev ea)) (hg : Gl X "isinstance" := by rfl) (hgT : Gl X "ValueError" := by rfl)
    (h1 : starEach [a, .Name "ValueError" p2] X.env = (false, eval a X.env) :: starEach [.Name "ValueError" p2] X.env := by rfl) : PD X W H0 Xw (.Call (.Name "isinstance" p) [a, .Name "ValueError" p2] [] pos) (stepE S ev (.isi ea [.vale])) :=
  pd_isi1 (cv := .ty "ValueError") hK k hg hm ha (pe_bltn hgT hmV (by decide +kernel) rfl (by decide) (by decide)) (fun u r => r) h1 rfl rfl
end
end T
end
section
set_option Elab.async false
set_option linter.all false
set_option autoImplicit false
set_option maxRecDepth 100000
set_option maxHeartbeats 4000000
namespace T
namespace K59
open PySem PySem.Spec PyProof.Rows L2
def top (i : Nat) : Stmt := PySem.Challenge.pw_turncoats_k59_what_turns_and_groups_refu.main.body.getD i (.Pass ⟨0, 0, 0, 0⟩)
def gas : Nat := 100000
def excs : List Str := ["NoSize", "NoTurn", "NoGroup"]
def S0 : Sig := { fn := fun _ _ => .bad, meth := fun _ _ _ => .bad, make := fun _ _ => .bad, gc := fun _ => none, sub := fun c d => d == 3 || c == d, ko := fun _ => false, kx := fun c => decide (c < 3), fo := fun _ _ => false, fx := fun _ _ => false, exc := fun c ds => if ds.isEmpty && decide (c < 3) then some ⟨c, []⟩ else none, act := .bad, cl := fun _ => [], lamB := fun _ => .bad, lamK := fun _ => false, wfn := fun _ _ _ _ => .bad }
def lamOf (q : Str) : Stmt → LamD
  | .Assign _ (.List [.Lambda p b s _] _) _ => ⟨q, p, b, s⟩
  | .Expr (.Call _ [.Lambda p b s _] _ _) _ => ⟨q, p, b, s⟩
  | _ => ⟨q, default, default, default⟩
def stAt (b : List Stmt) (i : Nat) : Stmt := b.getD i (.Pass ⟨0, 0, 0, 0⟩)
def inFor : Stmt → List Stmt
  | .For _ _ b _ _ => b
  | _ => []
def qR : Str := ("_law_turns_refused" : Str) ++ ".<locals>." ++ "<lambda>"
def qL : Str := ("law" : Str) ++ ".<locals>." ++ "<lambda>"
def lamTab : Nat → LamD := fun n => match n with
  | 0 => lamOf qR (stAt (defBody (top 47)) 2)
  | 1 => lamOf qR (stAt (defBody (top 47)) 3)
  | 2 => lamOf qR (stAt (defBody (top 47)) 4)
  | 3 => lamOf qR (stAt (defBody (top 47)) 7)
  | 4 => lamOf qR (stAt (defBody (top 47)) 8)
  | 5 => lamOf qR (stAt (defBody (top 47)) 9)
  | 6 => lamOf qR (stAt (defBody (top 47)) 12)
  | 7 => lamOf qR (stAt (defBody (top 47)) 13)
  | 8 => lamOf qR (stAt (defBody (top 47)) 14)
  | 9 => lamOf qL (stAt (inFor (stAt (inFor (stAt (defBody (top 48)) 1)) 4)) 1)
  | 10 => lamOf qL (stAt (inFor (stAt (inFor (stAt (defBody (top 48)) 1)) 4)) 2)
  | 11 => lamOf qL (stAt (inFor (stAt (inFor (stAt (defBody (top 48)) 1)) 4)) 3)
  | _ => ⟨qR, default, default, default⟩
def Wk (P : Program) (w : World) (K : PySem.W.Frag) : Wd := { P := P, w := w, K := K, cl := fun n => He.ga K (excs.getD n "CoatError"), fn := fun _ => "", lam := lamTab, tb := [((He.cT K ("_law_turns_refused", none)).2, ("_law_turns_refused" : Str) ++ ".<locals>." ++ "<lambda>"), ((He.cT K ("law", none)).2, ("law" : Str) ++ ".<locals>." ++ "<lambda>")] }
theorem tb_u0 {P : Program} {w : World} {K : PySem.W.Frag} (h : (He.cT K ("_law_turns_refused", none)).2 ≠ (He.cT K ("law", none)).2) : ∀ p ∈ (Wk P w K).tb, p.1 = (He.cT K ("_law_turns_refused", none)).2 → p.2 = ("_law_turns_refused" : Str) ++ ".<locals>." ++ "<lambda>" := fun p hp e => by
  rcases List.mem_cons.mp hp with rfl | hp
  · rfl
  · cases List.mem_singleton.mp hp
    exact absurd e.symm h
theorem tb_u1 {P : Program} {w : World} {K : PySem.W.Frag} (h : (He.cT K ("_law_turns_refused", none)).2 ≠ (He.cT K ("law", none)).2) : ∀ p ∈ (Wk P w K).tb, p.1 = (He.cT K ("law", none)).2 → p.2 = ("law" : Str) ++ ".<locals>." ++ "<lambda>" := fun p hp e => by
  rcases List.mem_cons.mp hp with rfl | hp
  · exact absurd e h
  · cases List.mem_singleton.mp hp
    rfl
theorem noEq {fn : Nat → Fnc} : NoEq { S0 with fn := fn } := fun _ _ => rfl
section
variable {P : Program} {w : World} {K : PySem.W.Frag} {mg : Str → Option Value} {base : Heap}

/-! ### is_count -/
abbrev s_is_count : Stmt := top 8
def b_is_count : List Stm := [(.ret (.and [(.isi (.var 0) [.int]), (.not (.isi (.var 0) [.bool])), (.chain .le .le (.var 1) (.var 0) (.var 2))]))]
def fn_is_count : Nat → Fnc := fun _ _ => .bad
def S_is_count : Sig := { S0 with fn := fn_is_count }
@[irreducible] def F_is_count : Fnc := defM S_is_count gas 3 b_is_count
theorem sc_is_count : FnScope ["thing", "least", "most"] ["thing", "least", "most"] (defScope s_is_count) := ⟨rfl, rfl, rfl, by decide +kernel, rfl, by decide +kernel, by decide +kernel⟩
theorem ok_is_count (F_isinstance : mg "isinstance" = none) (F_int : mg "int" = none) (F_bool : mg "bool" = none) (F : ∃ fd, FunD K "is_count" "is_count" (defArgs s_is_count) (defBody s_is_count) (defScope s_is_count) [] [] (He.ga K "is_count") fd) (gl : mg "is_count" = some (.ref (He.ga K "is_count"))) : Okf P w K mg base "is_count" 1 ["thing", "least", "most"] (spD (Wk P w K) 3 F_is_count) := by
  unfold F_is_count
  refine okg (W := Wk P w K) (S := S_is_count) (gas := gas) (b := b_is_count) F gl sc_is_count (fun _ _ _ _ _ _ us hl => match us, hl with | [_, _, _], _ => rfl) rfl fun f cdv A outer s H E hr tk hp => ?_
  have nd := sc_is_count.nd
  exact (psd_cons (psd_ret (pd_and (pdi (t := .int) rfl rfl F_isinstance F_int boot_int (pdv 0)) (pd_and (pd_not (pdi (t := .bool) rfl rfl F_isinstance F_bool boot_bool (pdv 0))) (pd_one (pd_chain .le .le (good_of rfl rfl rfl hr) (pdv 1) (pdv 0) (pdv 2) rfl)))))
    psd_nil)

/-! ### is_size -/
abbrev s_is_size : Stmt := top 9
def b_is_size : List Stm := [(.ret (.call 4 [] [(.var 0), (.cst (.int 2)), (.cst (.int 5))]))]
def fn_is_size : Nat → Fnc := fun k => match k with | 4 => F_is_count | _ => fun _ => .bad
def S_is_size : Sig := { S0 with fn := fn_is_size }
@[irreducible] def F_is_size : Fnc := defM S_is_size gas 1 b_is_size
theorem sc_is_size : FnScope ["thing"] ["thing"] (defScope s_is_size) := ⟨rfl, rfl, rfl, by decide +kernel, rfl, by decide +kernel, by decide +kernel⟩
theorem ok_is_size (I_LEAST_SIZE : ∃ t, mg "LEAST_SIZE" = some (.int 2 t)) (I_MOST_SIZE : ∃ t, mg "MOST_SIZE" = some (.int 5 t)) (h_is_count : Okf P w K mg base "is_count" 1 ["thing", "least", "most"] (spD (Wk P w K) 3 F_is_count)) (F : ∃ fd, FunD K "is_size" "is_size" (defArgs s_is_size) (defBody s_is_size) (defScope s_is_size) [] [] (He.ga K "is_size") fd) (gl : mg "is_size" = some (.ref (He.ga K "is_size"))) : Okf P w K mg base "is_size" 2 ["thing"] (spD (Wk P w K) 1 F_is_size) := by
  unfold F_is_size
  refine okg (W := Wk P w K) (S := S_is_size) (gas := gas) (b := b_is_size) F gl sc_is_size (fun _ _ _ _ _ _ us hl => match us, hl with | [_], _ => rfl) rfl fun f cdv A outer s H E hr tk hp => ?_
  have nd := sc_is_size.nd
  exact (psd_cons (psd_ret (pdo_call h_is_count hr (by decide) rfl tk rfl rfl (paa_consN (pdv 0) (paa_consN (pd_gint I_LEAST_SIZE) (paa_consN (pd_gint I_MOST_SIZE) paa_nil)))))
    psd_nil)

/-! ### need_size -/
abbrev s_need_size : Stmt := top 10
def b_need_size : List Stm := [(.iff (.not (.call 5 [] [(.var 0)])) [(.raise 0 [])] [])]
def fn_need_size : Nat → Fnc := fun k => match k with | 5 => F_is_size | _ => fun _ => .bad
def S_need_size : Sig := { S0 with fn := fn_need_size }
@[irreducible] def F_need_size : Fnc := defM S_need_size gas 1 b_need_size
theorem sc_need_size : FnScope ["thing"] ["thing"] (defScope s_need_size) := ⟨rfl, rfl, rfl, by decide +kernel, rfl, by decide +kernel, by decide +kernel⟩
theorem ok_need_size (X_NoSize : XF K mg "NoSize") (h_is_size : Okf P w K mg base "is_size" 2 ["thing"] (spD (Wk P w K) 1 F_is_size)) (F : ∃ fd, FunD K "need_size" "need_size" (defArgs s_need_size) (defBody s_need_size) (defScope s_need_size) [] [] (He.ga K "need_size") fd) (gl : mg "need_size" = some (.ref (He.ga K "need_size"))) : Okf P w K mg base "need_size" 3 ["thing"] (spD (Wk P w K) 1 F_need_size) := by
  unfold F_need_size
  refine okg (W := Wk P w K) (S := S_need_size) (gas := gas) (b := b_need_size) F gl sc_need_size (fun _ _ _ _ _ _ us hl => match us, hl with | [_], _ => rfl) rfl fun f cdv A outer s H E hr tk hp => ?_
  have nd := sc_need_size.nd
  exact (psd_cons (psd_if (pt_notD (pt_any rfl (pdo_call h_is_size hr (by decide) rfl tk rfl rfl (paa_consN (pdv 0) paa_nil)) (fun _ => rfl))) (psd_cons (psd_rz X_NoSize tk)
    psd_nil) psd_nil)
    psd_nil)

/-! ### is_turn -/
abbrev s_is_turn : Stmt := top 11
def b_is_turn : List Stm := [(.ex (.call 6 [] [(.var 1)])), (.iff (.or [(.not (.isi (.var 0) [.tuple])), (.cmp .ne (.blt 0 [(.var 0)]) (.var 1)), (.not (.blt 4 [(.lc [2] (.n 2) (.of (.var 0)) none (.call 4 [] [(.var 2), (.cst (.int 0)), (.bin .sub (.var 1) (.cst (.int 1)))]))]))]) [(.ret (.cst (.bl false)))] []), (.ret (.cmp .eq (.blt 3 [(.var 0)]) (.rng false none (.var 1))))]
def fn_is_turn : Nat → Fnc := fun k => match k with | 6 => F_need_size | 4 => F_is_count | _ => fun _ => .bad
def S_is_turn : Sig := { S0 with fn := fn_is_turn }
@[irreducible] def F_is_turn : Fnc := defM S_is_turn gas 3 b_is_turn
theorem sc_is_turn : FnScope ["thing", "size", "one"] ["thing", "size"] (defScope s_is_turn) := ⟨rfl, rfl, rfl, by decide +kernel, rfl, by decide +kernel, by decide +kernel⟩
theorem ok_is_turn (F_isinstance : mg "isinstance" = none) (F_tuple : mg "tuple" = none) (F_len : mg "len" = none) (F_all : mg "all" = none) (F_sorted : mg "sorted" = none) (F_list : mg "list" = none) (F_range : mg "range" = none) (h_need_size : Okf P w K mg base "need_size" 3 ["thing"] (spD (Wk P w K) 1 F_need_size)) (h_is_count : Okf P w K mg base "is_count" 1 ["thing", "least", "most"] (spD (Wk P w K) 3 F_is_count)) (F : ∃ fd, FunD K "is_turn" "is_turn" (defArgs s_is_turn) (defBody s_is_turn) (defScope s_is_turn) [] [] (He.ga K "is_turn") fd) (gl : mg "is_turn" = some (.ref (He.ga K "is_turn"))) : Okf P w K mg base "is_turn" 4 ["thing", "size"] (spD (Wk P w K) 2 F_is_turn) := by
  unfold F_is_turn
  refine okg (W := Wk P w K) (S := S_is_turn) (gas := gas) (b := b_is_turn) F gl sc_is_turn (fun _ _ _ _ _ _ us hl => match us, hl with | [_, _], _ => rfl) rfl fun f cdv A outer s H E hr tk hp => ?_
  have nd := sc_is_turn.nd
  exact (psd_cons (psd_ex (pdo_call h_need_size hr (by decide) rfl tk rfl rfl (paa_consN (pdv 1) paa_nil)))
    (psd_cons (psd_if (PW.pt (pw_orD (pt_notD (pt_any rfl (pdi (t := .tuple) rfl rfl F_isinstance F_tuple boot_tuple (pdv 0)) (fun _ => rfl))) (pw_orD (pt_cmpD .ne (good_of rfl rfl rfl hr) noEq (pd_bltB (blt_len (good_of rfl rfl rfl hr)) rfl F_len boot_len (pao_cons (pdv 0) pao_nil)) (pdv 1) rfl) (pw_or1D (pt_notD (pt_any rfl (pd_bltB (blt_all rfl) rfl F_all boot_all (pao_cons (pd_lc (own := [("one", 2)]) rfl nd (pid_of rfl (pdv 0)) (blkOk_by (N := ["thing", "size", "one"]) (sc := defScope s_is_turn) (by decide +kernel)) (by decide) (fun _ _ _ _ _ => (pgdn 2 nd)) (fun _ _ _ _ _ => ptsd_nil) (fun _ _ _ _ _ => (pdo_call h_is_count hr (by decide) rfl takes0 rfl rfl (paa_consN (pdv 2) (paa_consN pd_int (paa_consN (pd_bin .sub rfl (pdv 1) pd_int) paa_nil)))))) pao_nil)) (fun _ => rfl))))))) (psd_cons (psd_ret pd_bl)
    psd_nil) psd_nil)
    (psd_cons (psd_ret (pd_cmp .eq (good_of rfl rfl rfl hr) noEq (pd_bltB (blt_sorted (good_of rfl rfl rfl hr) rfl) rfl F_sorted boot_sorted (pao_cons (pdv 0) pao_nil)) (pd_rg1 (cr_list_rg rfl) rfl F_list boot_list rfl F_range (pdv 1)) rfl))
    psd_nil)))

/-! ### need_turn -/
abbrev s_need_turn : Stmt := top 12
def b_need_turn : List Stm := [(.iff (.or [(.not (.isi (.var 0) [.tuple])), (.not (.call 5 [] [(.blt 0 [(.var 0)])])), (.not (.call 7 [] [(.var 0), (.blt 0 [(.var 0)])]))]) [(.raise 1 [])] [])]
def fn_need_turn : Nat → Fnc := fun k => match k with | 5 => F_is_size | 7 => F_is_turn | _ => fun _ => .bad
def S_need_turn : Sig := { S0 with fn := fn_need_turn }
@[irreducible] def F_need_turn : Fnc := defM S_need_turn gas 1 b_need_turn
theorem sc_need_turn : FnScope ["thing"] ["thing"] (defScope s_need_turn) := ⟨rfl, rfl, rfl, by decide +kernel, rfl, by decide +kernel, by decide +kernel⟩
theorem ok_need_turn (F_isinstance : mg "isinstance" = none) (F_tuple : mg "tuple" = none) (F_len : mg "len" = none) (X_NoTurn : XF K mg "NoTurn") (h_is_size : Okf P w K mg base "is_size" 2 ["thing"] (spD (Wk P w K) 1 F_is_size)) (h_is_turn : Okf P w K mg base "is_turn" 4 ["thing", "size"] (spD (Wk P w K) 2 F_is_turn)) (F : ∃ fd, FunD K "need_turn" "need_turn" (defArgs s_need_turn) (defBody s_need_turn) (defScope s_need_turn) [] [] (He.ga K "need_turn") fd) (gl : mg "need_turn" = some (.ref (He.ga K "need_turn"))) : Okf P w K mg base "need_turn" 5 ["thing"] (spD (Wk P w K) 1 F_need_turn) := by
  unfold F_need_turn
  refine okg (W := Wk P w K) (S := S_need_turn) (gas := gas) (b := b_need_turn) F gl sc_need_turn (fun _ _ _ _ _ _ us hl => match us, hl with | [_], _ => rfl) rfl fun f cdv A outer s H E hr tk hp => ?_
  have nd := sc_need_turn.nd
  exact (psd_cons (psd_if (PW.pt (pw_orD (pt_notD (pt_any rfl (pdi (t := .tuple) rfl rfl F_isinstance F_tuple boot_tuple (pdv 0)) (fun _ => rfl))) (pw_orD (pt_notD (pt_any rfl (pdo_call h_is_size hr (by decide) rfl tk rfl rfl (paa_consN (pd_bltB (blt_len (good_of rfl rfl rfl hr)) rfl F_len boot_len (pao_cons (pdv 0) pao_nil)) paa_nil)) (fun _ => rfl))) (pw_or1D (pt_notD (pt_any rfl (pdo_call h_is_turn hr (by decide) rfl tk rfl rfl (paa_consN (pdv 0) (paa_consN (pd_bltB (blt_len (good_of rfl rfl rfl hr)) rfl F_len boot_len (pao_cons (pdv 0) pao_nil)) paa_nil))) (fun _ => rfl))))))) (psd_cons (psd_rz X_NoTurn tk)
    psd_nil) psd_nil)
    psd_nil)

/-! ### plain -/
abbrev s_plain : Stmt := top 13
def b_plain : List Stm := [(.ex (.call 6 [] [(.var 0)])), (.ret (.rng true none (.var 0)))]
def fn_plain : Nat → Fnc := fun k => match k with | 6 => F_need_size | _ => fun _ => .bad
def S_plain : Sig := { S0 with fn := fn_plain }
@[irreducible] def F_plain : Fnc := defM S_plain gas 1 b_plain
theorem sc_plain : FnScope ["size"] ["size"] (defScope s_plain) := ⟨rfl, rfl, rfl, by decide +kernel, rfl, by decide +kernel, by decide +kernel⟩
theorem ok_plain (F_tuple : mg "tuple" = none) (F_range : mg "range" = none) (h_need_size : Okf P w K mg base "need_size" 3 ["thing"] (spD (Wk P w K) 1 F_need_size)) (F : ∃ fd, FunD K "plain" "plain" (defArgs s_plain) (defBody s_plain) (defScope s_plain) [] [] (He.ga K "plain") fd) (gl : mg "plain" = some (.ref (He.ga K "plain"))) : Okf P w K mg base "plain" 4 ["size"] (spD (Wk P w K) 1 F_plain) := by
  unfold F_plain
  refine okg (W := Wk P w K) (S := S_plain) (gas := gas) (b := b_plain) F gl sc_plain (fun _ _ _ _ _ _ us hl => match us, hl with | [_], _ => rfl) rfl fun f cdv A outer s H E hr tk hp => ?_
  have nd := sc_plain.nd
  exact (psd_cons (psd_ex (pdo_call h_need_size hr (by decide) rfl tk rfl rfl (paa_consN (pdv 0) paa_nil)))
    (psd_cons (psd_ret (pd_rg1 (cr_tuple_rg rfl) rfl F_tuple boot_tuple rfl F_range (pdv 0)))
    psd_nil))

/-! ### order -/
abbrev s_order : Stmt := top 16
def b_order : List Stm := [(.ex (.call 8 [] [(.var 0)])), .bad, .bad, .bad]
def fn_order : Nat → Fnc := fun k => match k with | 8 => F_need_turn | _ => fun _ => .bad
def S_order : Sig := { S0 with fn := fn_order }
@[irreducible] def F_order : Fnc := defM S_order gas 3 b_order
theorem sc_order : FnScope ["turn", "count", "found"] ["turn"] (defScope s_order) := ⟨rfl, rfl, rfl, by decide +kernel, rfl, by decide +kernel, by decide +kernel⟩
theorem ok_order  (h_need_turn : Okf P w K mg base "need_turn" 5 ["thing"] (spD (Wk P w K) 1 F_need_turn)) (F : ∃ fd, FunD K "order" "order" (defArgs s_order) (defBody s_order) (defScope s_order) [] [] (He.ga K "order") fd) (gl : mg "order" = some (.ref (He.ga K "order"))) : Okf P w K mg base "order" 6 ["turn"] (spD (Wk P w K) 1 F_order) := by
  unfold F_order
  refine okg (W := Wk P w K) (S := S_order) (gas := gas) (b := b_order) F gl sc_order (fun _ _ _ _ _ _ us hl => match us, hl with | [_], _ => rfl) rfl fun f cdv A outer s H E hr tk hp => ?_
  have nd := sc_order.nd
  exact (psd_cons (psd_ex (pdo_call h_need_turn hr (by decide) rfl tk rfl rfl (paa_consN (pdv 0) paa_nil)))
    (psd_cons psd_bad
    (psd_cons psd_bad
    (psd_cons psd_bad
    psd_nil))))

/-! ### times -/
abbrev s_times : Stmt := top 17
def b_times : List Stm := [(.set (.n 2) (.ite (.isi (.var 0) [.tuple]) (.rng true none (.blt 0 [(.var 0)])) (.tup []))), (.for_ (.n 3) (.range none (.bin .mod (.var 1) (.call 12 [] [(.var 0)]))) [.bad]), .bad]
def fn_times : Nat → Fnc := fun k => match k with | 12 => F_order | _ => fun _ => .bad
def S_times : Sig := { S0 with fn := fn_times }
@[irreducible] def F_times : Fnc := defM S_times gas 4 b_times
theorem sc_times : FnScope ["turn", "n", "found", "again"] ["turn", "n"] (defScope s_times) := ⟨rfl, rfl, rfl, by decide +kernel, rfl, by decide +kernel, by decide +kernel⟩
theorem ok_times (F_isinstance : mg "isinstance" = none) (F_tuple : mg "tuple" = none) (F_len : mg "len" = none) (F_range : mg "range" = none) (h_order : Okf P w K mg base "order" 6 ["turn"] (spD (Wk P w K) 1 F_order)) (F : ∃ fd, FunD K "times" "times" (defArgs s_times) (defBody s_times) (defScope s_times) [] [] (He.ga K "times") fd) (gl : mg "times" = some (.ref (He.ga K "times"))) : Okf P w K mg base "times" 7 ["turn", "n"] (spD (Wk P w K) 2 F_times) := by
  unfold F_times
  refine okg (W := Wk P w K) (S := S_times) (gas := gas) (b := b_times) F gl sc_times (fun _ _ _ _ _ _ us hl => match us, hl with | [_, _], _ => rfl) rfl fun f cdv A outer s H E hr tk hp => ?_
  have nd := sc_times.nd
  exact (psd_cons (psd_set (i := 2) nd rfl (by first | exact Or.inl rfl | exact Or.inr rfl) (pd_ite (pt_any rfl (pdi (t := .tuple) rfl rfl F_isinstance F_tuple boot_tuple (pdv 0)) (fun _ => rfl)) (pd_rg1 (cr_tuple_rg rfl) rfl F_tuple boot_tuple rfl F_range (pd_bltB (blt_len (good_of rfl rfl rfl hr)) rfl F_len boot_len (pao_cons (pdv 0) pao_nil))) (pd_tup pav_nil)) rfl)
    (psd_cons (psd_for hp rfl (pid_range1 rfl F_range (pd_bin .mod rfl (pdv 1) (pdo_call h_order hr (by decide) rfl tk rfl rfl (paa_consN (pdv 0) paa_nil)))) (pgdn 3 nd) (psd_cons psd_bad
    psd_nil))
    (psd_cons psd_bad
    psd_nil)))

/-! ### sign -/
abbrev s_sign : Stmt := top 19
def b_sign : List Stm := [(.ex (.call 8 [] [(.var 0)])), .bad]
def fn_sign : Nat → Fnc := fun k => match k with | 8 => F_need_turn | _ => fun _ => .bad
def S_sign : Sig := { S0 with fn := fn_sign }
@[irreducible] def F_sign : Fnc := defM S_sign gas 1 b_sign
theorem sc_sign : FnScope ["turn"] ["turn"] (defScope s_sign) := ⟨rfl, rfl, rfl, by decide +kernel, rfl, by decide +kernel, by decide +kernel⟩
theorem ok_sign  (h_need_turn : Okf P w K mg base "need_turn" 5 ["thing"] (spD (Wk P w K) 1 F_need_turn)) (F : ∃ fd, FunD K "sign" "sign" (defArgs s_sign) (defBody s_sign) (defScope s_sign) [] [] (He.ga K "sign") fd) (gl : mg "sign" = some (.ref (He.ga K "sign"))) : Okf P w K mg base "sign" 6 ["turn"] (spD (Wk P w K) 1 F_sign) := by
  unfold F_sign
  refine okg (W := Wk P w K) (S := S_sign) (gas := gas) (b := b_sign) F gl sc_sign (fun _ _ _ _ _ _ us hl => match us, hl with | [_], _ => rfl) rfl fun f cdv A outer s H E hr tk hp => ?_
  have nd := sc_sign.nd
  exact (psd_cons (psd_ex (pdo_call h_need_turn hr (by decide) rfl tk rfl rfl (paa_consN (pdv 0) paa_nil)))
    (psd_cons psd_bad
    psd_nil))

/-! ### plain_of -/
abbrev s_plain_of : Stmt := top 22
def b_plain_of : List Stm := [(.ret (.rng true none (.var 0)))]
def fn_plain_of : Nat → Fnc := fun _ _ => .bad
def S_plain_of : Sig := { S0 with fn := fn_plain_of }
@[irreducible] def F_plain_of : Fnc := defM S_plain_of gas 1 b_plain_of
theorem sc_plain_of : FnScope ["size"] ["size"] (defScope s_plain_of) := ⟨rfl, rfl, rfl, by decide +kernel, rfl, by decide +kernel, by decide +kernel⟩
theorem ok_plain_of (F_tuple : mg "tuple" = none) (F_range : mg "range" = none) (F : ∃ fd, FunD K "plain_of" "plain_of" (defArgs s_plain_of) (defBody s_plain_of) (defScope s_plain_of) [] [] (He.ga K "plain_of") fd) (gl : mg "plain_of" = some (.ref (He.ga K "plain_of"))) : Okf P w K mg base "plain_of" 1 ["size"] (spD (Wk P w K) 1 F_plain_of) := by
  unfold F_plain_of
  refine okg (W := Wk P w K) (S := S_plain_of) (gas := gas) (b := b_plain_of) F gl sc_plain_of (fun _ _ _ _ _ _ us hl => match us, hl with | [_], _ => rfl) rfl fun f cdv A outer s H E hr tk hp => ?_
  have nd := sc_plain_of.nd
  exact (psd_cons (psd_ret (pd_rg1 (cr_tuple_rg rfl) rfl F_tuple boot_tuple rfl F_range (pdv 0)))
    psd_nil)

/-! ### made -/
abbrev s_made : Stmt := top 24
def b_made : List Stm := [(.iff (.not (.isi (.var 0) [.list, .tuple])) [(.raise 1 [])] []), .bad, .bad, .bad, .bad]
def fn_made : Nat → Fnc := fun _ _ => .bad
def S_made : Sig := { S0 with fn := fn_made }
@[irreducible] def F_made : Fnc := defM S_made gas 3 b_made
theorem sc_made : FnScope ["turns", "size", "turn"] ["turns", "size"] (defScope s_made) := ⟨rfl, rfl, rfl, by decide +kernel, rfl, by decide +kernel, by decide +kernel⟩
theorem ok_made (F_isinstance : mg "isinstance" = none) (F_list : mg "list" = none) (F_tuple : mg "tuple" = none) (X_NoTurn : XF K mg "NoTurn") (F : ∃ fd, FunD K "made" "made" (defArgs s_made) (defBody s_made) (defScope s_made) [] [] (He.ga K "made") fd) (gl : mg "made" = some (.ref (He.ga K "made"))) : Okf P w K mg base "made" 1 ["turns", "size"] (spD (Wk P w K) 2 F_made) := by
  unfold F_made
  refine okg (W := Wk P w K) (S := S_made) (gas := gas) (b := b_made) F gl sc_made (fun _ _ _ _ _ _ us hl => match us, hl with | [_, _], _ => rfl) rfl fun f cdv A outer s H E hr tk hp => ?_
  have nd := sc_made.nd
  exact (psd_cons (psd_if (pt_notD (pt_any rfl (pdi2 (t := .list) (u := .tuple) rfl rfl rfl F_isinstance F_list F_tuple boot_list boot_tuple (pdv 0)) (fun _ => rfl))) (psd_cons (psd_rz X_NoTurn tk)
    psd_nil) psd_nil)
    (psd_cons psd_bad
    (psd_cons psd_bad
    (psd_cons psd_bad
    (psd_cons psd_bad
    psd_nil)))))

/-! ### is_group -/
abbrev s_is_group : Stmt := top 25
def b_is_group : List Stm := [(.ex (.call 6 [] [(.var 1)])), (.iff (.or [(.not (.isi (.var 0) [.tuple])), (.cmp .eq (.var 0) (.tup [])), (.not (.blt 4 [(.lc [3] (.n 3) (.of (.var 0)) none (.call 7 [] [(.var 3), (.var 1)]))]))]) [(.ret (.cst (.bl false)))] []), (.iff (.not (.blt 4 [(.lc [3, 4] (.t [(.n 3), (.n 4)]) (.zip (.var 0) (.slc (.var 0) (some (.cst (.int 1))) none)) none (.cmp .lt (.var 3) (.var 4)))])) [(.ret (.cst (.bl false)))] []), (.set (.n 2) (.dc true [3] (.n 3) (.of (.var 0)) none (.var 3) (.cst (.bl true)))), (.ret (.and [(.cmp .in_ (.call 16 [] [(.var 1)]) (.var 2)), (.blt 4 [.bad])]))]
def fn_is_group : Nat → Fnc := fun k => match k with | 6 => F_need_size | 7 => F_is_turn | 16 => F_plain_of | _ => fun _ => .bad
def S_is_group : Sig := { S0 with fn := fn_is_group }
@[irreducible] def F_is_group : Fnc := defM S_is_group gas 5 b_is_group
theorem sc_is_group : FnScope ["thing", "size", "known", "one", "other"] ["thing", "size"] (defScope s_is_group) := ⟨rfl, rfl, rfl, by decide +kernel, rfl, by decide +kernel, by decide +kernel⟩
theorem ok_is_group (F_isinstance : mg "isinstance" = none) (F_tuple : mg "tuple" = none) (F_all : mg "all" = none) (F_zip : mg "zip" = none) (h_need_size : Okf P w K mg base "need_size" 3 ["thing"] (spD (Wk P w K) 1 F_need_size)) (h_is_turn : Okf P w K mg base "is_turn" 4 ["thing", "size"] (spD (Wk P w K) 2 F_is_turn)) (h_plain_of : Okf P w K mg base "plain_of" 1 ["size"] (spD (Wk P w K) 1 F_plain_of)) (F : ∃ fd, FunD K "is_group" "is_group" (defArgs s_is_group) (defBody s_is_group) (defScope s_is_group) [] [] (He.ga K "is_group") fd) (gl : mg "is_group" = some (.ref (He.ga K "is_group"))) : Okf P w K mg base "is_group" 5 ["thing", "size"] (spD (Wk P w K) 2 F_is_group) := by
  unfold F_is_group
  refine okg (W := Wk P w K) (S := S_is_group) (gas := gas) (b := b_is_group) F gl sc_is_group (fun _ _ _ _ _ _ us hl => match us, hl with | [_, _], _ => rfl) rfl fun f cdv A outer s H E hr tk hp => ?_
  have nd := sc_is_group.nd
  exact (psd_cons (psd_ex (pdo_call h_need_size hr (by decide) rfl tk rfl rfl (paa_consN (pdv 1) paa_nil)))
    (psd_cons (psd_if (PW.pt (pw_orD (pt_notD (pt_any rfl (pdi (t := .tuple) rfl rfl F_isinstance F_tuple boot_tuple (pdv 0)) (fun _ => rfl))) (pw_orD (pt_cmpD .eq (good_of rfl rfl rfl hr) noEq (pdv 0) (pd_tup pav_nil) rfl) (pw_or1D (pt_notD (pt_any rfl (pd_bltB (blt_all rfl) rfl F_all boot_all (pao_cons (pd_lc (own := [("one", 3)]) rfl nd (pid_of rfl (pdv 0)) (blkOk_by (N := ["thing", "size", "known", "one", "other"]) (sc := defScope s_is_group) (by decide +kernel)) (by decide) (fun _ _ _ _ _ => (pgdn 3 nd)) (fun _ _ _ _ _ => ptsd_nil) (fun _ _ _ _ _ => (pdo_call h_is_turn hr (by decide) rfl takes0 rfl rfl (paa_consN (pdv 3) (paa_consN (pdv 1) paa_nil))))) pao_nil)) (fun _ => rfl))))))) (psd_cons (psd_ret pd_bl)
    psd_nil) psd_nil)
    (psd_cons (psd_if (pt_notD (pt_any rfl (pd_bltB (blt_all rfl) rfl F_all boot_all (pao_cons (pd_lc (own := [("one", 3), ("other", 4)]) rfl nd (pid_zip rfl rfl F_zip (pdv 0) (pd_slc rfl (pdv 0) (pod_some pd_int) pod_none)) (blkOk_by (N := ["thing", "size", "known", "one", "other"]) (sc := defScope s_is_group) (by decide +kernel)) (by decide) (fun _ _ _ _ _ => (pgd_tup rfl rfl (pgds_cons (pgdn 3 nd) (pgds_cons (pgdn 4 nd) pgds_nil)))) (fun _ _ _ _ _ => ptsd_nil) (fun _ _ _ _ _ => (pd_cmp .lt (good_of rfl rfl rfl hr) noEq (pdv 3) (pdv 4) rfl))) pao_nil)) (fun _ => rfl))) (psd_cons (psd_ret pd_bl)
    psd_nil) psd_nil)
    (psd_cons (psd_set (i := 2) nd rfl (by first | exact Or.inl rfl | exact Or.inr rfl) (pd_dc (own := [("one", 3)]) (good_of rfl rfl rfl hr) rfl nd (pid_of rfl (pdv 0)) (blkOk_by (N := ["thing", "size", "known", "one", "other"]) (sc := defScope s_is_group) (by decide +kernel)) (by decide) (fun _ _ _ _ _ => (pgdn 3 nd)) (fun _ _ _ _ _ => ptsd_nil) (fun _ _ _ _ _ => (pdv 3)) (fun _ _ _ _ _ => pd_bl)) rfl)
    (psd_cons (psd_ret (pd_and (pd_cmp .in_ (good_of rfl rfl rfl hr) noEq (pdo_call h_plain_of hr (by decide) rfl tk rfl rfl (paa_consN (pdv 1) paa_nil)) (pdv 2) rfl) (pd_one (pd_bltB (blt_all rfl) rfl F_all boot_all (pao_cons pd_bad pao_nil)))))
    psd_nil)))))

/-! ### size_of -/
abbrev s_size_of : Stmt := top 26
def b_size_of : List Stm := [(.iff (.or [(.not (.isi (.var 0) [.tuple])), (.cmp .eq (.var 0) (.tup [])), (.not (.isi (.sub (.var 0) (.cst (.int 0))) [.tuple])), (.not (.call 5 [] [(.blt 0 [(.sub (.var 0) (.cst (.int 0)))])]))]) [(.ret (.cst (.int 0)))] []), (.ret (.blt 0 [(.sub (.var 0) (.cst (.int 0)))]))]
def fn_size_of : Nat → Fnc := fun k => match k with | 5 => F_is_size | _ => fun _ => .bad
def S_size_of : Sig := { S0 with fn := fn_size_of }
@[irreducible] def F_size_of : Fnc := defM S_size_of gas 1 b_size_of
theorem sc_size_of : FnScope ["thing"] ["thing"] (defScope s_size_of) := ⟨rfl, rfl, rfl, by decide +kernel, rfl, by decide +kernel, by decide +kernel⟩
theorem ok_size_of (F_isinstance : mg "isinstance" = none) (F_tuple : mg "tuple" = none) (F_len : mg "len" = none) (h_is_size : Okf P w K mg base "is_size" 2 ["thing"] (spD (Wk P w K) 1 F_is_size)) (F : ∃ fd, FunD K "size_of" "size_of" (defArgs s_size_of) (defBody s_size_of) (defScope s_size_of) [] [] (He.ga K "size_of") fd) (gl : mg "size_of" = some (.ref (He.ga K "size_of"))) : Okf P w K mg base "size_of" 3 ["thing"] (spD (Wk P w K) 1 F_size_of) := by
  unfold F_size_of
  refine okg (W := Wk P w K) (S := S_size_of) (gas := gas) (b := b_size_of) F gl sc_size_of (fun _ _ _ _ _ _ us hl => match us, hl with | [_], _ => rfl) rfl fun f cdv A outer s H E hr tk hp => ?_
  have nd := sc_size_of.nd
  exact (psd_cons (psd_if (PW.pt (pw_orD (pt_notD (pt_any rfl (pdi (t := .tuple) rfl rfl F_isinstance F_tuple boot_tuple (pdv 0)) (fun _ => rfl))) (pw_orD (pt_cmpD .eq (good_of rfl rfl rfl hr) noEq (pdv 0) (pd_tup pav_nil) rfl) (pw_orD (pt_notD (pt_any rfl (pdi (t := .tuple) rfl rfl F_isinstance F_tuple boot_tuple (pd_sub (good_of rfl rfl rfl hr) (pdv 0) pd_int (fun _ _ => rfl))) (fun _ => rfl))) (pw_or1D (pt_notD (pt_any rfl (pdo_call h_is_size hr (by decide) rfl tk rfl rfl (paa_consN (pd_bltB (blt_len (good_of rfl rfl rfl hr)) rfl F_len boot_len (pao_cons (pd_sub (good_of rfl rfl rfl hr) (pdv 0) pd_int (fun _ _ => rfl)) pao_nil)) paa_nil)) (fun _ => rfl)))))))) (psd_cons (psd_ret pd_int)
    psd_nil) psd_nil)
    (psd_cons (psd_ret (pd_bltB (blt_len (good_of rfl rfl rfl hr)) rfl F_len boot_len (pao_cons (pd_sub (good_of rfl rfl rfl hr) (pdv 0) pd_int (fun _ _ => rfl)) pao_nil)))
    psd_nil))

/-! ### need_group -/
abbrev s_need_group : Stmt := top 27
def b_need_group : List Stm := [(.set (.n 1) (.call 20 [] [(.var 0)])), (.iff (.or [(.cmp .eq (.var 1) (.cst (.int 0))), (.not (.call 19 [] [(.var 0), (.var 1)]))]) [(.raise 2 [])] [])]
def fn_need_group : Nat → Fnc := fun k => match k with | 20 => F_size_of | 19 => F_is_group | _ => fun _ => .bad
def S_need_group : Sig := { S0 with fn := fn_need_group }
@[irreducible] def F_need_group : Fnc := defM S_need_group gas 2 b_need_group
theorem sc_need_group : FnScope ["thing", "size"] ["thing"] (defScope s_need_group) := ⟨rfl, rfl, rfl, by decide +kernel, rfl, by decide +kernel, by decide +kernel⟩
theorem ok_need_group (X_NoGroup : XF K mg "NoGroup") (h_size_of : Okf P w K mg base "size_of" 3 ["thing"] (spD (Wk P w K) 1 F_size_of)) (h_is_group : Okf P w K mg base "is_group" 5 ["thing", "size"] (spD (Wk P w K) 2 F_is_group)) (F : ∃ fd, FunD K "need_group" "need_group" (defArgs s_need_group) (defBody s_need_group) (defScope s_need_group) [] [] (He.ga K "need_group") fd) (gl : mg "need_group" = some (.ref (He.ga K "need_group"))) : Okf P w K mg base "need_group" 6 ["thing"] (spD (Wk P w K) 1 F_need_group) := by
  unfold F_need_group
  refine okg (W := Wk P w K) (S := S_need_group) (gas := gas) (b := b_need_group) F gl sc_need_group (fun _ _ _ _ _ _ us hl => match us, hl with | [_], _ => rfl) rfl fun f cdv A outer s H E hr tk hp => ?_
  have nd := sc_need_group.nd
  exact (psd_cons (psd_set (i := 1) nd rfl (by first | exact Or.inl rfl | exact Or.inr rfl) (pdo_call h_size_of hr (by decide) rfl tk rfl rfl (paa_consN (pdv 0) paa_nil)) rfl)
    (psd_cons (psd_if (PW.pt (pw_orD (pt_cmpD .eq (good_of rfl rfl rfl hr) noEq (pdv 1) pd_int rfl) (pw_or1D (pt_notD (pt_any rfl (pdo_call h_is_group hr (by decide) rfl tk rfl rfl (paa_consN (pdv 0) (paa_consN (pdv 1) paa_nil))) (fun _ => rfl)))))) (psd_cons (psd_rz X_NoGroup tk)
    psd_nil) psd_nil)
    psd_nil))

/-! ### word -/
abbrev s_word : Stmt := top 28
def b_word : List Stm := [(.iff (.not (.isi (.var 0) [.list, .tuple])) [(.raise 1 [])] []), .bad, .bad, .bad, .bad, .bad, .bad, .bad, .bad]
def fn_word : Nat → Fnc := fun _ _ => .bad
def S_word : Sig := { S0 with fn := fn_word }
@[irreducible] def F_word : Fnc := defM S_word gas 11 b_word
theorem sc_word : FnScope ["turns", "goal", "turn", "pairs", "begin", "line", "known", "at", "number", "way", "later"] ["turns", "goal"] (defScope s_word) := ⟨rfl, rfl, rfl, by decide +kernel, rfl, by decide +kernel, by decide +kernel⟩
theorem ok_word (F_isinstance : mg "isinstance" = none) (F_list : mg "list" = none) (F_tuple : mg "tuple" = none) (X_NoTurn : XF K mg "NoTurn") (F : ∃ fd, FunD K "word" "word" (defArgs s_word) (defBody s_word) (defScope s_word) [] [] (He.ga K "word") fd) (gl : mg "word" = some (.ref (He.ga K "word"))) : Okf P w K mg base "word" 1 ["turns", "goal"] (spD (Wk P w K) 2 F_word) := by
  unfold F_word
  refine okg (W := Wk P w K) (S := S_word) (gas := gas) (b := b_word) F gl sc_word (fun _ _ _ _ _ _ us hl => match us, hl with | [_, _], _ => rfl) rfl fun f cdv A outer s H E hr tk hp => ?_
  have nd := sc_word.nd
  exact (psd_cons (psd_if (pt_notD (pt_any rfl (pdi2 (t := .list) (u := .tuple) rfl rfl rfl F_isinstance F_list F_tuple boot_list boot_tuple (pdv 0)) (fun _ => rfl))) (psd_cons (psd_rz X_NoTurn tk)
    psd_nil) psd_nil)
    (psd_cons psd_bad
    (psd_cons psd_bad
    (psd_cons psd_bad
    (psd_cons psd_bad
    (psd_cons psd_bad
    (psd_cons psd_bad
    (psd_cons psd_bad
    (psd_cons psd_bad
    psd_nil)))))))))

/-! ### commuted -/
abbrev s_commuted : Stmt := top 29
def b_commuted : List Stm := [(.ex (.call 21 [] [(.var 0)])), .bad, .bad, .bad]
def fn_commuted : Nat → Fnc := fun k => match k with | 21 => F_need_group | _ => fun _ => .bad
def S_commuted : Sig := { S0 with fn := fn_commuted }
@[irreducible] def F_commuted : Fnc := defM S_commuted gas 5 b_commuted
theorem sc_commuted : FnScope ["group", "some", "one", "other", "back"] ["group"] (defScope s_commuted) := ⟨rfl, rfl, rfl, by decide +kernel, rfl, by decide +kernel, by decide +kernel⟩
theorem ok_commuted  (h_need_group : Okf P w K mg base "need_group" 6 ["thing"] (spD (Wk P w K) 1 F_need_group)) (F : ∃ fd, FunD K "commuted" "commuted" (defArgs s_commuted) (defBody s_commuted) (defScope s_commuted) [] [] (He.ga K "commuted") fd) (gl : mg "commuted" = some (.ref (He.ga K "commuted"))) : Okf P w K mg base "commuted" 7 ["group"] (spD (Wk P w K) 1 F_commuted) := by
  unfold F_commuted
  refine okg (W := Wk P w K) (S := S_commuted) (gas := gas) (b := b_commuted) F gl sc_commuted (fun _ _ _ _ _ _ us hl => match us, hl with | [_], _ => rfl) rfl fun f cdv A outer s H E hr tk hp => ?_
  have nd := sc_commuted.nd
  exact (psd_cons (psd_ex (pdo_call h_need_group hr (by decide) rfl tk rfl rfl (paa_consN (pdv 0) paa_nil)))
    (psd_cons psd_bad
    (psd_cons psd_bad
    (psd_cons psd_bad
    psd_nil))))

/-! ### leadings -/
abbrev s_leadings : Stmt := top 34
def b_leadings : List Stm := [(.ex (.call 21 [] [(.var 0)])), .bad]
def fn_leadings : Nat → Fnc := fun k => match k with | 21 => F_need_group | _ => fun _ => .bad
def S_leadings : Sig := { S0 with fn := fn_leadings }
@[irreducible] def F_leadings : Fnc := defM S_leadings gas 3 b_leadings
theorem sc_leadings : FnScope ["group", "told", "turn"] ["group"] (defScope s_leadings) := ⟨rfl, rfl, rfl, by decide +kernel, rfl, by decide +kernel, by decide +kernel⟩
theorem ok_leadings  (h_need_group : Okf P w K mg base "need_group" 6 ["thing"] (spD (Wk P w K) 1 F_need_group)) (F : ∃ fd, FunD K "leadings" "leadings" (defArgs s_leadings) (defBody s_leadings) (defScope s_leadings) [] [] (He.ga K "leadings") fd) (gl : mg "leadings" = some (.ref (He.ga K "leadings"))) : Okf P w K mg base "leadings" 7 ["group"] (spD (Wk P w K) 1 F_leadings) := by
  unfold F_leadings
  refine okg (W := Wk P w K) (S := S_leadings) (gas := gas) (b := b_leadings) F gl sc_leadings (fun _ _ _ _ _ _ us hl => match us, hl with | [_], _ => rfl) rfl fun f cdv A outer s H E hr tk hp => ?_
  have nd := sc_leadings.nd
  exact (psd_cons (psd_ex (pdo_call h_need_group hr (by decide) rfl tk rfl rfl (paa_consN (pdv 0) paa_nil)))
    (psd_cons psd_bad
    psd_nil))

/-! ### thirds -/
abbrev s_thirds : Stmt := top 35
def b_thirds : List Stm := [(.ex (.call 21 [] [(.var 0)])), .bad]
def fn_thirds : Nat → Fnc := fun k => match k with | 21 => F_need_group | _ => fun _ => .bad
def S_thirds : Sig := { S0 with fn := fn_thirds }
@[irreducible] def F_thirds : Fnc := defM S_thirds gas 1 b_thirds
theorem sc_thirds : FnScope ["group"] ["group"] (defScope s_thirds) := ⟨rfl, rfl, rfl, by decide +kernel, rfl, by decide +kernel, by decide +kernel⟩
theorem ok_thirds  (h_need_group : Okf P w K mg base "need_group" 6 ["thing"] (spD (Wk P w K) 1 F_need_group)) (F : ∃ fd, FunD K "thirds" "thirds" (defArgs s_thirds) (defBody s_thirds) (defScope s_thirds) [] [] (He.ga K "thirds") fd) (gl : mg "thirds" = some (.ref (He.ga K "thirds"))) : Okf P w K mg base "thirds" 7 ["group"] (spD (Wk P w K) 1 F_thirds) := by
  unfold F_thirds
  refine okg (W := Wk P w K) (S := S_thirds) (gas := gas) (b := b_thirds) F gl sc_thirds (fun _ _ _ _ _ _ us hl => match us, hl with | [_], _ => rfl) rfl fun f cdv A outer s H E hr tk hp => ?_
  have nd := sc_thirds.nd
  exact (psd_cons (psd_ex (pdo_call h_need_group hr (by decide) rfl tk rfl rfl (paa_consN (pdv 0) paa_nil)))
    (psd_cons psd_bad
    psd_nil))

/-! ### _law_pick -/
abbrev s__law_pick : Stmt := top 39
def b__law_pick : List Stm := [(.ret (.sub (.var 1) (.draw (.var 0) (.blt 0 [(.var 1)]))))]
def fn__law_pick : Nat → Fnc := fun _ _ => .bad
def S__law_pick : Sig := { S0 with fn := fn__law_pick }
@[irreducible] def F__law_pick : Fnc := defM S__law_pick gas 2 b__law_pick
theorem sc__law_pick : FnScope ["state", "some"] ["state", "some"] (defScope s__law_pick) := ⟨rfl, rfl, rfl, by decide +kernel, rfl, by decide +kernel, by decide +kernel⟩
theorem ok__law_pick (F_len : mg "len" = none) (h__law_draw : Okf P w K mg base "_law_draw" 1 ["state", "many"] (spDraw (Wk P w K))) (F : ∃ fd, FunD K "_law_pick" "_law_pick" (defArgs s__law_pick) (defBody s__law_pick) (defScope s__law_pick) [] [] (He.ga K "_law_pick") fd) (gl : mg "_law_pick" = some (.ref (He.ga K "_law_pick"))) : Okf P w K mg base "_law_pick" 2 ["state", "some"] (spD (Wk P w K) 2 F__law_pick) := by
  unfold F__law_pick
  refine okg (W := Wk P w K) (S := S__law_pick) (gas := gas) (b := b__law_pick) F gl sc__law_pick (fun _ _ _ _ _ _ us hl => match us, hl with | [_, _], _ => rfl) rfl fun f cdv A outer s H E hr tk hp => ?_
  have nd := sc__law_pick.nd
  exact (psd_cons (psd_ret (pd_sub (good_of rfl rfl rfl hr) (pdv 1) (pdo_draw h__law_draw hr (by decide) rfl tk (pdv 0) (pd_bltB (blt_len (good_of rfl rfl rfl hr)) rfl F_len boot_len (pao_cons (pdv 1) pao_nil))) (fun _ _ => rfl)))
    psd_nil)

/-! ### _law_mixed -/
abbrev s__law_mixed : Stmt := top 40
def b__law_mixed : List Stm := [(.par [2, 3] [(.blt 1 [(.var 1)]), (.lst [])]), (.while_ (.cmp .ne (.var 2) (.lst [])) [(.ex (.mut 0 3 [(.mut 2 2 [(.draw (.var 0) (.blt 0 [(.var 2)]))])]))]), (.ret (.var 3))]
def fn__law_mixed : Nat → Fnc := fun _ _ => .bad
def S__law_mixed : Sig := { S0 with fn := fn__law_mixed }
@[irreducible] def F__law_mixed : Fnc := defM S__law_mixed gas 4 b__law_mixed
theorem sc__law_mixed : FnScope ["state", "some", "left", "rows"] ["state", "some"] (defScope s__law_mixed) := ⟨rfl, rfl, rfl, by decide +kernel, rfl, by decide +kernel, by decide +kernel⟩
theorem ok__law_mixed (F_list : mg "list" = none) (F_len : mg "len" = none) (h__law_draw : Okf P w K mg base "_law_draw" 1 ["state", "many"] (spDraw (Wk P w K))) (F : ∃ fd, FunD K "_law_mixed" "_law_mixed" (defArgs s__law_mixed) (defBody s__law_mixed) (defScope s__law_mixed) [] [] (He.ga K "_law_mixed") fd) (gl : mg "_law_mixed" = some (.ref (He.ga K "_law_mixed"))) : Okf P w K mg base "_law_mixed" 2 ["state", "some"] (spD (Wk P w K) 2 F__law_mixed) := by
  unfold F__law_mixed
  refine okg (W := Wk P w K) (S := S__law_mixed) (gas := gas) (b := b__law_mixed) F gl sc__law_mixed (fun _ _ _ _ _ _ us hl => match us, hl with | [_, _], _ => rfl) rfl fun f cdv A outer s H E hr tk hp => ?_
  have nd := sc__law_mixed.nd
  exact (psd_cons (psd_par2 rfl nd rfl rfl (by decide) rfl rfl (pao_cons (pd_bltT (blt_list (good_of rfl rfl rfl hr) rfl) rfl F_list boot_list (pao_cons (pdv 1) pao_nil)) (pao_cons (pd_lst pav_nil) pao_nil)) rfl)
    (psd_cons (psd_while hp (pt_cmpD .ne (good_of rfl rfl rfl hr) noEq (pdv 2) (pd_lst pav_nil) rfl) (psd_cons (psd_ex (pd_append (i := 3) rfl (by first | exact Or.inl rfl | exact Or.inr (Or.inl rfl) | exact Or.inr (Or.inr rfl)) (pav_cons (pd_popAt (i := 2) rfl (by first | exact Or.inl rfl | exact Or.inr (Or.inl rfl) | exact Or.inr (Or.inr rfl)) (pav_cons (pdo_draw h__law_draw hr (by decide) rfl tk (pdv 0) (pd_bltB (blt_len (good_of rfl rfl rfl hr)) rfl F_len boot_len (pao_cons (pdv 2) pao_nil))) pav_nil)) pav_nil)))
    psd_nil))
    (psd_cons (psd_ret (pdv 3))
    psd_nil)))

/-! ### _law_a_turn -/
abbrev s__law_a_turn : Stmt := top 41
def b__law_a_turn : List Stm := [(.set (.n 2) (.draw (.var 0) (.cst (.int 5)))), (.iff (.cmp .eq (.var 2) (.cst (.int 0))) [(.ret (.rng true none (.var 1)))] []), (.iff (.cmp .eq (.var 2) (.cst (.int 1))) [(.set (.n 3) (.draw (.var 0) (.bin .sub (.var 1) (.cst (.int 1))))), (.ret (.bin .add (.bin .add (.rng true none (.var 3)) (.tup [(.bin .add (.var 3) (.cst (.int 1))), (.var 3)])) (.rng true (some (.bin .add (.var 3) (.cst (.int 2)))) (.var 1))))] []), (.ret (.blt 2 [(.call 33 [] [(.var 0), (.rng false none (.var 1))])]))]
def fn__law_a_turn : Nat → Fnc := fun k => match k with | 33 => F__law_mixed | _ => fun _ => .bad
def S__law_a_turn : Sig := { S0 with fn := fn__law_a_turn }
@[irreducible] def F__law_a_turn : Fnc := defM S__law_a_turn gas 4 b__law_a_turn
theorem sc__law_a_turn : FnScope ["state", "size", "way", "at"] ["state", "size"] (defScope s__law_a_turn) := ⟨rfl, rfl, rfl, by decide +kernel, rfl, by decide +kernel, by decide +kernel⟩
theorem ok__law_a_turn (F_tuple : mg "tuple" = none) (F_range : mg "range" = none) (F_list : mg "list" = none) (h__law_draw : Okf P w K mg base "_law_draw" 1 ["state", "many"] (spDraw (Wk P w K))) (h__law_mixed : Okf P w K mg base "_law_mixed" 2 ["state", "some"] (spD (Wk P w K) 2 F__law_mixed)) (F : ∃ fd, FunD K "_law_a_turn" "_law_a_turn" (defArgs s__law_a_turn) (defBody s__law_a_turn) (defScope s__law_a_turn) [] [] (He.ga K "_law_a_turn") fd) (gl : mg "_law_a_turn" = some (.ref (He.ga K "_law_a_turn"))) : Okf P w K mg base "_law_a_turn" 3 ["state", "size"] (spD (Wk P w K) 2 F__law_a_turn) := by
  unfold F__law_a_turn
  refine okg (W := Wk P w K) (S := S__law_a_turn) (gas := gas) (b := b__law_a_turn) F gl sc__law_a_turn (fun _ _ _ _ _ _ us hl => match us, hl with | [_, _], _ => rfl) rfl fun f cdv A outer s H E hr tk hp => ?_
  have nd := sc__law_a_turn.nd
  exact (psd_cons (psd_set (i := 2) nd rfl (by first | exact Or.inl rfl | exact Or.inr rfl) (pdo_draw h__law_draw hr (by decide) rfl tk (pdv 0) pd_int) rfl)
    (psd_cons (psd_if (pt_cmpD .eq (good_of rfl rfl rfl hr) noEq (pdv 2) pd_int rfl) (psd_cons (psd_ret (pd_rg1 (cr_tuple_rg rfl) rfl F_tuple boot_tuple rfl F_range (pdv 1)))
    psd_nil) psd_nil)
    (psd_cons (psd_if (pt_cmpD .eq (good_of rfl rfl rfl hr) noEq (pdv 2) pd_int rfl) (psd_cons (psd_set (i := 3) nd rfl (by first | exact Or.inl rfl | exact Or.inr rfl) (pdo_draw h__law_draw hr (by decide) rfl tk (pdv 0) (pd_bin .sub rfl (pdv 1) pd_int)) rfl)
    (psd_cons (psd_ret (pd_bin .add rfl (pd_bin .add rfl (pd_rg1 (cr_tuple_rg rfl) rfl F_tuple boot_tuple rfl F_range (pdv 3)) (pd_tup (pav_cons (pd_bin .add rfl (pdv 3) pd_int) (pav_cons (pdv 3) pav_nil)))) (pd_rg2 (cr_tuple_rg rfl) rfl F_tuple boot_tuple rfl F_range (pd_bin .add rfl (pdv 3) pd_int) (pdv 1))))
    psd_nil)) psd_nil)
    (psd_cons (psd_ret (pd_bltT (blt_tuple (good_of rfl rfl rfl hr)) rfl F_tuple boot_tuple (pao_cons (pdo_call h__law_mixed hr (by decide) rfl tk rfl rfl (paa_consN (pdv 0) (paa_consN (pd_rg1 (cr_list_rg rfl) rfl F_list boot_list rfl F_range (pdv 1)) paa_nil))) pao_nil)))
    psd_nil))))

/-! ### _law_into -/
abbrev s__law_into : Stmt := top 42
def b__law_into : List Stm := [(.ret (.blt 2 [(.lc [2] (.n 2) (.of (.var 1)) none (.sub (.var 0) (.var 2)))]))]
def fn__law_into : Nat → Fnc := fun _ _ => .bad
def S__law_into : Sig := { S0 with fn := fn__law_into }
@[irreducible] def F__law_into : Fnc := defM S__law_into gas 3 b__law_into
theorem sc__law_into : FnScope ["one", "other", "spot"] ["one", "other"] (defScope s__law_into) := ⟨rfl, rfl, rfl, by decide +kernel, rfl, by decide +kernel, by decide +kernel⟩
theorem ok__law_into (F_tuple : mg "tuple" = none) (F : ∃ fd, FunD K "_law_into" "_law_into" (defArgs s__law_into) (defBody s__law_into) (defScope s__law_into) [] [] (He.ga K "_law_into") fd) (gl : mg "_law_into" = some (.ref (He.ga K "_law_into"))) : Okf P w K mg base "_law_into" 1 ["one", "other"] (spD (Wk P w K) 2 F__law_into) := by
  unfold F__law_into
  refine okg (W := Wk P w K) (S := S__law_into) (gas := gas) (b := b__law_into) F gl sc__law_into (fun _ _ _ _ _ _ us hl => match us, hl with | [_, _], _ => rfl) rfl fun f cdv A outer s H E hr tk hp => ?_
  have nd := sc__law_into.nd
  exact (psd_cons (psd_ret (pd_bltT (blt_tuple (good_of rfl rfl rfl hr)) rfl F_tuple boot_tuple (pao_cons (pd_lc (own := [("spot", 2)]) rfl nd (pid_of rfl (pdv 1)) (blkOk_by (N := ["one", "other", "spot"]) (sc := defScope s__law_into) (by decide +kernel)) (by decide) (fun _ _ _ _ _ => (pgdn 2 nd)) (fun _ _ _ _ _ => ptsd_nil) (fun _ _ _ _ _ => (pd_sub (good_of rfl rfl rfl hr) (pdv 0) (pdv 2) (fun _ _ => rfl)))) pao_nil)))
    psd_nil)

/-! ### _law_closed -/
abbrev s__law_closed : Stmt := top 43
def b__law_closed : List Stm := [(.par [2, 3] [(.dnew true [(.rng true none (.var 1))] [(.cst (.int 0))]), (.lst [(.rng true none (.var 1))])]), (.while_ (.cmp .ne (.var 3) (.lst [])) [(.set (.n 4) (.lst [])), (.for_ (.n 5) (.of (.var 3)) [(.for_ (.n 6) (.of (.var 0)) [(.set (.n 7) (.call 35 [] [(.var 5), (.var 6)])), (.iff (.cmp .notIn (.var 7) (.var 2)) [(.setix (.var 2) (.var 7) (.cst (.int 0))), (.ex (.mut 0 4 [(.var 7)]))] [])])]), (.set (.n 3) (.var 4))]), (.ret (.blt 2 [(.blt 3 [(.var 2)])]))]
def fn__law_closed : Nat → Fnc := fun k => match k with | 35 => F__law_into | _ => fun _ => .bad
def S__law_closed : Sig := { S0 with fn := fn__law_closed }
@[irreducible] def F__law_closed : Fnc := defM S__law_closed gas 8 b__law_closed
theorem sc__law_closed : FnScope ["turns", "size", "had", "fresh", "later", "one", "turn", "together"] ["turns", "size"] (defScope s__law_closed) := ⟨rfl, rfl, rfl, by decide +kernel, rfl, by decide +kernel, by decide +kernel⟩
theorem ok__law_closed (F_tuple : mg "tuple" = none) (F_range : mg "range" = none) (F_sorted : mg "sorted" = none) (h__law_into : Okf P w K mg base "_law_into" 1 ["one", "other"] (spD (Wk P w K) 2 F__law_into)) (F : ∃ fd, FunD K "_law_closed" "_law_closed" (defArgs s__law_closed) (defBody s__law_closed) (defScope s__law_closed) [] [] (He.ga K "_law_closed") fd) (gl : mg "_law_closed" = some (.ref (He.ga K "_law_closed"))) : Okf P w K mg base "_law_closed" 2 ["turns", "size"] (spD (Wk P w K) 2 F__law_closed) := by
  unfold F__law_closed
  refine okg (W := Wk P w K) (S := S__law_closed) (gas := gas) (b := b__law_closed) F gl sc__law_closed (fun _ _ _ _ _ _ us hl => match us, hl with | [_, _], _ => rfl) rfl fun f cdv A outer s H E hr tk hp => ?_
  have nd := sc__law_closed.nd
  exact (psd_cons (psd_par2 rfl nd rfl rfl (by decide) rfl rfl (pao_cons (pd_dnew1 (good_of rfl rfl rfl hr) (pd_rg1 (cr_tuple_rg rfl) rfl F_tuple boot_tuple rfl F_range (pdv 1)) pd_int) (pao_cons (pd_lst (pav_cons (pd_rg1 (cr_tuple_rg rfl) rfl F_tuple boot_tuple rfl F_range (pdv 1)) pav_nil)) pao_nil)) rfl)
    (psd_cons (psd_while hp (pt_cmpD .ne (good_of rfl rfl rfl hr) noEq (pdv 3) (pd_lst pav_nil) rfl) (psd_cons (psd_set (i := 4) nd rfl (by first | exact Or.inl rfl | exact Or.inr rfl) (pd_lst pav_nil) rfl)
    (psd_cons (psd_for hp rfl (pid_of rfl (pdv 3)) (pgdn 5 nd) (psd_cons (psd_for hp rfl (pid_of rfl (pdv 0)) (pgdn 6 nd) (psd_cons (psd_set (i := 7) nd rfl (by first | exact Or.inl rfl | exact Or.inr rfl) (pdo_call h__law_into hr (by decide) rfl tk rfl rfl (paa_consN (pdv 5) (paa_consN (pdv 6) paa_nil))) rfl)
    (psd_cons (psd_if (pt_cmpD .notIn (good_of rfl rfl rfl hr) noEq (pdv 7) (pdv 2) rfl) (psd_cons (psd_setix (good_of rfl rfl rfl hr) pd_int (pdv 2) (pdv 7))
    (psd_cons (psd_ex (pd_append (i := 4) rfl (by first | exact Or.inl rfl | exact Or.inr (Or.inl rfl) | exact Or.inr (Or.inr rfl)) (pav_cons (pdv 7) pav_nil)))
    psd_nil)) psd_nil)
    psd_nil)))
    psd_nil))
    (psd_cons (psd_set (i := 3) nd rfl (by first | exact Or.inl rfl | exact Or.inr rfl) (pdv 4) rfl)
    psd_nil))))
    (psd_cons (psd_ret (pd_bltT (blt_tuple (good_of rfl rfl rfl hr)) rfl F_tuple boot_tuple (pao_cons (pd_bltB (blt_sorted (good_of rfl rfl rfl hr) rfl) rfl F_sorted boot_sorted (pao_cons (pdv 2) pao_nil)) pao_nil)))
    psd_nil)))

/-! ### _law_no_turn -/
abbrev s__law_no_turn : Stmt := top 45
def b__law_no_turn : List Stm := [(.set (.n 2) (.lst [(.cst .non), (.cst (.int 5)), (.cst (.str "10")), (.cst (.bl true)), (.tup []), (.tup [(.cst (.int 0))]), (.lst []), (.dnew false [] []), (.blt 1 [(.var 1)]), (.bin .add (.slc (.var 1) none (some (.neg (.cst (.int 1))))) (.slc (.var 1) none (some (.cst (.int 1))))), (.bin .add (.slc (.var 1) none (some (.neg (.cst (.int 1))))) (.tup [(.cst (.bl true))]))])), (.set (.n 2) (.bin .add (.lc [3] (.n 3) (.of (.var 2)) (some (.cmp .ne (.var 3) (.var 1))) (.var 3)) (.lst [(.bin .add (.slc (.var 1) none (some (.neg (.cst (.int 1))))) (.tup [(.blt 0 [(.var 1)])])), (.tup [(.cst (.int 0)), (.cst (.int 1)), (.cst (.int 2)), (.cst (.int 3)), (.cst (.int 4)), (.cst (.int 5))]), (.tup [(.var 1)]), (.tup [(.cst (.int 0)), (.cst (.str "1"))])]))), (.ret (.call 32 [] [(.var 0), (.var 2)]))]
def fn__law_no_turn : Nat → Fnc := fun k => match k with | 32 => F__law_pick | _ => fun _ => .bad
def S__law_no_turn : Sig := { S0 with fn := fn__law_no_turn }
@[irreducible] def F__law_no_turn : Fnc := defM S__law_no_turn gas 4 b__law_no_turn
theorem sc__law_no_turn : FnScope ["state", "turn", "some", "one"] ["state", "turn"] (defScope s__law_no_turn) := ⟨rfl, rfl, rfl, by decide +kernel, rfl, by decide +kernel, by decide +kernel⟩
theorem ok__law_no_turn (F_list : mg "list" = none) (F_len : mg "len" = none) (h__law_pick : Okf P w K mg base "_law_pick" 2 ["state", "some"] (spD (Wk P w K) 2 F__law_pick)) (F : ∃ fd, FunD K "_law_no_turn" "_law_no_turn" (defArgs s__law_no_turn) (defBody s__law_no_turn) (defScope s__law_no_turn) [] [] (He.ga K "_law_no_turn") fd) (gl : mg "_law_no_turn" = some (.ref (He.ga K "_law_no_turn"))) : Okf P w K mg base "_law_no_turn" 3 ["state", "turn"] (spD (Wk P w K) 2 F__law_no_turn) := by
  unfold F__law_no_turn
  refine okg (W := Wk P w K) (S := S__law_no_turn) (gas := gas) (b := b__law_no_turn) F gl sc__law_no_turn (fun _ _ _ _ _ _ us hl => match us, hl with | [_, _], _ => rfl) rfl fun f cdv A outer s H E hr tk hp => ?_
  have nd := sc__law_no_turn.nd
  exact (psd_cons (psd_set (i := 2) nd rfl (by first | exact Or.inl rfl | exact Or.inr rfl) (pd_lst (pav_cons pd_non (pav_cons pd_int (pav_cons pd_str (pav_cons pd_bl (pav_cons (pd_tup pav_nil) (pav_cons (pd_tup (pav_cons pd_int pav_nil)) (pav_cons (pd_lst pav_nil) (pav_cons pd_dnew0 (pav_cons (pd_bltT (blt_list (good_of rfl rfl rfl hr) rfl) rfl F_list boot_list (pao_cons (pdv 1) pao_nil)) (pav_cons (pd_bin .add rfl (pd_slc rfl (pdv 1) pod_none (pod_some (pd_neg pd_int))) (pd_slc rfl (pdv 1) pod_none (pod_some pd_int))) (pav_cons (pd_bin .add rfl (pd_slc rfl (pdv 1) pod_none (pod_some (pd_neg pd_int))) (pd_tup (pav_cons pd_bl pav_nil))) pav_nil)))))))))))) rfl)
    (psd_cons (psd_set (i := 2) nd rfl (by first | exact Or.inl rfl | exact Or.inr rfl) (pd_bin .add rfl (pd_lc (own := [("one", 3)]) rfl nd (pid_of rfl (pdv 2)) (blkOk_by (N := ["state", "turn", "some", "one"]) (sc := defScope s__law_no_turn) (by decide +kernel)) (by decide) (fun _ _ _ _ _ => (pgdn 3 nd)) (fun _ _ _ _ _ => (ptsd_one (pt_cmpD .ne (good_of rfl rfl rfl hr) noEq (pdv 3) (pdv 1) rfl))) (fun _ _ _ _ _ => (pdv 3))) (pd_lst (pav_cons (pd_bin .add rfl (pd_slc rfl (pdv 1) pod_none (pod_some (pd_neg pd_int))) (pd_tup (pav_cons (pd_bltB (blt_len (good_of rfl rfl rfl hr)) rfl F_len boot_len (pao_cons (pdv 1) pao_nil)) pav_nil))) (pav_cons (pd_tup (pav_cons pd_int (pav_cons pd_int (pav_cons pd_int (pav_cons pd_int (pav_cons pd_int (pav_cons pd_int pav_nil))))))) (pav_cons (pd_tup (pav_cons (pdv 1) pav_nil)) (pav_cons (pd_tup (pav_cons pd_int (pav_cons pd_str pav_nil))) pav_nil)))))) rfl)
    (psd_cons (psd_ret (pdo_call h__law_pick hr (by decide) rfl tk rfl rfl (paa_consN (pdv 0) (paa_consN (pdv 2) paa_nil))))
    psd_nil)))

/-! ### _law_no_group -/
abbrev s__law_no_group : Stmt := top 46
def b__law_no_group : List Stm := [(.set (.n 2) (.lst [(.cst .non), (.cst (.int 5)), (.cst (.str "")), (.tup []), (.lst []), (.dnew false [] []), (.blt 1 [(.var 1)]), (.bin .add (.var 1) (.slc (.var 1) none (some (.cst (.int 1))))), (.bin .add (.rev (.var 1)) (.var 1)), (.tup [(.sub (.var 1) (.cst (.int 0))), (.sub (.var 1) (.cst (.int 0)))])])), (.iff (.cmp .gt (.blt 0 [(.var 1)]) (.cst (.int 1))) [(.set (.n 2) (.bin .add (.var 2) (.lst [(.slc (.var 1) (some (.cst (.int 1))) none), (.rev (.var 1)), (.tup [(.sub (.var 1) (.cst (.int 0))), (.blt 1 [(.sub (.var 1) (.cst (.int 1)))])])])))] []), (.ret (.call 32 [] [(.var 0), (.var 2)]))]
def fn__law_no_group : Nat → Fnc := fun k => match k with | 32 => F__law_pick | _ => fun _ => .bad
def S__law_no_group : Sig := { S0 with fn := fn__law_no_group }
@[irreducible] def F__law_no_group : Fnc := defM S__law_no_group gas 3 b__law_no_group
theorem sc__law_no_group : FnScope ["state", "group", "some"] ["state", "group"] (defScope s__law_no_group) := ⟨rfl, rfl, rfl, by decide +kernel, rfl, by decide +kernel, by decide +kernel⟩
theorem ok__law_no_group (F_list : mg "list" = none) (F_len : mg "len" = none) (h__law_pick : Okf P w K mg base "_law_pick" 2 ["state", "some"] (spD (Wk P w K) 2 F__law_pick)) (F : ∃ fd, FunD K "_law_no_group" "_law_no_group" (defArgs s__law_no_group) (defBody s__law_no_group) (defScope s__law_no_group) [] [] (He.ga K "_law_no_group") fd) (gl : mg "_law_no_group" = some (.ref (He.ga K "_law_no_group"))) : Okf P w K mg base "_law_no_group" 3 ["state", "group"] (spD (Wk P w K) 2 F__law_no_group) := by
  unfold F__law_no_group
  refine okg (W := Wk P w K) (S := S__law_no_group) (gas := gas) (b := b__law_no_group) F gl sc__law_no_group (fun _ _ _ _ _ _ us hl => match us, hl with | [_, _], _ => rfl) rfl fun f cdv A outer s H E hr tk hp => ?_
  have nd := sc__law_no_group.nd
  exact (psd_cons (psd_set (i := 2) nd rfl (by first | exact Or.inl rfl | exact Or.inr rfl) (pd_lst (pav_cons pd_non (pav_cons pd_int (pav_cons pd_str (pav_cons (pd_tup pav_nil) (pav_cons (pd_lst pav_nil) (pav_cons pd_dnew0 (pav_cons (pd_bltT (blt_list (good_of rfl rfl rfl hr) rfl) rfl F_list boot_list (pao_cons (pdv 1) pao_nil)) (pav_cons (pd_bin .add rfl (pdv 1) (pd_slc rfl (pdv 1) pod_none (pod_some pd_int))) (pav_cons (pd_bin .add rfl (pd_rev rfl (pdv 1)) (pdv 1)) (pav_cons (pd_tup (pav_cons (pd_sub (good_of rfl rfl rfl hr) (pdv 1) pd_int (fun _ _ => rfl)) (pav_cons (pd_sub (good_of rfl rfl rfl hr) (pdv 1) pd_int (fun _ _ => rfl)) pav_nil))) pav_nil))))))))))) rfl)
    (psd_cons (psd_if (pt_cmpD .gt (good_of rfl rfl rfl hr) noEq (pd_bltB (blt_len (good_of rfl rfl rfl hr)) rfl F_len boot_len (pao_cons (pdv 1) pao_nil)) pd_int rfl) (psd_cons (psd_set (i := 2) nd rfl (by first | exact Or.inl rfl | exact Or.inr rfl) (pd_bin .add rfl (pdv 2) (pd_lst (pav_cons (pd_slc rfl (pdv 1) (pod_some pd_int) pod_none) (pav_cons (pd_rev rfl (pdv 1)) (pav_cons (pd_tup (pav_cons (pd_sub (good_of rfl rfl rfl hr) (pdv 1) pd_int (fun _ _ => rfl)) (pav_cons (pd_bltT (blt_list (good_of rfl rfl rfl hr) rfl) rfl F_list boot_list (pao_cons (pd_sub (good_of rfl rfl rfl hr) (pdv 1) pd_int (fun _ _ => rfl)) pao_nil)) pav_nil))) pav_nil))))) rfl)
    psd_nil) psd_nil)
    (psd_cons (psd_ret (pdo_call h__law_pick hr (by decide) rfl tk rfl rfl (paa_consN (pdv 0) (paa_consN (pdv 2) paa_nil))))
    psd_nil)))

end
end K59
end T
end
section
set_option Elab.async false
set_option linter.all false
set_option autoImplicit false
set_option maxRecDepth 100000
set_option maxHeartbeats 4000000
namespace T
namespace K59
open PySem PySem.Spec PyProof.Rows L2 LamX
abbrev s__law_word : Stmt := top 44
abbrev s__law_turns_refused : Stmt := top 47
abbrev s_law : Stmt := top 48
abbrev s__law_state : Stmt := top 37
abbrev s__law_draw : Stmt := top 38

/-- what else the head must tell -/
def exB (K : PySem.W.Frag) : Bool := decide ((He.cT K ("_law_turns_refused", none)).2 ≠ (He.cT K ("law", none)).2) && [0, 1, 2].all fun c => kexB K (He.ga K (excs.getD c "CoatError")) && (kitB0 K (He.ga K (excs.getD c "CoatError")) && (decide (PySem.W.kitOne K (.ref (He.ga K (excs.getD c "CoatError"))) (.type "ValueError") = some true) && [0, 1, 2].all fun j => decide (PySem.W.kitOne K (.ref (He.ga K (excs.getD c "CoatError"))) (.ref (He.ga K (excs.getD j "CoatError"))) = some (c == j))))
section
variable {P : Program} {w : World} {K : PySem.W.Frag} {mg : Str → Option Value} {base : Heap}
theorem lt3 {c : Nat} (h : decide (c < 3) = true) : c ∈ [0, 1, 2] := by
  have := of_decide_eq_true h
  match c, this with
  | 0, _ => simp
  | 1, _ => simp
  | 2, _ => simp
  | n + 3, h => omega
theorem exB_c (ex : exB K = true) {c : Nat} (h : decide (c < 3) = true) : kexB K (He.ga K (excs.getD c "CoatError")) = true ∧ kitB0 K (He.ga K (excs.getD c "CoatError")) = true ∧ PySem.W.kitOne K (.ref (He.ga K (excs.getD c "CoatError"))) (.type "ValueError") = some true ∧ ∀ j, decide (j < 3) = true → PySem.W.kitOne K (.ref (He.ga K (excs.getD c "CoatError"))) (.ref (He.ga K (excs.getD j "CoatError"))) = some (c == j) := by
  unfold exB at ex
  have e2 := List.all_eq_true.mp (Bool.and_eq_true_iff.mp ex).2 c (lt3 h)
  simp only [Bool.and_eq_true] at e2
  obtain ⟨h1, h2, h3, h4⟩ := e2
  exact ⟨h1, h2, of_decide_eq_true h3, fun j hj => of_decide_eq_true (List.all_eq_true.mp h4 j (lt3 hj))⟩
theorem exB_ne (ex : exB K = true) : (He.cT K ("_law_turns_refused", none)).2 ≠ (He.cT K ("law", none)).2 := of_decide_eq_true (Bool.and_eq_true_iff.mp ex).1
theorem sub3 {c j : Nat} (h : decide (c < 3) = true) (hj : decide (j < 3) = true) : S0.sub c j = (c == j) := by
  have e : (j == 3) = false := by have := of_decide_eq_true hj; rw [beq_eq_false_iff_ne]; omega
  show (j == 3 || c == j) = _
  rw [e]; rfl
theorem ex_own {X : Cx} (ex : exB X.K = true) (c j : Nat) (h : decide (c < 3) = true) (hj : decide (j < 3) = true) : KExc X.K ((Wk X.prog X.w X.K).cl c) ∧ PySem.W.kitOne X.K (.ref ((Wk X.prog X.w X.K).cl c)) (.ref ((Wk X.prog X.w X.K).cl j)) = some (S0.sub c j) := by
  rw [sub3 h hj]
  exact ⟨kexB_ok (exB_c ex h).1, (exB_c ex h).2.2.2 j hj⟩
theorem ex_vale {X : Cx} (ex : exB X.K = true) (c : Nat) (h : decide (c < 3) = true) : KExc X.K ((Wk X.prog X.w X.K).cl c) ∧ PySem.W.kitOne X.K (.ref ((Wk X.prog X.w X.K).cl c)) (.type "ValueError") = some true := ⟨kexB_ok (exB_c ex h).1, (exB_c ex h).2.2.1⟩
theorem ex_b0 {X : Cx} (ex : exB X.K = true) (c : Nat) (h : decide (c < 3) = true) : kitB0 X.K ((Wk X.prog X.w X.K).cl c) = true := (exB_c ex h).2.1
/-! ### the states of draws -/
theorem ok__law_draw (F_len : mg "len" = none) (F : ∃ fd, FunD K "_law_draw" "_law_draw" (defArgs s__law_draw) (defBody s__law_draw) (defScope s__law_draw) [] [] (He.ga K "_law_draw") fd) (gl : mg "_law_draw" = some (.ref (He.ga K "_law_draw"))) : Okf P w K mg base "_law_draw" 1 ["state", "many"] (spDraw (Wk P w K)) := by
  obtain ⟨fd, F⟩ := F
  refine ⟨⟨fd, ?_, F.bindsN fun _ _ _ _ _ _ us hl => match us, hl with | [_, _], _ => rfl⟩, gl, F.kp⟩
  have Sc : FnScope ["state", "many", "cells", "at", "cell"] ["state", "many"] (defScope s__law_draw) := ⟨rfl, rfl, rfl, by decide +kernel, rfl, by decide +kernel, by decide +kernel⟩
  obtain ⟨oc, od, dV, kV, doc, pm, an, cdv, ct, osl, rfl, lk, hcd, _, _⟩ := F.ex
  exact draw_fn lk hcd Sc rfl fun A outer s H E => draw_body (X := cxOf (L2.CX P w) P w K mg base ["state", "many", "cells", "at", "cell"] "_law_draw" (defScope s__law_draw) (He.ga K "_law_draw") cdv A outer s H E) Sc.nd ⟨rfl, .inl rfl, .inl rfl, rfl, by decide, by decide⟩ ⟨rfl, .inl rfl, .inl rfl, rfl, by decide, by decide⟩ ⟨rfl, .inl rfl, .inl rfl, rfl, by decide, by decide⟩ ⟨rfl, .inl rfl, .inl rfl, rfl, by decide, by decide⟩ ⟨rfl, .inl rfl, .inl rfl, rfl, by decide, by decide⟩ rfl F_len
theorem ok__law_state (F_abs : mg "abs" = none) (F : ∃ fd, FunD K "_law_state" "_law_state" (defArgs s__law_state) (defBody s__law_state) (defScope s__law_state) [] [] (He.ga K "_law_state") fd) (gl : mg "_law_state" = some (.ref (He.ga K "_law_state"))) : Okf P w K mg base "_law_state" 1 ["script"] (spState K) := by
  obtain ⟨fd, F⟩ := F
  refine ⟨⟨fd, ?_, F.bindsN fun _ _ _ _ _ _ us hl => match us, hl with | [_], _ => rfl⟩, gl, F.kp⟩
  have Sc : FnScope ["script", "cell"] ["script"] (defScope s__law_state) := ⟨rfl, rfl, rfl, by decide +kernel, rfl, by decide +kernel, by decide +kernel⟩
  obtain ⟨oc, od, dV, kV, doc, pm, an, cdv, ct, osl, rfl, lk, hcd, _, _⟩ := F.ex
  exact state_fn lk hcd Sc rfl fun A outer s H E => state_body (X := cxOf (L2.CX P w) P w K mg base ["script", "cell"] "_law_state" (defScope s__law_state) (He.ga K "_law_state") cdv A outer s H E) rfl Sc.nd ⟨rfl, .inl rfl, .inl rfl, rfl, by decide, by decide⟩ (blkOk_by (N := ["script", "cell"]) (sc := defScope s__law_state) (by decide +kernel)) (fun s H C cl fp => pg_name (i := 1) Sc.nd rfl (.inl rfl) (.inr rfl)) (fun s H C cl fp => pe_callB call_absC rfl F_abs PyProof.Rows.boot_abs (pa_cons (pv 1) pa_nil))

/-! ### _law_word -/
def b__law_word : List Stm := [(.iff (.cmp .isN (.var 1) (.cst .non)) [(.ret (.cst (.str "told")))] []), (.set (.n 3) (.lst [(.isi (.var 1) [.own 0]), (.isi (.var 1) [.own 1]), (.isi (.var 1) [.own 2])])), (.iff (.or [(.cmp .ne (.bm 3 (.var 3) [(.cst (.bl true))]) (.cst (.int 1))), (.not (.isi (.var 1) [.vale]))]) [(.ret (.cst (.str "other")))] []), (.ret (.sub (.lst [(.cst (.str "size")), (.cst (.str "turn")), (.cst (.str "group"))]) (.bm 2 (.var 3) [(.cst (.bl true))])))]
def S__law_word : Sig := { S0 with fn := fun _ _ => .bad }
theorem sc__law_word : FnScope ["work", "error", "e", "sorts"] ["work"] (defScope s__law_word) := ⟨rfl, rfl, rfl, by decide +kernel, rfl, by decide +kernel, by decide +kernel⟩
theorem word_in (lv : Nat) (ex : exB K = true) (C_ : mg "CoatError" = some (.ref (He.ga K "CoatError"))) (exm : ∀ x ∈ ["NoSize", "NoTurn", "NoGroup", "CoatError"], PySem.W.exmOne K (.ref (He.ga K x)) (.ref (He.ga K "CoatError")) = some true) (X_NoSize : XF K mg "NoSize") (F_isinstance : mg "isinstance" = none) (X_NoTurn : XF K mg "NoTurn") (X_NoGroup : XF K mg "NoGroup") (F_ValueError : mg "ValueError" = none) (F : ∃ fd, FunD K "_law_word" "_law_word" (defArgs s__law_word) (defBody s__law_word) (defScope s__law_word) [] [] (He.ga K "_law_word") fd) (gl : mg "_law_word" = some (.ref (He.ga K "_law_word"))) : WordIn P w K mg base (Wk P w K) S__law_word gas 3 lv b__law_word "_law_word" ["work", "error", "e", "sorts"] := by
  obtain ⟨fd, F⟩ := F
  refine ⟨⟨_, _, _, _, _, _, _, _, _, _, _, _, _, _, _, _, _, _, _, _, ⟨fd, F, F.bindsN fun _ _ _ _ _ _ us hl => match us, hl with | [_], _ => rfl⟩, sc__law_word, by decide, rfl, rfl, rfl, .inl rfl, .inl rfl, rfl, .inl rfl, by decide, by decide, by decide, by decide, rfl, by decide, C_, rfl, fun c => ?_, fun _ _ _ => ⟨rfl, rfl, rfl⟩, fun act f cdv A outer s H E hr => ?_⟩, gl, F.kp⟩
  · match c with
    | 0 => exact exm _ (by simp)
    | 1 => exact exm _ (by simp)
    | 2 => exact exm _ (by simp)
    | n + 3 => 
      show PySem.W.exmOne K (.ref (He.ga K (excs.getD (n + 3) "CoatError"))) _ = _
      rw [show excs.getD (n + 3) "CoatError" = "CoatError" from rfl]
      exact exm _ (by simp)
  · have nd := sc__law_word.nd
    have tk := takes_of (X := cxOf (L2.CX P w) P w K mg base ["work", "error", "e", "sorts"] "_law_word" (defScope s__law_word) f cdv A outer s H E) (E := E) rfl rfl rfl rfl
    exact (psd_cons (psd_if (pt_cmpD .isN (good_of rfl rfl rfl hr) (fun _ _ => rfl) (pdv 1) pd_non rfl) (psd_cons (psd_ret pd_str)
    psd_nil) psd_nil)
    (psd_cons (psd_set (i := 3) nd rfl (by first | exact Or.inl rfl | exact Or.inr rfl) (pd_lst (pav_cons (pdi_own (j := 0) rfl (kit_own (ex_b0 ex 0 (by decide)) (fun c h => ex_own ex c 0 h (by decide)) (fun c h => by cases h)) F_isinstance X_NoSize.gl (pdv 1)) (pav_cons (pdi_own (j := 1) rfl (kit_own (ex_b0 ex 1 (by decide)) (fun c h => ex_own ex c 1 h (by decide)) (fun c h => by cases h)) F_isinstance X_NoTurn.gl (pdv 1)) (pav_cons (pdi_own (j := 2) rfl (kit_own (ex_b0 ex 2 (by decide)) (fun c h => ex_own ex c 2 h (by decide)) (fun c h => by cases h)) F_isinstance X_NoGroup.gl (pdv 1)) pav_nil)))) rfl)
    (psd_cons (psd_if (PW.pt (pw_orD (pt_cmpD .ne (good_of rfl rfl rfl hr) (fun _ _ => rfl) (pd_count (good_of rfl rfl rfl hr) (pdv 3) (pav_cons pd_bl pav_nil)) pd_int rfl) (pw_or1D (pt_notD (pt_any rfl (pdi_vale rfl (kit_vale (fun c h => ex_vale ex c h)) F_isinstance F_ValueError (pdv 1)) (fun _ => rfl)))))) (psd_cons (psd_ret pd_str)
    psd_nil) psd_nil)
    (psd_cons (psd_ret (pd_sub (good_of rfl rfl rfl hr) (pd_lst (pav_cons pd_str (pav_cons pd_str (pav_cons pd_str pav_nil)))) (pd_index (good_of rfl rfl rfl hr) (pdv 3) (pav_cons pd_bl pav_nil)) (fun _ _ => rfl)))
    psd_nil))))

end
end K59
end T
end
section
set_option Elab.async false
set_option linter.all false
set_option autoImplicit false
set_option maxRecDepth 100000
set_option maxHeartbeats 4000000
namespace T
namespace K59
open PySem PySem.Spec PyProof.Rows L2 LamX
section
variable {P : Program} {w : World} {K : PySem.W.Frag} {mg : Str → Option Value} {base : Heap}

/-! ### _law_turns_refused -/
def b__law_turns_refused : List Stm := [(.set (.t [(.n 3), (.n 4)]) (.tup [(.call 38 [] [(.var 0), (.var 1)]), (.call 32 [] [(.var 0), (.lst [(.cst (.int 0)), (.cst (.int 1)), (.cst (.int 6)), (.neg (.cst (.int 3))), (.cst .non), (.cst (.bl true)), (.cst (.str "3")), (.tup [(.cst (.int 3))]), (.lst [(.cst (.int 2))]), (.dnew false [] [])])])])), (.set (.n 5) (.call 32 [] [(.var 0), (.lst [(.cst (.int 0)), (.cst (.int 1)), (.neg (.cst (.int 1))), (.bin .pow (.cst (.int 10)) (.cst (.int 20)))])])), (.set (.n 6) (.lst [(.lam 0)])), (.ex (.mut 0 6 [(.lam 1)])), (.ex (.mut 0 6 [(.lam 2)])), (.iff (.cmp .ne (.lc [9] (.n 9) (.of (.var 6)) none (.wcall 0 [9] (.var 9))) (.bin .mul (.lst [(.cst (.str "turn"))]) (.cst (.int 3)))) [(.ret (.cst (.bl false)))] []), (.set (.n 7) (.call 32 [] [(.var 0), (.lst [(.var 3), (.var 1), (.tup [(.var 1)]), (.cst .non)])])), (.set (.n 6) (.lst [(.lam 3)])), (.ex (.mut 0 6 [(.lam 4)])), (.ex (.mut 0 6 [(.lam 5)])), (.iff (.cmp .ne (.lc [9] (.n 9) (.of (.var 6)) none (.wcall 0 [9] (.var 9))) (.bin .mul (.lst [(.cst (.str "size"))]) (.cst (.int 3)))) [(.ret (.cst (.bl false)))] []), (.set (.n 8) (.call 32 [] [(.var 0), (.lst [(.cst .non), (.cst (.int 5)), (.cst (.str "01")), (.dnew false [] []), (.cst (.bl true))])])), (.set (.n 6) (.lst [(.lam 6)])), (.ex (.mut 0 6 [(.lam 7)])), (.ex (.mut 0 6 [(.lam 8)])), (.ret (.cmp .eq (.lc [9] (.n 9) (.of (.var 6)) none (.wcall 0 [9] (.var 9))) (.bin .mul (.lst [(.cst (.str "turn"))]) (.cst (.int 3)))))]
def fn__law_turns_refused : Nat → Fnc := fun k => match k with | 13 => F_times | 12 => F_order | 15 => F_sign | 7 => F_is_turn | 19 => F_is_group | 9 => F_plain | 18 => F_made | 22 => F_word | 38 => F__law_no_turn | 32 => F__law_pick | _ => fun _ => .bad
def lamB__law_turns_refused : Nat → Ex := fun k => match k with | 0 => (.call 13 [] [(.var 3), (.var 5)]) | 1 => (.call 12 [] [(.var 3)]) | 2 => (.call 15 [] [(.var 3)]) | 3 => (.call 7 [] [(.var 7), (.var 4)]) | 4 => (.call 19 [] [(.var 7), (.var 4)]) | 5 => (.call 9 [] [(.var 4)]) | 6 => (.call 18 [] [(.var 8), (.blt 0 [(.var 1)])]) | 7 => (.call 18 [] [(.var 8), (.var 4)]) | 8 => (.call 22 [] [(.var 8), (.var 2)]) | _ => .bad
def S__law_turns_refused : Sig := { S0 with fn := fn__law_turns_refused, lamB := lamB__law_turns_refused, lamK := fun n => decide (n < 9), wfn := fun _ cl n act => defM { S__law_word with act := act } gas 4 (wordB 3 b__law_word) [.val (.clo n cl)] }
theorem sc__law_turns_refused : FnScope ["state", "turn", "goal", "odd", "none", "n", "works", "thing", "lone", "work"] ["state", "turn", "goal"] (defScope s__law_turns_refused) := ⟨rfl, rfl, rfl, by decide +kernel, rfl, by decide +kernel, by decide +kernel⟩
theorem mem__law_turns_refused (n : Nat) (h : (decide (n < 9)) = true) : n ∈ [0, 1, 2, 3, 4, 5, 6, 7, 8] := by
  simp only [Bool.and_eq_true, decide_eq_true_eq] at h
  simp only [List.mem_cons, List.mem_nil_iff, or_false]
  omega
theorem ok__law_turns_refused (m : Fnc) (hm : ∀ es P cl, (m es).wp P → (defM { S__law_turns_refused with cl := cl } gas 10 b__law_turns_refused es).wp P) (F_len : mg "len" = none) (h_times : Okf P w K mg base "times" 7 ["turn", "n"] (spD (Wk P w K) 2 F_times)) (h_order : Okf P w K mg base "order" 6 ["turn"] (spD (Wk P w K) 1 F_order)) (h_sign : Okf P w K mg base "sign" 6 ["turn"] (spD (Wk P w K) 1 F_sign)) (h_is_turn : Okf P w K mg base "is_turn" 4 ["thing", "size"] (spD (Wk P w K) 2 F_is_turn)) (h_is_group : Okf P w K mg base "is_group" 5 ["thing", "size"] (spD (Wk P w K) 2 F_is_group)) (h_plain : Okf P w K mg base "plain" 4 ["size"] (spD (Wk P w K) 1 F_plain)) (h_made : Okf P w K mg base "made" 1 ["turns", "size"] (spD (Wk P w K) 2 F_made)) (h_word : Okf P w K mg base "word" 1 ["turns", "goal"] (spD (Wk P w K) 2 F_word)) (h__law_no_turn : Okf P w K mg base "_law_no_turn" 3 ["state", "turn"] (spD (Wk P w K) 2 F__law_no_turn)) (h__law_pick : Okf P w K mg base "_law_pick" 2 ["state", "some"] (spD (Wk P w K) 2 F__law_pick)) (TB : TabB base mg (He.cT K ("_law_turns_refused", none)).1 (He.cT K ("_law_turns_refused", none)).2) (ex : exB K = true) (WD : WordIn P w K mg base (Wk P w K) S__law_word gas 3 7 b__law_word "_law_word" ["work", "error", "e", "sorts"]) (F : ∃ fd, FunD K "_law_turns_refused" "_law_turns_refused" (defArgs s__law_turns_refused) (defBody s__law_turns_refused) (defScope s__law_turns_refused) [] [] (He.ga K "_law_turns_refused") fd) (gl : mg "_law_turns_refused" = some (.ref (He.ga K "_law_turns_refused"))) : Okf P w K mg base "_law_turns_refused" 10 ["state", "turn", "goal"] (spD (Wk P w K) 3 m) := by
  refine okgL (W := Wk P w K) (S := S__law_turns_refused) (gas := gas) (b := b__law_turns_refused) (fun i => ((Wk P w K).lam i).scope) F gl sc__law_turns_refused (fun _ _ _ _ _ _ us hl => match us, hl with | [_, _, _], _ => rfl) rfl hm fun f cdv A outer s H E hcode hr tk hp => ?_
  have nd := sc__law_turns_refused.nd
  have hlam : ∀ n, ({ S__law_turns_refused with cl := fun i => cloFrom (envOfC "_law_turns_refused" (defScope s__law_turns_refused) s.heap.objs.size f cdv).cells ((Wk P w K).lam i).scope.names [] }).lamK n = true → LamIn (cxOf (L2.CX P w) P w K mg base ["state", "turn", "goal", "odd", "none", "n", "works", "thing", "lone", "work"] "_law_turns_refused" (defScope s__law_turns_refused) f cdv A outer s H E) (Wk P w K) ({ S__law_turns_refused with cl := fun i => cloFrom (envOfC "_law_turns_refused" (defScope s__law_turns_refused) s.heap.objs.size f cdv).cells ((Wk P w K).lam i).scope.names [] }) (evE ({ S__law_turns_refused with cl := fun i => cloFrom (envOfC "_law_turns_refused" (defScope s__law_turns_refused) s.heap.objs.size f cdv).cells ((Wk P w K).lam i).scope.names [] }) 37) 7 n := fun n hn => by
    have hm : n ∈ [0, 1, 2, 3, 4, 5, 6, 7, 8] := mem__law_turns_refused n hn
    simp only [List.mem_cons, List.mem_nil_iff, or_false] at hm
    rcases hm with rfl | rfl | rfl | rfl | rfl | rfl | rfl | rfl | rfl
    · exact LamIn.mk' (sc := defScope s__law_turns_refused) rfl rfl (by decide +kernel) rfl (fun _ _ _ => rfl) (fun E f c' A outer s H H0 hrL tkL => (pdo_call h_times hrL (by decide) rfl tkL rfl rfl (paa_consN (pdv 3) (paa_consN (pdv 5) paa_nil))))
    · exact LamIn.mk' (sc := defScope s__law_turns_refused) rfl rfl (by decide +kernel) rfl (fun _ _ _ => rfl) (fun E f c' A outer s H H0 hrL tkL => (pdo_call h_order hrL (by decide) rfl tkL rfl rfl (paa_consN (pdv 3) paa_nil)))
    · exact LamIn.mk' (sc := defScope s__law_turns_refused) rfl rfl (by decide +kernel) rfl (fun _ _ _ => rfl) (fun E f c' A outer s H H0 hrL tkL => (pdo_call h_sign hrL (by decide) rfl tkL rfl rfl (paa_consN (pdv 3) paa_nil)))
    · exact LamIn.mk' (sc := defScope s__law_turns_refused) rfl rfl (by decide +kernel) rfl (fun _ _ _ => rfl) (fun E f c' A outer s H H0 hrL tkL => (pdo_call h_is_turn hrL (by decide) rfl tkL rfl rfl (paa_consN (pdv 7) (paa_consN (pdv 4) paa_nil))))
    · exact LamIn.mk' (sc := defScope s__law_turns_refused) rfl rfl (by decide +kernel) rfl (fun _ _ _ => rfl) (fun E f c' A outer s H H0 hrL tkL => (pdo_call h_is_group hrL (by decide) rfl tkL rfl rfl (paa_consN (pdv 7) (paa_consN (pdv 4) paa_nil))))
    · exact LamIn.mk' (sc := defScope s__law_turns_refused) rfl rfl (by decide +kernel) rfl (fun _ _ _ => rfl) (fun E f c' A outer s H H0 hrL tkL => (pdo_call h_plain hrL (by decide) rfl tkL rfl rfl (paa_consN (pdv 4) paa_nil)))
    · exact LamIn.mk' (sc := defScope s__law_turns_refused) rfl rfl (by decide +kernel) rfl (fun _ _ _ => rfl) (fun E f c' A outer s H H0 hrL tkL => (pdo_call h_made hrL (by decide) rfl tkL rfl rfl (paa_consN (pdv 8) (paa_consN (pd_bltB (blt_len (good_of rfl rfl rfl hrL)) rfl F_len boot_len (pao_cons (pdv 1) pao_nil)) paa_nil))))
    · exact LamIn.mk' (sc := defScope s__law_turns_refused) rfl rfl (by decide +kernel) rfl (fun _ _ _ => rfl) (fun E f c' A outer s H H0 hrL tkL => (pdo_call h_made hrL (by decide) rfl tkL rfl rfl (paa_consN (pdv 8) (paa_consN (pdv 4) paa_nil))))
    · exact LamIn.mk' (sc := defScope s__law_turns_refused) rfl rfl (by decide +kernel) rfl (fun _ _ _ => rfl) (fun E f c' A outer s H H0 hrL tkL => (pdo_call h_word hrL (by decide) rfl tkL rfl rfl (paa_consN (pdv 8) (paa_consN (pdv 2) paa_nil))))
  have tmem : ((He.cT K ("_law_turns_refused", none)).2, ("_law_turns_refused" : Str) ++ ".<locals>." ++ "<lambda>") ∈ (Wk P w K).tb := List.mem_cons_self
  have tuniq : ∀ p ∈ (Wk P w K).tb, p.1 = (He.cT K ("_law_turns_refused", none)).2 → p.2 = ("_law_turns_refused" : Str) ++ ".<locals>." ++ "<lambda>" := tb_u0 (exB_ne ex)
  refine psd_cons (psd_setT (pd_tup (pav_cons (pdo_call h__law_no_turn hr (by decide) rfl tk rfl rfl (paa_consN (pdv 0) (paa_consN (pdv 1) paa_nil))) (pav_cons (pdo_call h__law_pick hr (by decide) rfl tk rfl rfl (paa_consN (pdv 0) (paa_consN (pd_lst (pav_cons pd_int (pav_cons pd_int (pav_cons pd_int (pav_cons (pd_neg pd_int) (pav_cons pd_non (pav_cons pd_bl (pav_cons pd_str (pav_cons (pd_tup (pav_cons pd_int pav_nil)) (pav_cons (pd_lst (pav_cons pd_int pav_nil)) (pav_cons pd_dnew0 pav_nil))))))))))) paa_nil))) pav_nil))) (pgd_tup rfl rfl (pgds_cons (pgdn 3 nd) (pgds_cons (pgdn 4 nd) pgds_nil)))) ?_
  refine psd_cons (psd_set (i := 5) nd rfl (by first | exact Or.inl rfl | exact Or.inr rfl) (pdo_call h__law_pick hr (by decide) rfl tk rfl rfl (paa_consN (pdv 0) (paa_consN (pd_lst (pav_cons pd_int (pav_cons pd_int (pav_cons (pd_neg pd_int) (pav_cons (pd_bin .pow rfl pd_int pd_int) pav_nil))))) paa_nil))) rfl) ?_
  refine psd_cons (psd_set (i := 6) nd rfl (by first | exact Or.inl rfl | exact Or.inr rfl) (pd_lst (pav_cons (pd_lam (n := 0) TB hcode rfl tmem tuniq (lamS_by (sc := defScope s__law_turns_refused) (by decide +kernel)) rfl) pav_nil)) rfl) ?_
  refine psd_cons (psd_ex (pd_append (i := 6) rfl (by first | exact Or.inl rfl | exact Or.inr (Or.inl rfl) | exact Or.inr (Or.inr rfl)) (pav_cons (pd_lam (n := 1) TB hcode rfl tmem tuniq (lamS_by (sc := defScope s__law_turns_refused) (by decide +kernel)) rfl) pav_nil))) ?_
  refine psd_cons (psd_ex (pd_append (i := 6) rfl (by first | exact Or.inl rfl | exact Or.inr (Or.inl rfl) | exact Or.inr (Or.inr rfl)) (pav_cons (pd_lam (n := 2) TB hcode rfl tmem tuniq (lamS_by (sc := defScope s__law_turns_refused) (by decide +kernel)) rfl) pav_nil))) ?_
  refine psd_cons (psd_if (pt_cmpD .ne (good_of rfl rfl rfl hr) (fun _ _ => rfl) (pd_lcW (lv := 7) (ev1 := evE _ 37) (good_of rfl rfl rfl hr) (hr.mono (by decide)) WD hlam (fun _ _ _ => rfl) (evE_succ (n := 37)) (fun _ => evE_var (n := 36)) rfl nd (pid_of rfl (pdv 6)) (blkOk_by (N := ["state", "turn", "goal", "odd", "none", "n", "works", "thing", "lone", "work"]) (sc := defScope s__law_turns_refused) (by decide +kernel)) rfl (fun _ _ _ _ _ => pgdn 9 nd) (fun _ _ => rfl) (fun _ _ => (by first | exact Or.inl rfl | exact Or.inr (Or.inl rfl) | exact Or.inr (Or.inr rfl))) (by decide) (by decide) (by decide)) (pd_bin .mul rfl (pd_lst (pav_cons pd_str pav_nil)) pd_int) rfl) (psd_cons (psd_ret pd_bl)
    psd_nil) psd_nil) ?_
  refine psd_cons (psd_set (i := 7) nd rfl (by first | exact Or.inl rfl | exact Or.inr rfl) (pdo_call h__law_pick hr (by decide) rfl tk rfl rfl (paa_consN (pdv 0) (paa_consN (pd_lst (pav_cons (pdv 3) (pav_cons (pdv 1) (pav_cons (pd_tup (pav_cons (pdv 1) pav_nil)) (pav_cons pd_non pav_nil))))) paa_nil))) rfl) ?_
  refine psd_cons (psd_set (i := 6) nd rfl (by first | exact Or.inl rfl | exact Or.inr rfl) (pd_lst (pav_cons (pd_lam (n := 3) TB hcode rfl tmem tuniq (lamS_by (sc := defScope s__law_turns_refused) (by decide +kernel)) rfl) pav_nil)) rfl) ?_
  refine psd_cons (psd_ex (pd_append (i := 6) rfl (by first | exact Or.inl rfl | exact Or.inr (Or.inl rfl) | exact Or.inr (Or.inr rfl)) (pav_cons (pd_lam (n := 4) TB hcode rfl tmem tuniq (lamS_by (sc := defScope s__law_turns_refused) (by decide +kernel)) rfl) pav_nil))) ?_
  refine psd_cons (psd_ex (pd_append (i := 6) rfl (by first | exact Or.inl rfl | exact Or.inr (Or.inl rfl) | exact Or.inr (Or.inr rfl)) (pav_cons (pd_lam (n := 5) TB hcode rfl tmem tuniq (lamS_by (sc := defScope s__law_turns_refused) (by decide +kernel)) rfl) pav_nil))) ?_
  refine psd_cons (psd_if (pt_cmpD .ne (good_of rfl rfl rfl hr) (fun _ _ => rfl) (pd_lcW (lv := 7) (ev1 := evE _ 37) (good_of rfl rfl rfl hr) (hr.mono (by decide)) WD hlam (fun _ _ _ => rfl) (evE_succ (n := 37)) (fun _ => evE_var (n := 36)) rfl nd (pid_of rfl (pdv 6)) (blkOk_by (N := ["state", "turn", "goal", "odd", "none", "n", "works", "thing", "lone", "work"]) (sc := defScope s__law_turns_refused) (by decide +kernel)) rfl (fun _ _ _ _ _ => pgdn 9 nd) (fun _ _ => rfl) (fun _ _ => (by first | exact Or.inl rfl | exact Or.inr (Or.inl rfl) | exact Or.inr (Or.inr rfl))) (by decide) (by decide) (by decide)) (pd_bin .mul rfl (pd_lst (pav_cons pd_str pav_nil)) pd_int) rfl) (psd_cons (psd_ret pd_bl)
    psd_nil) psd_nil) ?_
  refine psd_cons (psd_set (i := 8) nd rfl (by first | exact Or.inl rfl | exact Or.inr rfl) (pdo_call h__law_pick hr (by decide) rfl tk rfl rfl (paa_consN (pdv 0) (paa_consN (pd_lst (pav_cons pd_non (pav_cons pd_int (pav_cons pd_str (pav_cons pd_dnew0 (pav_cons pd_bl pav_nil)))))) paa_nil))) rfl) ?_
  refine psd_cons (psd_set (i := 6) nd rfl (by first | exact Or.inl rfl | exact Or.inr rfl) (pd_lst (pav_cons (pd_lam (n := 6) TB hcode rfl tmem tuniq (lamS_by (sc := defScope s__law_turns_refused) (by decide +kernel)) rfl) pav_nil)) rfl) ?_
  refine psd_cons (psd_ex (pd_append (i := 6) rfl (by first | exact Or.inl rfl | exact Or.inr (Or.inl rfl) | exact Or.inr (Or.inr rfl)) (pav_cons (pd_lam (n := 7) TB hcode rfl tmem tuniq (lamS_by (sc := defScope s__law_turns_refused) (by decide +kernel)) rfl) pav_nil))) ?_
  refine psd_cons (psd_ex (pd_append (i := 6) rfl (by first | exact Or.inl rfl | exact Or.inr (Or.inl rfl) | exact Or.inr (Or.inr rfl)) (pav_cons (pd_lam (n := 8) TB hcode rfl tmem tuniq (lamS_by (sc := defScope s__law_turns_refused) (by decide +kernel)) rfl) pav_nil))) ?_
  refine psd_cons (psd_ret (pd_cmp .eq (good_of rfl rfl rfl hr) (fun _ _ => rfl) (pd_lcW (lv := 7) (ev1 := evE _ 37) (good_of rfl rfl rfl hr) (hr.mono (by decide)) WD hlam (fun _ _ _ => rfl) (evE_succ (n := 37)) (fun _ => evE_var (n := 36)) rfl nd (pid_of rfl (pdv 6)) (blkOk_by (N := ["state", "turn", "goal", "odd", "none", "n", "works", "thing", "lone", "work"]) (sc := defScope s__law_turns_refused) (by decide +kernel)) rfl (fun _ _ _ _ _ => pgdn 9 nd) (fun _ _ => rfl) (fun _ _ => (by first | exact Or.inl rfl | exact Or.inr (Or.inl rfl) | exact Or.inr (Or.inr rfl))) (by decide) (by decide) (by decide)) (pd_bin .mul rfl (pd_lst (pav_cons pd_str pav_nil)) pd_int) rfl)) ?_
  exact psd_nil

end
end K59
end T
end
section
set_option Elab.async false
set_option linter.all false
set_option autoImplicit false
set_option maxRecDepth 100000
set_option maxHeartbeats 4000000
namespace T
namespace K59
open PySem PySem.Spec PyProof.Rows L2 LamX
section
variable {P : Program} {w : World} {K : PySem.W.Frag} {mg : Str → Option Value} {base : Heap}

/-! ### law -/
def b_law : List Stm := [(.for_ (.n 2) (.range none (.cst (.int 4))) [(.set (.n 3) (.bin .add (.cst (.int 2)) (.draw (.var 1) (.cst (.int 4))))), (.par [4, 5] [(.call 34 [] [(.var 1), (.var 3)]), (.call 34 [] [(.var 1), (.var 3)])]), (.for_ (.n 6) (.range none (.cst (.int 4))) [(.iff (.not (.call 40 [] [(.var 1), (.var 4), (.var 5)])) [(.ret (.cst (.bl false)))] [])]), (.set (.n 7) (.call 36 [] [(.lst [(.var 4)]), (.var 3)])), (.for_ (.n 6) (.range none (.cst (.int 4))) [(.set (.n 8) (.call 39 [] [(.var 1), (.var 7)])), (.set (.n 9) (.lst [(.lam 9)])), (.ex (.mut 0 9 [(.lam 10)])), (.ex (.mut 0 9 [(.lam 11)])), (.iff (.cmp .ne (.lc [10] (.n 10) (.of (.var 9)) none (.wcall 0 [10] (.var 10))) (.bin .mul (.lst [(.cst (.str "group"))]) (.cst (.int 3)))) [(.ret (.cst (.bl false)))] [])])]), (.ret (.cst (.bl true)))]
def fn_law (mR : Fnc) : Nat → Fnc := fun k => match k with | 28 => F_leadings | 29 => F_thirds | 23 => F_commuted | 34 => F__law_a_turn | 40 => mR | 36 => F__law_closed | 39 => F__law_no_group | _ => fun _ => .bad
def lamB_law : Nat → Ex := fun k => match k with | 9 => (.call 28 [] [(.var 8)]) | 10 => (.call 29 [] [(.var 8)]) | 11 => (.call 23 [] [(.var 8)]) | _ => .bad
def S_law (mR : Fnc) : Sig := { S0 with fn := fn_law mR, lamB := lamB_law, lamK := fun n => decide (9 ≤ n) && decide (n < 12), wfn := fun _ cl n act => defM { S__law_word with act := act } gas 4 (wordB 3 b__law_word) [.val (.clo n cl)] }
theorem sc_law : FnScope ["script", "state", "turn", "size", "one", "goal", "k", "group", "strange", "works", "work"] ["script"] (defScope s_law) := ⟨rfl, rfl, rfl, by decide +kernel, rfl, by decide +kernel, by decide +kernel⟩
theorem mem_law (n : Nat) (h : (decide (9 ≤ n) && decide (n < 12)) = true) : n ∈ [9, 10, 11] := by
  simp only [Bool.and_eq_true, decide_eq_true_eq] at h
  simp only [List.mem_cons, List.mem_nil_iff, or_false]
  omega
theorem ok_law (mR : Fnc) (hm : ∀ cl, ((blkM (exS { S_law mR with cl := cl } gas (evE { S_law mR with cl := cl } deep) deep) b_law) ((List.replicate 11 none).set 1 (some (.val (.stt 0))))).wp IsT) (F_range : mg "range" = none) (h_leadings : Okf P w K mg base "leadings" 7 ["group"] (spD (Wk P w K) 1 F_leadings)) (h_thirds : Okf P w K mg base "thirds" 7 ["group"] (spD (Wk P w K) 1 F_thirds)) (h_commuted : Okf P w K mg base "commuted" 7 ["group"] (spD (Wk P w K) 1 F_commuted)) (h__law_draw : Okf P w K mg base "_law_draw" 1 ["state", "many"] (spDraw (Wk P w K))) (h__law_a_turn : Okf P w K mg base "_law_a_turn" 3 ["state", "size"] (spD (Wk P w K) 2 F__law_a_turn)) (h__law_turns_refused : Okf P w K mg base "_law_turns_refused" 10 ["state", "turn", "goal"] (spD (Wk P w K) 3 mR)) (h__law_closed : Okf P w K mg base "_law_closed" 2 ["turns", "size"] (spD (Wk P w K) 2 F__law_closed)) (h__law_no_group : Okf P w K mg base "_law_no_group" 3 ["state", "group"] (spD (Wk P w K) 2 F__law_no_group)) (TB : TabB base mg (He.cT K ("law", none)).1 (He.cT K ("law", none)).2) (ex : exB K = true) (WD : WordIn P w K mg base (Wk P w K) S__law_word gas 3 7 b__law_word "_law_word" ["work", "error", "e", "sorts"]) (hst : Okf P w K mg base "_law_state" 1 ["script"] (spState K)) {fd : FuncData} (F : FunD K "law" "law" (defArgs s_law) (defBody s_law) (defScope s_law) [] [] (He.ga K "law") fd) : FnOk P w K mg base (L2.CX P w) 11 (He.ga K "law") fd ["script"] (spLaw (Wk P w K)) := by
  refine law_ok (W := Wk P w K) (S := S_law mR) (gas := gas) (b := b_law) (i := 1) (N := ["script", "state", "turn", "size", "one", "goal", "k", "group", "strange", "works", "work"]) (fun i => ((Wk P w K).lam i).scope) F sc_law rfl hst (by decide) rfl (by decide) rfl (.inl rfl) rfl rfl (by decide) (fun _ _ _ => rfl) hm fun f cdv A outer s H E hcode hr tk hp => ?_
  have nd := sc_law.nd
  have hlam : ∀ n, ({ S_law mR with cl := fun i => cloFrom (envOfC "law" (defScope s_law) s.heap.objs.size f cdv).cells ((Wk P w K).lam i).scope.names [] }).lamK n = true → LamIn (cxOf (L2.CX P w) P w K mg base ["script", "state", "turn", "size", "one", "goal", "k", "group", "strange", "works", "work"] "law" (defScope s_law) f cdv A outer s H E) (Wk P w K) ({ S_law mR with cl := fun i => cloFrom (envOfC "law" (defScope s_law) s.heap.objs.size f cdv).cells ((Wk P w K).lam i).scope.names [] }) (evE ({ S_law mR with cl := fun i => cloFrom (envOfC "law" (defScope s_law) s.heap.objs.size f cdv).cells ((Wk P w K).lam i).scope.names [] }) 37) 7 n := fun n hn => by
    have hm : n ∈ [9, 10, 11] := mem_law n hn
    simp only [List.mem_cons, List.mem_nil_iff, or_false] at hm
    rcases hm with rfl | rfl | rfl
    · exact LamIn.mk' (sc := defScope s_law) rfl rfl (by decide +kernel) rfl (fun _ _ _ => rfl) (fun E f c' A outer s H H0 hrL tkL => (pdo_call h_leadings hrL (by decide) rfl tkL rfl rfl (paa_consN (pdv 8) paa_nil)))
    · exact LamIn.mk' (sc := defScope s_law) rfl rfl (by decide +kernel) rfl (fun _ _ _ => rfl) (fun E f c' A outer s H H0 hrL tkL => (pdo_call h_thirds hrL (by decide) rfl tkL rfl rfl (paa_consN (pdv 8) paa_nil)))
    · exact LamIn.mk' (sc := defScope s_law) rfl rfl (by decide +kernel) rfl (fun _ _ _ => rfl) (fun E f c' A outer s H H0 hrL tkL => (pdo_call h_commuted hrL (by decide) rfl tkL rfl rfl (paa_consN (pdv 8) paa_nil)))
  have tmem : ((He.cT K ("law", none)).2, ("law" : Str) ++ ".<locals>." ++ "<lambda>") ∈ (Wk P w K).tb := List.mem_cons_of_mem _ List.mem_cons_self
  have tuniq : ∀ p ∈ (Wk P w K).tb, p.1 = (He.cT K ("law", none)).2 → p.2 = ("law" : Str) ++ ".<locals>." ++ "<lambda>" := tb_u1 (exB_ne ex)
  refine psd_cons (psd_for hp rfl (pid_range1 rfl F_range pd_int) (pgdn 2 nd) (psd_cons (psd_set (i := 3) nd rfl (by first | exact Or.inl rfl | exact Or.inr rfl) (pd_bin .add rfl pd_int (pdo_draw h__law_draw hr (by decide) rfl tk (pdv 1) pd_int)) rfl)
    (psd_cons (psd_par2 rfl nd rfl rfl (by decide) rfl rfl (pao_cons (pdo_call h__law_a_turn hr (by decide) rfl tk rfl rfl (paa_consN (pdv 1) (paa_consN (pdv 3) paa_nil))) (pao_cons (pdo_call h__law_a_turn hr (by decide) rfl tk rfl rfl (paa_consN (pdv 1) (paa_consN (pdv 3) paa_nil))) pao_nil)) rfl)
    (psd_cons (psd_for hp rfl (pid_range1 rfl F_range pd_int) (pgdn 6 nd) (psd_cons (psd_if (pt_notD (pt_any rfl (pdo_call h__law_turns_refused hr (by decide) rfl tk rfl rfl (paa_consN (pdv 1) (paa_consN (pdv 4) (paa_consN (pdv 5) paa_nil)))) (fun _ => rfl))) (psd_cons (psd_ret pd_bl)
    psd_nil) psd_nil)
    psd_nil))
    (psd_cons (psd_set (i := 7) nd rfl (by first | exact Or.inl rfl | exact Or.inr rfl) (pdo_call h__law_closed hr (by decide) rfl tk rfl rfl (paa_consN (pd_lst (pav_cons (pdv 4) pav_nil)) (paa_consN (pdv 3) paa_nil))) rfl)
    (psd_cons (psd_for hp rfl (pid_range1 rfl F_range pd_int) (pgdn 6 nd) (psd_cons (psd_set (i := 8) nd rfl (by first | exact Or.inl rfl | exact Or.inr rfl) (pdo_call h__law_no_group hr (by decide) rfl tk rfl rfl (paa_consN (pdv 1) (paa_consN (pdv 7) paa_nil))) rfl)
    (psd_cons (psd_set (i := 9) nd rfl (by first | exact Or.inl rfl | exact Or.inr rfl) (pd_lst (pav_cons (pd_lam (n := 9) TB hcode rfl tmem tuniq (lamS_by (sc := defScope s_law) (by decide +kernel)) rfl) pav_nil)) rfl)
    (psd_cons (psd_ex (pd_append (i := 9) rfl (by first | exact Or.inl rfl | exact Or.inr (Or.inl rfl) | exact Or.inr (Or.inr rfl)) (pav_cons (pd_lam (n := 10) TB hcode rfl tmem tuniq (lamS_by (sc := defScope s_law) (by decide +kernel)) rfl) pav_nil)))
    (psd_cons (psd_ex (pd_append (i := 9) rfl (by first | exact Or.inl rfl | exact Or.inr (Or.inl rfl) | exact Or.inr (Or.inr rfl)) (pav_cons (pd_lam (n := 11) TB hcode rfl tmem tuniq (lamS_by (sc := defScope s_law) (by decide +kernel)) rfl) pav_nil)))
    (psd_cons (psd_if (pt_cmpD .ne (good_of rfl rfl rfl hr) (fun _ _ => rfl) (pd_lcW (lv := 7) (ev1 := evE _ 37) (good_of rfl rfl rfl hr) (hr.mono (by decide)) WD hlam (fun _ _ _ => rfl) (evE_succ (n := 37)) (fun _ => evE_var (n := 36)) rfl nd (pid_of rfl (pdv 9)) (blkOk_by (N := ["script", "state", "turn", "size", "one", "goal", "k", "group", "strange", "works", "work"]) (sc := defScope s_law) (by decide +kernel)) rfl (fun _ _ _ _ _ => pgdn 10 nd) (fun _ _ => rfl) (fun _ _ => (by first | exact Or.inl rfl | exact Or.inr (Or.inl rfl) | exact Or.inr (Or.inr rfl))) (by decide) (by decide) (by decide)) (pd_bin .mul rfl (pd_lst (pav_cons pd_str pav_nil)) pd_int) rfl) (psd_cons (psd_ret pd_bl)
    psd_nil) psd_nil)
    psd_nil))))))
    psd_nil)))))) ?_
  refine psd_cons (psd_ret pd_bl) ?_
  exact psd_nil

end
end K59
end T
end
section
set_option Elab.async false
set_option linter.all false
set_option autoImplicit false
set_option maxRecDepth 1000000
/-! the plain law, by trial -/
namespace T
namespace K59
open PySem
def wpb {α : Type} (p : α → Bool) : Tr α → Bool
  | .ret a => p a
  | .draw m k => decide (0 < m) && (List.range m).all fun r => wpb p (k r)
  | .bad => false
theorem wpb_ok {α : Type} {p : α → Bool} : ∀ {t : Tr α}, wpb p t = true → t.wp fun r => p r = true
  | .ret _, h => h
  | .draw m k, h => by
    have h' : (decide (0 < m) && (List.range m).all fun r => wpb p (k r)) = true := h
    rw [Bool.and_eq_true] at h'
    exact ⟨of_decide_eq_true h'.1, fun r hr => wpb_ok (List.all_eq_true.mp h'.2 r (List.mem_range.mpr hr))⟩
/-- the turns of a size -/
def insAll (x : Int) : List Int → List (List Int)
  | [] => [[x]]
  | y :: l => (x :: y :: l) :: (insAll x l).map (y :: ·)
def perms : Nat → List (List Int)
  | 0 => [[]]
  | n + 1 => (perms n).flatMap (insAll (n : Int))
def turnD (l : List Int) : D := .tup (l.map D.int)
def isInts (p : List Int → Bool) : Res → Bool
  | .ok (.val (.tup xs)) => match allInt xs with
    | some ns => p ns
    | none => false
  | _ => false
theorem allInt_eq : ∀ {xs : List D} {ns : List Int}, allInt xs = some ns → xs = ns.map D.int
  | [], _, e => by cases e; rfl
  | d :: ds, _, e => by
    unfold allInt at e
    cases d <;> first | (have z : none = some _ := e; cases z; done) | skip
    case int i =>
      cases hx : allInt ds with
      | none => simp [hx] at e
      | some ms =>
        simp only [hx] at e
        cases (Option.some.inj e)
        rw [allInt_eq hx]; rfl
theorem isInts_eq {p : List Int → Bool} {r : Res} (h : isInts p r = true) : ∃ ns, p ns = true ∧ r = .ok (.val (turnD ns)) := by
  unfold isInts at h
  split at h
  · split at h
    · rename_i e
      exact ⟨_, h, by rw [allInt_eq e]; rfl⟩
    · cases h
  · cases h
def isE (c : Nat) : Tr Res → Bool
  | .ret (.exc x) => x.c == c && x.fs.isEmpty
  | _ => false
theorem isE_eq {c : Nat} {t : Tr Res} (h : isE c t = true) : t = .ret (.exc ⟨c, []⟩) := by
  unfold isE at h
  split at h
  · rename_i x
    obtain ⟨k, fs⟩ := x
    rw [Bool.and_eq_true] at h
    have h1 : k = c := by simpa using h.1
    have h2 : fs = [] := by simpa using h.2
    rw [h1, h2]
  · cases h
def isVal (p : D → Bool) : Res → Bool
  | .ok (.val d) => p d
  | _ => false
theorem isVal_eq {p : D → Bool} {r : Res} (h : isVal p r = true) : ∃ d, p d = true ∧ r = .ok (.val d) := by
  unfold isVal at h
  split at h
  · exact ⟨_, h, rfl⟩
  · cases h
/-- what `times` may look at -/
def lenOk : D → Bool
  | .tup xs => decide (xs.length < 100)
  | .non => true | .bl _ => true | .int _ => true | .str _ => true | .lst _ => true | .dct _ _ => true
  | _ => false
/-- none of what `_law_no_turn` gives is a turn -/
def oddB (d : D) : Bool := isE 1 (F_need_turn [.val d]) && lenOk d
def strB (d : D) : Bool := isE 2 (F_need_group [.val d])
def oddsOf (n : Nat) : Bool := (perms n).all fun l => wpb (isVal oddB) (F__law_no_turn [.val (.stt 0), .val (turnD l)])
def turnsOf (n : Nat) : Bool := wpb (isInts fun ns => (perms n).elem ns) (F__law_a_turn [.val (.stt 0), .val (.int n)])
def isVR (p : D → Bool) : Tr Res → Bool
  | .ret (.ok (.val d)) => p d
  | _ => false
def strsOf (n : Nat) : Bool := (perms n).all fun l => isVR (fun g => wpb (isVal strB) (F__law_no_group [.val (.stt 0), .val g])) (F__law_closed [.val (.lst [turnD l]), .val (.int n)])
end K59
end T
end
section
set_option Elab.async false
set_option linter.all false
set_option autoImplicit false
set_option maxRecDepth 1000000
/-! a list of lambdas, each called: by data -/
namespace T
namespace K59
open PySem
theorem ev_val {S : Sig} {k i : Nat} {δ : Env} {d : D} (h : δ[i]? = some (some (.val d))) : evE S (k + 1) (.var i) δ = .ret (.ok (.v d) δ) := by
  rw [evE]; simp only [stepE, h]
theorem ev_own {S : Sig} {k i : Nat} {δ : Env} {d : D} (h : δ[i]? = some (some (.own d))) : evE S (k + 1) (.var i) δ = .ret (.ok (.b i) δ) := by
  rw [evE]; simp only [stepE, h]
theorem io_own {i : Nat} {δ : Env} {d : D} (h : δ[i]? = some (some (.own d))) : io (.b i) δ = .ret (.ok d (δ.set i (some (.val d)))) := by
  simp only [io, h]
theorem wcall_run {S : Sig} {k lv n : Nat} {δ1 : Env} {c : D} (h1 : δ1[lv]? = some (some (.val (.clo n (S.cl n))))) (h2 : S.lamK n = true) (h3 : S.wfn 0 (S.cl n) n (lamT (evE S (k + 1) (S.lamB n)) (δ1.set lv none)) = .ret (.ok (.val c))) :
    evE S (k + 2) (.wcall 0 [lv] (.var lv)) δ1 = .ret (.ok (.v c) δ1) := by
  have hv : evE S (k + 1) (.var lv) δ1 = .ret (.ok (.v (.clo n (S.cl n))) δ1) := ev_val h1
  show (((evE S (k + 1) (.var lv)) δ1).bind _) = _
  rw [hv]
  show (if S.lamK n && decide (S.cl n = S.cl n) then fun δ => resM (S.wfn 0 (S.cl n) n (lamT (evE S (k + 1) (S.lamB n)) (wipeE δ [lv]))) δ else EvM.bad) δ1 = _
  rw [if_pos (by rw [h2]; simp)]
  show resM (S.wfn 0 (S.cl n) n (lamT (evE S (k + 1) (S.lamB n)) (δ1.set lv none))) δ1 = _
  rw [h3]
  rfl
theorem lcW_run {S : Sig} {k lv : Nat} {δ : Env} {c : D} (hlv : lv < δ.length) : ∀ (ns : List Nat) (x : Option Ent), (∀ n ∈ ns, S.lamK n = true ∧ S.wfn 0 (S.cl n) n (lamT (evE S (k + 1) (S.lamB n)) (δ.set lv none)) = .ret (.ok (.val c))) →
    ∃ x', lcM (turnM (evE S (k + 2)) [lv] (.n lv) none ((evE S (k + 2) (.wcall 0 [lv] (.var lv))).bind fz)) (ns.map fun n => D.clo n (S.cl n)) (δ.set lv x) = .ret (.ok (ns.map fun _ => c) (δ.set lv x'))
  | [], x, _ => ⟨x, rfl⟩
  | n :: ns, x, h => by
    obtain ⟨h2, h3⟩ := h n List.mem_cons_self
    have e1 : (δ.set lv x).set lv none = δ.set lv none := List.set_set ..
    have e2 : (δ.set lv none).set lv (some (Ent.val (.clo n (S.cl n)))) = δ.set lv (some (.val (.clo n (S.cl n)))) := List.set_set ..
    have e3 : (δ.set lv (some (Ent.val (.clo n (S.cl n))))).set lv none = δ.set lv none := List.set_set ..
    have e4 : (δ.set lv (some (Ent.val (.clo n (S.cl n)))))[lv]? = some (some (.val (.clo n (S.cl n)))) := by rw [List.getElem?_set_self hlv]
    have w := wcall_run (k := k) e4 h2 (by rw [e3]; exact h3)
    have t1 : turnM (evE S (k + 2)) [lv] (.n lv) none ((evE S (k + 2) (.wcall 0 [lv] (.var lv))).bind fz) (D.clo n (S.cl n)) (δ.set lv x) = .ret (.ok (some c) (δ.set lv (some (.val (.clo n (S.cl n)))))) := by
      show ((if lv < ((δ.set lv x).set lv none).length then (Tr.ret (Ou.ok () (((δ.set lv x).set lv none).set lv (some (Ent.val (.clo n (S.cl n)))))) : Tr (Ou Unit)) else Tr.bad).bind _) = _
      rw [e1, if_pos (by simpa using hlv), e2]
      show (((evE S (k + 2) (.wcall 0 [lv] (.var lv))) (δ.set lv (some (.val (.clo n (S.cl n)))))).bind _).bind _ = _
      rw [w]
      rfl
    obtain ⟨x', ih⟩ := lcW_run (k := k) hlv ns (some (.val (.clo n (S.cl n)))) fun m hm => h m (List.mem_cons_of_mem _ hm)
    refine ⟨x', ?_⟩
    show ((turnM (evE S (k + 2)) [lv] (.n lv) none ((evE S (k + 2) (.wcall 0 [lv] (.var lv))).bind fz) (D.clo n (S.cl n)) (δ.set lv x)).bind _) = _
    rw [t1]
    show ((lcM (turnM (evE S (k + 2)) [lv] (.n lv) none ((evE S (k + 2) (.wcall 0 [lv] (.var lv))).bind fz)) (ns.map fun n => D.clo n (S.cl n)) (δ.set lv (some (.val (.clo n (S.cl n)))))).bind _) = _
    rw [ih]
    rfl
/-- `[f(x) for x in list]` -/
theorem lcW_ev {S : Sig} {k lv i : Nat} {δ : Env} {c : D} {ns : List Nat} (hlv : lv < δ.length) (hi : δ[i]? = some (some (.own (.lst (ns.map fun n => D.clo n (S.cl n)))))) (hn : δ[lv]? = some none) (hne : i ≠ lv)
    (h : ∀ n ∈ ns, S.lamK n = true ∧ S.wfn 0 (S.cl n) n (lamT (evE S (k + 1) (S.lamB n)) (δ.set i (some (.val (.lst (ns.map fun n => D.clo n (S.cl n))))))) = .ret (.ok (.val c))) :
    evE S (k + 3) (.lc [lv] (.n lv) (.of (.var i)) none (.wcall 0 [lv] (.var lv))) δ = .ret (.ok (.f (.lst (ns.map fun _ => c))) (δ.set i (some (.val (.lst (ns.map fun n => D.clo n (S.cl n))))))) := by
  let δ2 := δ.set i (some (Ent.val (.lst (ns.map fun n => D.clo n (S.cl n)))))
  have hv : evE S (k + 2) (.var i) δ = .ret (.ok (.b i) δ) := ev_own hi
  have hit : itM (evE S (k + 2)) (.of (.var i)) δ = .ret (.ok (ns.map fun n => D.clo n (S.cl n)) δ2) := by
    show ((evE S (k + 2) (.var i) δ).bind _) = _
    rw [hv]
    show ((io (.b i) δ).bind _) = _
    rw [io_own hi]
    rfl
  have l2 : lv < δ2.length := by simpa [δ2] using hlv
  have n2 : δ2[lv]? = some none := by
    show (δ.set i _)[lv]? = _
    rw [List.getElem?_set_ne hne]; exact hn
  have s2 : δ2.set lv none = δ2 := by
    refine List.ext_getElem? fun j => ?_
    by_cases hj : lv = j
    · subst hj; rw [List.getElem?_set_self l2, n2]
    · rw [List.getElem?_set_ne hj]
  obtain ⟨x', r⟩ := lcW_run (S := S) (k := k) (c := c) l2 ns none (by rw [s2]; exact h)
  rw [s2] at r
  show ((itM (evE S (k + 2)) (.of (.var i)) δ).bind _) = _
  rw [hit]
  have d2 : δ2.getD lv none = none := by rw [List.getD_eq_getElem?_getD, n2]; rfl
  show (if [lv].all (calmAt δ2) then ((((lcM (turnM (evE S (k + 2)) [lv] (.n lv) none ((evE S (k + 2) (.wcall 0 [lv] (.var lv))).bind fz)) (ns.map fun n => D.clo n (S.cl n))) δ2).bind _).bind _) else Tr.bad) = _
  rw [if_pos (by show (calmAt δ2 lv && true) = true; unfold calmAt; rw [d2]; rfl), r]
  show Tr.ret (Ou.ok _ ((δ2.set lv x').set lv (δ2.getD lv none))) = _
  rw [d2, List.set_set, s2]
end K59
end T
end
section
set_option Elab.async false
set_option linter.all false
set_option autoImplicit false
set_option maxRecDepth 1000000
/-! what the lambdas give -/
namespace T
namespace K59
open PySem
def wordOf (c : Nat) : Str := match c with | 0 => "size" | 1 => "turn" | _ => "group"
theorem word0 (n : Nat) (cl : List (Str × Addr)) : defM { S__law_word with act := .ret (.exc ⟨0, []⟩) } gas 4 (wordB 3 b__law_word) [.val (.clo n cl)] = .ret (.ok (.val (.str "size"))) := by kernel_rfl
theorem word1 (n : Nat) (cl : List (Str × Addr)) : defM { S__law_word with act := .ret (.exc ⟨1, []⟩) } gas 4 (wordB 3 b__law_word) [.val (.clo n cl)] = .ret (.ok (.val (.str "turn"))) := by kernel_rfl
theorem word2 (n : Nat) (cl : List (Str × Addr)) : defM { S__law_word with act := .ret (.exc ⟨2, []⟩) } gas 4 (wordB 3 b__law_word) [.val (.clo n cl)] = .ret (.ok (.val (.str "group"))) := by kernel_rfl
theorem ev_call1 (S : Sig) (k : Nat) (d : D) (r : Env) : evE S 40 (.call k [] [.var 0]) (some (.val d) :: r) = resM (S.fn k [.val d]) (some (.val d) :: r) := by kernel_rfl
theorem res_exc {x : Exc} {δ : Env} : resM (.ret (.exc x)) δ = .ret (.exc x δ) := rfl
theorem order_exc {d : D} (h : F_need_turn [.val d] = .ret (.exc ⟨1, []⟩)) : F_order [.val d] = .ret (.exc ⟨1, []⟩) := by
  unfold F_order
  show (Tr.bind (Tr.bind (Tr.bind (evE S_order 40 (.call 8 [] [.var 0]) [some (.val d), none, none]) _) _) _) = _
  rw [ev_call1]
  show (Tr.bind (Tr.bind (Tr.bind (resM (F_need_turn [.val d]) [some (.val d), none, none]) _) _) _) = _
  rw [h]; rfl
theorem sign_exc {d : D} (h : F_need_turn [.val d] = .ret (.exc ⟨1, []⟩)) : F_sign [.val d] = .ret (.exc ⟨1, []⟩) := by
  unfold F_sign
  show (Tr.bind (Tr.bind (Tr.bind (evE S_sign 40 (.call 8 [] [.var 0]) [some (.val d)]) _) _) _) = _
  rw [ev_call1]
  show (Tr.bind (Tr.bind (Tr.bind (resM (F_need_turn [.val d]) [some (.val d)]) _) _) _) = _
  rw [h]; rfl
theorem leadings_exc {d : D} (h : F_need_group [.val d] = .ret (.exc ⟨2, []⟩)) : F_leadings [.val d] = .ret (.exc ⟨2, []⟩) := by
  unfold F_leadings
  show (Tr.bind (Tr.bind (Tr.bind (evE S_leadings 40 (.call 21 [] [.var 0]) [some (.val d), none, none]) _) _) _) = _
  rw [ev_call1]
  show (Tr.bind (Tr.bind (Tr.bind (resM (F_need_group [.val d]) [some (.val d), none, none]) _) _) _) = _
  rw [h]; rfl
theorem thirds_exc {d : D} (h : F_need_group [.val d] = .ret (.exc ⟨2, []⟩)) : F_thirds [.val d] = .ret (.exc ⟨2, []⟩) := by
  unfold F_thirds
  show (Tr.bind (Tr.bind (Tr.bind (evE S_thirds 40 (.call 21 [] [.var 0]) [some (.val d)]) _) _) _) = _
  rw [ev_call1]
  show (Tr.bind (Tr.bind (Tr.bind (resM (F_need_group [.val d]) [some (.val d)]) _) _) _) = _
  rw [h]; rfl
theorem commuted_exc {d : D} (h : F_need_group [.val d] = .ret (.exc ⟨2, []⟩)) : F_commuted [.val d] = .ret (.exc ⟨2, []⟩) := by
  unfold F_commuted
  show (Tr.bind (Tr.bind (Tr.bind (evE S_commuted 40 (.call 21 [] [.var 0]) [some (.val d), none, none, none, none]) _) _) _) = _
  rw [ev_call1]
  show (Tr.bind (Tr.bind (Tr.bind (resM (F_need_group [.val d]) [some (.val d), none, none, none, none]) _) _) _) = _
  rw [h]; rfl
end K59
end T
end
section
set_option Elab.async false
set_option linter.all false
set_option autoImplicit false
set_option maxRecDepth 1000000
/-! what the lambdas give, more -/
namespace T
namespace K59
open PySem
def noneL : List D := [.int 0, .int 1, .int 6, .int (-3), .non, .bl true, .str "3", .tup [.int 3], .lst [.int 2], .dct false []]
theorem need_none : ∀ d ∈ noneL, F_need_size [.val d] = .ret (.exc ⟨0, []⟩) := fun d hd => isE_eq (List.all_eq_true.mp (show (noneL.all fun d => isE 0 (F_need_size [.val d])) = true by decide +kernel) d hd)
theorem ev_call1b (S : Sig) (k : Nat) (a : Option Ent) (d : D) (r : Env) : evE S 40 (.call k [] [.var 1]) (a :: some (.val d) :: r) = resM (S.fn k [.val d]) (a :: some (.val d) :: r) := by kernel_rfl
theorem plain_exc {d : D} (h : F_need_size [.val d] = .ret (.exc ⟨0, []⟩)) : F_plain [.val d] = .ret (.exc ⟨0, []⟩) := by
  unfold F_plain
  show (Tr.bind (Tr.bind (Tr.bind (evE S_plain 40 (.call 6 [] [.var 0]) [some (.val d)]) _) _) _) = _
  rw [ev_call1]
  show (Tr.bind (Tr.bind (Tr.bind (resM (F_need_size [.val d]) [some (.val d)]) _) _) _) = _
  rw [h]; rfl
theorem is_turn_exc {t d : D} (h : F_need_size [.val d] = .ret (.exc ⟨0, []⟩)) : F_is_turn [.val t, .val d] = .ret (.exc ⟨0, []⟩) := by
  unfold F_is_turn
  show (Tr.bind (Tr.bind (Tr.bind (evE S_is_turn 40 (.call 6 [] [.var 1]) [some (.val t), some (.val d), none]) _) _) _) = _
  rw [ev_call1b]
  show (Tr.bind (Tr.bind (Tr.bind (resM (F_need_size [.val d]) [some (.val t), some (.val d), none]) _) _) _) = _
  rw [h]; rfl
theorem is_group_exc {t d : D} (h : F_need_size [.val d] = .ret (.exc ⟨0, []⟩)) : F_is_group [.val t, .val d] = .ret (.exc ⟨0, []⟩) := by
  unfold F_is_group
  show (Tr.bind (Tr.bind (Tr.bind (evE S_is_group 40 (.call 6 [] [.var 1]) [some (.val t), some (.val d), none, none, none]) _) _) _) = _
  rw [ev_call1b]
  show (Tr.bind (Tr.bind (Tr.bind (resM (F_need_size [.val d]) [some (.val t), some (.val d), none, none, none]) _) _) _) = _
  rw [h]; rfl
def loneL : List D := [.non, .int 5, .str "01", .dct false [], .bl true]
theorem made_exc : ∀ (d e : D), d ∈ loneL → F_made [.val d, .val e] = .ret (.exc ⟨1, []⟩) := fun d e hd => by
  unfold loneL at hd
  simp only [List.mem_cons, List.mem_nil_iff, or_false] at hd
  rcases hd with rfl | rfl | rfl | rfl | rfl <;> kernel_rfl
theorem word_exc : ∀ (d e : D), d ∈ loneL → F_word [.val d, .val e] = .ret (.exc ⟨1, []⟩) := fun d e hd => by
  unfold loneL at hd
  simp only [List.mem_cons, List.mem_nil_iff, or_false] at hd
  rcases hd with rfl | rfl | rfl | rfl | rfl <;> kernel_rfl
section
variable {S : Sig} {k gas : Nat} {δ δ1 δ2 : Env} {x : Exc}
theorem bin_exc {o : Bop} {a b : Ex} {p : Op} (ha : evE S k a δ = .ret (.ok p δ1)) (hb : evE S k b δ1 = .ret (.exc x δ2)) : evE S (k + 1) (.bin o a b) δ = .ret (.exc x δ2) := by
  show (Tr.bind (evE S k a δ) _) = _
  rw [ha]
  show (Tr.bind (evE S k b δ1) _) = _
  rw [hb]; rfl
theorem for_exc {ev : Ex → EvM Op} {tg : Tg} {hi : Ex} {b : List Stm} (h : ev hi δ = .ret (.exc x δ1)) : exS S gas ev (k + 1) (.for_ tg (.range none hi) b) δ = .ret (.exc x δ1) := by
  show (Tr.bind (Tr.bind (Tr.bind (ev hi δ) _) _) _) = _
  rw [h]; rfl
end
theorem ev_call1c (S : Sig) (k : Nat) (d : D) (r : Env) : evE S 39 (.call k [] [.var 0]) (some (.val d) :: r) = resM (S.fn k [.val d]) (some (.val d) :: r) := by kernel_rfl
theorem rng_small {n : Nat} (h : n < 100) : rngD 0 (n : Int) = some ((List.range n).map fun (k : Nat) => D.int (0 + (k : Int))) := by
  have e : ((n : Int) - 0).toNat = n := by omega
  have f : fits n = true := Nat.ble_eq_true_of_le (by omega)
  have a1 : decide (-big62 ≤ (0 : Int)) = true := by decide
  have a2 : decide ((0 : Int) < big62) = true := by decide
  have a3 : decide (-big62 ≤ (n : Int)) = true := decide_eq_true (by show (-4611686018427387904 : Int) ≤ (n : Int); omega)
  have a4 : decide ((n : Int) < big62) = true := decide_eq_true (by show (n : Int) < 4611686018427387904; omega)
  unfold rngD
  rw [e, f, a1, a2, a3, a4]
  rfl
section
variable {S : Sig} {k gas n i : Nat} {δ : Env}
theorem set_ok {e : Ex} {d : D} (h : evE S k e δ = .ret (.ok (.v d) δ)) (hi : i < δ.length) : exS S gas (evE S k) (n + 1) (.set (.n i) e) δ = .ret (.ok .nx (δ.set i (some (.val d)))) := by
  show (Tr.bind (evE S k e δ) _) = _
  rw [h]
  show (Tr.bind (if i < δ.length then Tr.ret (Ou.ok () (δ.set i (some (Ent.val d)))) else Tr.bad) _) = _
  rw [if_pos hi]; rfl
theorem ite_ok {c a b : Ex} {r : Tr (Ou Op)} (hc : testM (evE S k) c δ = .ret (.ok true δ)) (ha : evE S k a δ = r) : evE S (k + 1) (.ite c a b) δ = r := by
  show (Tr.bind (testM (evE S k) c δ) _) = _
  rw [hc]; exact ha
theorem rng_ok {hi : Ex} {m : Int} {xs : List D} (h : evD (evE S k) hi δ = .ret (.ok (.int m) δ)) (hr : rngD 0 m = some xs) : evE S (k + 1) (.rng true none hi) δ = .ret (.ok (.v (.tup xs)) δ) := by
  show (Tr.bind (Tr.bind (evD (evE S k) hi δ) _) _) = _
  rw [h]
  show (Tr.bind (EvM.opt (rngD 0 m) δ) _) = _
  rw [hr]; rfl
end
theorem times_set {d : D} {n : Int} (h : lenOk d = true) : ∃ x, exS S_times gas (evE S_times 40) 40 (.set (.n 2) (.ite (.isi (.var 0) [.tuple]) (.rng true none (.blt 0 [(.var 0)])) (.tup []))) [some (.val d), some (.val (.int n)), none, none] = .ret (.ok .nx [some (.val d), some (.val (.int n)), some (.val x), none]) := by
  cases d with
  | tup xs =>
    have hl : xs.length < 100 := of_decide_eq_true h
    refine ⟨.tup ((List.range xs.length).map fun (k : Nat) => D.int (0 + (k : Int))), ?_⟩
    exact set_ok (i := 2) (ite_ok (by kernel_rfl) (rng_ok (m := (xs.length : Int)) (by kernel_rfl) (rng_small hl))) (by show 2 < 4; omega)
  | obj c fs => cases h
  | exv c fs => cases h
  | clo c fs => cases h
  | stt c => cases h
  | non => exact ⟨.tup [], by kernel_rfl⟩
  | bl b => exact ⟨.tup [], by kernel_rfl⟩
  | int b => exact ⟨.tup [], by kernel_rfl⟩
  | str b => exact ⟨.tup [], by kernel_rfl⟩
  | lst b => exact ⟨.tup [], by kernel_rfl⟩
  | dct b c => exact ⟨.tup [], by kernel_rfl⟩
theorem times_exc {d : D} {n : Int} (h : F_need_turn [.val d] = .ret (.exc ⟨1, []⟩)) (hl : lenOk d = true) : F_times [.val d, .val (.int n)] = .ret (.exc ⟨1, []⟩) := by
  obtain ⟨x, hs⟩ := times_set (n := n) hl
  have ho := order_exc h
  have hf : exS S_times gas (evE S_times 40) 40 (.for_ (.n 3) (.range none (.bin .mod (.var 1) (.call 12 [] [.var 0]))) [.bad]) [some (.val d), some (.val (.int n)), some (.val x), none] = .ret (.exc ⟨1, []⟩ [some (.val d), some (.val (.int n)), some (.val x), none]) := by
    refine for_exc (bin_exc (p := .v (.int n)) (δ1 := [some (.val d), some (.val (.int n)), some (.val x), none]) (by kernel_rfl) ?_)
    rw [ev_call1c]
    show resM (F_order [.val d]) _ = _
    rw [ho]; rfl
  unfold F_times
  show (Tr.bind (Tr.bind (exS S_times gas (evE S_times 40) 40 (.set (.n 2) (.ite (.isi (.var 0) [.tuple]) (.rng true none (.blt 0 [(.var 0)])) (.tup []))) [some (.val d), some (.val (.int n)), none, none]) _) _) = _
  rw [hs]
  show (Tr.bind (Tr.bind (exS S_times gas (evE S_times 40) 40 (.for_ (.n 3) (.range none (.bin .mod (.var 1) (.call 12 [] [.var 0]))) [.bad]) [some (.val d), some (.val (.int n)), some (.val x), none]) _) _) = _
  rw [hf]; rfl
end K59
end T
end
section
set_option Elab.async false
set_option linter.all false
set_option autoImplicit false
set_option maxRecDepth 1000000
/-! one round of refusals -/
namespace T
namespace K59
open PySem
section
variable {S : Sig} {gas n k : Nat} {δ δ1 δ' : Env} {P : Ou Fl → Prop}
@[irreducible] def WP {α : Type} (Q : α → Prop) (t : Tr α) : Prop := t.wp Q
@[irreducible] def goOn (ex : Stm → EvM Fl) (b : List Stm) (P : Ou Fl → Prop) : Ou Fl → Prop
  | .ok .nx δ' => (blkM ex b δ').wp P
  | o => P o
theorem blk_wp {ex : Stm → EvM Fl} {s : Stm} {b : List Stm} (h : (ex s δ).wp (goOn ex b P)) : (blkM ex (s :: b) δ).wp P := by
  show Tr.wp P (Tr.bind (ex s δ) _)
  refine Tr.wp_bind.mpr (Tr.wp_mono (fun o ho => ?_) h)
  unfold goOn at ho
  cases o with
  | exc x δ' => exact ho
  | ok f δ' => cases f <;> exact ho
theorem goOn_nx {ex : Stm → EvM Fl} {b : List Stm} (h : (blkM ex b δ).wp P) : goOn ex b P (.ok .nx δ) := by unfold goOn; exact h
theorem goOn_rt {ex : Stm → EvM Fl} {b : List Stm} {e : Ent} (h : P (.ok (.rt e) δ)) : goOn ex b P (.ok (.rt e) δ) := by unfold goOn; exact h
theorem blk_step {ex : Stm → EvM Fl} {s : Stm} {b : List Stm} (h : ex s δ = .ret (.ok .nx δ')) (g : (blkM ex b δ').wp P) : (blkM ex (s :: b) δ).wp P := blk_wp (by rw [h]; exact goOn_nx g)
theorem blk_ret {ex : Stm → EvM Fl} {s : Stm} {b : List Stm} {e : Ent} (h : ex s δ = .ret (.ok (.rt e) δ')) (g : P (.ok (.rt e) δ')) : (blkM ex (s :: b) δ).wp P := blk_wp (by rw [h]; exact goOn_rt g)
theorem wp_in {α : Type} {Q : α → Prop} {t : Tr α} (h : t.wp Q) : WP Q t := by unfold WP; exact h
theorem wp_out {α : Type} {Q : α → Prop} {t : Tr α} (h : WP Q t) : t.wp Q := by unfold WP at h; exact h
theorem blk_wpW {ex : Stm → EvM Fl} {s : Stm} {b : List Stm} (h : WP (goOn ex b P) (ex s δ)) : WP P (blkM ex (s :: b) δ) := wp_in (blk_wp (wp_out h))
theorem goOn_nxW {ex : Stm → EvM Fl} {b : List Stm} (h : WP P (blkM ex b δ)) : goOn ex b P (.ok .nx δ) := goOn_nx (wp_out h)
theorem blk_stepW {ex : Stm → EvM Fl} {s : Stm} {b : List Stm} (h : ex s δ = .ret (.ok .nx δ')) (g : WP P (blkM ex b δ')) : WP P (blkM ex (s :: b) δ) := wp_in (blk_step h (wp_out g))
theorem blk_retW {ex : Stm → EvM Fl} {s : Stm} {b : List Stm} {e : Ent} (h : ex s δ = .ret (.ok (.rt e) δ')) (g : P (.ok (.rt e) δ')) : WP P (blkM ex (s :: b) δ) := wp_in (blk_ret h g)
theorem set_wp {i : Nat} {e : Ex} (h : (evE S k e δ).wp (fun o => ∃ d, o = .ok (.v d) δ ∧ P (.ok .nx (δ.set i (some (.val d)))))) (hi : i < δ.length) : (exS S gas (evE S k) (n + 1) (.set (.n i) e) δ).wp P := by
  show Tr.wp P (Tr.bind (evE S k e δ) _)
  refine Tr.wp_bind.mpr (Tr.wp_mono ?_ h)
  rintro _ ⟨d, rfl, q⟩
  show Tr.wp P (Tr.bind (if i < δ.length then Tr.ret (Ou.ok () (δ.set i (some (Ent.val d)))) else Tr.bad) _)
  rw [if_pos hi]; exact q
theorem call_wp {e : Ex} {F : Fnc} {as : List Ent} {Q : Ou Op → Prop} (h : evE S k e δ = resM (F as) δ) (g : (F as).wp (fun r => ∃ d, r = .ok (.val d) ∧ Q (.ok (.v d) δ))) : (evE S k e δ).wp Q := by
  rw [h]
  show Tr.wp Q (Tr.bind (F as) _)
  refine Tr.wp_bind.mpr (Tr.wp_mono ?_ g)
  rintro _ ⟨d, rfl, q⟩
  exact q
theorem set_t2 {i j : Nat} {e1 e2 : Ex} (h1 : (evE S k e1 δ).wp (fun o => ∃ d1, o = .ok (.v d1) δ ∧ (evE S k e2 δ).wp (fun o => ∃ d2, o = .ok (.v d2) δ ∧ P (.ok .nx ((δ.set i (some (.val d1))).set j (some (.val d2))))))) (hi : i < δ.length) (hj : j < δ.length) : (exS S gas (evE S (k + 1)) (n + 1) (.set (.t [.n i, .n j]) (.tup [e1, e2])) δ).wp P := by
  show Tr.wp P (Tr.bind (Tr.bind (Tr.bind (evE S k e1 δ) _) _) _)
  refine Tr.wp_bind.mpr (Tr.wp_bind.mpr (Tr.wp_bind.mpr (Tr.wp_mono ?_ h1)))
  rintro _ ⟨d1, rfl, h2⟩
  show Tr.wp _ (Tr.bind (Tr.bind (evE S k e2 δ) _) _)
  refine Tr.wp_bind.mpr (Tr.wp_bind.mpr (Tr.wp_mono ?_ h2))
  rintro _ ⟨d2, rfl, q⟩
  show Tr.wp P (Tr.bind (Tr.bind (if i < δ.length then Tr.ret (Ou.ok () (δ.set i (some (Ent.val d1)))) else Tr.bad) _) _)
  rw [if_pos hi]
  show Tr.wp P (Tr.bind (Tr.bind (if j < (δ.set i (some (Ent.val d1))).length then Tr.ret (Ou.ok () ((δ.set i (some (Ent.val d1))).set j (some (Ent.val d2)))) else Tr.bad) _) _)
  rw [if_pos (by rw [List.length_set]; exact hj)]
  exact q
theorem iff_no {c : Ex} {a : List Stm} (h : testM (evE S k) c δ = .ret (.ok false δ')) : exS S gas (evE S k) (n + 1) (.iff c a []) δ = .ret (.ok .nx δ') := by
  show (Tr.bind (testM (evE S k) c δ) _) = _
  rw [h]; rfl
theorem lam_exc {body : Ex} {x : Exc} (h : evE S k body (valsE δ) = .ret (.exc x δ')) : lamT (evE S k body) δ = .ret (.exc x) := by
  show (Tr.bind (evE S k body (valsE δ)) _) = _
  rw [h]; rfl
theorem resM_exc {t : Tr Res} {x : Exc} (h : t = .ret (.exc x)) : resM t δ = .ret (.exc x δ) := by rw [h]; rfl
theorem cmp_run {o : Cop} {a b : Ex} {xs ys : List D} {r : Bool} (ha : evE S k a δ = .ret (.ok (.f (.lst xs)) δ1)) (hb : evE S k b δ1 = .ret (.ok (.f (.lst ys)) δ1)) (hc : cmpM S o (.lst xs) (.lst ys) δ1 = .ret (.ok (.v (.bl r)) δ1)) : evE S (k + 1) (.cmp o a b) δ = .ret (.ok (.v (.bl r)) δ1) := by
  show (Tr.bind (evE S k a δ) _) = _
  rw [ha]
  show (Tr.bind (evE S k b δ1) _) = _
  rw [hb]
  exact hc
theorem test_run {e : Ex} {r : Bool} (h : evE S k e δ = .ret (.ok (.v (.bl r)) δ1)) : testM (evE S k) e δ = .ret (.ok r δ1) := by
  show (Tr.bind (evE S k e δ) _) = _
  rw [h]; rfl
end
theorem subD_mem {xs : List D} {r : Nat} (h : r < xs.length) : ∃ d ∈ xs, subD (.lst xs) (.int (r : Int)) = some d := by
  refine ⟨xs[r], List.getElem_mem h, ?_⟩
  show ixD xs (r : Int) = _
  unfold ixD
  rw [if_pos (Int.natCast_nonneg r), Int.toNat_natCast, List.getElem?_eq_getElem h]
theorem draw_len {xs : List D} {e : Option Ent} : evE S__law_pick 39 (.draw (.var 0) (.blt 0 [.var 1])) [some (.val (.stt 0)), some (.val (.lst xs))] = (if decide ((0 : Int) < (xs.length : Int)) && decide ((xs.length : Int) < 1073741824) then Tr.draw (xs.length : Int).toNat fun r => .ret (.ok (.v (.int (r : Int))) [some (.val (.stt 0)), some (.val (.lst xs))]) else .bad) := by kernel_rfl
theorem pick_wp {xs : List D} (h1 : 0 < xs.length) (h2 : xs.length < 1000) : (F__law_pick [.val (.stt 0), .val (.lst xs)]).wp fun r => ∃ d, r = .ok (.val d) ∧ d ∈ xs := by
  unfold F__law_pick
  show Tr.wp _ (Tr.bind (Tr.bind (Tr.bind (Tr.bind (evE S__law_pick 39 (.draw (.var 0) (.blt 0 [.var 1])) [some (.val (.stt 0)), some (.val (.lst xs))]) _) _) _) _)
  rw [draw_len (e := none), if_pos (by rw [Bool.and_eq_true]; exact ⟨decide_eq_true (by omega), decide_eq_true (by omega)⟩)]
  refine Tr.wp_bind.mpr (Tr.wp_bind.mpr (Tr.wp_bind.mpr (Tr.wp_bind.mpr ⟨by omega, fun r hr => ?_⟩)))
  obtain ⟨d, hd, e⟩ := subD_mem (xs := xs) (r := r) (by omega)
  show Tr.wp _ ((match subD (.lst xs) (.int (r : Int)) with | some d => EvM.pure (Op.v d) | none => EvM.bad) [some (.val (.stt 0)), some (.val (.lst xs))])
  rw [e]
  exact ⟨d, rfl, hd⟩
end K59
end T
end
section
set_option Elab.async false
set_option linter.all false
set_option autoImplicit false
set_option maxRecDepth 1000000
set_option maxHeartbeats 4000000
/-! one round of refusals, walked -/
namespace T
namespace K59
open PySem
theorem word_of0 {act : Tr Res} {n : Nat} {cl : List (Str × Addr)} (h : act = .ret (.exc ⟨0, []⟩)) : defM { S__law_word with act := act } gas 4 (wordB 3 b__law_word) [.val (.clo n cl)] = .ret (.ok (.val (.str "size"))) := by rw [h]; exact word0 n cl
theorem word_of1 {act : Tr Res} {n : Nat} {cl : List (Str × Addr)} (h : act = .ret (.exc ⟨1, []⟩)) : defM { S__law_word with act := act } gas 4 (wordB 3 b__law_word) [.val (.clo n cl)] = .ret (.ok (.val (.str "turn"))) := by rw [h]; exact word1 n cl
theorem word_of2 {act : Tr Res} {n : Nat} {cl : List (Str × Addr)} (h : act = .ret (.exc ⟨2, []⟩)) : defM { S__law_word with act := act } gas 4 (wordB 3 b__law_word) [.val (.clo n cl)] = .ret (.ok (.val (.str "group"))) := by rw [h]; exact word2 n cl
def nL : List D := [.int 0, .int 1, .int (-1), .int 100000000000000000000]
theorem nL_int {d : D} (h : d ∈ nL) : ∃ m, d = .int m := by
  unfold nL at h
  simp only [List.mem_cons, List.mem_nil_iff, or_false] at h
  rcases h with rfl | rfl | rfl | rfl <;> exact ⟨_, rfl⟩
theorem three {a b c : Nat} {p : Nat → Prop} (ha : p a) (hb : p b) (hc : p c) : ∀ n ∈ [a, b, c], p n := fun n hn => by
  simp only [List.mem_cons, List.mem_nil_iff, or_false] at hn
  rcases hn with rfl | rfl | rfl
  · exact ha
  · exact hb
  · exact hc
def SR (cl : Nat → List (Str × Addr)) : Sig := { S__law_turns_refused with cl := cl }
theorem wfnR (cl : Nat → List (Str × Addr)) (n : Nat) (c : List (Str × Addr)) (act : Tr Res) : (SR cl).wfn 0 c n act = defM { S__law_word with act := act } gas 4 (wordB 3 b__law_word) [.val (.clo n c)] := by kernel_rfl
theorem lam_is {S : Sig} {k : Nat} {e : Ex} {δ : Env} {F : Fnc} {as : List Ent} {x : Exc} (h : evE S k e (valsE δ) = resM (F as) (valsE δ)) (q : F as = .ret (.exc x)) : lamT (evE S k e) δ = .ret (.exc x) := lam_exc (h.trans (resM_exc q))
theorem each0 {cl : Nat → List (Str × Addr)} {n : Nat} {act : Tr Res} (h1 : (SR cl).lamK n = true) (h : act = .ret (.exc ⟨0, []⟩)) : (SR cl).lamK n = true ∧ (SR cl).wfn 0 ((SR cl).cl n) n act = .ret (.ok (.val (.str "size"))) := ⟨h1, (wfnR ..).trans (word_of0 h)⟩
theorem each1 {cl : Nat → List (Str × Addr)} {n : Nat} {act : Tr Res} (h1 : (SR cl).lamK n = true) (h : act = .ret (.exc ⟨1, []⟩)) : (SR cl).lamK n = true ∧ (SR cl).wfn 0 ((SR cl).cl n) n act = .ret (.ok (.val (.str "turn"))) := ⟨h1, (wfnR ..).trans (word_of1 h)⟩
theorem set_wpF {S : Sig} {gas n k i : Nat} {δ : Env} {e : Ex} {F : Fnc} {as : List Ent} {p : D → Prop} {P : Ou Fl → Prop} (h : evE S k e δ = resM (F as) δ) (hi : i < δ.length) (g : (F as).wp fun r => ∃ d, r = .ok (.val d) ∧ p d) (q : ∀ d, p d → P (.ok .nx (δ.set i (some (.val d))))) : (exS S gas (evE S k) (n + 1) (.set (.n i) e) δ).wp P :=
  set_wp (call_wp h (Tr.wp_mono (fun r ⟨d, e1, hd⟩ => ⟨d, e1, d, rfl, q d hd⟩) g)) hi
theorem set_t2F {S : Sig} {gas n k i j : Nat} {δ : Env} {e1 e2 : Ex} {F1 F2 : Fnc} {as1 as2 : List Ent} {p1 p2 : D → Prop} {P : Ou Fl → Prop} (h1 : evE S k e1 δ = resM (F1 as1) δ) (h2 : evE S k e2 δ = resM (F2 as2) δ) (hi : i < δ.length) (hj : j < δ.length) (g1 : (F1 as1).wp fun r => ∃ d, r = .ok (.val d) ∧ p1 d) (g2 : (F2 as2).wp fun r => ∃ d, r = .ok (.val d) ∧ p2 d) (q : ∀ d e, p1 d → p2 e → P (.ok .nx ((δ.set i (some (.val d))).set j (some (.val e))))) : (exS S gas (evE S (k + 1)) (n + 1) (.set (.t [.n i, .n j]) (.tup [e1, e2])) δ).wp P :=
  set_t2 (call_wp h1 (Tr.wp_mono (fun r ⟨d, e1, hd⟩ => ⟨d, e1, d, rfl, call_wp h2 (Tr.wp_mono (fun r ⟨d2, e2, hd2⟩ => ⟨d2, e2, d2, rfl, q d d2 hd hd2⟩) g2)⟩) g1)) hi hj
section
variable {cl : Nat → List (Str × Addr)} {xs : List D} {g odd no th ln : D} {m : Int} {Pf : Ou Fl → Prop} {b : List Stm}
theorem sA_l0 (oT : F_need_turn [.val odd] = .ret (.exc ⟨1, []⟩)) (oL : lenOk odd = true) : lamT (evE (SR cl) 37 ((SR cl).lamB 0)) [some (.val (.stt 0)), some (.val (.tup xs)), some (.val (g)), some (.val (odd)), some (.val (no)), some (.val (.int m)), some (.val (.lst [.clo 0 (cl 0), .clo 1 (cl 1), .clo 2 (cl 2)])), none, none, none] = .ret (.exc ⟨1, []⟩) := lam_is (F := F_times) (as := [.val odd, .val (.int m)]) (by kernel_rfl) (times_exc oT oL)
theorem sA_l1 (oT : F_need_turn [.val odd] = .ret (.exc ⟨1, []⟩)) (oL : lenOk odd = true) : lamT (evE (SR cl) 37 ((SR cl).lamB 1)) [some (.val (.stt 0)), some (.val (.tup xs)), some (.val (g)), some (.val (odd)), some (.val (no)), some (.val (.int m)), some (.val (.lst [.clo 0 (cl 0), .clo 1 (cl 1), .clo 2 (cl 2)])), none, none, none] = .ret (.exc ⟨1, []⟩) := lam_is (F := F_order) (as := [.val odd]) (by kernel_rfl) (order_exc oT)
theorem sA_l2 (oT : F_need_turn [.val odd] = .ret (.exc ⟨1, []⟩)) (oL : lenOk odd = true) : lamT (evE (SR cl) 37 ((SR cl).lamB 2)) [some (.val (.stt 0)), some (.val (.tup xs)), some (.val (g)), some (.val (odd)), some (.val (no)), some (.val (.int m)), some (.val (.lst [.clo 0 (cl 0), .clo 1 (cl 1), .clo 2 (cl 2)])), none, none, none] = .ret (.exc ⟨1, []⟩) := lam_is (F := F_sign) (as := [.val odd]) (by kernel_rfl) (sign_exc oT)
theorem sA_c (oT : F_need_turn [.val odd] = .ret (.exc ⟨1, []⟩)) (oL : lenOk odd = true) : evE (SR cl) 39 (.lc [9] (.n 9) (.of (.var 6)) none (.wcall 0 [9] (.var 9))) [some (.val (.stt 0)), some (.val (.tup xs)), some (.val (g)), some (.val (odd)), some (.val (no)), some (.val (.int m)), some (.own (.lst [.clo 0 (cl 0), .clo 1 (cl 1), .clo 2 (cl 2)])), none, none, none] = .ret (.ok (.f (.lst [.str "turn", .str "turn", .str "turn"])) [some (.val (.stt 0)), some (.val (.tup xs)), some (.val (g)), some (.val (odd)), some (.val (no)), some (.val (.int m)), some (.val (.lst [.clo 0 (cl 0), .clo 1 (cl 1), .clo 2 (cl 2)])), none, none, none]) :=
  lcW_ev (S := SR cl) (k := 36) (i := 6) (lv := 9) (ns := [0, 1, 2]) (c := .str "turn") (by show 9 < 10; omega) (by kernel_rfl) (by kernel_rfl) (by decide) (three (each1 (by kernel_rfl) (sA_l0 oT oL)) (each1 (by kernel_rfl) (sA_l1 oT oL)) (each1 (by kernel_rfl) (sA_l2 oT oL)))
theorem sB_l0 (nS : F_need_size [.val no] = .ret (.exc ⟨0, []⟩)) : lamT (evE (SR cl) 37 ((SR cl).lamB 3)) [some (.val (.stt 0)), some (.val (.tup xs)), some (.val (g)), some (.val (odd)), some (.val (no)), some (.val (.int m)), some (.val (.lst [.clo 3 (cl 3), .clo 4 (cl 4), .clo 5 (cl 5)])), some (.val (th)), none, none] = .ret (.exc ⟨0, []⟩) := lam_is (F := F_is_turn) (as := [.val th, .val no]) (by kernel_rfl) (is_turn_exc nS)
theorem sB_l1 (nS : F_need_size [.val no] = .ret (.exc ⟨0, []⟩)) : lamT (evE (SR cl) 37 ((SR cl).lamB 4)) [some (.val (.stt 0)), some (.val (.tup xs)), some (.val (g)), some (.val (odd)), some (.val (no)), some (.val (.int m)), some (.val (.lst [.clo 3 (cl 3), .clo 4 (cl 4), .clo 5 (cl 5)])), some (.val (th)), none, none] = .ret (.exc ⟨0, []⟩) := lam_is (F := F_is_group) (as := [.val th, .val no]) (by kernel_rfl) (is_group_exc nS)
theorem sB_l2 (nS : F_need_size [.val no] = .ret (.exc ⟨0, []⟩)) : lamT (evE (SR cl) 37 ((SR cl).lamB 5)) [some (.val (.stt 0)), some (.val (.tup xs)), some (.val (g)), some (.val (odd)), some (.val (no)), some (.val (.int m)), some (.val (.lst [.clo 3 (cl 3), .clo 4 (cl 4), .clo 5 (cl 5)])), some (.val (th)), none, none] = .ret (.exc ⟨0, []⟩) := lam_is (F := F_plain) (as := [.val no]) (by kernel_rfl) (plain_exc nS)
theorem sB_c (nS : F_need_size [.val no] = .ret (.exc ⟨0, []⟩)) : evE (SR cl) 39 (.lc [9] (.n 9) (.of (.var 6)) none (.wcall 0 [9] (.var 9))) [some (.val (.stt 0)), some (.val (.tup xs)), some (.val (g)), some (.val (odd)), some (.val (no)), some (.val (.int m)), some (.own (.lst [.clo 3 (cl 3), .clo 4 (cl 4), .clo 5 (cl 5)])), some (.val (th)), none, none] = .ret (.ok (.f (.lst [.str "size", .str "size", .str "size"])) [some (.val (.stt 0)), some (.val (.tup xs)), some (.val (g)), some (.val (odd)), some (.val (no)), some (.val (.int m)), some (.val (.lst [.clo 3 (cl 3), .clo 4 (cl 4), .clo 5 (cl 5)])), some (.val (th)), none, none]) :=
  lcW_ev (S := SR cl) (k := 36) (i := 6) (lv := 9) (ns := [3, 4, 5]) (c := .str "size") (by show 9 < 10; omega) (by kernel_rfl) (by kernel_rfl) (by decide) (three (each0 (by kernel_rfl) (sB_l0 nS)) (each0 (by kernel_rfl) (sB_l1 nS)) (each0 (by kernel_rfl) (sB_l2 nS)))
theorem sC_l0 (hl : ln ∈ loneL) : lamT (evE (SR cl) 37 ((SR cl).lamB 6)) [some (.val (.stt 0)), some (.val (.tup xs)), some (.val (g)), some (.val (odd)), some (.val (no)), some (.val (.int m)), some (.val (.lst [.clo 6 (cl 6), .clo 7 (cl 7), .clo 8 (cl 8)])), some (.val (th)), some (.val (ln)), none] = .ret (.exc ⟨1, []⟩) := lam_is (F := F_made) (as := [.val ln, .val (.int (xs.length : Int))]) (by kernel_rfl) (made_exc _ _ hl)
theorem sC_l1 (hl : ln ∈ loneL) : lamT (evE (SR cl) 37 ((SR cl).lamB 7)) [some (.val (.stt 0)), some (.val (.tup xs)), some (.val (g)), some (.val (odd)), some (.val (no)), some (.val (.int m)), some (.val (.lst [.clo 6 (cl 6), .clo 7 (cl 7), .clo 8 (cl 8)])), some (.val (th)), some (.val (ln)), none] = .ret (.exc ⟨1, []⟩) := lam_is (F := F_made) (as := [.val ln, .val no]) (by kernel_rfl) (made_exc _ _ hl)
theorem sC_l2 (hl : ln ∈ loneL) : lamT (evE (SR cl) 37 ((SR cl).lamB 8)) [some (.val (.stt 0)), some (.val (.tup xs)), some (.val (g)), some (.val (odd)), some (.val (no)), some (.val (.int m)), some (.val (.lst [.clo 6 (cl 6), .clo 7 (cl 7), .clo 8 (cl 8)])), some (.val (th)), some (.val (ln)), none] = .ret (.exc ⟨1, []⟩) := lam_is (F := F_word) (as := [.val ln, .val g]) (by kernel_rfl) (word_exc _ _ hl)
theorem sC_c (hl : ln ∈ loneL) : evE (SR cl) 39 (.lc [9] (.n 9) (.of (.var 6)) none (.wcall 0 [9] (.var 9))) [some (.val (.stt 0)), some (.val (.tup xs)), some (.val (g)), some (.val (odd)), some (.val (no)), some (.val (.int m)), some (.own (.lst [.clo 6 (cl 6), .clo 7 (cl 7), .clo 8 (cl 8)])), some (.val (th)), some (.val (ln)), none] = .ret (.ok (.f (.lst [.str "turn", .str "turn", .str "turn"])) [some (.val (.stt 0)), some (.val (.tup xs)), some (.val (g)), some (.val (odd)), some (.val (no)), some (.val (.int m)), some (.val (.lst [.clo 6 (cl 6), .clo 7 (cl 7), .clo 8 (cl 8)])), some (.val (th)), some (.val (ln)), none]) :=
  lcW_ev (S := SR cl) (k := 36) (i := 6) (lv := 9) (ns := [6, 7, 8]) (c := .str "turn") (by show 9 < 10; omega) (by kernel_rfl) (by kernel_rfl) (by decide) (three (each1 (by kernel_rfl) (sC_l0 hl)) (each1 (by kernel_rfl) (sC_l1 hl)) (each1 (by kernel_rfl) (sC_l2 hl)))
theorem tA_s0 : exS (SR cl) gas (evE (SR cl) 40) 40 (.set (.n 6) (.lst [.lam 0])) [some (.val (.stt 0)), some (.val (.tup xs)), some (.val (g)), some (.val (odd)), some (.val (no)), some (.val (.int m)), none, none, none, none] = .ret (.ok .nx [some (.val (.stt 0)), some (.val (.tup xs)), some (.val (g)), some (.val (odd)), some (.val (no)), some (.val (.int m)), some (.own (.lst [.clo 0 (cl 0)])), none, none, none]) := by kernel_rfl
theorem tA_s1 : exS (SR cl) gas (evE (SR cl) 40) 40 (.ex (.mut 0 6 [.lam 1])) [some (.val (.stt 0)), some (.val (.tup xs)), some (.val (g)), some (.val (odd)), some (.val (no)), some (.val (.int m)), some (.own (.lst [.clo 0 (cl 0)])), none, none, none] = .ret (.ok .nx [some (.val (.stt 0)), some (.val (.tup xs)), some (.val (g)), some (.val (odd)), some (.val (no)), some (.val (.int m)), some (.own (.lst [.clo 0 (cl 0), .clo 1 (cl 1)])), none, none, none]) := by kernel_rfl
theorem tA_s2 : exS (SR cl) gas (evE (SR cl) 40) 40 (.ex (.mut 0 6 [.lam 2])) [some (.val (.stt 0)), some (.val (.tup xs)), some (.val (g)), some (.val (odd)), some (.val (no)), some (.val (.int m)), some (.own (.lst [.clo 0 (cl 0), .clo 1 (cl 1)])), none, none, none] = .ret (.ok .nx [some (.val (.stt 0)), some (.val (.tup xs)), some (.val (g)), some (.val (odd)), some (.val (no)), some (.val (.int m)), some (.own (.lst [.clo 0 (cl 0), .clo 1 (cl 1), .clo 2 (cl 2)])), none, none, none]) := by kernel_rfl
theorem tB_s0 : exS (SR cl) gas (evE (SR cl) 40) 40 (.set (.n 6) (.lst [.lam 3])) [some (.val (.stt 0)), some (.val (.tup xs)), some (.val (g)), some (.val (odd)), some (.val (no)), some (.val (.int m)), some (.val (.lst [.clo 0 (cl 0), .clo 1 (cl 1), .clo 2 (cl 2)])), some (.val (th)), none, none] = .ret (.ok .nx [some (.val (.stt 0)), some (.val (.tup xs)), some (.val (g)), some (.val (odd)), some (.val (no)), some (.val (.int m)), some (.own (.lst [.clo 3 (cl 3)])), some (.val (th)), none, none]) := by kernel_rfl
theorem tB_s1 : exS (SR cl) gas (evE (SR cl) 40) 40 (.ex (.mut 0 6 [.lam 4])) [some (.val (.stt 0)), some (.val (.tup xs)), some (.val (g)), some (.val (odd)), some (.val (no)), some (.val (.int m)), some (.own (.lst [.clo 3 (cl 3)])), some (.val (th)), none, none] = .ret (.ok .nx [some (.val (.stt 0)), some (.val (.tup xs)), some (.val (g)), some (.val (odd)), some (.val (no)), some (.val (.int m)), some (.own (.lst [.clo 3 (cl 3), .clo 4 (cl 4)])), some (.val (th)), none, none]) := by kernel_rfl
theorem tB_s2 : exS (SR cl) gas (evE (SR cl) 40) 40 (.ex (.mut 0 6 [.lam 5])) [some (.val (.stt 0)), some (.val (.tup xs)), some (.val (g)), some (.val (odd)), some (.val (no)), some (.val (.int m)), some (.own (.lst [.clo 3 (cl 3), .clo 4 (cl 4)])), some (.val (th)), none, none] = .ret (.ok .nx [some (.val (.stt 0)), some (.val (.tup xs)), some (.val (g)), some (.val (odd)), some (.val (no)), some (.val (.int m)), some (.own (.lst [.clo 3 (cl 3), .clo 4 (cl 4), .clo 5 (cl 5)])), some (.val (th)), none, none]) := by kernel_rfl
theorem tC_s0 : exS (SR cl) gas (evE (SR cl) 40) 40 (.set (.n 6) (.lst [.lam 6])) [some (.val (.stt 0)), some (.val (.tup xs)), some (.val (g)), some (.val (odd)), some (.val (no)), some (.val (.int m)), some (.val (.lst [.clo 3 (cl 3), .clo 4 (cl 4), .clo 5 (cl 5)])), some (.val (th)), some (.val (ln)), none] = .ret (.ok .nx [some (.val (.stt 0)), some (.val (.tup xs)), some (.val (g)), some (.val (odd)), some (.val (no)), some (.val (.int m)), some (.own (.lst [.clo 6 (cl 6)])), some (.val (th)), some (.val (ln)), none]) := by kernel_rfl
theorem tC_s1 : exS (SR cl) gas (evE (SR cl) 40) 40 (.ex (.mut 0 6 [.lam 7])) [some (.val (.stt 0)), some (.val (.tup xs)), some (.val (g)), some (.val (odd)), some (.val (no)), some (.val (.int m)), some (.own (.lst [.clo 6 (cl 6)])), some (.val (th)), some (.val (ln)), none] = .ret (.ok .nx [some (.val (.stt 0)), some (.val (.tup xs)), some (.val (g)), some (.val (odd)), some (.val (no)), some (.val (.int m)), some (.own (.lst [.clo 6 (cl 6), .clo 7 (cl 7)])), some (.val (th)), some (.val (ln)), none]) := by kernel_rfl
theorem tC_s2 : exS (SR cl) gas (evE (SR cl) 40) 40 (.ex (.mut 0 6 [.lam 8])) [some (.val (.stt 0)), some (.val (.tup xs)), some (.val (g)), some (.val (odd)), some (.val (no)), some (.val (.int m)), some (.own (.lst [.clo 6 (cl 6), .clo 7 (cl 7)])), some (.val (th)), some (.val (ln)), none] = .ret (.ok .nx [some (.val (.stt 0)), some (.val (.tup xs)), some (.val (g)), some (.val (odd)), some (.val (no)), some (.val (.int m)), some (.own (.lst [.clo 6 (cl 6), .clo 7 (cl 7), .clo 8 (cl 8)])), some (.val (th)), some (.val (ln)), none]) := by kernel_rfl
theorem tA_m (oT : F_need_turn [.val odd] = .ret (.exc ⟨1, []⟩)) (oL : lenOk odd = true) : evE (SR cl) 40 (.cmp .ne (.lc [9] (.n 9) (.of (.var 6)) none (.wcall 0 [9] (.var 9))) (.bin .mul (.lst [.cst (.str "turn")]) (.cst (.int 3)))) [some (.val (.stt 0)), some (.val (.tup xs)), some (.val (g)), some (.val (odd)), some (.val (no)), some (.val (.int m)), some (.own (.lst [.clo 0 (cl 0), .clo 1 (cl 1), .clo 2 (cl 2)])), none, none, none] = .ret (.ok (.v (.bl false)) [some (.val (.stt 0)), some (.val (.tup xs)), some (.val (g)), some (.val (odd)), some (.val (no)), some (.val (.int m)), some (.val (.lst [.clo 0 (cl 0), .clo 1 (cl 1), .clo 2 (cl 2)])), none, none, none]) :=
  cmp_run (k := 39) (xs := [.str "turn", .str "turn", .str "turn"]) (ys := [.str "turn", .str "turn", .str "turn"]) (sA_c oT oL) (by kernel_rfl) (by kernel_rfl)
theorem tA_i (oT : F_need_turn [.val odd] = .ret (.exc ⟨1, []⟩)) (oL : lenOk odd = true) : exS (SR cl) gas (evE (SR cl) 40) 40 (.iff (.cmp .ne (.lc [9] (.n 9) (.of (.var 6)) none (.wcall 0 [9] (.var 9))) (.bin .mul (.lst [.cst (.str "turn")]) (.cst (.int 3)))) [.ret (.cst (.bl false))] []) [some (.val (.stt 0)), some (.val (.tup xs)), some (.val (g)), some (.val (odd)), some (.val (no)), some (.val (.int m)), some (.own (.lst [.clo 0 (cl 0), .clo 1 (cl 1), .clo 2 (cl 2)])), none, none, none] = .ret (.ok .nx [some (.val (.stt 0)), some (.val (.tup xs)), some (.val (g)), some (.val (odd)), some (.val (no)), some (.val (.int m)), some (.val (.lst [.clo 0 (cl 0), .clo 1 (cl 1), .clo 2 (cl 2)])), none, none, none]) := iff_no (test_run (tA_m oT oL))
theorem tB_m (nS : F_need_size [.val no] = .ret (.exc ⟨0, []⟩)) : evE (SR cl) 40 (.cmp .ne (.lc [9] (.n 9) (.of (.var 6)) none (.wcall 0 [9] (.var 9))) (.bin .mul (.lst [.cst (.str "size")]) (.cst (.int 3)))) [some (.val (.stt 0)), some (.val (.tup xs)), some (.val (g)), some (.val (odd)), some (.val (no)), some (.val (.int m)), some (.own (.lst [.clo 3 (cl 3), .clo 4 (cl 4), .clo 5 (cl 5)])), some (.val (th)), none, none] = .ret (.ok (.v (.bl false)) [some (.val (.stt 0)), some (.val (.tup xs)), some (.val (g)), some (.val (odd)), some (.val (no)), some (.val (.int m)), some (.val (.lst [.clo 3 (cl 3), .clo 4 (cl 4), .clo 5 (cl 5)])), some (.val (th)), none, none]) :=
  cmp_run (k := 39) (xs := [.str "size", .str "size", .str "size"]) (ys := [.str "size", .str "size", .str "size"]) (sB_c nS) (by kernel_rfl) (by kernel_rfl)
theorem tB_i (nS : F_need_size [.val no] = .ret (.exc ⟨0, []⟩)) : exS (SR cl) gas (evE (SR cl) 40) 40 (.iff (.cmp .ne (.lc [9] (.n 9) (.of (.var 6)) none (.wcall 0 [9] (.var 9))) (.bin .mul (.lst [.cst (.str "size")]) (.cst (.int 3)))) [.ret (.cst (.bl false))] []) [some (.val (.stt 0)), some (.val (.tup xs)), some (.val (g)), some (.val (odd)), some (.val (no)), some (.val (.int m)), some (.own (.lst [.clo 3 (cl 3), .clo 4 (cl 4), .clo 5 (cl 5)])), some (.val (th)), none, none] = .ret (.ok .nx [some (.val (.stt 0)), some (.val (.tup xs)), some (.val (g)), some (.val (odd)), some (.val (no)), some (.val (.int m)), some (.val (.lst [.clo 3 (cl 3), .clo 4 (cl 4), .clo 5 (cl 5)])), some (.val (th)), none, none]) := iff_no (test_run (tB_m nS))
theorem tC_m (hl : ln ∈ loneL) : evE (SR cl) 40 (.cmp .eq (.lc [9] (.n 9) (.of (.var 6)) none (.wcall 0 [9] (.var 9))) (.bin .mul (.lst [.cst (.str "turn")]) (.cst (.int 3)))) [some (.val (.stt 0)), some (.val (.tup xs)), some (.val (g)), some (.val (odd)), some (.val (no)), some (.val (.int m)), some (.own (.lst [.clo 6 (cl 6), .clo 7 (cl 7), .clo 8 (cl 8)])), some (.val (th)), some (.val (ln)), none] = .ret (.ok (.v (.bl true)) [some (.val (.stt 0)), some (.val (.tup xs)), some (.val (g)), some (.val (odd)), some (.val (no)), some (.val (.int m)), some (.val (.lst [.clo 6 (cl 6), .clo 7 (cl 7), .clo 8 (cl 8)])), some (.val (th)), some (.val (ln)), none]) :=
  cmp_run (k := 39) (xs := [.str "turn", .str "turn", .str "turn"]) (ys := [.str "turn", .str "turn", .str "turn"]) (sC_c hl) (by kernel_rfl) (by kernel_rfl)
theorem ret_run {S : Sig} {gas n k : Nat} {δ δ1 : Env} {e : Ex} {d : D} (h : evE S k e δ = .ret (.ok (.v d) δ1)) : exS S gas (evE S k) (n + 1) (.ret e) δ = .ret (.ok (.rt (.val d)) δ1) := by
  show (Tr.bind (evE S k e δ) _) = _
  rw [h]; rfl
theorem tC_i (hl : ln ∈ loneL) : exS (SR cl) gas (evE (SR cl) 40) 40 (.ret (.cmp .eq (.lc [9] (.n 9) (.of (.var 6)) none (.wcall 0 [9] (.var 9))) (.bin .mul (.lst [.cst (.str "turn")]) (.cst (.int 3))))) [some (.val (.stt 0)), some (.val (.tup xs)), some (.val (g)), some (.val (odd)), some (.val (no)), some (.val (.int m)), some (.own (.lst [.clo 6 (cl 6), .clo 7 (cl 7), .clo 8 (cl 8)])), some (.val (th)), some (.val (ln)), none] = .ret (.ok (.rt (.val (.bl true))) [some (.val (.stt 0)), some (.val (.tup xs)), some (.val (g)), some (.val (odd)), some (.val (no)), some (.val (.int m)), some (.val (.lst [.clo 6 (cl 6), .clo 7 (cl 7), .clo 8 (cl 8)])), some (.val (th)), some (.val (ln)), none]) := ret_run (tC_m hl)
theorem st1 (ho : (F__law_no_turn [.val (.stt 0), .val (.tup xs)]).wp fun r => ∃ d, r = .ok (.val d) ∧ oddB d = true) (q : ∀ odd no, oddB odd = true → no ∈ noneL → Pf (.ok .nx [some (.val (.stt 0)), some (.val (.tup xs)), some (.val (g)), some (.val (odd)), some (.val (no)), none, none, none, none, none])) : WP Pf (exS (SR cl) gas (evE (SR cl) 40) 40 (.set (.t [.n 3, .n 4]) (.tup [(.call 38 [] [(.var 0), (.var 1)]), (.call 32 [] [(.var 0), (.lst [(.cst (.int 0)), (.cst (.int 1)), (.cst (.int 6)), (.neg (.cst (.int 3))), (.cst .non), (.cst (.bl true)), (.cst (.str "3")), (.tup [(.cst (.int 3))]), (.lst [(.cst (.int 2))]), (.dnew false [] [])])])])) [some (.val (.stt 0)), some (.val (.tup xs)), some (.val (g)), none, none, none, none, none, none, none]) :=
  wp_in <| set_t2F (k := 39) (F1 := F__law_no_turn) (F2 := F__law_pick) (as1 := [.val (.stt 0), .val (.tup xs)]) (as2 := [.val (.stt 0), .val (.lst noneL)]) (by kernel_rfl) (by kernel_rfl) (by show 3 < 10; omega) (by show 4 < 10; omega) ho (pick_wp (xs := noneL) (by decide) (by decide)) q
theorem st2 (q : ∀ n, n ∈ nL → Pf (.ok .nx [some (.val (.stt 0)), some (.val (.tup xs)), some (.val (g)), some (.val (odd)), some (.val (no)), some (.val (n)), none, none, none, none])) : WP Pf (exS (SR cl) gas (evE (SR cl) 40) 40 (.set (.n 5) (.call 32 [] [(.var 0), (.lst [(.cst (.int 0)), (.cst (.int 1)), (.neg (.cst (.int 1))), (.bin .pow (.cst (.int 10)) (.cst (.int 20)))])])) [some (.val (.stt 0)), some (.val (.tup xs)), some (.val (g)), some (.val (odd)), some (.val (no)), none, none, none, none, none]) :=
  wp_in <| set_wpF (F := F__law_pick) (as := [.val (.stt 0), .val (.lst nL)]) (by kernel_rfl) (by show 5 < 10; omega) (pick_wp (xs := nL) (by decide) (by decide)) q
theorem st3 (q : ∀ th, True → Pf (.ok .nx [some (.val (.stt 0)), some (.val (.tup xs)), some (.val (g)), some (.val (odd)), some (.val (no)), some (.val (.int m)), some (.val (.lst [.clo 0 (cl 0), .clo 1 (cl 1), .clo 2 (cl 2)])), some (.val (th)), none, none])) : WP Pf (exS (SR cl) gas (evE (SR cl) 40) 40 (.set (.n 7) (.call 32 [] [(.var 0), (.lst [(.var 3), (.var 1), (.tup [(.var 1)]), (.cst .non)])])) [some (.val (.stt 0)), some (.val (.tup xs)), some (.val (g)), some (.val (odd)), some (.val (no)), some (.val (.int m)), some (.val (.lst [.clo 0 (cl 0), .clo 1 (cl 1), .clo 2 (cl 2)])), none, none, none]) :=
  wp_in <| set_wpF (F := F__law_pick) (as := [.val (.stt 0), .val (.lst [odd, .tup xs, .tup [.tup xs], .non])]) (by kernel_rfl) (by show 7 < 10; omega) (Tr.wp_mono (fun r ⟨d, e, _⟩ => ⟨d, e, trivial⟩) (pick_wp (xs := [odd, .tup xs, .tup [.tup xs], .non]) (by show 0 < 4; omega) (by show 4 < 1000; omega))) q
theorem st4 (q : ∀ ln, ln ∈ loneL → Pf (.ok .nx [some (.val (.stt 0)), some (.val (.tup xs)), some (.val (g)), some (.val (odd)), some (.val (no)), some (.val (.int m)), some (.val (.lst [.clo 3 (cl 3), .clo 4 (cl 4), .clo 5 (cl 5)])), some (.val (th)), some (.val (ln)), none])) : WP Pf (exS (SR cl) gas (evE (SR cl) 40) 40 (.set (.n 8) (.call 32 [] [(.var 0), (.lst [(.cst .non), (.cst (.int 5)), (.cst (.str "01")), (.dnew false [] []), (.cst (.bl true))])])) [some (.val (.stt 0)), some (.val (.tup xs)), some (.val (g)), some (.val (odd)), some (.val (no)), some (.val (.int m)), some (.val (.lst [.clo 3 (cl 3), .clo 4 (cl 4), .clo 5 (cl 5)])), some (.val (th)), none, none]) :=
  wp_in <| set_wpF (F := F__law_pick) (as := [.val (.stt 0), .val (.lst loneL)]) (by kernel_rfl) (by show 8 < 10; omega) (pick_wp (xs := loneL) (by decide) (by decide)) q
set_option maxHeartbeats 400000
theorem refused_run (ho : (F__law_no_turn [.val (.stt 0), .val (.tup xs)]).wp fun r => ∃ d, r = .ok (.val d) ∧ oddB d = true) (hP : ∀ δ, Pf (.ok (.rt (.val (.bl true))) δ)) : WP Pf (blkM (exS (SR cl) gas (evE (SR cl) 40) 40) b__law_turns_refused [some (.val (.stt 0)), some (.val (.tup xs)), some (.val (g)), none, none, none, none, none, none, none]) := by
  unfold b__law_turns_refused
  refine blk_wpW (st1 ho fun odd no hodd hno => goOn_nxW ?_)
  have oT : F_need_turn [.val odd] = .ret (.exc ⟨1, []⟩) := isE_eq (Bool.and_eq_true_iff.mp hodd).1
  have oL : lenOk odd = true := (Bool.and_eq_true_iff.mp hodd).2
  have nS := need_none no hno
  refine blk_wpW (st2 fun n hn => goOn_nxW ?_)
  obtain ⟨m, hm⟩ := nL_int hn
  subst hm
  refine blk_stepW tA_s0 ?_
  refine blk_stepW tA_s1 ?_
  refine blk_stepW tA_s2 ?_
  refine blk_stepW (tA_i oT oL) ?_
  refine blk_wpW (st3 fun th _ => goOn_nxW ?_)
  refine blk_stepW tB_s0 ?_
  refine blk_stepW tB_s1 ?_
  refine blk_stepW tB_s2 ?_
  refine blk_stepW (tB_i nS) ?_
  refine blk_wpW (st4 fun ln hl => goOn_nxW ?_)
  refine blk_stepW tC_s0 ?_
  refine blk_stepW tC_s1 ?_
  refine blk_stepW tC_s2 ?_
  exact blk_retW (tC_i hl) (hP _)
end
end K59
end T
end
section
set_option Elab.async false
set_option linter.all false
set_option autoImplicit false
set_option maxRecDepth 1000000
/-! the trials -/
namespace T
namespace K59
open PySem
def oddAt (l : List Int) : Bool := wpb (isVal oddB) (F__law_no_turn [.val (.stt 0), .val (turnD l)])
def strAt (n : Int) (l : List Int) : Bool := isVR (fun g => wpb (isVal strB) (F__law_no_group [.val (.stt 0), .val g])) (F__law_closed [.val (.lst [turnD l]), .val (.int n)])
def piece (i : Nat) : List (List Int) := ((perms 5).drop (10 * i)).take 10
theorem len5 : (perms 5).length = 120 := by decide +kernel
theorem pieces {l : List Int} (h : l ∈ perms 5) : ∃ i, i < 12 ∧ l ∈ piece i := by
  obtain ⟨j, hj, rfl⟩ := List.getElem_of_mem h
  have hj' : j < 120 := by rw [← len5]; exact hj
  refine ⟨j / 10, by omega, ?_⟩
  unfold piece
  refine List.mem_of_getElem? (i := j % 10) ?_
  rw [List.getElem?_take_of_lt (by omega), List.getElem?_drop, show 10 * (j / 10) + j % 10 = j by omega, List.getElem?_eq_getElem hj]
theorem t2 : turnsOf 2 = true := by decide +kernel
theorem t3 : turnsOf 3 = true := by decide +kernel
theorem t4 : turnsOf 4 = true := by decide +kernel
theorem t5 : turnsOf 5 = true := by decide +kernel
theorem o2 : (perms 2).all oddAt = true := by decide +kernel
theorem o3 : (perms 3).all oddAt = true := by decide +kernel
theorem o4 : (perms 4).all oddAt = true := by decide +kernel
theorem s2 : (perms 2).all (strAt 2) = true := by decide +kernel
theorem s3 : (perms 3).all (strAt 3) = true := by decide +kernel
theorem s4 : (perms 4).all (strAt 4) = true := by decide +kernel
theorem o5_0 : (piece 0).all oddAt = true := by decide +kernel
theorem s5_0 : (piece 0).all (strAt 5) = true := by decide +kernel
theorem o5_1 : (piece 1).all oddAt = true := by decide +kernel
theorem s5_1 : (piece 1).all (strAt 5) = true := by decide +kernel
theorem o5_2 : (piece 2).all oddAt = true := by decide +kernel
theorem s5_2 : (piece 2).all (strAt 5) = true := by decide +kernel
theorem o5_3 : (piece 3).all oddAt = true := by decide +kernel
theorem s5_3 : (piece 3).all (strAt 5) = true := by decide +kernel
theorem o5_4 : (piece 4).all oddAt = true := by decide +kernel
theorem s5_4 : (piece 4).all (strAt 5) = true := by decide +kernel
theorem o5_5 : (piece 5).all oddAt = true := by decide +kernel
theorem s5_5 : (piece 5).all (strAt 5) = true := by decide +kernel
theorem o5_6 : (piece 6).all oddAt = true := by decide +kernel
theorem s5_6 : (piece 6).all (strAt 5) = true := by decide +kernel
theorem o5_7 : (piece 7).all oddAt = true := by decide +kernel
theorem s5_7 : (piece 7).all (strAt 5) = true := by decide +kernel
theorem o5_8 : (piece 8).all oddAt = true := by decide +kernel
theorem s5_8 : (piece 8).all (strAt 5) = true := by decide +kernel
theorem o5_9 : (piece 9).all oddAt = true := by decide +kernel
theorem s5_9 : (piece 9).all (strAt 5) = true := by decide +kernel
theorem o5_10 : (piece 10).all oddAt = true := by decide +kernel
theorem s5_10 : (piece 10).all (strAt 5) = true := by decide +kernel
theorem o5_11 : (piece 11).all oddAt = true := by decide +kernel
theorem s5_11 : (piece 11).all (strAt 5) = true := by decide +kernel
theorem o5 {l : List Int} (h : l ∈ perms 5) : oddAt l = true := by
  obtain ⟨i, hi, hl⟩ := pieces h
  match i, hi with
  | 0, _ => exact List.all_eq_true.mp o5_0 l hl
  | 1, _ => exact List.all_eq_true.mp o5_1 l hl
  | 2, _ => exact List.all_eq_true.mp o5_2 l hl
  | 3, _ => exact List.all_eq_true.mp o5_3 l hl
  | 4, _ => exact List.all_eq_true.mp o5_4 l hl
  | 5, _ => exact List.all_eq_true.mp o5_5 l hl
  | 6, _ => exact List.all_eq_true.mp o5_6 l hl
  | 7, _ => exact List.all_eq_true.mp o5_7 l hl
  | 8, _ => exact List.all_eq_true.mp o5_8 l hl
  | 9, _ => exact List.all_eq_true.mp o5_9 l hl
  | 10, _ => exact List.all_eq_true.mp o5_10 l hl
  | 11, _ => exact List.all_eq_true.mp o5_11 l hl
  | k + 12, h => omega
theorem s5 {l : List Int} (h : l ∈ perms 5) : strAt 5 l = true := by
  obtain ⟨i, hi, hl⟩ := pieces h
  match i, hi with
  | 0, _ => exact List.all_eq_true.mp s5_0 l hl
  | 1, _ => exact List.all_eq_true.mp s5_1 l hl
  | 2, _ => exact List.all_eq_true.mp s5_2 l hl
  | 3, _ => exact List.all_eq_true.mp s5_3 l hl
  | 4, _ => exact List.all_eq_true.mp s5_4 l hl
  | 5, _ => exact List.all_eq_true.mp s5_5 l hl
  | 6, _ => exact List.all_eq_true.mp s5_6 l hl
  | 7, _ => exact List.all_eq_true.mp s5_7 l hl
  | 8, _ => exact List.all_eq_true.mp s5_8 l hl
  | 9, _ => exact List.all_eq_true.mp s5_9 l hl
  | 10, _ => exact List.all_eq_true.mp s5_10 l hl
  | 11, _ => exact List.all_eq_true.mp s5_11 l hl
  | k + 12, h => omega
theorem size_cases {n : Nat} (h : 2 ≤ n) (h' : n ≤ 5) : n = 2 ∨ n = 3 ∨ n = 4 ∨ n = 5 := by omega
theorem oddAll {n : Nat} {l : List Int} (h : 2 ≤ n) (h' : n ≤ 5) (hl : l ∈ perms n) : oddAt l = true := by
  rcases size_cases h h' with rfl | rfl | rfl | rfl
  · exact List.all_eq_true.mp o2 l hl
  · exact List.all_eq_true.mp o3 l hl
  · exact List.all_eq_true.mp o4 l hl
  · exact o5 hl
theorem strAll {n : Nat} {l : List Int} (h : 2 ≤ n) (h' : n ≤ 5) (hl : l ∈ perms n) : strAt n l = true := by
  rcases size_cases h h' with rfl | rfl | rfl | rfl
  · exact List.all_eq_true.mp s2 l hl
  · exact List.all_eq_true.mp s3 l hl
  · exact List.all_eq_true.mp s4 l hl
  · exact s5 hl
theorem turnAll {n : Nat} (h : 2 ≤ n) (h' : n ≤ 5) : turnsOf n = true := by
  rcases size_cases h h' with rfl | rfl | rfl | rfl
  · exact t2
  · exact t3
  · exact t4
  · exact t5
end K59
end T
end
section
set_option Elab.async false
set_option linter.all false
set_option autoImplicit false
set_option maxRecDepth 1000000
set_option maxHeartbeats 400000
/-! the law, by data -/
namespace T
namespace K59
open PySem
open Classical in
noncomputable def mR : Fnc := fun es => if (∃ n l g, 2 ≤ n ∧ n ≤ 5 ∧ l ∈ perms n ∧ es = [.val (.stt 0), .val (turnD l), .val g]) then .ret (.ok (.val (.bl true))) else .bad
theorem oddWp {n : Nat} {l : List Int} (h : 2 ≤ n) (h' : n ≤ 5) (hl : l ∈ perms n) : (F__law_no_turn [.val (.stt 0), .val (turnD l)]).wp fun r => ∃ d, r = .ok (.val d) ∧ oddB d = true :=
  Tr.wp_mono (fun r hr => by obtain ⟨d, h1, h2⟩ := isVal_eq hr; exact ⟨d, h2, h1⟩) (wpb_ok (p := isVal oddB) (oddAll h h' hl))
theorem hmR (es : List Ent) (P : Res → Prop) (cl : Nat → List (Str × Addr)) (h : (mR es).wp P) : (defM { S__law_turns_refused with cl := cl } gas 10 b__law_turns_refused es).wp P := by
  unfold mR at h
  split at h
  · rename_i hx
    obtain ⟨n, l, g, h2, h5, hl, rfl⟩ := hx
    have hp : P (.ok (.val (.bl true))) := h
    show Tr.wp P (Tr.bind (blkM (exS (SR cl) gas (evE (SR cl) 40) 40) b__law_turns_refused [some (.val (.stt 0)), some (.val (.tup (l.map D.int))), some (.val g), none, none, none, none, none, none, none]) _)
    exact Tr.wp_bind.mpr (wp_out (refused_run (oddWp h2 h5 hl) fun δ => hp))
  · exact h.elim
theorem mR_ok {n : Nat} {l : List Int} {g : D} (h : 2 ≤ n) (h' : n ≤ 5) (hl : l ∈ perms n) : mR [.val (.stt 0), .val (turnD l), .val g] = .ret (.ok (.val (.bl true))) := by
  unfold mR
  rw [if_pos ⟨n, l, g, h, h', hl, rfl⟩]
section
variable {S : Sig} {gas n k : Nat} {δ δ1 δ' : Env} {P : Ou Fl → Prop} {Inv : Env → Prop}
theorem forM_wp {body : D → EvM Fl} : ∀ (xs : List D) (δ : Env), Inv δ → (∀ x δ, Inv δ → (body x δ).wp fun o => ∃ δ', o = .ok .nx δ' ∧ Inv δ') → (forM body xs δ).wp fun o => ∃ δ', o = .ok .nx δ' ∧ Inv δ'
  | [], δ, h, _ => ⟨δ, rfl, h⟩
  | x :: xs, δ, h, hb => by
    show Tr.wp _ (Tr.bind (body x δ) _)
    refine Tr.wp_bind.mpr (Tr.wp_mono ?_ (hb x δ h))
    rintro _ ⟨δ', rfl, h'⟩
    exact forM_wp xs δ' h' hb
theorem for_wpW {i : Nat} {it : It} {b : List Stm} {xs : List D} (hit : itM (evE S k) it δ = .ret (.ok xs δ)) (h0 : Inv δ) (hlen : ∀ δ, Inv δ → i < δ.length) (hstep : ∀ x δ, Inv δ → WP (fun o => ∃ δ', o = .ok .nx δ' ∧ Inv δ') (blkM (exS S gas (evE S k) n) b (δ.set i (some (.val x))))) (q : ∀ δ', Inv δ' → P (.ok .nx δ')) : WP P (exS S gas (evE S k) (n + 1) (.for_ (.n i) it b) δ) := by
  refine wp_in ?_
  show Tr.wp P (Tr.bind (itM (evE S k) it δ) _)
  rw [hit]
  show Tr.wp P (forM (fun x => (tgM (.n i) x).bind fun _ => blkM (exS S gas (evE S k) n) b) xs δ)
  refine Tr.wp_mono ?_ (forM_wp xs δ h0 fun x δ hδ => ?_)
  · rintro _ ⟨δ', rfl, h'⟩
    exact q δ' h'
  · show Tr.wp _ (Tr.bind (if i < δ.length then Tr.ret (Ou.ok () (δ.set i (some (Ent.val x)))) else Tr.bad) _)
    rw [if_pos (hlen δ hδ)]
    exact wp_out (hstep x δ hδ)
theorem par_wpW {i j : Nat} {e1 e2 : Ex} {F1 F2 : Fnc} {as1 as2 : List Ent} {p1 p2 : D → Prop} (h1 : evE S k e1 δ = resM (F1 as1) δ) (h2 : evE S k e2 δ = resM (F2 as2) δ) (hi : i < δ.length) (hj : j < δ.length) (g1 : (F1 as1).wp fun r => ∃ d, r = .ok (.val d) ∧ p1 d) (g2 : (F2 as2).wp fun r => ∃ d, r = .ok (.val d) ∧ p2 d) (q : ∀ d e, p1 d → p2 e → P (.ok .nx ((δ.set i (some (.val d))).set j (some (.val e))))) : WP P (exS S gas (evE S k) (n + 1) (.par [i, j] [e1, e2]) δ) := by
  refine wp_in ?_
  show Tr.wp P (Tr.bind (Tr.bind (evE S k e1 δ) _) _)
  rw [h1]
  show Tr.wp P (Tr.bind (Tr.bind (Tr.bind (F1 as1) _) _) _)
  refine Tr.wp_bind.mpr (Tr.wp_bind.mpr (Tr.wp_bind.mpr (Tr.wp_mono ?_ g1)))
  rintro _ ⟨d1, rfl, hd1⟩
  show Tr.wp _ (Tr.bind (Tr.bind (evE S k e2 δ) _) _)
  rw [h2]
  show Tr.wp _ (Tr.bind (Tr.bind (Tr.bind (F2 as2) _) _) _)
  refine Tr.wp_bind.mpr (Tr.wp_bind.mpr (Tr.wp_bind.mpr (Tr.wp_mono ?_ g2)))
  rintro _ ⟨d2, rfl, hd2⟩
  show Tr.wp P (Tr.bind (if i < δ.length then Tr.ret (Ou.ok () (δ.set i (some (Ent.val d1)))) else Tr.bad) _)
  rw [if_pos hi]
  show Tr.wp P (Tr.bind (if j < (δ.set i (some (Ent.val d1))).length then Tr.ret (Ou.ok () ((δ.set i (some (Ent.val d1))).set j (some (Ent.val d2)))) else Tr.bad) _)
  rw [if_pos (by rw [List.length_set]; exact hj)]
  exact q d1 d2 hd1 hd2
theorem not_run {a : Ex} {r : Bool} (h : evE S k a δ = .ret (.ok (.v (.bl r)) δ1)) : evE S (k + 1) (.not a) δ = .ret (.ok (.v (.bl (!r))) δ1) := by
  show (Tr.bind (Tr.bind (evE S k a δ) _) _) = _
  rw [h]; rfl
end
noncomputable def SL (cl : Nat → List (Str × Addr)) : Sig := { S_law mR with cl := cl }
section
variable {cl : Nat → List (Str × Addr)} {x2 x6 x7 x8 x9 : Option Ent} {y3 y4 y5 : Option Ent} {size one goal g sg : D} {P : Ou Fl → Prop}
theorem wfnL (n : Nat) (c : List (Str × Addr)) (act : Tr Res) : (SL cl).wfn 0 c n act = defM { S__law_word with act := act } gas 4 (wordB 3 b__law_word) [.val (.clo n c)] := by kernel_rfl
theorem each2 {n : Nat} {act : Tr Res} (h1 : (SL cl).lamK n = true) (h : act = .ret (.exc ⟨2, []⟩)) : (SL cl).lamK n = true ∧ (SL cl).wfn 0 ((SL cl).cl n) n act = .ret (.ok (.val (.str "group"))) := ⟨h1, (wfnL ..).trans (word_of2 h)⟩
theorem lw_s0 : exS (SL cl) gas (evE (SL cl) 40) 38 (.set (.n 9) (.lst [.lam 9])) [none, some (.val (.stt 0)), x2, some (.val (size)), some (.val (one)), some (.val (goal)), x6, some (.val (g)), some (.val (sg)), x9, none] = .ret (.ok .nx [none, some (.val (.stt 0)), x2, some (.val (size)), some (.val (one)), some (.val (goal)), x6, some (.val (g)), some (.val (sg)), some (.own (.lst [.clo 9 (cl 9)])), none]) := by kernel_rfl
theorem lw_s1 : exS (SL cl) gas (evE (SL cl) 40) 38 (.ex (.mut 0 9 [.lam 10])) [none, some (.val (.stt 0)), x2, some (.val (size)), some (.val (one)), some (.val (goal)), x6, some (.val (g)), some (.val (sg)), some (.own (.lst [.clo 9 (cl 9)])), none] = .ret (.ok .nx [none, some (.val (.stt 0)), x2, some (.val (size)), some (.val (one)), some (.val (goal)), x6, some (.val (g)), some (.val (sg)), some (.own (.lst [.clo 9 (cl 9), .clo 10 (cl 10)])), none]) := by kernel_rfl
theorem lw_s2 : exS (SL cl) gas (evE (SL cl) 40) 38 (.ex (.mut 0 9 [.lam 11])) [none, some (.val (.stt 0)), x2, some (.val (size)), some (.val (one)), some (.val (goal)), x6, some (.val (g)), some (.val (sg)), some (.own (.lst [.clo 9 (cl 9), .clo 10 (cl 10)])), none] = .ret (.ok .nx [none, some (.val (.stt 0)), x2, some (.val (size)), some (.val (one)), some (.val (goal)), x6, some (.val (g)), some (.val (sg)), some (.own (.lst [.clo 9 (cl 9), .clo 10 (cl 10), .clo 11 (cl 11)])), none]) := by kernel_rfl
theorem lw_l0 (h : F_need_group [.val sg] = .ret (.exc ⟨2, []⟩)) : lamT (evE (SL cl) 37 ((SL cl).lamB 9)) [none, some (.val (.stt 0)), x2, some (.val (size)), some (.val (one)), some (.val (goal)), x6, some (.val (g)), some (.val (sg)), some (.val (.lst [.clo 9 (cl 9), .clo 10 (cl 10), .clo 11 (cl 11)])), none] = .ret (.exc ⟨2, []⟩) := lam_is (F := F_leadings) (as := [.val sg]) (by kernel_rfl) (leadings_exc h)
theorem lw_l1 (h : F_need_group [.val sg] = .ret (.exc ⟨2, []⟩)) : lamT (evE (SL cl) 37 ((SL cl).lamB 10)) [none, some (.val (.stt 0)), x2, some (.val (size)), some (.val (one)), some (.val (goal)), x6, some (.val (g)), some (.val (sg)), some (.val (.lst [.clo 9 (cl 9), .clo 10 (cl 10), .clo 11 (cl 11)])), none] = .ret (.exc ⟨2, []⟩) := lam_is (F := F_thirds) (as := [.val sg]) (by kernel_rfl) (thirds_exc h)
theorem lw_l2 (h : F_need_group [.val sg] = .ret (.exc ⟨2, []⟩)) : lamT (evE (SL cl) 37 ((SL cl).lamB 11)) [none, some (.val (.stt 0)), x2, some (.val (size)), some (.val (one)), some (.val (goal)), x6, some (.val (g)), some (.val (sg)), some (.val (.lst [.clo 9 (cl 9), .clo 10 (cl 10), .clo 11 (cl 11)])), none] = .ret (.exc ⟨2, []⟩) := lam_is (F := F_commuted) (as := [.val sg]) (by kernel_rfl) (commuted_exc h)
theorem lw_c (h : F_need_group [.val sg] = .ret (.exc ⟨2, []⟩)) : evE (SL cl) 39 (.lc [10] (.n 10) (.of (.var 9)) none (.wcall 0 [10] (.var 10))) [none, some (.val (.stt 0)), x2, some (.val (size)), some (.val (one)), some (.val (goal)), x6, some (.val (g)), some (.val (sg)), some (.own (.lst [.clo 9 (cl 9), .clo 10 (cl 10), .clo 11 (cl 11)])), none] = .ret (.ok (.f (.lst [.str "group", .str "group", .str "group"])) [none, some (.val (.stt 0)), x2, some (.val (size)), some (.val (one)), some (.val (goal)), x6, some (.val (g)), some (.val (sg)), some (.val (.lst [.clo 9 (cl 9), .clo 10 (cl 10), .clo 11 (cl 11)])), none]) :=
  lcW_ev (S := SL cl) (k := 36) (i := 9) (lv := 10) (ns := [9, 10, 11]) (c := .str "group") (by show 10 < 11; omega) (by kernel_rfl) (by kernel_rfl) (by decide) (three (each2 (by kernel_rfl) (lw_l0 h)) (each2 (by kernel_rfl) (lw_l1 h)) (each2 (by kernel_rfl) (lw_l2 h)))
theorem lw_m (h : F_need_group [.val sg] = .ret (.exc ⟨2, []⟩)) : evE (SL cl) 40 (.cmp .ne (.lc [10] (.n 10) (.of (.var 9)) none (.wcall 0 [10] (.var 10))) (.bin .mul (.lst [.cst (.str "group")]) (.cst (.int 3)))) [none, some (.val (.stt 0)), x2, some (.val (size)), some (.val (one)), some (.val (goal)), x6, some (.val (g)), some (.val (sg)), some (.own (.lst [.clo 9 (cl 9), .clo 10 (cl 10), .clo 11 (cl 11)])), none] = .ret (.ok (.v (.bl false)) [none, some (.val (.stt 0)), x2, some (.val (size)), some (.val (one)), some (.val (goal)), x6, some (.val (g)), some (.val (sg)), some (.val (.lst [.clo 9 (cl 9), .clo 10 (cl 10), .clo 11 (cl 11)])), none]) :=
  cmp_run (k := 39) (xs := [.str "group", .str "group", .str "group"]) (ys := [.str "group", .str "group", .str "group"]) (lw_c h) (by kernel_rfl) (by kernel_rfl)
theorem lw_i (h : F_need_group [.val sg] = .ret (.exc ⟨2, []⟩)) : exS (SL cl) gas (evE (SL cl) 40) 38 (.iff (.cmp .ne (.lc [10] (.n 10) (.of (.var 9)) none (.wcall 0 [10] (.var 10))) (.bin .mul (.lst [.cst (.str "group")]) (.cst (.int 3)))) [.ret (.cst (.bl false))] []) [none, some (.val (.stt 0)), x2, some (.val (size)), some (.val (one)), some (.val (goal)), x6, some (.val (g)), some (.val (sg)), some (.own (.lst [.clo 9 (cl 9), .clo 10 (cl 10), .clo 11 (cl 11)])), none] = .ret (.ok .nx [none, some (.val (.stt 0)), x2, some (.val (size)), some (.val (one)), some (.val (goal)), x6, some (.val (g)), some (.val (sg)), some (.val (.lst [.clo 9 (cl 9), .clo 10 (cl 10), .clo 11 (cl 11)])), none]) := iff_no (test_run (lw_m h))
def goodG (g : D) : Prop := (F__law_no_group [.val (.stt 0), .val g]).wp fun r => ∃ d, r = .ok (.val d) ∧ strB d = true
def Inv2 (size one goal g : D) (δ : Env) : Prop := ∃ x2 x6 x8 x9, δ = [none, some (.val (.stt 0)), x2, some (.val (size)), some (.val (one)), some (.val (goal)), x6, some (.val (g)), x8, x9, none]
theorem lw_set8 (hg : goodG g) (q : ∀ sg, strB sg = true → P (.ok .nx [none, some (.val (.stt 0)), x2, some (.val (size)), some (.val (one)), some (.val (goal)), x6, some (.val (g)), some (.val (sg)), x9, none])) : WP P (exS (SL cl) gas (evE (SL cl) 40) 38 (.set (.n 8) (.call 39 [] [(.var 1), (.var 7)])) [none, some (.val (.stt 0)), x2, some (.val (size)), some (.val (one)), some (.val (goal)), x6, some (.val (g)), x8, x9, none]) :=
  wp_in <| set_wpF (F := F__law_no_group) (as := [.val (.stt 0), .val g]) (by kernel_rfl) (by show 8 < 11; omega) hg q
theorem lw_body5 (hg : goodG g) : WP (fun o => ∃ δ', o = .ok .nx δ' ∧ Inv2 size one goal g δ') (blkM (exS (SL cl) gas (evE (SL cl) 40) 38) [(.set (.n 8) (.call 39 [] [(.var 1), (.var 7)])), (.set (.n 9) (.lst [(.lam 9)])), (.ex (.mut 0 9 [(.lam 10)])), (.ex (.mut 0 9 [(.lam 11)])), (.iff (.cmp .ne (.lc [10] (.n 10) (.of (.var 9)) none (.wcall 0 [10] (.var 10))) (.bin .mul (.lst [.cst (.str "group")]) (.cst (.int 3)))) [(.ret (.cst (.bl false)))] [])] [none, some (.val (.stt 0)), x2, some (.val (size)), some (.val (one)), some (.val (goal)), x6, some (.val (g)), x8, x9, none]) := by
  refine blk_wpW (lw_set8 hg fun sg hs => goOn_nxW ?_)
  refine blk_stepW lw_s0 ?_
  refine blk_stepW lw_s1 ?_
  refine blk_stepW lw_s2 ?_
  refine blk_stepW (lw_i (isE_eq hs)) ?_
  exact wp_in ⟨_, rfl, _, _, _, _, rfl⟩
theorem lw_it (S : Sig) (δ : Env) : itM (evE S 40) (.range none (.cst (.int 4))) δ = .ret (.ok [.int 0, .int 1, .int 2, .int 3] δ) := by kernel_rfl
theorem lw_for5 (hg : goodG g) (q : ∀ x2 x6 x8 x9, P (.ok .nx [none, some (.val (.stt 0)), x2, some (.val (size)), some (.val (one)), some (.val (goal)), x6, some (.val (g)), x8, x9, none])) : WP P (exS (SL cl) gas (evE (SL cl) 40) 39 (.for_ (.n 6) (.range none (.cst (.int 4))) [(.set (.n 8) (.call 39 [] [(.var 1), (.var 7)])), (.set (.n 9) (.lst [(.lam 9)])), (.ex (.mut 0 9 [(.lam 10)])), (.ex (.mut 0 9 [(.lam 11)])), (.iff (.cmp .ne (.lc [10] (.n 10) (.of (.var 9)) none (.wcall 0 [10] (.var 10))) (.bin .mul (.lst [.cst (.str "group")]) (.cst (.int 3)))) [(.ret (.cst (.bl false)))] [])]) [none, some (.val (.stt 0)), x2, some (.val (size)), some (.val (one)), some (.val (goal)), x6, some (.val (g)), x8, x9, none]) := by
  refine for_wpW (Inv := Inv2 size one goal g) (lw_it _ _) ⟨_, _, _, _, rfl⟩ (fun δ h => ?_) (fun x δ h => ?_) (fun δ' h => ?_)
  · obtain ⟨a, b, c, d, rfl⟩ := h; show 6 < 11; omega
  · obtain ⟨a, b, c, d, rfl⟩ := h; exact lw_body5 hg
  · obtain ⟨a, b, c, d, rfl⟩ := h; exact q _ _ _ _
def Inv1 (size one goal : D) (x2 x7 x8 x9 : Option Ent) (δ : Env) : Prop := ∃ x6, δ = [none, some (.val (.stt 0)), x2, some (.val (size)), some (.val (one)), some (.val (goal)), x6, x7, x8, x9, none]
theorem lw_call40 : evE (SL cl) 39 (.call 40 [] [(.var 1), (.var 4), (.var 5)]) [none, some (.val (.stt 0)), x2, some (.val (size)), some (.val (one)), some (.val (goal)), x6, x7, x8, x9, none] = resM (mR [.val (.stt 0), .val one, .val goal]) [none, some (.val (.stt 0)), x2, some (.val (size)), some (.val (one)), some (.val (goal)), x6, x7, x8, x9, none] := by kernel_rfl
theorem lw_iff (h : mR [.val (.stt 0), .val one, .val goal] = .ret (.ok (.val (.bl true)))) : exS (SL cl) gas (evE (SL cl) 40) 38 (.iff (.not (.call 40 [] [(.var 1), (.var 4), (.var 5)])) [(.ret (.cst (.bl false)))] []) [none, some (.val (.stt 0)), x2, some (.val (size)), some (.val (one)), some (.val (goal)), x6, x7, x8, x9, none] = .ret (.ok .nx [none, some (.val (.stt 0)), x2, some (.val (size)), some (.val (one)), some (.val (goal)), x6, x7, x8, x9, none]) :=
  iff_no (test_run (not_run (k := 39) (r := true) (lw_call40.trans (by rw [h]; rfl))))
theorem lw_for3 (h : mR [.val (.stt 0), .val one, .val goal] = .ret (.ok (.val (.bl true)))) (q : ∀ x6, P (.ok .nx [none, some (.val (.stt 0)), x2, some (.val (size)), some (.val (one)), some (.val (goal)), x6, x7, x8, x9, none])) : WP P (exS (SL cl) gas (evE (SL cl) 40) 39 (.for_ (.n 6) (.range none (.cst (.int 4))) [(.iff (.not (.call 40 [] [(.var 1), (.var 4), (.var 5)])) [(.ret (.cst (.bl false)))] [])]) [none, some (.val (.stt 0)), x2, some (.val (size)), some (.val (one)), some (.val (goal)), x6, x7, x8, x9, none]) := by
  refine for_wpW (Inv := Inv1 size one goal x2 x7 x8 x9) (lw_it _ _) ⟨_, rfl⟩ (fun δ h => ?_) (fun x δ h' => ?_) (fun δ' h => ?_)
  · obtain ⟨a, rfl⟩ := h; show 6 < 11; omega
  · obtain ⟨a, rfl⟩ := h'
    exact blk_stepW (lw_iff h) (wp_in ⟨_, rfl, _, rfl⟩)
  · obtain ⟨a, rfl⟩ := h; exact q _
theorem lw_ev3 (δ : Env) (h : δ[1]? = some (some (.val (.stt 0)))) : evE (SL cl) 40 (.bin .add (.cst (.int 2)) (.draw (.var 1) (.cst (.int 4)))) δ = .draw 4 fun r => .ret (.ok (.v (.int (2 + (r : Int)))) δ) := by
  have hv := ev_val (S := SL cl) (k := 37) h
  show (Tr.bind (Tr.bind (Tr.bind (evE (SL cl) 38 (.var 1) δ) _) _) _) = _
  rw [hv]; rfl
theorem lw_set3 (q : ∀ r : Nat, r < 4 → P (.ok .nx [none, some (.val (.stt 0)), x2, some (.val (.int (2 + (r : Int)))), y4, y5, x6, x7, x8, x9, none])) : WP P (exS (SL cl) gas (evE (SL cl) 40) 39 (.set (.n 3) (.bin .add (.cst (.int 2)) (.draw (.var 1) (.cst (.int 4))))) [none, some (.val (.stt 0)), x2, y3, y4, y5, x6, x7, x8, x9, none]) := by
  refine wp_in (set_wp ?_ (by show 3 < 11; omega))
  rw [lw_ev3 _ rfl]
  exact ⟨by omega, fun r hr => ⟨_, rfl, q r hr⟩⟩
def isTurn (n : Nat) (d : D) : Prop := ∃ l, l ∈ perms n ∧ d = turnD l
theorem aturn {n : Nat} (h : 2 ≤ n) (h' : n ≤ 5) : (F__law_a_turn [.val (.stt 0), .val (.int (n : Int))]).wp fun r => ∃ d, r = .ok (.val d) ∧ isTurn n d :=
  Tr.wp_mono (fun r hr => by
    obtain ⟨l, h1, h2⟩ := isInts_eq hr
    exact ⟨_, h2, l, List.elem_iff.mp h1, rfl⟩) (wpb_ok (p := isInts fun ns => (perms n).elem ns) (turnAll h h'))
theorem lw_par {n : Nat} (h : 2 ≤ n) (h' : n ≤ 5) (q : ∀ one goal, isTurn n one → isTurn n goal → P (.ok .nx [none, some (.val (.stt 0)), x2, some (.val (.int (n : Int))), some (.val (one)), some (.val (goal)), x6, x7, x8, x9, none])) : WP P (exS (SL cl) gas (evE (SL cl) 40) 39 (.par [4, 5] [(.call 34 [] [(.var 1), (.var 3)]), (.call 34 [] [(.var 1), (.var 3)])]) [none, some (.val (.stt 0)), x2, some (.val (.int (n : Int))), y4, y5, x6, x7, x8, x9, none]) :=
  par_wpW (F1 := F__law_a_turn) (F2 := F__law_a_turn) (as1 := [.val (.stt 0), .val (.int (n : Int))]) (as2 := [.val (.stt 0), .val (.int (n : Int))]) (by kernel_rfl) (by kernel_rfl) (by show 4 < 11; omega) (by show 5 < 11; omega) (aturn h h') (aturn h h') q
theorem isVR_eq {p : D → Bool} {t : Tr Res} (h : isVR p t = true) : ∃ d, p d = true ∧ t = .ret (.ok (.val d)) := by
  unfold isVR at h
  split at h
  · exact ⟨_, h, rfl⟩
  · cases h
theorem wp_of_eq {t : Tr Res} {g : D} {p : D → Prop} (h : t = .ret (.ok (.val g))) (hp : p g) : t.wp fun r => ∃ g, r = .ok (.val g) ∧ p g := by
  rw [h]; exact ⟨g, rfl, hp⟩
theorem closedG {n : Nat} {d : D} (h : 2 ≤ n) (h' : n ≤ 5) (hd : isTurn n d) : (F__law_closed [.val (.lst [d]), .val (.int (n : Int))]).wp fun r => ∃ g, r = .ok (.val g) ∧ goodG g := by
  obtain ⟨l, hl, rfl⟩ := hd
  have e := strAll h h' hl
  unfold strAt at e
  obtain ⟨g, e1, e2⟩ := isVR_eq e
  exact wp_of_eq e2 (Tr.wp_mono (fun r hr => by obtain ⟨d, h1, h2⟩ := isVal_eq hr; exact ⟨d, h2, h1⟩) (wpb_ok (p := isVal strB) e1))
theorem ev_call36 (S : Sig) : evE S 40 (.call 36 [] [(.lst [(.var 4)]), (.var 3)]) [none, some (.val (.stt 0)), x2, some (.val (size)), some (.val (one)), some (.val (goal)), x6, x7, x8, x9, none] = resM (S.fn 36 [.val (.lst [one]), .val size]) [none, some (.val (.stt 0)), x2, some (.val (size)), some (.val (one)), some (.val (goal)), x6, x7, x8, x9, none] := by kernel_rfl
theorem fn36 : (SL cl).fn 36 = F__law_closed := by kernel_rfl
theorem lw_set7 {n : Nat} (h : 2 ≤ n) (h' : n ≤ 5) (hd : isTurn n one) (q : ∀ g, goodG g → P (.ok .nx [none, some (.val (.stt 0)), x2, some (.val (.int (n : Int))), some (.val (one)), some (.val (goal)), x6, some (.val (g)), x8, x9, none])) : WP P (exS (SL cl) gas (evE (SL cl) 40) 39 (.set (.n 7) (.call 36 [] [(.lst [(.var 4)]), (.var 3)])) [none, some (.val (.stt 0)), x2, some (.val (.int (n : Int))), some (.val (one)), some (.val (goal)), x6, x7, x8, x9, none]) :=
  wp_in <| set_wpF (F := F__law_closed) (as := [.val (.lst [one]), .val (.int (n : Int))]) ((ev_call36 (SL cl)).trans (by rw [fn36])) (by show 7 < 11; omega) (closedG h h' hd) q
def Inv0 (δ : Env) : Prop := ∃ x2 y3 y4 y5 x6 x7 x8 x9, δ = [none, some (.val (.stt 0)), x2, y3, y4, y5, x6, x7, x8, x9, none]
theorem lw_body0 : WP (fun o => ∃ δ', o = .ok .nx δ' ∧ Inv0 δ') (blkM (exS (SL cl) gas (evE (SL cl) 40) 39) [(.set (.n 3) (.bin .add (.cst (.int 2)) (.draw (.var 1) (.cst (.int 4))))), (.par [4, 5] [(.call 34 [] [(.var 1), (.var 3)]), (.call 34 [] [(.var 1), (.var 3)])]), (.for_ (.n 6) (.range none (.cst (.int 4))) [(.iff (.not (.call 40 [] [(.var 1), (.var 4), (.var 5)])) [(.ret (.cst (.bl false)))] [])]), (.set (.n 7) (.call 36 [] [(.lst [(.var 4)]), (.var 3)])), (.for_ (.n 6) (.range none (.cst (.int 4))) [(.set (.n 8) (.call 39 [] [(.var 1), (.var 7)])), (.set (.n 9) (.lst [(.lam 9)])), (.ex (.mut 0 9 [(.lam 10)])), (.ex (.mut 0 9 [(.lam 11)])), (.iff (.cmp .ne (.lc [10] (.n 10) (.of (.var 9)) none (.wcall 0 [10] (.var 10))) (.bin .mul (.lst [.cst (.str "group")]) (.cst (.int 3)))) [(.ret (.cst (.bl false)))] [])])] [none, some (.val (.stt 0)), x2, y3, y4, y5, x6, x7, x8, x9, none]) := by
  refine blk_wpW (lw_set3 fun r hr => goOn_nxW ?_)
  have e : (2 + (r : Int)) = ((2 + r : Nat) : Int) := by omega
  have h2 : 2 ≤ 2 + r := by omega
  have h5 : 2 + r ≤ 5 := by omega
  rw [e]
  generalize 2 + r = n at h2 h5
  refine blk_wpW (lw_par h2 h5 fun one goal ho hg => goOn_nxW ?_)
  have hm : mR [.val (.stt 0), .val one, .val goal] = .ret (.ok (.val (.bl true))) := by
    obtain ⟨l, hl, rfl⟩ := ho
    exact mR_ok h2 h5 hl
  refine blk_wpW (lw_for3 hm fun x6 => goOn_nxW ?_)
  refine blk_wpW (lw_set7 h2 h5 ho fun g hG => goOn_nxW ?_)
  refine blk_wpW (lw_for5 hG fun a b c d => goOn_nxW ?_)
  exact wp_in ⟨_, rfl, _, _, _, _, _, _, _, _, rfl⟩
theorem lw_for0 (q : ∀ δ, P (.ok .nx δ)) : WP P (exS (SL cl) gas (evE (SL cl) 40) 40 (.for_ (.n 2) (.range none (.cst (.int 4))) [(.set (.n 3) (.bin .add (.cst (.int 2)) (.draw (.var 1) (.cst (.int 4))))), (.par [4, 5] [(.call 34 [] [(.var 1), (.var 3)]), (.call 34 [] [(.var 1), (.var 3)])]), (.for_ (.n 6) (.range none (.cst (.int 4))) [(.iff (.not (.call 40 [] [(.var 1), (.var 4), (.var 5)])) [(.ret (.cst (.bl false)))] [])]), (.set (.n 7) (.call 36 [] [(.lst [(.var 4)]), (.var 3)])), (.for_ (.n 6) (.range none (.cst (.int 4))) [(.set (.n 8) (.call 39 [] [(.var 1), (.var 7)])), (.set (.n 9) (.lst [(.lam 9)])), (.ex (.mut 0 9 [(.lam 10)])), (.ex (.mut 0 9 [(.lam 11)])), (.iff (.cmp .ne (.lc [10] (.n 10) (.of (.var 9)) none (.wcall 0 [10] (.var 10))) (.bin .mul (.lst [.cst (.str "group")]) (.cst (.int 3)))) [(.ret (.cst (.bl false)))] [])])]) [none, some (.val (.stt 0)), x2, y3, y4, y5, x6, x7, x8, x9, none]) := by
  refine for_wpW (Inv := Inv0) (lw_it _ _) ⟨_, _, _, _, _, _, _, _, rfl⟩ (fun δ h => ?_) (fun x δ h => ?_) (fun δ' h => q δ')
  · obtain ⟨a, b, c, d, e, f, g, i, rfl⟩ := h; show 2 < 11; omega
  · obtain ⟨a, b, c, d, e, f, g, i, rfl⟩ := h; exact lw_body0
theorem lw_ret (δ : Env) : exS (SL cl) gas (evE (SL cl) 40) 40 (.ret (.cst (.bl true))) δ = .ret (.ok (.rt (.val (.bl true))) δ) := by kernel_rfl
theorem law_run : WP IsT (blkM (exS (SL cl) gas (evE (SL cl) 40) 40) b_law [none, some (.val (.stt 0)), none, none, none, none, none, none, none, none, none]) := by
  unfold b_law
  refine blk_wpW (lw_for0 fun δ => goOn_nxW ?_)
  exact blk_retW (lw_ret δ) trivial
theorem hm_law (cl : Nat → List (Str × Addr)) : ((blkM (exS { S_law mR with cl := cl } gas (evE { S_law mR with cl := cl } deep) deep) b_law) ((List.replicate 11 none).set 1 (some (.val (.stt 0))))).wp IsT := wp_out (law_run (cl := cl))
end
end K59
end T
end
section
set_option Elab.async false
set_option linter.all false
set_option autoImplicit false
set_option maxRecDepth 1000000
set_option maxHeartbeats 0
/-! the head of k59 -/
namespace T
namespace K59
open PySem PySem.Spec PyProof.Rows L2
def d0 : He.DefD := ⟨("is_count", none), "is_count", "is_count", defArgs (top 8), defBody (top 8), defScope (top 8), [], []⟩
def d1 : He.DefD := ⟨("is_size", none), "is_size", "is_size", defArgs (top 9), defBody (top 9), defScope (top 9), [], []⟩
def d2 : He.DefD := ⟨("need_size", none), "need_size", "need_size", defArgs (top 10), defBody (top 10), defScope (top 10), [], []⟩
def d3 : He.DefD := ⟨("is_turn", none), "is_turn", "is_turn", defArgs (top 11), defBody (top 11), defScope (top 11), [], []⟩
def d4 : He.DefD := ⟨("need_turn", none), "need_turn", "need_turn", defArgs (top 12), defBody (top 12), defScope (top 12), [], []⟩
def d5 : He.DefD := ⟨("plain", none), "plain", "plain", defArgs (top 13), defBody (top 13), defScope (top 13), [], []⟩
def d6 : He.DefD := ⟨("order", none), "order", "order", defArgs (top 16), defBody (top 16), defScope (top 16), [], []⟩
def d7 : He.DefD := ⟨("times", none), "times", "times", defArgs (top 17), defBody (top 17), defScope (top 17), [], []⟩
def d8 : He.DefD := ⟨("sign", none), "sign", "sign", defArgs (top 19), defBody (top 19), defScope (top 19), [], []⟩
def d9 : He.DefD := ⟨("plain_of", none), "plain_of", "plain_of", defArgs (top 22), defBody (top 22), defScope (top 22), [], []⟩
def d10 : He.DefD := ⟨("made", none), "made", "made", defArgs (top 24), defBody (top 24), defScope (top 24), [], []⟩
def d11 : He.DefD := ⟨("is_group", none), "is_group", "is_group", defArgs (top 25), defBody (top 25), defScope (top 25), [], []⟩
def d12 : He.DefD := ⟨("size_of", none), "size_of", "size_of", defArgs (top 26), defBody (top 26), defScope (top 26), [], []⟩
def d13 : He.DefD := ⟨("need_group", none), "need_group", "need_group", defArgs (top 27), defBody (top 27), defScope (top 27), [], []⟩
def d14 : He.DefD := ⟨("word", none), "word", "word", defArgs (top 28), defBody (top 28), defScope (top 28), [], []⟩
def d15 : He.DefD := ⟨("commuted", none), "commuted", "commuted", defArgs (top 29), defBody (top 29), defScope (top 29), [], []⟩
def d16 : He.DefD := ⟨("leadings", none), "leadings", "leadings", defArgs (top 34), defBody (top 34), defScope (top 34), [], []⟩
def d17 : He.DefD := ⟨("thirds", none), "thirds", "thirds", defArgs (top 35), defBody (top 35), defScope (top 35), [], []⟩
def d18 : He.DefD := ⟨("_law_pick", none), "_law_pick", "_law_pick", defArgs (top 39), defBody (top 39), defScope (top 39), [], []⟩
def d19 : He.DefD := ⟨("_law_mixed", none), "_law_mixed", "_law_mixed", defArgs (top 40), defBody (top 40), defScope (top 40), [], []⟩
def d20 : He.DefD := ⟨("_law_a_turn", none), "_law_a_turn", "_law_a_turn", defArgs (top 41), defBody (top 41), defScope (top 41), [], []⟩
def d21 : He.DefD := ⟨("_law_into", none), "_law_into", "_law_into", defArgs (top 42), defBody (top 42), defScope (top 42), [], []⟩
def d22 : He.DefD := ⟨("_law_closed", none), "_law_closed", "_law_closed", defArgs (top 43), defBody (top 43), defScope (top 43), [], []⟩
def d23 : He.DefD := ⟨("_law_no_turn", none), "_law_no_turn", "_law_no_turn", defArgs (top 45), defBody (top 45), defScope (top 45), [], []⟩
def d24 : He.DefD := ⟨("_law_no_group", none), "_law_no_group", "_law_no_group", defArgs (top 46), defBody (top 46), defScope (top 46), [], []⟩
def d25 : He.DefD := ⟨("_law_draw", none), "_law_draw", "_law_draw", defArgs (top 38), defBody (top 38), defScope (top 38), [], []⟩
def d26 : He.DefD := ⟨("_law_state", none), "_law_state", "_law_state", defArgs (top 37), defBody (top 37), defScope (top 37), [], []⟩
def d27 : He.DefD := ⟨("_law_turns_refused", none), "_law_turns_refused", "_law_turns_refused", defArgs (top 47), defBody (top 47), defScope (top 47), [], []⟩
def d28 : He.DefD := ⟨("_law_word", none), "_law_word", "_law_word", defArgs (top 44), defBody (top 44), defScope (top 44), [], []⟩
def d29 : He.DefD := ⟨("law", none), "law", "law", defArgs (top 48), defBody (top 48), defScope (top 48), [], []⟩
def fnA : List He.DefD := [d0, d1, d2, d3, d4, d5, d6, d7, d8, d9, d10, d11, d12, d13, d14, d15, d16, d17, d18, d19, d20, d21, d22, d23, d24, d25, d26, d27, d28, d29]
def fa : List He.Fa := [.glo "is_count", .glo "is_size", .glo "need_size", .glo "is_turn", .glo "need_turn", .glo "plain", .glo "order", .glo "times", .glo "sign", .glo "plain_of", .glo "made", .glo "is_group", .glo "size_of", .glo "need_group", .glo "word", .glo "commuted", .glo "leadings", .glo "thirds", .glo "_law_pick", .glo "_law_mixed", .glo "_law_a_turn", .glo "_law_into", .glo "_law_closed", .glo "_law_no_turn", .glo "_law_no_group", .glo "_law_draw", .glo "_law_state", .glo "_law_turns_refused", .glo "_law_word", .glo "law", .free "ValueError", .free "abs", .free "all", .free "bool", .free "int", .free "isinstance", .free "len", .free "list", .free "range", .free "sorted", .free "tuple", .free "zip", .int "LEAST_SIZE" 2, .int "MOST_SIZE" 5, .glo "NoSize", .glo "NoTurn", .glo "NoGroup", .glo "CoatError", .exc "NoSize", .exc "NoTurn", .exc "NoGroup", .exm "NoSize" "CoatError" true, .exm "NoTurn" "CoatError" true, .exm "NoGroup" "CoatError" true, .exm "CoatError" "CoatError" true]
def tf : List He.Defn := [("_law_turns_refused", none), ("law", none)]
abbrev R : PySem.W.OpenRow := PySem.W.OpenLaw.row PySem.Challenge.rw_turncoats_k59_what_turns_and_groups_refu
abbrev hk : PySem.W.Hook := He.hookX 5 fa fnA [] tf exB
def ob (s : PySem.W.SharedT) : He.AlX := He.obsX 5 fa fnA [] tf exB (HandSHeadRun.getT s)
theorem ob_eq (s : PySem.W.SharedT) : ob s = hk.obs s.abs := He.obsX_eq (HandSHeadRun.getT_eq s)
def loose0 : List Str := ["CoatError", "NoSize", "NoTurn", "NoGroup", "LEAST_SIZE", "MOST_SIZE", "is_count", "is_size", "need_size", "is_turn", "need_turn", "plain", "put_into", "turn_back", "order", "times", "sign_of", "sign", "THIRDS", "plain_of", "closed", "made", "is_group", "size_of", "need_group", "word", "commuted", "makers", "rests", "led_by"]
def loose1 : List Str := ["to_rests", "leadings", "thirds", "_law_state", "_law_draw", "_law_pick", "_law_mixed", "_law_a_turn", "_law_into", "_law_closed", "_law_word", "_law_no_turn", "_law_no_group", "_law_turns_refused"]
def loose : List Str := loose0 ++ loose1
theorem run (w : World) : HandSHeadRun.RunEq R (PySem.W.view R.prog [48]) hk ob 4000 loose w := by
  intro os
  kernel_rfl
end K59
end T
end
section
set_option Elab.async false
set_option linter.all false
set_option autoImplicit false
set_option maxRecDepth 1000000
set_option maxHeartbeats 0
/-! the law k59 -/
namespace T
namespace K59
open PySem PySem.Spec PyProof.Rows L2 LamX
theorem cs_mem {K : PySem.W.Frag} {p : Addr × Addr} (h : p ∈ [He.cT K ("_law_turns_refused", none), He.cT K ("law", none)]) : p = He.cT K ("_law_turns_refused", none) ∨ p = He.cT K ("law", none) := by
  rcases List.mem_cons.mp h with h | h
  · exact .inl h
  · exact .inr (List.mem_singleton.mp h)
theorem tabs_in {P : Program} {w : World} {K : PySem.W.Frag} {H : Hp} (h : ∀ p ∈ [He.cT K ("_law_turns_refused", none), He.cT K ("law", none)], H p.2 = some (.tbl #[])) : ∀ p ∈ (Wk P w K).tb, H p.1 = some (.tbl #[]) := fun p hp => by
  rcases List.mem_cons.mp hp with rfl | hp
  · exact h _ List.mem_cons_self
  · cases List.mem_singleton.mp hp
    exact h _ (List.mem_cons_of_mem _ List.mem_cons_self)
theorem cx_no {P : Program} {w : World} {H : Hp} {s : Shared} {e : Value} {s' : Shared} (z : L2.CX P w [] H s (fun _ _ _ => False) e s') : False := by
  obtain ⟨_, _, _, _, _, _, _, _, _, _, _, _, h⟩ := z; exact h

theorem facts {P : Program} {w : World} {K : PySem.W.Frag} {h : Heap} {mg : Str → Option Value} {f : Addr} (X : K.In h) (G : h.Ns mainGlobals mg) (hfa : mg ("law" : Str) = some (.ref f)) (cx : He.SaysX fa fnA [] tf exB w h K) :
    ∃ fd : FuncData, (∀ (s : Shared) (v : Value), BindsTo s fd ⟨[v], []⟩ [("script", v)]) ∧ ∀ base : Heap, K.In base → base.Ns mainGlobals mg → (∀ p ∈ [He.cT K ("_law_turns_refused", none), He.cT K ("law", none)], TabB base mg p.1 p.2) → FnOk P w K mg base (L2.CX P w) 11 f fd ["script"] (spLaw (Wk P w K)) := by
  have c := cx.t.d
  have ex := cx.more
  have g_is_count := He.glo_ok X G (c.fact 0 (f := .glo "is_count") rfl)
  have g_is_size := He.glo_ok X G (c.fact 1 (f := .glo "is_size") rfl)
  have g_need_size := He.glo_ok X G (c.fact 2 (f := .glo "need_size") rfl)
  have g_is_turn := He.glo_ok X G (c.fact 3 (f := .glo "is_turn") rfl)
  have g_need_turn := He.glo_ok X G (c.fact 4 (f := .glo "need_turn") rfl)
  have g_plain := He.glo_ok X G (c.fact 5 (f := .glo "plain") rfl)
  have g_order := He.glo_ok X G (c.fact 6 (f := .glo "order") rfl)
  have g_times := He.glo_ok X G (c.fact 7 (f := .glo "times") rfl)
  have g_sign := He.glo_ok X G (c.fact 8 (f := .glo "sign") rfl)
  have g_plain_of := He.glo_ok X G (c.fact 9 (f := .glo "plain_of") rfl)
  have g_made := He.glo_ok X G (c.fact 10 (f := .glo "made") rfl)
  have g_is_group := He.glo_ok X G (c.fact 11 (f := .glo "is_group") rfl)
  have g_size_of := He.glo_ok X G (c.fact 12 (f := .glo "size_of") rfl)
  have g_need_group := He.glo_ok X G (c.fact 13 (f := .glo "need_group") rfl)
  have g_word := He.glo_ok X G (c.fact 14 (f := .glo "word") rfl)
  have g_commuted := He.glo_ok X G (c.fact 15 (f := .glo "commuted") rfl)
  have g_leadings := He.glo_ok X G (c.fact 16 (f := .glo "leadings") rfl)
  have g_thirds := He.glo_ok X G (c.fact 17 (f := .glo "thirds") rfl)
  have g__law_pick := He.glo_ok X G (c.fact 18 (f := .glo "_law_pick") rfl)
  have g__law_mixed := He.glo_ok X G (c.fact 19 (f := .glo "_law_mixed") rfl)
  have g__law_a_turn := He.glo_ok X G (c.fact 20 (f := .glo "_law_a_turn") rfl)
  have g__law_into := He.glo_ok X G (c.fact 21 (f := .glo "_law_into") rfl)
  have g__law_closed := He.glo_ok X G (c.fact 22 (f := .glo "_law_closed") rfl)
  have g__law_no_turn := He.glo_ok X G (c.fact 23 (f := .glo "_law_no_turn") rfl)
  have g__law_no_group := He.glo_ok X G (c.fact 24 (f := .glo "_law_no_group") rfl)
  have g__law_draw := He.glo_ok X G (c.fact 25 (f := .glo "_law_draw") rfl)
  have g__law_state := He.glo_ok X G (c.fact 26 (f := .glo "_law_state") rfl)
  have g__law_turns_refused := He.glo_ok X G (c.fact 27 (f := .glo "_law_turns_refused") rfl)
  have g__law_word := He.glo_ok X G (c.fact 28 (f := .glo "_law_word") rfl)
  have g_law := He.glo_ok X G (c.fact 29 (f := .glo "law") rfl)
  have F_ValueError := He.free_ok X G (c.fact 30 (f := .free "ValueError") rfl)
  have F_abs := He.free_ok X G (c.fact 31 (f := .free "abs") rfl)
  have F_all := He.free_ok X G (c.fact 32 (f := .free "all") rfl)
  have F_bool := He.free_ok X G (c.fact 33 (f := .free "bool") rfl)
  have F_int := He.free_ok X G (c.fact 34 (f := .free "int") rfl)
  have F_isinstance := He.free_ok X G (c.fact 35 (f := .free "isinstance") rfl)
  have F_len := He.free_ok X G (c.fact 36 (f := .free "len") rfl)
  have F_list := He.free_ok X G (c.fact 37 (f := .free "list") rfl)
  have F_range := He.free_ok X G (c.fact 38 (f := .free "range") rfl)
  have F_sorted := He.free_ok X G (c.fact 39 (f := .free "sorted") rfl)
  have F_tuple := He.free_ok X G (c.fact 40 (f := .free "tuple") rfl)
  have F_zip := He.free_ok X G (c.fact 41 (f := .free "zip") rfl)
  have I_LEAST_SIZE := He.int_ok X G (c.fact 42 (f := .int "LEAST_SIZE" 2) rfl)
  have I_MOST_SIZE := He.int_ok X G (c.fact 43 (f := .int "MOST_SIZE" 5) rfl)
  have X_NoSize : XF K mg "NoSize" := XF.of X G (c.fact 44 (f := .glo "NoSize") rfl) (c.fact 48 (f := .exc "NoSize") rfl)
  have X_NoTurn : XF K mg "NoTurn" := XF.of X G (c.fact 45 (f := .glo "NoTurn") rfl) (c.fact 49 (f := .exc "NoTurn") rfl)
  have X_NoGroup : XF K mg "NoGroup" := XF.of X G (c.fact 46 (f := .glo "NoGroup") rfl) (c.fact 50 (f := .exc "NoGroup") rfl)
  have C_ := He.glo_ok X G (c.fact 47 (f := .glo "CoatError") rfl)
  have m_NoSize := He.exm_ok (c.fact 51 (f := .exm "NoSize" "CoatError" true) rfl)
  have m_NoTurn := He.exm_ok (c.fact 52 (f := .exm "NoTurn" "CoatError" true) rfl)
  have m_NoGroup := He.exm_ok (c.fact 53 (f := .exm "NoGroup" "CoatError" true) rfl)
  have m_CoatError := He.exm_ok (c.fact 54 (f := .exm "CoatError" "CoatError" true) rfl)
  have exm : ∀ x ∈ (["NoSize", "NoTurn", "NoGroup", "CoatError"] : List String), PySem.W.exmOne K (.ref (He.ga K x)) (.ref (He.ga K "CoatError")) = some true := fun x hx => by
    simp only [List.mem_cons, List.mem_nil_iff, or_false] at hx
    rcases hx with rfl | rfl | rfl | rfl
    · exact m_NoSize
    · exact m_NoTurn
    · exact m_NoGroup
    · exact m_CoatError
  have D_is_count := c.def_ 0 (d := d0) rfl
  have D_is_size := c.def_ 1 (d := d1) rfl
  have D_need_size := c.def_ 2 (d := d2) rfl
  have D_is_turn := c.def_ 3 (d := d3) rfl
  have D_need_turn := c.def_ 4 (d := d4) rfl
  have D_plain := c.def_ 5 (d := d5) rfl
  have D_order := c.def_ 6 (d := d6) rfl
  have D_times := c.def_ 7 (d := d7) rfl
  have D_sign := c.def_ 8 (d := d8) rfl
  have D_plain_of := c.def_ 9 (d := d9) rfl
  have D_made := c.def_ 10 (d := d10) rfl
  have D_is_group := c.def_ 11 (d := d11) rfl
  have D_size_of := c.def_ 12 (d := d12) rfl
  have D_need_group := c.def_ 13 (d := d13) rfl
  have D_word := c.def_ 14 (d := d14) rfl
  have D_commuted := c.def_ 15 (d := d15) rfl
  have D_leadings := c.def_ 16 (d := d16) rfl
  have D_thirds := c.def_ 17 (d := d17) rfl
  have D__law_pick := c.def_ 18 (d := d18) rfl
  have D__law_mixed := c.def_ 19 (d := d19) rfl
  have D__law_a_turn := c.def_ 20 (d := d20) rfl
  have D__law_into := c.def_ 21 (d := d21) rfl
  have D__law_closed := c.def_ 22 (d := d22) rfl
  have D__law_no_turn := c.def_ 23 (d := d23) rfl
  have D__law_no_group := c.def_ 24 (d := d24) rfl
  have D__law_draw := c.def_ 25 (d := d25) rfl
  have D__law_state := c.def_ 26 (d := d26) rfl
  have D__law_turns_refused := c.def_ 27 (d := d27) rfl
  have D__law_word := c.def_ 28 (d := d28) rfl
  have D_law := c.def_ 29 (d := d29) rfl
  obtain ⟨fd, FL⟩ := D_law
  have e := hfa.symm.trans g_law
  cases e
  have b := FunD.bindsA (ps := ["script"]) FL fun _ _ _ _ _ _ us hl => match us, hl with | [_], _ => rfl
  refine ⟨fd, fun s v => b s [v] rfl, fun base _ _ TBs => ?_⟩
  have TB0 := TBs _ List.mem_cons_self
  have TB1 := TBs _ (List.mem_cons_of_mem _ List.mem_cons_self)
  have h_is_count := ok_is_count (P := P) (w := w) (base := base) F_isinstance F_int F_bool D_is_count g_is_count
  have h_is_size := ok_is_size (P := P) (w := w) (base := base) I_LEAST_SIZE I_MOST_SIZE h_is_count D_is_size g_is_size
  have h_need_size := ok_need_size (P := P) (w := w) (base := base) X_NoSize h_is_size D_need_size g_need_size
  have h_is_turn := ok_is_turn (P := P) (w := w) (base := base) F_isinstance F_tuple F_len F_all F_sorted F_list F_range h_need_size h_is_count D_is_turn g_is_turn
  have h_need_turn := ok_need_turn (P := P) (w := w) (base := base) F_isinstance F_tuple F_len X_NoTurn h_is_size h_is_turn D_need_turn g_need_turn
  have h_plain := ok_plain (P := P) (w := w) (base := base) F_tuple F_range h_need_size D_plain g_plain
  have h_order := ok_order (P := P) (w := w) (base := base) h_need_turn D_order g_order
  have h_times := ok_times (P := P) (w := w) (base := base) F_isinstance F_tuple F_len F_range h_order D_times g_times
  have h_sign := ok_sign (P := P) (w := w) (base := base) h_need_turn D_sign g_sign
  have h_plain_of := ok_plain_of (P := P) (w := w) (base := base) F_tuple F_range D_plain_of g_plain_of
  have h_made := ok_made (P := P) (w := w) (base := base) F_isinstance F_list F_tuple X_NoTurn D_made g_made
  have h_is_group := ok_is_group (P := P) (w := w) (base := base) F_isinstance F_tuple F_all F_zip h_need_size h_is_turn h_plain_of D_is_group g_is_group
  have h_size_of := ok_size_of (P := P) (w := w) (base := base) F_isinstance F_tuple F_len h_is_size D_size_of g_size_of
  have h_need_group := ok_need_group (P := P) (w := w) (base := base) X_NoGroup h_size_of h_is_group D_need_group g_need_group
  have h_word := ok_word (P := P) (w := w) (base := base) F_isinstance F_list F_tuple X_NoTurn D_word g_word
  have h_commuted := ok_commuted (P := P) (w := w) (base := base) h_need_group D_commuted g_commuted
  have h_leadings := ok_leadings (P := P) (w := w) (base := base) h_need_group D_leadings g_leadings
  have h_thirds := ok_thirds (P := P) (w := w) (base := base) h_need_group D_thirds g_thirds
  have h__law_into := ok__law_into (P := P) (w := w) (base := base) F_tuple D__law_into g__law_into
  have h__law_closed := ok__law_closed (P := P) (w := w) (base := base) F_tuple F_range F_sorted h__law_into D__law_closed g__law_closed
  have h__law_draw := ok__law_draw (P := P) (w := w) (base := base) F_len D__law_draw g__law_draw
  have h__law_state := ok__law_state (P := P) (w := w) (base := base) F_abs D__law_state g__law_state
  have WD := word_in (P := P) (w := w) (base := base) 7 ex C_ exm X_NoSize F_isinstance X_NoTurn X_NoGroup F_ValueError D__law_word g__law_word
  have h__law_pick := ok__law_pick (P := P) (w := w) (base := base) F_len h__law_draw D__law_pick g__law_pick
  have h__law_mixed := ok__law_mixed (P := P) (w := w) (base := base) F_list F_len h__law_draw D__law_mixed g__law_mixed
  have h__law_a_turn := ok__law_a_turn (P := P) (w := w) (base := base) F_tuple F_range F_list h__law_draw h__law_mixed D__law_a_turn g__law_a_turn
  have h__law_no_turn := ok__law_no_turn (P := P) (w := w) (base := base) F_list F_len h__law_pick D__law_no_turn g__law_no_turn
  have h__law_no_group := ok__law_no_group (P := P) (w := w) (base := base) F_list F_len h__law_pick D__law_no_group g__law_no_group
  have h__law_turns_refused := ok__law_turns_refused (P := P) (w := w) (base := base) mR hmR F_len h_times h_order h_sign h_is_turn h_is_group h_plain h_made h_word h__law_no_turn h__law_pick TB0 ex WD D__law_turns_refused g__law_turns_refused
  exact ok_law mR hm_law F_range h_leadings h_thirds h_commuted h__law_draw h__law_a_turn h__law_turns_refused h__law_closed h__law_no_group TB1 ex WD h__law_state FL
end K59
end T
open PySem PySem.W PySem.Calls PyProof.Rows
theorem PySem.Challenge.cw_turncoats_k59_what_turns_and_groups_refu_holds : PySem.Challenge.rw_turncoats_k59_what_turns_and_groups_refu.Holds := by
  w_on; o_law
  refine HandSHeadRun.head_any (r := OpenLaw.row PySem.Challenge.rw_turncoats_k59_what_turns_and_groups_refu) (q := view (OpenLaw.row PySem.Challenge.rw_turncoats_k59_what_turns_and_groups_refu).prog [48]) (H := T.K59.hk) (ob := T.K59.ob) (M := 4000) (loose := T.K59.loose) (d := HandSHeadRun.topDef (OpenLaw.row PySem.Challenge.rw_turncoats_k59_what_turns_and_groups_refu).prog 48) (kwd := []) T.K59.ob_eq
    (by kernel_rfl) (fun s => by kernel_rfl) T.K59.run (by kernel_rfl) (by kernel_rfl) (by kernel_rfl) (by rfl) (by first | assumption | decide +kernel) (by decide +kernel) ⟨rfl, rfl, rfl, rfl, rfl, by decide +kernel⟩ ?hw ?hc
  case hw => w_witness2
  case hc =>
    refine LamX.walk_ofTsE (l := PySem.Challenge.rw_turncoats_k59_what_turns_and_groups_refu) (n := 63) (k := 11) (x := "script") (CX := fun w => L2.CX (PySem.Challenge.rw_turncoats_k59_what_turns_and_groups_refu).prog w) rfl (by decide) (by kernel_rfl) ⟨rfl, by decide, by decide⟩ ?F ?X
    case X => exact fun w H s e s' z => T.K59.cx_no z
    intro w mg fa h Y G hmg0
    obtain ⟨K, KX, c⟩ := Y
    have hmg : mg ("law" : PySem.Str) = some (.ref fa) := by
      have e : (HandSHeadRun.topDef (OpenLaw.row PySem.Challenge.rw_turncoats_k59_what_turns_and_groups_refu).prog 48).name = ("law" : PySem.Str) := by kernel_rfl
      rw [← e]
      exact hmg0
    obtain ⟨fd, hb, hF⟩ := T.K59.facts (P := (PySem.Challenge.rw_turncoats_k59_what_turns_and_groups_refu).prog) (w := w) KX G hmg c
    refine ⟨K, KX, fd, [He.cT K ("_law_turns_refused", none), He.cT K ("law", none)], _, fun p hp => ?_, fun p hp => ?_, fun p hp => ?_, hb, fun H a ns hl _ hT hS => ⟨a, ns, rfl, hS, hl, T.K59.tabs_in hT, fun _ => rfl⟩, hF⟩
    · rcases T.K59.cs_mem hp with rfl | rfl
      · exact c.empty _ List.mem_cons_self
      · exact c.empty _ (List.mem_cons_of_mem _ List.mem_cons_self)
    · rcases T.K59.cs_mem hp with rfl | rfl
      · exact c.out _ List.mem_cons_self
      · exact c.out _ (List.mem_cons_of_mem _ List.mem_cons_self)
    · rcases T.K59.cs_mem hp with rfl | rfl
      · exact codeHd_of_K KX (c.hd _ List.mem_cons_self)
      · exact codeHd_of_K KX (c.hd _ (List.mem_cons_of_mem _ List.mem_cons_self))
end
