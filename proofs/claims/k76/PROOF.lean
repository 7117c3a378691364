import PyProof.Rows.All
import Wide.All
import OpenK.AllK
import Wide.FinOn
import HandS.ForMost
import KE.SortData
import HandS.TupAny
import HandS.Flow
import HandS.Deep
import HandS.Defaults
import HandS.Property
import HandS.Exc
import HandS.IsInst
import HandS.StrMore
import HandS.Style
import HandS.Wide
import HandS.TupMul
import HandS.TupLen
import HandS.WordsDict
import HandS.Replace
import HandS.SortInts
import HandS.More
import PyProof.CollectStr
import HandS.Codes
import HandS.Iter
import HandS.Comp
import HandS.ForDict
import HandS.MakeKwOnly
import KE.KParD
import HandS.Star
import HandS.SetTxt0
import PyProof.DictUpdate
import HandS.Spec
import HandS.HeadEnd
import HandS.HeadHook2
import KE.KStateDown
import HandS.Head0
import HandS.Head1
import HandS.Head2
import PySem.Challenge.RW_bandpress_k76_whole_blocks_cover
set_option Elab.async false
section
set_option linter.all false
set_option maxRecDepth 100000
set_option maxHeartbeats 0
set_option linter.all false
set_option maxRecDepth 100000
namespace Bp
open PySem
inductive D where
  | non | bl (b : Bool) | int (i : Int) | str (s : Str) | tup (l : List D) | ref (n : Nat)
  | exc (c : Nat) (l : List D) | clo (k : Nat) (l : List D)
mutual
def D.beq : D → D → Bool
  | .non, .non => true
  | .bl a, .bl b => a == b
  | .int a, .int b => decide (a = b)
  | .str a, .str b => decide (a = b)
  | .tup a, .tup b => D.beqL a b
  | .ref a, .ref b => Nat.beq a b
  | .exc c a, .exc d b => Nat.beq c d && D.beqL a b
  | .clo c a, .clo d b => Nat.beq c d && D.beqL a b
  | _, _ => false
def D.beqL : List D → List D → Bool
  | [], [] => true
  | a :: r, b :: s => D.beq a b && D.beqL r s
  | _, _ => false
end
mutual
theorem D.beq_refl : ∀ a : D, D.beq a a = true
  | .non => rfl
  | .bl a => by simp [D.beq]
  | .int a => by simp [D.beq]
  | .str a => by simp [D.beq]
  | .tup a => by simp [D.beq, D.beqL_refl a]
  | .ref a => by simp [D.beq]
  | .exc c a => by simp [D.beq, D.beqL_refl a]
  | .clo c a => by simp [D.beq, D.beqL_refl a]
theorem D.beqL_refl : ∀ a : List D, D.beqL a a = true
  | [] => rfl
  | a :: r => by simp [D.beqL, D.beq_refl a, D.beqL_refl r]
end
mutual
theorem D.beq_eq : ∀ a b : D, D.beq a b = true → a = b
  | .non, b, h => by cases b <;> simp_all [D.beq]
  | .bl a, b, h => by cases b <;> simp_all [D.beq]
  | .int a, b, h => by cases b <;> simp_all [D.beq]
  | .str a, b, h => by cases b <;> simp_all [D.beq]
  | .tup a, b, h => by
    cases b <;> simp [D.beq] at h
    rw [D.beqL_eq _ _ h]
  | .ref a, b, h => by cases b <;> simp_all [D.beq]
  | .exc c a, b, h => by
    cases b <;> simp [D.beq] at h
    rw [D.beqL_eq _ _ h.2, h.1]
  | .clo c a, b, h => by
    cases b <;> simp [D.beq] at h
    rw [D.beqL_eq _ _ h.2, h.1]
theorem D.beqL_eq : ∀ a b : List D, D.beqL a b = true → a = b
  | [], b, h => by cases b <;> simp_all [D.beqL]
  | a :: r, b, h => by
    cases b with
    | nil => simp [D.beqL] at h
    | cons b s =>
      simp [D.beqL] at h
      rw [D.beq_eq _ _ h.1, D.beqL_eq _ _ h.2]
end
instance : DecidableEq D := fun a b => decidable_of_iff (D.beq a b = true) ⟨D.beq_eq a b, fun h => h ▸ D.beq_refl a⟩
inductive DO where
  | lst (l : List D) | frz (l : List D) | tpl (l : List D) | dk (l : List (D × D)) | dt (l : List (D × D)) | lk (l : List (D × D)) | lt (l : List (D × D)) | ins (c : Nat) (fs : List (Nat × D))
  deriving DecidableEq
abbrev DH := List DO
abbrev Env := List (Option D)
mutual
def D.blw (n : Nat) : D → Bool
  | .ref k => Nat.blt k n
  | .tup l => D.blwL n l
  | .exc _ l => D.blwL n l
  | .clo _ l => D.blwL n l
  | _ => true
def D.blwL (n : Nat) : List D → Bool
  | [] => true
  | a :: r => D.blw n a && D.blwL n r
end
def blwP (n : Nat) : List (D × D) → Bool
  | [] => true
  | (a, b) :: r => D.blw n a && (D.blw n b && blwP n r)
def blwF (n : Nat) : List (Nat × D) → Bool
  | [] => true
  | (_, b) :: r => D.blw n b && blwF n r
def DO.blw (n : Nat) : DO → Bool
  | .lst l => D.blwL n l
  | .frz l => D.blwL n l
  | .tpl l => D.blwL n l
  | .dk l => blwP n l
  | .dt l => blwP n l
  | .lk l => blwP n l
  | .lt l => blwP n l
  | .ins _ l => blwF n l
def closed (n : Nat) : DH → Bool
  | [] => true
  | o :: r => o.blw n && closed n r
mutual
def D.ren (f : Nat → Nat) : D → D
  | .ref k => .ref (f k)
  | .tup l => .tup (D.renL f l)
  | .exc c l => .exc c (D.renL f l)
  | .clo c l => .clo c (D.renL f l)
  | .non => .non
  | .bl b => .bl b
  | .int i => .int i
  | .str s => .str s
def D.renL (f : Nat → Nat) : List D → List D
  | [] => []
  | a :: r => D.ren f a :: D.renL f r
end
def renP (f : Nat → Nat) : List (D × D) → List (D × D)
  | [] => []
  | (a, b) :: r => (D.ren f a, D.ren f b) :: renP f r
def renF (f : Nat → Nat) : List (Nat × D) → List (Nat × D)
  | [] => []
  | (a, b) :: r => (a, D.ren f b) :: renF f r
def DO.ren (f : Nat → Nat) : DO → DO
  | .lst l => .lst (D.renL f l)
  | .frz l => .frz (D.renL f l)
  | .tpl l => .tpl (D.renL f l)
  | .dk l => .dk (renP f l)
  | .dt l => .dt (renP f l)
  | .lk l => .lk (renP f l)
  | .lt l => .lt (renP f l)
  | .ins c l => .ins c (renF f l)
mutual
def D.refs (n : Nat) : D → List Nat
  | .ref k => if k < n then [] else [k]
  | .tup l => D.refsL n l
  | .exc _ l => D.refsL n l
  | .clo _ l => D.refsL n l
  | _ => []
def D.refsL (n : Nat) : List D → List Nat
  | [] => []
  | a :: r => D.refs n a ++ D.refsL n r
end
def refsP (n : Nat) : List (D × D) → List Nat
  | [] => []
  | (a, b) :: r => D.refs n a ++ (D.refs n b ++ refsP n r)
def refsF (n : Nat) : List (Nat × D) → List Nat
  | [] => []
  | (_, b) :: r => D.refs n b ++ refsF n r
def DO.refs (n : Nat) : DO → List Nat
  | .lst l => D.refsL n l
  | .frz l => D.refsL n l
  | .tpl l => D.refsL n l
  | .dk l => refsP n l
  | .dt l => refsP n l
  | .lk l => refsP n l
  | .lt l => refsP n l
  | .ins _ l => refsF n l
inductive RE where
  | ok (v : D) (h : DH) | ex (c : Nat) (l : List D) (h : DH) | bad
inductive RA where
  | ok (v : List D) (h : DH) | ex (c : Nat) (l : List D) (h : DH) | bad
inductive RS where
  | nx (e : Env) (h : DH) | rt (v : D) (h : DH) | bk (e : Env) (h : DH) | ct (e : Env) (h : DH) | ex (c : Nat) (l : List D) (e : Env) (h : DH) | bad
structure Gm where
  call : Nat → List D → DH → RE
  low : Nat → List D → DH → RE
abbrev ME := Gm → Env → DH → RE
abbrev MA := Gm → Env → DH → RA
abbrev MS := Gm → Env → DH → RS
def reach (h : DH) (n : Nat) : Nat → List Nat → List Nat → List Nat
  | 0, _, seen => seen
  | _ + 1, [], seen => seen
  | k + 1, i :: todo, seen => if seen.contains i then reach h n k todo seen else match h[i]? with
    | some o => reach h n k (todo ++ o.refs n) (seen ++ [i])
    | none => reach h n k todo seen
def place (n : Nat) (seen : List Nat) (i : Nat) : Nat := if i < n then i else n + seen.idxOf i
def pick (h : DH) (f : Nat → Nat) : List Nat → DH
  | [] => []
  | i :: r => match h[i]? with
    | some o => o.ren f :: pick h f r
    | none => pick h f r
def wholeSeen (h : DH) (n : Nat) (seen : List Nat) : Bool := decide seen.Nodup && seen.all fun i => decide (n ≤ i) && match h[i]? with
  | some o => (o.refs n).all fun j => seen.contains j
  | none => false
def trim (h h' : DH) (v : D) : D × DH :=
  if h'.length = h.length then (v, h') else
  if h'.take h.length = h ∨ closed h.length (h'.take h.length) = true then
    let seen := reach h' h.length 64 (v.refs h.length) []
    if ((v.refs h.length).all fun j => seen.contains j) && wholeSeen h' h.length seen then (v.ren (place h.length seen), h'.take h.length ++ pick h' (place h.length seen) seen)
    else (v, h')
  else (v, h')
def finish (h : DH) : RE → RE
  | .ok v h' => .ok (trim h h' v).1 (trim h h' v).2
  | .ex c l h' => .ex c l (if h'.take h.length = h ∧ D.blwL h.length l = true then h else h')
  | .bad => .bad
end Bp
end

section
set_option linter.all false
set_option maxRecDepth 100000
set_option maxHeartbeats 0
set_option linter.all false
set_option maxRecDepth 100000
namespace Bp
open PySem
abbrev lim : Nat := 16777216
def RE.bind (r : RE) (f : D → DH → RE) : RE := match r with
  | .ok v h => f v h
  | .ex c l h => .ex c l h
  | .bad => .bad
def RA.bind (r : RA) (f : List D → DH → RE) : RE := match r with
  | .ok v h => f v h
  | .ex c l h => .ex c l h
  | .bad => .bad
def RE.toS (r : RE) (e : Env) (f : D → DH → RS) : RS := match r with
  | .ok v h => f v h
  | .ex c l h => .ex c l e h
  | .bad => .bad
abbrev RV := Option (D × DH)
def ofV : RV → RE
  | some p => .ok p.1 p.2
  | none => .bad
def alloc (o : DO) (h : DH) : RV := some (.ref h.length, h ++ [o])
def mapO {α β : Type} (f : α → Option β) : List α → Option (List β)
  | [] => some []
  | a :: r => match f a with
    | some b => match mapO f r with
      | some s => some (b :: s)
      | none => none
    | none => none
def toPD (h : DH) : Nat → D → Option PyData
  | 0, _ => none
  | k + 1, d => match d with
    | .non => some .none
    | .bl b => some (.bool b)
    | .int i => some (.int i)
    | .str s => some (.str s)
    | .tup l => (mapO (toPD h k) l).map .tuple
    | .ref n => match h[n]? with
      | some (.lst l) => (mapO (toPD h k) l).map .list
      | some (.frz l) => (mapO (toPD h k) l).map .list
      | some (.tpl l) => (mapO (toPD h k) l).map .tuple
      | _ => none
    | _ => none
def eqP (h : DH) (x y : D) : Option Bool := match x, y with
  | .int i, .int j => some (decide (i = j))
  | .str a, .str b => some (decide (a = b))
  | .bl a, .bl b => some (decide (a = b))
  | .non, .non => some true
  | _, _ => match toPD h 65 x, toPD h 65 y with
    | some a, some b => if SeqAt.shaped a && SeqAt.shaped b then some (PyData.eqv a b) else none
    | _, _ => none
def ltP (x y : D) : Option Bool := match x, y with
  | .int i, .int j => some (decide (i < j))
  | _, _ => none
def leP (x y : D) : Option Bool := match x, y with
  | .int i, .int j => some (decide (i ≤ j))
  | _, _ => none
def keyOf : D → Option L2.Key
  | .int i => some (.inl i)
  | .str s => some (.inr s)
  | _ => none
def tkeyOf : D → Option (List L2.Key)
  | .tup l => mapO keyOf l
  | _ => none
def dfind (kvs : List (D × D)) (k : D) : Option D := (kvs.find? fun p => decide (p.1 = k)).map (·.2)
def dset (kvs : List (D × D)) (k v : D) : List (D × D) := if (kvs.any fun p => decide (p.1 = k)) = true then kvs.map (fun p => if p.1 = k then (p.1, v) else p) else kvs ++ [(k, v)]
def dget (o : DO) (k : D) : Option (Option D) := match o with
  | .dk kvs => match keyOf k with
    | some _ => some (dfind kvs k)
    | none => match tkeyOf k with
      | some _ => if kvs = [] then some none else none
      | none => none
  | .lk kvs => match keyOf k with
    | some _ => some (dfind kvs k)
    | none => none
  | .dt kvs => match tkeyOf k with
    | some _ => some (dfind kvs k)
    | none => none
  | .lt kvs => match tkeyOf k with
    | some _ => some (dfind kvs k)
    | none => none
  | _ => none
def dput (o : DO) (k v : D) : Option DO := match o with
  | .dk kvs => if kvs.length < lim then match keyOf k with
    | some _ => some (.dk (dset kvs k v))
    | none => match tkeyOf k with
      | some _ => if kvs = [] then some (.dt [(k, v)]) else none
      | none => none
    else none
  | .dt kvs => if kvs.length < lim then match tkeyOf k with
    | some _ => some (.dt (dset kvs k v))
    | none => none
    else none
  | _ => none
def listAt (h : DH) (n : Nat) : Option (List D) := match h[n]? with
  | some (.lst l) => some l
  | some (.frz l) => some l
  | _ => none
def tplAt (h : DH) (n : Nat) : Option (List D) := match h[n]? with
  | some (.tpl l) => some l
  | _ => none
def seqOf (h : DH) : D → Option (List D)
  | .tup l => some l
  | .ref n => match tplAt h n with
    | some l => some l
    | none => listAt h n
  | _ => none
def inP (h : DH) (x y : D) : Option Bool := match y with
  | .str t => match x with
    | .str s => some (!(Builtin.Str.occurrences t s 0 t.length 1).isEmpty)
    | _ => none
  | _ => match seqOf h y with
    | some l => match toPD h 65 x, mapO (toPD h 64) l with
      | some a, some ps => if SeqAt.shaped a && SeqAt.shaped (.list ps) then some (ps.any fun p => PyData.eqv p a) else none
      | _, _ => none
    | none => match y with
      | .ref n => match h[n]? with
        | some o => (dget o x).map (·.isSome)
        | none => none
      | _ => none
def isP (x y : D) : Option Bool := match y with
  | .non => some (decide (x = .non))
  | _ => none
def cmpD (op : CmpOp) (h : DH) (x y : D) : Option Bool := match op with
  | .Eq => eqP h x y
  | .NotEq => (eqP h x y).map (!·)
  | .Lt => ltP x y
  | .LtE => leP x y
  | .Gt => ltP y x
  | .GtE => leP y x
  | .In => inP h x y
  | .NotIn => (inP h x y).map (!·)
  | .Is => isP x y
  | .IsNot => (isP x y).map (!·)
def truD (h : DH) : D → Option Bool
  | .non => some false
  | .bl b => some b
  | .int i => some (i != 0)
  | .str s => if s.length ≤ lim then some ((s.length : Int) != 0) else none
  | .tup l => some (!l.isEmpty)
  | .ref n => match h[n]? with
    | some (.lst l) => some (!l.isEmpty)
    | some (.frz l) => some (!l.isEmpty)
    | some (.tpl l) => some (!l.isEmpty)
    | some (.dk l) => some (!l.isEmpty)
    | _ => none
  | _ => none
@[irreducible] def small64 (i : Int) : Bool := decide (-18446744073709551616 < i) && decide (i < 18446744073709551616)
def mulOk (i j : Int) : Bool := small64 i || small64 j || decide (i.natAbs.log2 + j.natAbs.log2 < 900000)
@[irreducible] def divOk (j : Int) : Bool := decide (0 < j) && (decide (j < 1073741824) || decide (j.natAbs.log2 < 8000))
def opAdd (h : DH) (x y : D) : RV := match x, y with
  | .int i, .int j => some (.int (i + j), h)
  | .str a, .str b => if a.length + b.length ≤ lim then some (.str (a ++ b), h) else none
  | .tup a, .tup b => if a.length + b.length ≤ lim then some (.tup (a ++ b), h) else none
  | .ref a, .ref b => match h[a]?, h[b]? with
    | some (.lst u), some (.lst v) => if u.length + v.length ≤ lim then alloc (.lst (u ++ v)) h else none
    | _, _ => none
  | _, _ => none
def rep (k : Int) (l : List D) : List D := (List.replicate k.toNat l).flatten
def opMul (h : DH) (x y : D) : RV := match x, y with
  | .int i, .int j => if mulOk i j then some (.int (i * j), h) else none
  | .ref a, .int k => match h[a]? with
    | some (.lst u) => if small64 k && decide (u.length * k.toNat ≤ lim) && decide (k < 9223372036854775808) && decide (-9223372036854775808 ≤ k) then alloc (.lst (rep k u)) h else none
    | _ => none
  | .tup u, .int k => if !u.isEmpty && (decide (2 ≤ k) && (decide (k ≤ 1000) && decide (u.length ≤ 1000))) then some (.tup (rep k u), h) else none
  | _, _ => none
def opI (f : Int → Int → Option Int) (h : DH) (x y : D) : RV := match x, y with
  | .int i, .int j => match f i j with
    | some k => some (.int k, h)
    | none => none
  | _, _ => none
def fSub (i j : Int) : Option Int := some (i - j)
def fDiv (i j : Int) : Option Int := if divOk j then some (i / j) else none
def fMod (i j : Int) : Option Int := if 0 < j then some (i % j) else none
@[irreducible] def powOk (i j : Int) : Bool := decide (0 ≤ j) && (decide (j ≤ 1000000) && decide (i.natAbs < 18446744073709551616))
def fPow (i j : Int) : Option Int := if powOk i j then some (i ^ j.toNat) else none
def fShl (i j : Int) : Option Int := if powOk i j then some (i * 2 ^ j.toNat) else none
def fShr (i j : Int) : Option Int := if 0 ≤ j then some (i / 2 ^ j.toNat) else none
def fAnd (i j : Int) : Option Int := some (Builtin.bitAnd i j)
def fXor (i j : Int) : Option Int := some (Builtin.bitXor i j)
def binD (op : Operator) (h : DH) (x y : D) : RV := match op with
  | .Add => opAdd h x y
  | .Sub => opI fSub h x y
  | .Mult => opMul h x y
  | .FloorDiv => opI fDiv h x y
  | .Mod => opI fMod h x y
  | .Pow => opI fPow h x y
  | .LShift => opI fShl h x y
  | .RShift => opI fShr h x y
  | .BitAnd => opI fAnd h x y
  | .BitXor => opI fXor h x y
  | _ => none
def augD (op : Operator) (h : DH) (x y : D) : RV := match x, y with
  | .int i, .int j => match op with
    | .Add => some (.int (i + j), h)
    | .Sub => some (.int (i - j), h)
    | .Mult => if small64 i || small64 j then some (.int (i * j), h) else none
    | _ => none
  | .str a, .str b => match op with
    | .Add => if a.length + b.length ≤ lim then some (.str (a ++ b), h) else none
    | _ => none
  | _, _ => none
def ixN (n : Nat) (i : Int) : Option Nat := L2.ixN n i
def atI {α : Type} (xs : List α) (i : Int) : Option α := L2.atI xs i
def cutL {α : Type} (xs : List α) (lo hi : Option Int) : List α := (xs.drop (HT.sIx xs.length 0 lo)).take (HT.sIx xs.length xs.length hi - HT.sIx xs.length 0 lo)
def lsub (h : DH) (l : List D) (y : D) : RV := match y with
  | .int i => match atI l i with
    | some v => some (v, h)
    | none => none
  | _ => none
def subD (h : DH) (x y : D) : RV := match x with
  | .tup l => match y with
    | .int i => match atI l i with
      | some v => some (v, h)
      | none => none
    | _ => none
  | .str s => match y with
    | .int i => if s.length ≤ lim then match atI s.cps.toList i with
      | some c => some (.str ⟨#[c]⟩, h)
      | none => none
      else none
    | _ => none
  | .ref n => match h[n]? with
    | some (.lst l) => lsub h l y
    | some (.frz l) => lsub h l y
    | some (.tpl l) => lsub h l y
    | some o => match dget o y with
      | some (some v) => some (v, h)
      | _ => none
    | none => none
  | _ => none
def subR (h : DH) (x y : D) : RV := match x with
  | .ref n => match h[n]? with
    | some (.lst l) => lsub h l y
    | some (.frz l) => lsub h l y
    | some (.tpl _) => none
    | some o => match dget o y with
      | some (some v) => some (v, h)
      | _ => none
    | none => none
  | _ => none
def sliceD (h : DH) (x : D) (lo hi : Option Int) : RV := match x with
  | .tup l => some (.tup (cutL l lo hi), h)
  | .str s => if s.length ≤ lim then some (.str (L2.cutS s lo hi), h) else none
  | .ref n => match h[n]? with
    | some (.lst l) => alloc (.lst (cutL l lo hi)) h
    | _ => none
  | _ => none
def revD (h : DH) (x : D) : RV := match x with
  | .ref n => match h[n]? with
    | some (.lst l) => alloc (.lst l.reverse) h
    | _ => none
  | _ => none
def putD (h : DH) (x y v : D) : Option DH := match x with
  | .ref n => match h[n]? with
    | some (.lst l) => match y with
      | .int i => (ixN l.length i).map fun j => h.set n (.lst (l.set j v))
      | _ => none
    | some (.dk kvs) => (dput (.dk kvs) y v).map fun o => h.set n o
    | some (.dt kvs) => (dput (.dt kvs) y v).map fun o => h.set n o
    | _ => none
  | _ => none
def fput (f : Nat) (v : D) : List (Nat × D) → List (Nat × D)
  | [] => [(f, v)]
  | (g, u) :: r => if g = f then (g, v) :: r else (g, u) :: fput f v r
def setF (k : Nat) (h : DH) (x : D) (f : Nat) (v : D) : Option DH := match x with
  | .ref n => match h[n]? with
    | some (.ins c fs) => if c = k ∧ fs.length < 900 then some (h.set n (.ins c (fput f v fs))) else none
    | _ => none
  | _ => none
open PySem.W in
def sortOk (ps : List PyData) : Bool := (ps.all fun a => ps.all fun b => alike a b) && ((ps.all fun a => match a with | .tuple (_ :: _) => true | _ => false) || (ps.all fun a => match a with | .tuple _ => false | .none => false | _ => true)) && (ps.all fun a => decide (a.depth ≤ 64))
open PySem.W in
def sortP (h : DH) (l : List D) : Option (List D) := match mapO (toPD h 64) l with
  | some ps => if sortOk ps = true then some (((l.zip ps).mergeSort fun p q => !dataLt q.2 p.2).map Prod.fst) else none
  | none => none
def intsOf : List D → Option (List Int) := mapO fun d => match d with
  | .int i => some i
  | _ => none
def blsOf : List D → Option (List Bool) := mapO fun d => match d with
  | .bl b => some b
  | _ => none
def lenD (h : DH) : D → Option Nat
  | .str s => if s.length ≤ lim then some s.length else none
  | .tup l => some l.length
  | .ref n => match h[n]? with
    | some (.lst l) => some l.length
    | some (.frz l) => some l.length
    | some (.tpl l) => some l.length
    | some (.dk l) => some l.length
    | _ => none
  | _ => none
inductive Bf where
  | len | abs | int | max2 | min2 | max1 | min1 | sum | all | any | sorted | tuple | list | dict
def maxL : List Int → Option Int
  | [] => none
  | a :: r => some (r.foldl max a)
def minL : List Int → Option Int
  | [] => none
  | a :: r => some (r.foldl min a)
def sortStr (z : Str) : List D := (z.cps.toList.mergeSort fun a b => decide (a ≤ b)).map fun c => .str ⟨#[c]⟩
def one {α : Type} (h : DH) (g : List D → Option α) (F : α → RV) : List D → RV
  | [.ref n] => match (listAt h n).bind g with
    | some b => F b
    | none => none
  | _ => none
def bfD (b : Bf) (h : DH) (vs : List D) : RV := match b, vs with
  | .len, [x] => match lenD h x with
    | some n => some (.int n, h)
    | none => none
  | .abs, [.int i] => some (.int i.natAbs, h)
  | .int, [.int i] => some (.int i, h)
  | .int, [.bl b] => some (.int (if b then 1 else 0), h)
  | .max2, [.int i, .int j] => some (.int (max i j), h)
  | .min2, [.int i, .int j] => some (.int (min i j), h)
  | .max1, vs => one h intsOf (fun b => match maxL b with
    | some i => some (.int i, h)
    | none => none) vs
  | .min1, vs => one h intsOf (fun b => match minL b with
    | some i => some (.int i, h)
    | none => none) vs
  | .sum, vs => one h intsOf (fun b => some (.int b.sum, h)) vs
  | .all, vs => one h blsOf (fun b => some (.bl (b.all id), h)) vs
  | .any, vs => one h blsOf (fun b => some (.bl (b.any id), h)) vs
  | .sorted, vs => match vs with
    | [.str z] => if z.cps.size < 64 then alloc (.lst (sortStr z)) h else none
    | vs => one h (sortP h) (fun b => alloc (.lst b) h) vs
  | .tuple, [.tup l] => some (.tup l, h)
  | .tuple, [.ref n] => match listAt h n with
    | some l => some (.tup l, h)
    | none => match tplAt h n with
      | some _ => some (.ref n, h)
      | none => none
  | .list, [x] => match seqOf h x with
    | some l => alloc (.lst l) h
    | none => none
  | .dict, [.ref n] => match h[n]? with
    | some (.dk kvs) => alloc (.dk kvs) h
    | _ => none
  | _, _ => none
inductive Mf where
  | append | extend | pop0 | pop1 | sindex | lindex | get1 | get2 | update
def idxOfD (l : List D) (x : D) : Option Nat := if l.any (fun y => decide (y = x)) then some (l.idxOf x) else none
def strIdx (t s : Str) : Option Nat := (Builtin.Str.occurrences t s 0 t.length 1).head?
def mfD (m : Mf) (h : DH) (o : D) (vs : List D) : RV := match m with
  | .append => match o, vs with
    | .ref n, [y] => match h[n]? with
      | some (.lst l) => if l.length < lim then some (.non, h.set n (.lst (l ++ [y]))) else none
      | _ => none
    | _, _ => none
  | .extend => match o, vs with
    | .ref n, [.ref b] => match h[n]?, h[b]? with
      | some (.lst l), some (.lst r) => if l.length + r.length ≤ lim then some (.non, h.set n (.lst (l ++ r))) else none
      | _, _ => none
    | _, _ => none
  | .pop1 => match o, vs with
    | .ref n, [.int i] => match h[n]? with
      | some (.lst l) => if small64 i && decide (i < 9223372036854775808) && decide (-9223372036854775808 ≤ i) then match ixN l.length i with
        | some k => match l[k]? with
          | some y => some (y, h.set n (.lst (l.eraseIdx k)))
          | none => none
        | none => none
        else none
      | _ => none
    | _, _ => none
  | .pop0 => match o, vs with
    | .ref n, [] => match h[n]? with
      | some (.lst l) => match l[l.length - 1]? with
        | some y => some (y, h.set n (.lst l.dropLast))
        | none => none
      | _ => none
    | _, _ => none
  | .get1 => match o, vs with
    | .ref n, [k] => match h[n]? with
      | some o => match dget o k with
        | some r => some (r.getD .non, h)
        | none => none
      | none => none
    | _, _ => none
  | .get2 => match o, vs with
    | .ref n, [k, d] => match h[n]? with
      | some o => match dget o k with
        | some r => some (r.getD d, h)
        | none => none
      | none => none
    | _, _ => none
  | .update => match o, vs with
    | .ref n, [.ref b] => match h[n]?, h[b]? with
      | some (.dk l), some (.dk r) => if l.length + r.length ≤ lim ∧ n ≠ b then some (.non, h.set n (.dk (r.foldl (fun acc p => dset acc p.1 p.2) l))) else none
      | _, _ => none
    | _, _ => none
  | .sindex => match o, vs with
    | .str t, [.str s] => match strIdx t s with
      | some j => some (.int j, h)
      | none => none
    | _, _ => none
  | .lindex => match o, vs with
    | .ref n, [.int i] => match (listAt h n).bind intsOf with
      | some ns => if ns.contains i then some (.int (ns.idxOf i), h) else none
      | none => none
    | _, _ => none
def gcE (m : ME) : ME := fun g e h => finish h (m g e h)
def mVar (i : Nat) : ME := fun _ e h => match e[i]? with
  | some (some v) => .ok v h
  | _ => .bad
def mK (d : D) : ME := fun _ _ h => .ok d h
def aNil : MA := fun _ _ h => .ok [] h
def aCons (m : ME) (a : MA) : MA := fun g e h => match m g e h with
  | .ok v h1 => match a g e h1 with
    | .ok vs h2 => .ok (v :: vs) h2
    | .ex c l h2 => .ex c l h2
    | .bad => .bad
  | .ex c l h1 => .ex c l h1
  | .bad => .bad
def aMap (f : List D → Option (List D)) (a : MA) : MA := fun g e h => match a g e h with
  | .ok vs h1 => match f vs with
    | some ws => .ok ws h1
    | none => .bad
  | .ex c l h1 => .ex c l h1
  | .bad => .bad
def mTup (a : MA) : ME := fun g e h => (a g e h).bind fun vs h1 => if vs.length ≤ lim then .ok (.tup vs) h1 else .bad
def mLst (a : MA) : ME := fun g e h => (a g e h).bind fun vs h1 => if vs.length ≤ lim then ofV (alloc (.lst vs) h1) else .bad
def aL : List ME → MA
  | [] => aNil
  | m :: r => aCons m (aL r)
def mergeD : List (D × D) → List Str → List D → List (D × D)
  | acc, k :: ks, v :: vs => mergeD (dset acc (.str k) v) ks vs
  | acc, _, _ => acc
def mDict (ks : List Str) (ms : List ME) : ME := fun g e h => if ms.length = ks.length ∧ ks.length ≤ 15 then (aL ms g e (h ++ [.dk []])).bind fun vs h1 =>
  if h1[h.length]? = some (.dk []) then .ok (.ref h.length) (h1.set h.length (.dk (mergeD [] ks vs))) else .bad
  else .bad
def mBin (op : Operator) (m1 m2 : ME) : ME := fun g e h => (m1 g e h).bind fun x h1 => (m2 g e h1).bind fun y h2 => ofV (binD op h2 x y)
def mNeg (m : ME) : ME := fun g e h => (m g e h).bind fun x h1 => match x with
  | .int i => .ok (.int (-i)) h1
  | _ => .bad
def okV (o : Option Bool) (h : DH) : RV := match o with
  | some b => some (.bl b, h)
  | none => none
def okB (o : Option Bool) (h : DH) : RE := match o with
  | some b => .ok (.bl b) h
  | none => .bad
def mCmp (op : CmpOp) (m1 m2 : ME) : ME := fun g e h => (m1 g e h).bind fun x h1 => (m2 g e h1).bind fun y h2 => okB (cmpD op h2 x y) h2
def mChain (op op' : CmpOp) (m1 m2 m3 : ME) : ME := fun g e h => (m1 g e h).bind fun x h1 => (m2 g e h1).bind fun y h2 => match cmpD op h2 x y with
  | some true => (m3 g e h2).bind fun z h3 => okB (cmpD op' h3 y z) h3
  | some false => .ok (.bl false) h2
  | none => .bad
def onB (r : RE) (f : Bool → DH → RE) : RE := r.bind fun v h => match v with
  | .bl b => f b h
  | _ => .bad
def tOf (m : ME) : ME := fun g e h => (m g e h).bind fun x h1 => okB (truD h1 x) h1
def tNot (t : ME) : ME := fun g e h => onB (t g e h) fun b h1 => .ok (.bl (!b)) h1
def tAnd (t u : ME) : ME := fun g e h => onB (t g e h) fun b h1 => if b then u g e h1 else .ok (.bl false) h1
def tOr (t u : ME) : ME := fun g e h => onB (t g e h) fun b h1 => if b then .ok (.bl true) h1 else u g e h1
def mAnd (m1 m2 : ME) : ME := fun g e h => (m1 g e h).bind fun x h1 => match truD h1 x with
  | some b => if b then m2 g e h1 else .ok x h1
  | none => .bad
def mOr (m1 m2 : ME) : ME := fun g e h => (m1 g e h).bind fun x h1 => match truD h1 x with
  | some b => if b then .ok x h1 else m2 g e h1
  | none => .bad
def mNot (m : ME) : ME := fun g e h => (m g e h).bind fun x h1 => okB ((truD h1 x).map (!·)) h1
def mIf (t m1 m2 : ME) : ME := fun g e h => onB (t g e h) fun b h1 => if b then m1 g e h1 else m2 g e h1
def mSub (m1 m2 : ME) : ME := fun g e h => (m1 g e h).bind fun x h1 => (m2 g e h1).bind fun y h2 => ofV (subD h2 x y)
def pNone : Gm → Env → DH → (Option Int → DH → RE) → RE := fun _ _ h f => f none h
def pSome (m : ME) : Gm → Env → DH → (Option Int → DH → RE) → RE := fun g e h f => (m g e h).bind fun v h1 => match v with
  | .int i => f (some i) h1
  | _ => .bad
def mSlice (m : ME) (lo hi : Gm → Env → DH → (Option Int → DH → RE) → RE) : ME := fun g e h => (m g e h).bind fun x h1 => lo g e h1 fun a h2 => hi g e h2 fun b h3 => ofV (sliceD h3 x a b)
def mRev (m : ME) : ME := fun g e h => (m g e h).bind fun x h1 => ofV (revD h1 x)
def mBf (b : Bf) (a : MA) : ME := fun g e h => (a g e h).bind fun vs h1 => ofV (bfD b h1 vs)
def mfTy (m : Mf) (h : DH) (x : D) : Bool := match m with
  | .sindex => match x with
    | .str _ => true
    | _ => false
  | .get1 | .get2 | .update => match x with
    | .ref n => match h[n]? with
      | some (.dk _) => true
      | some (.dt _) => true
      | _ => false
    | _ => false
  | _ => match x with
    | .ref n => (listAt h n).isSome
    | _ => false
def mMf (m : Mf) (o : ME) (a : MA) : ME := fun g e h => (o g e h).bind fun x h1 => if mfTy m h1 x then (a g e h1).bind fun vs h2 => ofV (mfD m h2 x vs) else .bad
def mCall (f : Nat) (a : MA) : ME := fun g e h => (a g e h).bind fun vs h1 => g.call f vs h1
def mkD (c : Nat) (init : List D → DH → RE) (vs : List D) (h : DH) : RE := match init (.ref h.length :: vs) (h ++ [.ins c []]) with
  | .ok .non h' => .ok (.ref h.length) h'
  | .ex c l h' => .ex c l h'
  | _ => .bad
def mMake (c f : Nat) (a : MA) : ME := fun g e h => (a g e h).bind fun vs h1 => mkD c (g.low f) vs h1
def mMeth (tb : List (Nat × Nat)) (m : Nat) (o : ME) (a : MA) : ME := fun g e h => (o g e h).bind fun x h1 => match x with
  | .ref n => match h1[n]? with
    | some (.ins c fs) => match tb.lookup c with
      | some f => match fs.lookup m with
        | none => (a g e h1).bind fun vs h2 => g.call f (x :: vs) h2
        | some _ => .bad
      | none => .bad
    | _ => .bad
  | _ => .bad
def mAttr (tb : List (Nat × Nat)) (fl : List Nat) (f : Nat) (o : ME) : ME := fun g e h => (o g e h).bind fun x h1 => match x with
  | .ref n => match h1[n]? with
    | some (.ins c fs) => match tb.lookup c with
      | some p => g.low p [x] h1
      | none => if fl.contains c then match fs.lookup f with
        | some v => .ok v h1
        | none => .bad
        else .bad
    | _ => .bad
  | _ => .bad
def kindH (h : DH) (n : Nat) : Option (Option Nat × String) := match h[n]? with
  | some (.lst _) => some (none, "list")
  | some (.frz _) => some (none, "list")
  | some (.tpl _) => some (none, "tuple")
  | some (.dk _) => some (none, "dict")
  | some (.dt _) => some (none, "dict")
  | some (.lk _) => some (none, "dict")
  | some (.ins c _) => some (some c, "")
  | _ => none
def kindD (h : DH) : D → Option (Option Nat × String)
  | .non => some (none, "NoneType")
  | .bl _ => some (none, "bool")
  | .int _ => some (none, "int")
  | .str _ => some (none, "str")
  | .tup _ => some (none, "tuple")
  | .ref n => kindH h n
  | _ => none
inductive Ty where
  | ty (t : String) | cls (c : Nat)
  deriving DecidableEq
def tyName : Ty → String
  | .ty t => t
  | .cls _ => ""
def isTy (sub : List (Option Nat × String × Ty × Bool)) (k : Option Nat × String) (t : Ty) : Option Bool := (sub.find? fun r => decide (r.1 = k.1) && (decide (r.2.1 = k.2) && decide (r.2.2.1 = t))).map (·.2.2.2)
def anyTy (sub : List (Option Nat × String × Ty × Bool)) (k : Option Nat × String) : List Ty → Option Bool
  | [] => some false
  | t :: r => match isTy sub k t with
    | some true => some true
    | some false => anyTy sub k r
    | none => none
def mIsi (sub : List (Option Nat × String × Ty × Bool)) (ts : List Ty) (m : ME) : ME := fun g e h => (m g e h).bind fun x h1 => match kindD h1 x with
  | some k => okB (anyTy sub k ts) h1
  | none => .bad
inductive RI where
  | ok (xs : List D) (deps : List (Nat × DO)) (lock : Option Nat) (h : DH) | ex (c : Nat) (l : List D) (h : DH) | bad
abbrev MI := Gm → Env → DH → RI
def strItems (s : Str) : List D := s.cps.toList.map fun c => .str ⟨#[c]⟩
def iterD (h : DH) : D → Option (List D × List (Nat × DO))
  | .tup l => some (l, [])
  | .str s => some (strItems s, [])
  | .ref n => match h[n]? with
    | some (.lst l) => some (l, [(n, .lst l)])
    | some (.frz l) => some (l, [(n, .frz l)])
    | some (.tpl l) => some (l, [(n, .tpl l)])
    | _ => none
  | _ => none
def lockO : DO → Option DO
  | .dk l => some (.lk l)
  | .dt l => some (.lt l)
  | _ => none
def unlockO : DO → DO
  | .lk l => .dk l
  | .lt l => .dt l
  | o => o
def keysO : DO → List D
  | .lk l => l.map (·.1)
  | .lt l => l.map (·.1)
  | _ => []
def unl (lock : Option Nat) (h : DH) : DH := match lock with
  | none => h
  | some n => match h[n]? with
    | some o => h.set n (unlockO o)
    | none => h
def RE.toI (r : RE) (f : D → DH → RI) : RI := match r with
  | .ok v h => f v h
  | .ex c l h => .ex c l h
  | .bad => .bad
def iVal (m : ME) : MI := fun g e h => (m g e h).toI fun v h1 => match iterD h1 v with
  | some (xs, ds) => .ok xs ds none h1
  | none => match v with
    | .ref n => match (h[n]?).bind lockO with
      | some o => match m g e (h.set n o) with
        | .ok w h2 => if w = .ref n ∧ h2 = h.set n o then .ok (keysO o) [] (some n) h2 else .bad
        | _ => .bad
      | none => .bad
    | _ => .bad
@[irreducible] def inR (i : Int) : Bool := decide (-4611686018427387904 ≤ i) && decide (i < 4611686018427387904)
def rangeL (a : Int) (n : Nat) (c : Int) : List D := (List.range n).map fun k => .int (a + (k : Nat) * c)
def RA.toI (r : RA) (f : List D → DH → RI) : RI := match r with
  | .ok v h => f v h
  | .ex c l h => .ex c l h
  | .bad => .bad
def iRange (a : MA) : MI := fun g e h => (a g e h).toI fun vs h1 => match vs with
  | [.int j] => if inR j then .ok (rangeL 0 j.toNat 1) [] none h1 else .bad
  | [.int i, .int j] => if inR i && inR j then .ok (rangeL i (j - i).toNat 1) [] none h1 else .bad
  | _ => .bad
def enumL : Nat → List D → List D
  | _, [] => []
  | k, x :: r => .tup [.int k, x] :: enumL (k + 1) r
def iEnum (m : ME) : MI := fun g e h => (m g e h).toI fun v h1 => match v with
  | .ref n => match h1[n]? with
    | some (.lst l) => .ok (enumL 0 l) [(n, .lst l)] none h1
    | _ => .bad
  | _ => .bad
def depsOk (h : DH) (deps : List (Nat × DO)) : Bool := deps.all fun p => decide (h[p.1]? = some p.2)
inductive Tg where
  | nm (i : Nat) | tp (l : List Tg)
mutual
def Tg.bind : Tg → D → Env → Option Env
  | .nm i, v, e => some (e.set i (some v))
  | .tp l, v, e => match v with
    | .tup xs => Tg.binds l xs e
    | _ => none
def Tg.binds : List Tg → List D → Env → Option Env
  | [], [], e => some e
  | t :: l, x :: xs, e => match t.bind x e with
    | some e1 => Tg.binds l xs e1
    | none => none
  | _, _, _ => none
end
mutual
def Tg.slots : Tg → List Nat
  | .nm i => [i]
  | .tp l => Tg.slotsL l
def Tg.slotsL : List Tg → List Nat
  | [] => []
  | t :: l => t.slots ++ Tg.slotsL l
end
inductive RC where
  | keep (y : D) (h : DH) | skip (h : DH) | bad
def loopC (n : Nat) (deps : List (Nat × DO)) (step : D → DH → RC) : List D → DH → RE
  | [], h => if depsOk h deps then .ok (.ref n) h else .bad
  | x :: r, h => if depsOk h deps then match step x h with
    | .keep y h' => match h'[n]? with
      | some (.lst acc) => if acc.length < lim then loopC n deps step r (h'.set n (.lst (acc ++ [y]))) else .bad
      | _ => .bad
    | .skip h' => loopC n deps step r h'
    | .bad => .bad
    else .bad
abbrev MG := Gm → D → Env → DH → RS
def wipeE (e : Env) : List Nat → Env
  | [] => e
  | v :: vs => (wipeE e vs).set v none
def stepC (tg : Tg) (t : ME) (m : ME) (g : Gm) (e : Env) (x : D) (h : DH) : RC := match tg.bind x e with
  | some e1 => match t g e1 h with
    | .ok (.bl true) h2 => match m g e1 h2 with
      | .ok y h3 => .keep y h3
      | _ => .bad
    | .ok (.bl false) h2 => .skip h2
    | _ => .bad
  | none => .bad
def mLC (mi : MI) (vs : List Nat) (tg : Tg) (t m : ME) : ME := fun g e h => match mi g e h with
  | .ok xs deps none h1 => match loopC h1.length deps (stepC tg t m g (wipeE e vs)) xs (h1 ++ [.lst []]) with
    | .ok v h2 => .ok v h2
    | _ => .bad
  | .ok _ _ (some _) _ => .bad
  | .ex c l h1 => .ex c l h1
  | .bad => .bad
def tYes : ME := mK (.bl true)
def gPat (t : Tg) : MG := fun _ v e h => match t.bind v e with
  | some e1 => .nx e1 h
  | none => .bad
def gSub (o i : ME) : MG := fun g v e h => (o g e h).toS e fun x h1 => (i g e h1).toS e fun y h2 => match putD h2 x y v with
  | some h3 => .nx e h3
  | none => .bad
def gAttr (k f : Nat) (o : ME) : MG := fun g v e h => (o g e h).toS e fun x h1 => match setF k h1 x f v with
  | some h2 => .nx e h2
  | none => .bad
def sNil : MS := fun _ e h => .nx e h
def sSeq (s t : MS) : MS := fun g e h => match s g e h with
  | .nx e1 h1 => t g e1 h1
  | r => r
def sExpr (m : ME) : MS := fun g e h => (m g e h).toS e fun _ h1 => .nx e h1
def sRet (m : ME) : MS := fun g e h => (m g e h).toS e fun v h1 => .rt v h1
def sRetN : MS := fun _ _ h => .rt .non h
def sAsg (m : ME) (tg : MG) : MS := fun g e h => (m g e h).toS e fun v h1 => tg g v e h1
def sPar (l : List Nat) (a : MA) : MS := fun g e h => match a g e h with
  | .ok vs h1 => if vs.length = l.length then .nx ((l.zip vs).foldl (fun e p => e.set p.1 (some p.2)) e) h1 else .bad
  | .ex c l h1 => .ex c l e h1
  | .bad => .bad
def sIf (t : ME) (s u : MS) : MS := fun g e h => (t g e h).toS e fun v h1 => match v with
  | .bl true => s g e h1
  | .bl false => u g e h1
  | _ => .bad
def sAug (i : Nat) (op : Operator) (m : ME) : MS := fun g e h => match e[i]? with
  | some (some x) => (m g e h).toS e fun y h1 => (ofV (augD op h1 x y)).toS e fun z h2 => .nx (e.set i (some z)) h2
  | _ => .bad
def sAugS (o i : ME) (op : Operator) (m : ME) : MS := fun g e h => (o g e h).toS e fun x h1 => (i g e h1).toS e fun y h2 => (ofV (subR h2 x y)).toS e fun u h3 => (m g e h3).toS e fun v h4 =>
  (ofV (augD op h4 u v)).toS e fun z h5 => match putD h5 x y z with
  | some h6 => .nx e h6
  | none => .bad
def loopS (deps : List (Nat × DO)) (body : D → Env → DH → RS) : List D → Env → DH → RS
  | [], e, h => if depsOk h deps then .nx e h else .bad
  | x :: r, e, h => if depsOk h deps then match body x e h with
    | .nx e1 h1 => loopS deps body r e1 h1
    | .ct e1 h1 => loopS deps body r e1 h1
    | .bk e1 h1 => .nx e1 h1
    | o => o
    else .bad
def RS.unl (lock : Option Nat) : RS → RS
  | .nx e h => .nx e (Bp.unl lock h)
  | .rt v h => .rt v (Bp.unl lock h)
  | .bk e h => .bk e (Bp.unl lock h)
  | .ct e h => .ct e (Bp.unl lock h)
  | .ex c l e h => match lock with
    | none => .ex c l e h
    | some _ => .bad
  | .bad => .bad
def stepS (tg : MG) (s : MS) (g : Gm) (x : D) (e : Env) (h : DH) : RS := match tg g x e h with
  | .nx e1 h1 => s g e1 h1
  | r => r
def sFor (mi : MI) (tg : MG) (s : MS) : MS := fun g e h => match mi g e h with
  | .ok xs deps none h1 => loopS deps (stepS tg s g) xs e h1
  | .ok _ _ (some _) _ => .bad
  | .ex c l h1 => .ex c l e h1
  | .bad => .bad
def wFuel : Nat := 1099511627776
def loopW (t : Env → DH → RE) (body : Env → DH → RS) : Nat → Env → DH → RS
  | 0, _, _ => .bad
  | k + 1, e, h => match t e h with
    | .ok (.bl true) h1 => match body e h1 with
      | .nx e1 h2 => loopW t body k e1 h2
      | .ct e1 h2 => loopW t body k e1 h2
      | .bk e1 h2 => .nx e1 h2
      | o => o
    | .ok (.bl false) h1 => .nx e h1
    | .ex c l h1 => .ex c l e h1
    | _ => .bad
def sWhile (t : ME) (s : MS) : MS := fun g e h => loopW (t g) (s g) wFuel e h
def sRaise (c : Nat) (a : MA) : MS := fun g e h => match a g e h with
  | .ok vs h1 => .ex c vs e h1
  | .ex c l h1 => .ex c l e h1
  | .bad => .bad
def RS.out : RS → RE
  | .nx _ h => .ok .non h
  | .rt v h => .ok v h
  | .ex c l _ h => .ex c l h
  | _ => .bad
def startE (n : Nat) (vs : List D) : Env := vs.map some ++ List.replicate (n - vs.length) none
def defD (np n : Nat) (s : MS) (g : Gm) (vs : List D) (h : DH) : RE := if vs.length = np then finish h (s g (startE n vs) h).out else .bad
end Bp
end

section
set_option linter.all false
set_option maxRecDepth 100000
set_option maxHeartbeats 0
set_option linter.all false
set_option maxRecDepth 100000
set_option autoImplicit false
set_option maxHeartbeats 1000000
namespace Bp
open PySem PySem.Spec PyProof.Rows L2
structure Rx where
  ca : Nat → Addr
  an : List Str
  co : List (D × Addr)
mutual
def Rp (φ : List Addr) (H : Hp) : D → V → Prop
  | .non, v => v = .non
  | .bl b, v => v = .bl b
  | .int i, v => v = .int i
  | .str s, v => v = .str s
  | .tup l, v => ∃ a xs, v = .ref a ∧ H a = some (.tup xs) ∧ RpL φ H l xs
  | .ref n, v => ∃ a, φ[n]? = some a ∧ v = .ref a
  | .exc _ _, _ => False
  | .clo _ _, _ => False
def RpL (φ : List Addr) (H : Hp) : List D → List V → Prop
  | [], xs => xs = []
  | d :: l, xs => ∃ x r, xs = x :: r ∧ Rp φ H d x ∧ RpL φ H l r
end
def RpK (φ : List Addr) (H : Hp) : List (D × D) → List (Key × V) → Prop
  | [], xs => xs = []
  | p :: l, xs => ∃ x r, xs = x :: r ∧ keyOf p.1 = some x.1 ∧ Rp φ H p.2 x.2 ∧ RpK φ H l r
def RpT (φ : List Addr) (H : Hp) : List (D × D) → List (List Key × V) → Prop
  | [], xs => xs = []
  | p :: l, xs => ∃ x r, xs = x :: r ∧ tkeyOf p.1 = some x.1 ∧ Rp φ H p.2 x.2 ∧ RpT φ H l r
def RpF (R : Rx) (φ : List Addr) (H : Hp) : List (Nat × D) → List (Str × V) → Prop
  | [], xs => xs = []
  | p :: l, xs => ∃ x r, xs = x :: r ∧ R.an[p.1]? = some x.1 ∧ Rp φ H p.2 x.2 ∧ RpF R φ H l r
def RO (R : Rx) (φ : List Addr) (H : Hp) : DO → Addr → Prop
  | .lst l, a => ∃ xs, H a = some (.lst xs) ∧ RpL φ H l xs
  | .frz l, a => ∃ o xs, H a = some (.frz o (.lst xs)) ∧ RpL φ H l xs
  | .tpl l, a => ∃ o xs, H a = some (.frz o (.tup xs)) ∧ RpL φ H l xs
  | .dk l, a => ∃ xs, H a = some (.dK xs) ∧ RpK φ H l xs
  | .dt l, a => ∃ xs, H a = some (.dT xs) ∧ RpT φ H l xs
  | .lk l, a => ∃ o xs, H a = some (.frz o (.dK xs)) ∧ RpK φ H l xs
  | .lt l, a => ∃ o xs, H a = some (.frz o (.dT xs)) ∧ RpT φ H l xs
  | .ins c fs, a => ∃ dx fv, H a = some (.ins (R.ca c) dx fv) ∧ RpF R φ H fs fv
structure Ext (φ : List Addr) (H : Hp) (φ' : List Addr) (H' : Hp) : Prop where
  pre : φ <+: φ'
  tup : ∀ b xs, H b = some (.tup xs) → H' b = some (.tup xs)
  frz : ∀ b o u, H b = some (.frz o u) → H' b = some (.frz o u)
theorem Ext.refl {φ : List Addr} {H : Hp} : Ext φ H φ H := ⟨List.prefix_rfl, fun _ _ h => h, fun _ _ _ h => h⟩
theorem Ext.trans {φ φ1 φ2 : List Addr} {H H1 H2 : Hp} (a : Ext φ H φ1 H1) (b : Ext φ1 H1 φ2 H2) : Ext φ H φ2 H2 :=
  ⟨a.pre.trans b.pre, fun x xs h => b.tup x xs (a.tup x xs h), fun x o u h => b.frz x o u (a.frz x o u h)⟩
theorem pre_get {φ φ' : List Addr} (h : φ <+: φ') {n : Nat} {a : Addr} (e : φ[n]? = some a) : φ'[n]? = some a := by
  obtain ⟨t, rfl⟩ := h
  have := (List.getElem?_eq_some_iff.mp e).1
  rw [List.getElem?_append_left this]
  exact e
mutual
theorem Rp.extA {φ φ' : List Addr} {H H' : Hp} (e : Ext φ H φ' H') : ∀ (d : D) (v : V), Rp φ H d v → Rp φ' H' d v
  | .non, _, h => h
  | .bl _, _, h => h
  | .int _, _, h => h
  | .str _, _, h => h
  | .tup l, v, h => by
    obtain ⟨a, xs, rfl, hs, hl⟩ := h
    exact ⟨a, xs, rfl, e.tup a xs hs, RpL.extA e l xs hl⟩
  | .ref n, v, h => by
    obtain ⟨a, h1, rfl⟩ := h
    exact ⟨a, pre_get e.pre h1, rfl⟩
  | .exc _ _, _, h => h
  | .clo _ _, _, h => h
theorem RpL.extA {φ φ' : List Addr} {H H' : Hp} (e : Ext φ H φ' H') : ∀ (l : List D) (xs : List V), RpL φ H l xs → RpL φ' H' l xs
  | [], _, h => h
  | d :: l, xs, h => by
    obtain ⟨x, r, rfl, h1, h2⟩ := h
    exact ⟨x, r, rfl, Rp.extA e d x h1, RpL.extA e l r h2⟩
end
theorem Rp.ext {φ φ' : List Addr} {H H' : Hp} {d : D} {v : V} (h : Rp φ H d v) (e : Ext φ H φ' H') : Rp φ' H' d v := Rp.extA e d v h
theorem RpL.ext {φ φ' : List Addr} {H H' : Hp} {l : List D} {v : List V} (h : RpL φ H l v) (e : Ext φ H φ' H') : RpL φ' H' l v := RpL.extA e l v h
theorem RpK.ext {φ φ' : List Addr} {H H' : Hp} (e : Ext φ H φ' H') : ∀ {l : List (D × D)} {xs : List (Key × V)}, RpK φ H l xs → RpK φ' H' l xs
  | [], _, h => h
  | _ :: _, _, h => by
    obtain ⟨x, r, rfl, h1, h2, h3⟩ := h
    exact ⟨x, r, rfl, h1, h2.ext e, RpK.ext e h3⟩
theorem RpT.ext {φ φ' : List Addr} {H H' : Hp} (e : Ext φ H φ' H') : ∀ {l : List (D × D)} {xs : List (List Key × V)}, RpT φ H l xs → RpT φ' H' l xs
  | [], _, h => h
  | _ :: _, _, h => by
    obtain ⟨x, r, rfl, h1, h2, h3⟩ := h
    exact ⟨x, r, rfl, h1, h2.ext e, RpT.ext e h3⟩
theorem RpF.ext {R : Rx} {φ φ' : List Addr} {H H' : Hp} (e : Ext φ H φ' H') : ∀ {l : List (Nat × D)} {xs : List (Str × V)}, RpF R φ H l xs → RpF R φ' H' l xs
  | [], _, h => h
  | _ :: _, _, h => by
    obtain ⟨x, r, rfl, h1, h2, h3⟩ := h
    exact ⟨x, r, rfl, h1, h2.ext e, RpF.ext e h3⟩
theorem RO.ext {R : Rx} {φ φ' : List Addr} {H H' : Hp} (e : Ext φ H φ' H') {o : DO} {a : Addr} (h : RO R φ H o a) (ha : H' a = H a) : RO R φ' H' o a := by
  cases o with
  | lst l => obtain ⟨xs, h1, h2⟩ := h; exact ⟨xs, ha.trans h1, h2.ext e⟩
  | frz l => obtain ⟨o, xs, h1, h2⟩ := h; exact ⟨o, xs, ha.trans h1, h2.ext e⟩
  | tpl l => obtain ⟨o, xs, h1, h2⟩ := h; exact ⟨o, xs, ha.trans h1, h2.ext e⟩
  | dk l => obtain ⟨xs, h1, h2⟩ := h; exact ⟨xs, ha.trans h1, RpK.ext e h2⟩
  | dt l => obtain ⟨xs, h1, h2⟩ := h; exact ⟨xs, ha.trans h1, RpT.ext e h2⟩
  | lk l => obtain ⟨o, xs, h1, h2⟩ := h; exact ⟨o, xs, ha.trans h1, RpK.ext e h2⟩
  | lt l => obtain ⟨o, xs, h1, h2⟩ := h; exact ⟨o, xs, ha.trans h1, RpT.ext e h2⟩
  | ins c fs => obtain ⟨dx, fv, h1, h2⟩ := h; exact ⟨dx, fv, ha.trans h1, RpF.ext e h2⟩
theorem RO.there {R : Rx} {φ : List Addr} {H : Hp} {o : DO} {a : Addr} (h : RO R φ H o a) : ∃ u, H a = some u ∧ (∀ xs, u ≠ .tup xs) := by
  cases o with
  | lst l => obtain ⟨xs, h1, h2⟩ := h; exact ⟨_, h1, fun _ z => by cases z⟩
  | frz l => obtain ⟨o, xs, h1, h2⟩ := h; exact ⟨_, h1, fun _ z => by cases z⟩
  | tpl l => obtain ⟨o, xs, h1, h2⟩ := h; exact ⟨_, h1, fun _ z => by cases z⟩
  | dk l => obtain ⟨xs, h1, h2⟩ := h; exact ⟨_, h1, fun _ z => by cases z⟩
  | dt l => obtain ⟨xs, h1, h2⟩ := h; exact ⟨_, h1, fun _ z => by cases z⟩
  | lk l => obtain ⟨o, xs, h1, h2⟩ := h; exact ⟨_, h1, fun _ z => by cases z⟩
  | lt l => obtain ⟨o, xs, h1, h2⟩ := h; exact ⟨_, h1, fun _ z => by cases z⟩
  | ins c fs => obtain ⟨dx, fv, h1, h2⟩ := h; exact ⟨_, h1, fun _ z => by cases z⟩
structure HRel (R : Rx) (φ : List Addr) (H : Hp) (h : DH) : Prop where
  len : φ.length = h.length
  nd : φ.Nodup
  obj : ∀ (i : Nat) (o : DO) (a : Addr), h[i]? = some o → φ[i]? = some a → RO R φ H o a
  cst : ∀ p ∈ R.co, Rp φ H p.1 (.ref p.2)
structure ERel (φ : List Addr) (H : Hp) (e : Env) (σ : L2.St) : Prop where
  len : e.length = σ.length
  at_ : ∀ (i : Nat) (d : D), e[i]? = some (some d) → ∃ v, σ[i]? = some (some v) ∧ Rp φ H d v
theorem ERel.ext {φ φ' : List Addr} {H H' : Hp} {e : Env} {σ : L2.St} (r : ERel φ H e σ) (x : Ext φ H φ' H') : ERel φ' H' e σ :=
  ⟨r.len, fun i d h => let ⟨v, h1, h2⟩ := r.at_ i d h; ⟨v, h1, h2.ext x⟩⟩
section
variable {R : Rx} {φ φ' : List Addr} {H H' : Hp} {h h' : DH}
theorem HRel.addr (r : HRel R φ H h) {n : Nat} {o : DO} (e : h[n]? = some o) : ∃ a, φ[n]? = some a ∧ RO R φ H o a := by
  have h1 := (List.getElem?_eq_some_iff.mp e).1
  have h2 : n < φ.length := by rw [r.len]; exact h1
  exact ⟨φ[n], List.getElem?_eq_getElem h2, r.obj n o _ e (List.getElem?_eq_getElem h2)⟩
theorem HRel.push (r : HRel R φ H h) {p : Addr} {o : DO} {u : HO} (hp : H p = none) (ho : RO R (φ ++ [p]) (upd H p u) o p) : HRel R (φ ++ [p]) (upd H p u) (h ++ [o]) := by
  have nm : p ∉ φ := fun hm => by
    obtain ⟨i, hi, e⟩ := List.mem_iff_getElem.mp hm
    have hi' : i < h.length := by rw [← r.len]; exact hi
    obtain ⟨u, hu, _⟩ := (r.obj i h[i] φ[i] (List.getElem?_eq_getElem hi') (List.getElem?_eq_getElem hi)).there
    rw [e, hp] at hu
    cases hu
  have x : Ext φ H (φ ++ [p]) (upd H p u) := ⟨List.prefix_append _ _, fun b xs q => by rw [upd_ne (ne_of_none q hp)]; exact q, fun b o u q => by rw [upd_ne (ne_of_none q hp)]; exact q⟩
  refine ⟨by simp [r.len], List.nodup_append.mpr ⟨r.nd, by simp, fun a ha b hb e => by simp at hb; subst hb; exact nm (e ▸ ha)⟩, fun i o' a h1 h2 => ?_, fun p hp => (r.cst p hp).ext x⟩
  by_cases hi : i < φ.length
  · rw [List.getElem?_append_left hi] at h2
    rw [List.getElem?_append_left (by rw [← r.len]; exact hi)] at h1
    have q := r.obj i o' a h1 h2
    refine q.ext x (upd_ne ?_)
    obtain ⟨u, hu, _⟩ := q.there
    exact ne_of_none hu hp
  · have hi' : φ.length ≤ i := Nat.le_of_not_lt hi
    rw [List.getElem?_append_right hi'] at h2
    rw [List.getElem?_append_right (by rw [← r.len]; exact hi')] at h1
    rw [r.len] at h2
    cases e : i - h.length with
    | zero =>
      rw [e] at h1 h2
      simp at h1 h2
      subst h1 h2
      exact ho
    | succ k =>
      rw [e] at h1
      simp at h1
theorem ext_push {p : Addr} {u : HO} (hp : H p = none) : Ext φ H (φ ++ [p]) (upd H p u) :=
  ⟨List.prefix_append _ _, fun b xs q => by rw [upd_ne (ne_of_none q hp)]; exact q, fun b o u q => by rw [upd_ne (ne_of_none q hp)]; exact q⟩
theorem ext_tup {p : Addr} {u : HO} (hp : H p = none) : Ext φ H φ (upd H p u) :=
  ⟨List.prefix_rfl, fun b xs q => by rw [upd_ne (ne_of_none q hp)]; exact q, fun b o u q => by rw [upd_ne (ne_of_none q hp)]; exact q⟩
theorem HRel.other (r : HRel R φ H h) {p : Addr} {u : HO} (hp : H p = none) : HRel R φ (upd H p u) h :=
  ⟨r.len, r.nd, fun i o a h1 h2 => by
    have q := r.obj i o a h1 h2
    obtain ⟨u, hu, _⟩ := q.there
    exact q.ext (ext_tup hp) (upd_ne (ne_of_none hu hp)), fun p hq => (r.cst p hq).ext (ext_tup hp)⟩
theorem HRel.set (r : HRel R φ H h) {n : Nat} {a : Addr} {o : DO} {u v : HO} (ha : φ[n]? = some a) (hu : H a = some u) (m1 : ∀ xs, u ≠ .tup xs) (m2 : ∀ o x, u ≠ .frz o x) (ho : RO R φ (upd H a v) o a) : HRel R φ (upd H a v) (h.set n o) := by
  have x : Ext φ H φ (upd H a v) := ⟨List.prefix_rfl, fun b xs q => by
      rw [upd_ne (fun z => by subst z; rw [q] at hu; cases hu; exact m1 _ rfl)]; exact q, fun b o u' q => by
      rw [upd_ne (fun z => by subst z; rw [q] at hu; cases hu; exact m2 _ _ rfl)]; exact q⟩
  refine ⟨by simp [r.len], r.nd, fun i o' b h1 h2 => ?_, fun p hp => (r.cst p hp).ext x⟩
  by_cases hi : i = n
  · subst hi
    have hn : i < h.length := by
      have := (List.getElem?_eq_some_iff.mp h1).1
      simpa using this
    rw [List.getElem?_set_self hn] at h1
    cases h1
    rw [ha] at h2
    cases h2
    exact ho
  · rw [List.getElem?_set_ne (Ne.symm hi)] at h1
    refine (r.obj i o' b h1 h2).ext x (upd_ne fun e => hi ?_)
    subst e
    obtain ⟨i1, e1⟩ := List.getElem?_eq_some_iff.mp h2
    obtain ⟨i2, e2⟩ := List.getElem?_eq_some_iff.mp ha
    exact (List.getElem_inj r.nd).mp (e1.trans e2.symm)
theorem ext_set {a : Addr} {u v : HO} (hu : H a = some u) (m1 : ∀ xs, u ≠ .tup xs) (m2 : ∀ o x, u ≠ .frz o x) : Ext φ H φ (upd H a v) :=
  ⟨List.prefix_rfl, fun b xs q => by
      rw [upd_ne (fun z => by subst z; rw [q] at hu; cases hu; exact m1 _ rfl)]; exact q, fun b o u' q => by
      rw [upd_ne (fun z => by subst z; rw [q] at hu; cases hu; exact m2 _ _ rfl)]; exact q⟩
end
theorem RpL.length {φ : List Addr} {H : Hp} : ∀ {l : List D} {xs : List V}, RpL φ H l xs → xs.length = l.length
  | [], _, h => by rw [h]; rfl
  | _ :: l, _, h => by obtain ⟨x, r, rfl, _, h2⟩ := h; simp [RpL.length h2]
theorem RpL.get {φ : List Addr} {H : Hp} : ∀ {l : List D} {xs : List V} {i : Nat} {d : D}, RpL φ H l xs → l[i]? = some d → ∃ x, xs[i]? = some x ∧ Rp φ H d x
  | [], _, _, _, _, e => by simp at e
  | d :: l, _, 0, _, h, e => by
    obtain ⟨x, r, rfl, h1, h2⟩ := h
    simp at e
    subst e
    exact ⟨x, by simp, h1⟩
  | d :: l, _, i + 1, _, h, e => by
    obtain ⟨x, r, rfl, h1, h2⟩ := h
    obtain ⟨y, q1, q2⟩ := RpL.get (i := i) h2 (by simpa using e)
    exact ⟨y, by simpa using q1, q2⟩
theorem RpL.none_of {φ : List Addr} {H : Hp} {l : List D} {xs : List V} {i : Nat} (h : RpL φ H l xs) (e : l[i]? = none) : xs[i]? = none := by
  rw [List.getElem?_eq_none_iff] at e ⊢
  rw [h.length]
  exact e
theorem RpL.append {φ : List Addr} {H : Hp} : ∀ {l l' : List D} {xs ys : List V}, RpL φ H l xs → RpL φ H l' ys → RpL φ H (l ++ l') (xs ++ ys)
  | [], _, _, _, h, h' => by rw [h]; exact h'
  | _ :: l, _, _, _, h, h' => by obtain ⟨x, r, rfl, h1, h2⟩ := h; exact ⟨x, r ++ _, rfl, h1, h2.append h'⟩
theorem RpL.take {φ : List Addr} {H : Hp} : ∀ (n : Nat) {l : List D} {xs : List V}, RpL φ H l xs → RpL φ H (l.take n) (xs.take n)
  | 0, _, _, h => by simp [RpL]
  | n + 1, [], _, h => by rw [h]; simp [RpL]
  | n + 1, _ :: l, _, h => by obtain ⟨x, r, rfl, h1, h2⟩ := h; exact ⟨x, r.take n, rfl, h1, h2.take n⟩
theorem RpL.drop {φ : List Addr} {H : Hp} : ∀ (n : Nat) {l : List D} {xs : List V}, RpL φ H l xs → RpL φ H (l.drop n) (xs.drop n)
  | 0, _, _, h => h
  | n + 1, [], _, h => by rw [h]; simp [RpL]
  | n + 1, _ :: l, _, h => by obtain ⟨x, r, rfl, h1, h2⟩ := h; exact h2.drop n
theorem RpL.reverse {φ : List Addr} {H : Hp} : ∀ {l : List D} {xs : List V}, RpL φ H l xs → RpL φ H l.reverse xs.reverse
  | [], _, h => by rw [h]; simp [RpL]
  | _ :: l, _, h => by
    obtain ⟨x, r, rfl, h1, h2⟩ := h
    rw [List.reverse_cons, List.reverse_cons]
    exact h2.reverse.append ⟨x, [], rfl, h1, rfl⟩
theorem RpL.set {φ : List Addr} {H : Hp} {d : D} {x : V} (hd : Rp φ H d x) : ∀ {l : List D} {xs : List V} (i : Nat), RpL φ H l xs → RpL φ H (l.set i d) (xs.set i x)
  | [], _, _, h => by rw [h]; simp [RpL]
  | _ :: l, _, 0, h => by obtain ⟨y, r, rfl, h1, h2⟩ := h; exact ⟨x, r, rfl, hd, h2⟩
  | _ :: l, _, i + 1, h => by obtain ⟨y, r, rfl, h1, h2⟩ := h; exact ⟨y, r.set i x, rfl, h1, h2.set hd i⟩
theorem RpL.erase {φ : List Addr} {H : Hp} : ∀ {l : List D} {xs : List V} (i : Nat), RpL φ H l xs → RpL φ H (l.eraseIdx i) (xs.eraseIdx i)
  | [], _, _, h => by rw [h]; simp [RpL]
  | _ :: l, _, 0, h => by obtain ⟨y, r, rfl, h1, h2⟩ := h; exact h2
  | _ :: l, _, i + 1, h => by obtain ⟨y, r, rfl, h1, h2⟩ := h; exact ⟨y, r.eraseIdx i, rfl, h1, h2.erase i⟩
theorem RpL.one {φ : List Addr} {H : Hp} {d : D} {x : V} (h : Rp φ H d x) : RpL φ H [d] [x] := ⟨x, [], rfl, h, rfl⟩
theorem RpL.rep {φ : List Addr} {H : Hp} {l : List D} {xs : List V} (h : RpL φ H l xs) : ∀ k : Nat, RpL φ H (List.replicate k l).flatten (List.replicate k xs).flatten
  | 0 => rfl
  | k + 1 => by
    rw [List.replicate_succ, List.flatten_cons, List.replicate_succ, List.flatten_cons]
    exact h.append (h.rep k)
abbrev XQ := Nat → List D → List Addr → L2.St → Hp → Prop
def OutV (R : Rx) (φ : List Addr) (H : Hp) (Q : VK) : RV → Prop
  | some p => ∀ φ' H' x, Ext φ H φ' H' → HRel R φ' H' p.2 → Rp φ' H' p.1 x → Q x H'
  | none => False
def OutE (R : Rx) (XR : XQ) (φ : List Addr) (H : Hp) (σ : L2.St) (Q : VK) : RE → Prop
  | .ok v h' => ∀ φ' H' x, Ext φ H φ' H' → HRel R φ' H' h' → Rp φ' H' v x → Q x H'
  | .ex c l h' => ∀ φ' H', Ext φ H φ' H' → HRel R φ' H' h' → XR c l φ' σ H'
  | .bad => False
def OutA (R : Rx) (XR : XQ) (φ : List Addr) (H : Hp) (σ : L2.St) (Q : List V → Hp → Prop) : RA → Prop
  | .ok v h' => ∀ φ' H' x, Ext φ H φ' H' → HRel R φ' H' h' → RpL φ' H' v x → Q x H'
  | .ex c l h' => ∀ φ' H', Ext φ H φ' H' → HRel R φ' H' h' → XR c l φ' σ H'
  | .bad => False
def OutB (R : Rx) (XR : XQ) (φ : List Addr) (H : Hp) (σ : L2.St) (Q : Bool → Hp → Prop) : RE → Prop
  | .ok v h' => ∃ b, v = .bl b ∧ ∀ φ' H', Ext φ H φ' H' → HRel R φ' H' h' → Q b H'
  | .ex c l h' => ∀ φ' H', Ext φ H φ' H' → HRel R φ' H' h' → XR c l φ' σ H'
  | .bad => False
def OutS (R : Rx) (XR : XQ) (φ : List Addr) (H : Hp) (D : Ends) : RS → Prop
  | .nx e h' => ∀ φ' H' σ', Ext φ H φ' H' → HRel R φ' H' h' → ERel φ' H' e σ' → D.nx σ' H'
  | .rt v h' => ∀ φ' H' x, Ext φ H φ' H' → HRel R φ' H' h' → Rp φ' H' v x → D.rt x H'
  | .bk e h' => ∀ φ' H' σ', Ext φ H φ' H' → HRel R φ' H' h' → ERel φ' H' e σ' → D.bk σ' H'
  | .ct e h' => ∀ φ' H' σ', Ext φ H φ' H' → HRel R φ' H' h' → ERel φ' H' e σ' → D.ct σ' H'
  | .ex c l e h' => ∀ φ' H' σ', Ext φ H φ' H' → HRel R φ' H' h' → ERel φ' H' e σ' → XR c l φ' σ' H'
  | .bad => False
def tE (R : Rx) (XR : XQ) (g : Gm) (m : ME) : TE := fun σ H Q => ∃ φ e h, ERel φ H e σ ∧ HRel R φ H h ∧ OutE R XR φ H σ Q (m g e h)
def tA (R : Rx) (XR : XQ) (g : Gm) (m : MA) : TA := fun σ H Q => ∃ φ e h, ERel φ H e σ ∧ HRel R φ H h ∧ OutA R XR φ H σ Q (m g e h)
def tT (R : Rx) (XR : XQ) (g : Gm) (m : ME) : TT := fun σ H Q => ∃ φ e h, ERel φ H e σ ∧ HRel R φ H h ∧ OutB R XR φ H σ Q (m g e h)
def tS (R : Rx) (XR : XQ) (g : Gm) (m : MS) : TS := fun D σ H => ∃ φ e h, ERel φ H e σ ∧ HRel R φ H h ∧ OutS R XR φ H D (m g e h)
section
variable {R : Rx} {XR : XQ} {φ φ1 : List Addr} {H H1 : Hp} {σ : L2.St}
theorem OutV.ext {Q : VK} {r : RV} (x : Ext φ H φ1 H1) (h : OutV R φ H Q r) : OutV R φ1 H1 Q r := by
  cases r with
  | none => exact h
  | some p => exact fun φ' H' y e => h φ' H' y (x.trans e)
theorem OutE.ext {Q : VK} {r : RE} (x : Ext φ H φ1 H1) (h : OutE R XR φ H σ Q r) : OutE R XR φ1 H1 σ Q r := by
  cases r with
  | ok v h' => exact fun φ' H' y e => h φ' H' y (x.trans e)
  | ex c l h' => exact fun φ' H' e => h φ' H' (x.trans e)
  | bad => exact h
theorem OutA.ext {Q : List V → Hp → Prop} {r : RA} (x : Ext φ H φ1 H1) (h : OutA R XR φ H σ Q r) : OutA R XR φ1 H1 σ Q r := by
  cases r with
  | ok v h' => exact fun φ' H' y e => h φ' H' y (x.trans e)
  | ex c l h' => exact fun φ' H' e => h φ' H' (x.trans e)
  | bad => exact h
theorem OutB.ext {Q : Bool → Hp → Prop} {r : RE} (x : Ext φ H φ1 H1) (h : OutB R XR φ H σ Q r) : OutB R XR φ1 H1 σ Q r := by
  cases r with
  | ok v h' => obtain ⟨b, rfl, h⟩ := h; exact ⟨b, rfl, fun φ' H' e => h φ' H' (x.trans e)⟩
  | ex c l h' => exact fun φ' H' e => h φ' H' (x.trans e)
  | bad => exact h
theorem OutS.ext {D : Ends} {r : RS} (x : Ext φ H φ1 H1) (h : OutS R XR φ H D r) : OutS R XR φ1 H1 D r := by
  cases r with
  | nx e h' => exact fun φ' H' y e => h φ' H' y (x.trans e)
  | rt e h' => exact fun φ' H' y e => h φ' H' y (x.trans e)
  | bk e h' => exact fun φ' H' y e => h φ' H' y (x.trans e)
  | ct e h' => exact fun φ' H' y e => h φ' H' y (x.trans e)
  | ex c l e h' => exact fun φ' H' y e => h φ' H' y (x.trans e)
  | bad => exact h
theorem OutE.bind {Q : VK} {r : RE} {f : D → DH → RE} (h : OutE R XR φ H σ Q (r.bind f)) :
    OutE R XR φ H σ (fun x H1 => ∃ φ1 d h1, Ext φ H φ1 H1 ∧ HRel R φ1 H1 h1 ∧ Rp φ1 H1 d x ∧ OutE R XR φ1 H1 σ Q (f d h1)) r := by
  cases r with
  | ok v h' => exact fun φ' H' x e hr rp => ⟨φ', v, h', e, hr, rp, OutE.ext e h⟩
  | ex c l h' => exact h
  | bad => exact h
theorem OutA.bind {Q : VK} {r : RA} {f : List D → DH → RE} (h : OutE R XR φ H σ Q (r.bind f)) :
    OutA R XR φ H σ (fun x H1 => ∃ φ1 d h1, Ext φ H φ1 H1 ∧ HRel R φ1 H1 h1 ∧ RpL φ1 H1 d x ∧ OutE R XR φ1 H1 σ Q (f d h1)) r := by
  cases r with
  | ok v h' => exact fun φ' H' x e hr rp => ⟨φ', v, h', e, hr, rp, OutE.ext e h⟩
  | ex c l h' => exact h
  | bad => exact h
theorem OutE.mono {Q Q' : VK} {r : RE} (h : OutE R XR φ H σ Q r) (hq : ∀ x H, Q x H → Q' x H) : OutE R XR φ H σ Q' r := by
  cases r with
  | ok v h' => exact fun φ' H' x e hr rp => hq _ _ (h φ' H' x e hr rp)
  | ex c l h' => exact h
  | bad => exact h
theorem OutA.mono {Q Q' : List V → Hp → Prop} {r : RA} (h : OutA R XR φ H σ Q r) (hq : ∀ x H, Q x H → Q' x H) : OutA R XR φ H σ Q' r := by
  cases r with
  | ok v h' => exact fun φ' H' x e hr rp => hq _ _ (h φ' H' x e hr rp)
  | ex c l h' => exact h
  | bad => exact h
theorem OutB.mono {Q Q' : Bool → Hp → Prop} {r : RE} (h : OutB R XR φ H σ Q r) (hq : ∀ x H, Q x H → Q' x H) : OutB R XR φ H σ Q' r := by
  cases r with
  | ok v h' => obtain ⟨b, rfl, h⟩ := h; exact ⟨b, rfl, fun φ' H' e hr => hq _ _ (h φ' H' e hr)⟩
  | ex c l h' => exact h
  | bad => exact h
theorem OutB.onB {Q : Bool → Hp → Prop} {r : RE} {f : Bool → DH → RE} (h : OutB R XR φ H σ Q (onB r f)) :
    OutB R XR φ H σ (fun b H1 => ∃ φ1 h1, Ext φ H φ1 H1 ∧ HRel R φ1 H1 h1 ∧ OutB R XR φ1 H1 σ Q (f b h1)) r := by
  cases r with
  | ok v h' =>
    cases v with
    | bl b => exact ⟨b, rfl, fun φ' H' e hr => ⟨φ', h', e, hr, OutB.ext e h⟩⟩
    | _ => exact False.elim h
  | ex c l h' => exact h
  | bad => exact h
theorem OutE.onB {Q : VK} {r : RE} {f : Bool → DH → RE} (h : OutE R XR φ H σ Q (Bp.onB r f)) :
    OutB R XR φ H σ (fun b H1 => ∃ φ1 h1, Ext φ H φ1 H1 ∧ HRel R φ1 H1 h1 ∧ OutE R XR φ1 H1 σ Q (f b h1)) r := by
  cases r with
  | ok v h' =>
    cases v with
    | bl b => exact ⟨b, rfl, fun φ' H' e hr => ⟨φ', h', e, hr, OutE.ext e h⟩⟩
    | _ => exact False.elim h
  | ex c l h' => exact h
  | bad => exact h
theorem OutB.ofE {Q : Bool → Hp → Prop} {r : RE} (h : OutB R XR φ H σ Q r) : OutE R XR φ H σ (fun x H1 => ∃ b, x = .bl b ∧ Q b H1) r := by
  cases r with
  | ok v h' => obtain ⟨b, rfl, h⟩ := h; exact fun φ' H' x e hr rp => ⟨b, rp, h φ' H' e hr⟩
  | ex c l h' => exact h
  | bad => exact h
theorem OutE.toS {N : Ends} {r : RE} {e : Env} {f : D → DH → RS} (he : ERel φ H e σ) (h : OutS R XR φ H N (r.toS e f)) :
    OutE R XR φ H σ (fun x H1 => ∃ φ1 d h1, Ext φ H φ1 H1 ∧ HRel R φ1 H1 h1 ∧ Rp φ1 H1 d x ∧ OutS R XR φ1 H1 N (f d h1)) r := by
  cases r with
  | ok v h' => exact fun φ' H' x e hr rp => ⟨φ', v, h', e, hr, rp, OutS.ext e h⟩
  | ex c l h' => exact fun φ' H' x hr => h φ' H' σ x hr (he.ext x)
  | bad => exact h
theorem OutV.ofE {Q : VK} {r : RV} (h : OutE R XR φ H σ Q (ofV r)) : OutV R φ H Q r := by
  cases r with
  | none => exact h
  | some p => exact h
theorem OutV.mono {Q Q' : VK} {r : RV} (h : OutV R φ H Q r) (hq : ∀ x H, Q x H → Q' x H) : OutV R φ H Q' r := by
  cases r with
  | some p => exact fun φ' H' x e hr rp => hq _ _ (h φ' H' x e hr rp)
  | none => exact h
theorem OutV.lst {Q : VK} {h : DH} {l : List D} {xs : List V} (r : HRel R φ H h) (hl : RpL φ H l xs) (q : OutV R φ H Q (alloc (.lst l) h)) {p : Addr} (hp : H p = none) : Q (.ref p) (upd H p (.lst xs)) := by
  refine q (φ ++ [p]) _ (.ref p) (ext_push hp) (r.push hp ⟨xs, upd_same, hl.ext (ext_push hp)⟩) ⟨p, ?_, rfl⟩
  show (φ ++ [p])[h.length]? = some p
  rw [← r.len]
  simp
theorem OutV.tup {Q : VK} {h : DH} {l : List D} {xs : List V} (r : HRel R φ H h) (hl : RpL φ H l xs) (q : OutV R φ H Q (some (.tup l, h))) {p : Addr} (hp : H p = none) : Q (.ref p) (upd H p (.tup xs)) :=
  q φ _ (.ref p) (ext_tup hp) (r.other hp) ⟨p, xs, rfl, upd_same, hl.ext (ext_tup hp)⟩
theorem OutV.here {Q : VK} {h : DH} {d : D} {x : V} (r : HRel R φ H h) (hx : Rp φ H d x) (q : OutV R φ H Q (some (d, h))) : Q x H := q φ H x .refl r hx
end
theorem _root_.L2.PE.imp {X : Cx} {e : Expr} {t t' : TE} (h : PE X e t) (hi : ∀ σ H Q, t' σ H Q → t σ H Q) : PE X e t' := ⟨fun pins s σ H Q I hq => h.run pins s σ H Q I (hi σ H Q hq)⟩
theorem _root_.L2.PT.imp {X : Cx} {e : Expr} {t t' : TT} (h : PT X e t) (hi : ∀ σ H Q, t' σ H Q → t σ H Q) : PT X e t' := ⟨fun pins s σ H Q I hq => h.run pins s σ H Q I (hi σ H Q hq)⟩
theorem _root_.L2.PA.imp {X : Cx} {e : List Expr} {t t' : TA} (h : PA X e t) (hi : ∀ σ H Q, t' σ H Q → t σ H Q) : PA X e t' := ⟨fun pos pins s σ H Q I hq => h.run pos pins s σ H Q I (hi σ H Q hq)⟩
theorem _root_.L2.PS.imp {X : Cx} {e : Stmt} {t t' : TS} (h : PS X e t) (hi : ∀ D σ H, t' D σ H → t D σ H) : PS X e t' := ⟨fun pins s σ H D I hq => h.run pins s σ H D I (hi D σ H hq)⟩
theorem _root_.L2.PSs.imp {X : Cx} {e : List Stmt} {t t' : TS} (h : PSs X e t) (hi : ∀ D σ H, t' D σ H → t D σ H) : PSs X e t' := ⟨fun pins s σ H D I hq => h.run pins s σ H D I (hi D σ H hq)⟩
end Bp
end

section
set_option linter.all false
set_option maxRecDepth 100000
set_option maxHeartbeats 0
set_option linter.all false
set_option maxRecDepth 100000
set_option autoImplicit false
set_option maxHeartbeats 1000000
namespace Bp
open PySem PySem.Spec PyProof.Rows L2
def vR1 (R : Rx) (f : DH → D → RV) : V → Hp → VK → Prop := fun x H Q => ∃ φ h d, HRel R φ H h ∧ Rp φ H d x ∧ OutV R φ H Q (f h d)
def vR2 (R : Rx) (f : DH → D → D → RV) : R2 := fun x y H Q => ∃ φ h d1 d2, HRel R φ H h ∧ Rp φ H d1 x ∧ Rp φ H d2 y ∧ OutV R φ H Q (f h d1 d2)
def vRL (R : Rx) (f : DH → List D → RV) : List V → Hp → VK → Prop := fun xs H Q => ∃ φ h l, HRel R φ H h ∧ RpL φ H l xs ∧ OutV R φ H Q (f h l)
def vRM (R : Rx) (f : DH → D → List D → RV) : V → List V → Hp → VK → Prop := fun x xs H Q => ∃ φ h d l, HRel R φ H h ∧ Rp φ H d x ∧ RpL φ H l xs ∧ OutV R φ H Q (f h d l)
theorem lim_eq : lim = sizeLine := by rw [sizeLine_eq]
section
variable {X : Cx} {R : Rx} {φ : List Addr} {H : Hp} {h : DH} {Q : VK}
theorem rp_ref {n : Nat} {v : V} (h : Rp φ H (.ref n) v) : ∃ a, φ[n]? = some a ∧ v = .ref a := h
theorem rp_tup {l : List D} {v : V} (h : Rp φ H (.tup l) v) : ∃ a xs, v = .ref a ∧ H a = some (.tup xs) ∧ RpL φ H l xs := h
theorem HRel.lst_at (hr : HRel R φ H h) {n : Nat} {l : List D} (e : h[n]? = some (.lst l)) : ∃ a xs, φ[n]? = some a ∧ H a = some (.lst xs) ∧ RpL φ H l xs := by
  obtain ⟨a, h1, xs, h2, h3⟩ := hr.addr e
  exact ⟨a, xs, h1, h2, h3⟩
theorem HRel.list_at {K : PySem.W.Frag} (hr : HRel R φ H h) {n : Nat} {l : List D} (e : listAt h n = some l) : ∃ a xs, φ[n]? = some a ∧ SqL K H a xs ∧ RpL φ H l xs := by
  unfold listAt at e
  split at e
  · cases e
    rename_i q
    obtain ⟨a, h1, xs, h2, h3⟩ := hr.addr q
    exact ⟨a, xs, h1, .inl (.inl h2), h3⟩
  · cases e
    rename_i q
    obtain ⟨a, h1, o, xs, h2, h3⟩ := hr.addr q
    exact ⟨a, xs, h1, .inl (.inr ⟨o, h2⟩), h3⟩
  · cases e
theorem HRel.tpl_at {K : PySem.W.Frag} (hr : HRel R φ H h) {n : Nat} {l : List D} (e : tplAt h n = some l) : ∃ a xs, φ[n]? = some a ∧ Rd H a (.tup xs) ∧ SqT K H a xs ∧ RpL φ H l xs := by
  unfold tplAt at e
  split at e
  · cases e
    rename_i q
    obtain ⟨a, h1, o, xs, h2, h3⟩ := hr.addr q
    exact ⟨a, xs, h1, .inr ⟨o, h2⟩, .inl (.inr ⟨o, h2⟩), h3⟩
  · cases e
theorem get_eq {n : Nat} {a b : Addr} (h1 : φ[n]? = some a) (h2 : φ[n]? = some b) : a = b := by
  rw [h1] at h2
  exact Option.some.inj h2
theorem small64_ok {i : Int} (h : small64 i = true) : -(2 ^ 64) < i ∧ i < 2 ^ 64 := by
  unfold small64 at h
  simp at h
  omega
theorem rp_int {i : Int} {v : V} (h : Rp φ H (.int i) v) : v = .int i := h
theorem opD_add : OpR X (binaryOp .Add) (vR2 R opAdd) := by
  intro pins s σ H x y v u Q I rx ry ⟨φ, h, d1, d2, hr, r1, r2, q⟩
  cases d1 with
  | int i =>
    cases d2 with
    | int j =>
      obtain rfl := r1
      obtain rfl := r2
      exact op_add pins s σ H _ _ v u Q I rx ry ⟨i, j, rfl, rfl, OutV.here (d := .int (i + j)) hr rfl q⟩
    | _ => exact q.elim
  | str a =>
    cases d2 with
    | str b =>
      obtain rfl := r1
      obtain rfl := r2
      simp only [opAdd] at q
      split at q <;> rename_i hz
      · exact op_add_str pins s σ H _ _ v u Q I rx ry ⟨a, b, rfl, rfl, by rw [← lim_eq]; exact hz, OutV.here (d := .str (a ++ b)) hr rfl q⟩
      · exact q.elim
    | _ => exact q.elim
  | tup a =>
    cases d2 with
    | tup b =>
      obtain ⟨p, xs, rfl, hs, hl⟩ := r1
      obtain ⟨p', ys, rfl, hs', hl'⟩ := r2
      simp only [opAdd] at q
      split at q <;> rename_i hz
      · refine op_catA pins s σ H _ _ v u Q I rx ry ⟨p, p', xs, ys, rfl, rfl, SqT.of hs, SqT.of hs', by rw [hl.length, hl'.length, ← lim_eq]; exact hz, fun e => ?_, fun _ e => ?_, fun _ _ z hz => ?_⟩
        · subst e
          have e2 : a = [] := by cases a with
            | nil => rfl
            | cons _ _ => obtain ⟨_, _, e, _⟩ := hl; cases e
          subst e2
          rw [List.nil_append] at q
          exact OutV.here (d := .tup b) hr ⟨p', ys, rfl, hs', hl'⟩ q
        · subst e
          have e2 : b = [] := by cases b with
            | nil => rfl
            | cons _ _ => obtain ⟨_, _, e, _⟩ := hl'; cases e
          subst e2
          rw [List.append_nil] at q
          exact OutV.here (d := .tup a) hr ⟨p, xs, rfl, hs, hl⟩ q
        · exact q.tup hr (hl.append hl') hz
      · exact q.elim
    | _ => exact q.elim
  | ref a =>
    cases d2 with
    | ref b =>
      obtain ⟨p, e1, rfl⟩ := r1
      obtain ⟨p', e2, rfl⟩ := r2
      simp only [opAdd] at q
      split at q
      · rename_i l1 l2 g1 g2
        split at q <;> rename_i hz
        · obtain ⟨a1, xs, f1, f2, f3⟩ := hr.lst_at g1
          obtain ⟨a2, ys, k1, k2, k3⟩ := hr.lst_at g2
          cases get_eq e1 f1
          cases get_eq e2 k1
          exact op_cat pins s σ H _ _ v u Q I rx ry ⟨p, p', xs, ys, rfl, rfl, f2, k2, by rw [f3.length, k3.length, ← lim_eq]; exact hz, fun z hz => q.lst hr (f3.append k3) hz⟩
        · exact q.elim
      · exact q.elim
    | _ => exact q.elim
  | _ => exact q.elim
theorem opD_int {f : Int → Int → Option Int} {op : Value → Value → Sem Value} (hf : ∀ i j k, f i j = some k → ∀ pins s σ H (v u : Value) Q, Inv X pins σ H s → RelV (.int i) v → RelV (.int j) u → Q (.int k) H →
    wpAny (model X.prog X.w) X.A (op v u) (EP X pins σ Q) X.xe s) : OpR X op (vR2 R (opI f)) := by
  intro pins s σ H x y v u Q I rx ry ⟨φ, h, d1, d2, hr, r1, r2, q⟩
  cases d1 with
  | int i =>
    cases d2 with
    | int j =>
      obtain rfl := r1
      obtain rfl := r2
      simp only [opI] at q
      split at q
      · rename_i k e
        exact hf i j k e pins s σ H v u Q I rx ry (OutV.here (d := .int k) hr rfl q)
      · exact q.elim
    | _ => exact q.elim
  | _ => exact q.elim
theorem mulOk_ok {i j : Int} (h : mulOk i j = true) : CMul i j ∨ CMulW i j := by
  unfold mulOk at h
  rw [Bool.or_eq_true, Bool.or_eq_true] at h
  rcases h with (h | h) | h
  · exact .inl (.inl (small64_ok h))
  · exact .inl (.inr (small64_ok h))
  · refine .inr ?_
    have := of_decide_eq_true h
    unfold CMulW
    omega
theorem rep_len (k : Nat) (l : List D) : (List.replicate k l).flatten.length = l.length * k := by
  induction k with
  | zero => simp
  | succ k ih => rw [List.replicate_succ, List.flatten_cons, List.length_append, ih, Nat.mul_succ]; omega
theorem two63 (k : Int) (h : decide (k < 9223372036854775808) = true) : k < 2 ^ 63 := by
  have := of_decide_eq_true h
  omega
theorem two63n (k : Int) (h : decide (-9223372036854775808 ≤ k) = true) : -(2 ^ 63) ≤ k := by
  have := of_decide_eq_true h
  omega
theorem opD_mul : OpR X (binaryOp .Mult) (vR2 R opMul) := by
  intro pins s σ H x y v u Q I rx ry ⟨φ, h, d1, d2, hr, r1, r2, q⟩
  cases d1 with
  | int i =>
    cases d2 with
    | int j =>
      obtain rfl := r1
      obtain rfl := r2
      simp only [opMul] at q
      split at q <;> rename_i hz
      · rcases mulOk_ok hz with hz | hz
        · exact op_mul pins s σ H _ _ v u Q I rx ry ⟨i, j, rfl, rfl, hz, OutV.here (d := .int (i * j)) hr rfl q⟩
        · exact op_mulW pins s σ H _ _ v u Q I rx ry ⟨i, j, rfl, rfl, hz, OutV.here (d := .int (i * j)) hr rfl q⟩
      · exact q.elim
    | _ => exact q.elim
  | ref a =>
    cases d2 with
    | int k =>
      obtain ⟨p, e1, rfl⟩ := r1
      obtain rfl := r2
      simp only [opMul] at q
      split at q
      · rename_i l g
        split at q <;> rename_i hz
        · obtain ⟨a1, xs, f1, f2, f3⟩ := hr.lst_at g
          cases get_eq e1 f1
          simp only [Bool.and_eq_true] at hz
          exact op_rep pins s σ H _ _ v u Q I rx ry ⟨p, k, xs, rfl, rfl, f2, two63n k hz.2, two63 k hz.1.2, by rw [f3.length, ← lim_eq]; exact of_decide_eq_true hz.1.1.2, fun z hz => q.lst hr (f3.rep _) hz⟩
        · exact q.elim
      · exact q.elim
    | _ => exact q.elim
  | tup a =>
    cases d2 with
    | int k =>
      obtain ⟨p, xs, rfl, hs, hl⟩ := r1
      obtain rfl := r2
      simp only [opMul] at q
      split at q <;> rename_i hz
      · simp only [Bool.and_eq_true] at hz
        refine op_repT pins s σ H _ _ v u Q I rx ry ⟨p, k, xs, rfl, rfl, SqT.of hs, fun e => ?_, of_decide_eq_true hz.2.1, of_decide_eq_true hz.2.2.1, by rw [hl.length]; exact of_decide_eq_true hz.2.2.2, fun z hz => q.tup hr (hl.rep _) hz⟩
        subst e
        have e2 := hl.length
        cases a with
        | nil => simp at hz
        | cons _ _ => simp at e2
      · exact q.elim
    | _ => exact q.elim
  | _ => exact q.elim
theorem divOk_ok {i j : Int} (h : divOk j = true) : CDiv i j ∨ CDivW i j := by
  unfold divOk at h
  rw [Bool.and_eq_true, Bool.or_eq_true] at h
  obtain ⟨h0, h1 | h1⟩ := h
  · exact .inl ⟨of_decide_eq_true h0, of_decide_eq_true h1⟩
  · exact .inr ⟨of_decide_eq_true h0, by have := of_decide_eq_true h1; omega⟩
theorem powOk_ok {i j : Int} (h : powOk i j = true) : CPow i j := by
  unfold powOk at h
  rw [Bool.and_eq_true, Bool.and_eq_true] at h
  exact ⟨of_decide_eq_true h.1, of_decide_eq_true h.2.1, by have := of_decide_eq_true h.2.2; omega⟩
theorem opD (op : Operator) : OpR X (binaryOp op) (vR2 R (binD op)) := by
  cases op with
  | Add => exact opD_add
  | Mult => exact opD_mul
  | Sub =>
    refine opD_int (f := fSub) fun i j k e pins s σ H v u Q I rx ry q => ?_
    cases e
    exact op_sub pins s σ H _ _ v u Q I rx ry ⟨i, j, rfl, rfl, q⟩
  | FloorDiv =>
    refine opD_int (f := fDiv) fun i j k e pins s σ H v u Q I rx ry q => ?_
    unfold fDiv at e
    split at e <;> rename_i hz
    · cases e
      rcases divOk_ok (i := i) hz with hz | hz
      · exact op_fdiv pins s σ H _ _ v u Q I rx ry ⟨i, j, rfl, rfl, hz, q⟩
      · exact op_fdivW pins s σ H _ _ v u Q I rx ry ⟨i, j, rfl, rfl, hz, q⟩
    · cases e
  | Mod =>
    refine opD_int (f := fMod) fun i j k e pins s σ H v u Q I rx ry q => ?_
    unfold fMod at e
    split at e <;> rename_i hz
    · cases e
      exact op_mod pins s σ H _ _ v u Q I rx ry ⟨i, j, rfl, rfl, hz, q⟩
    · cases e
  | Pow =>
    refine opD_int (f := fPow) fun i j k e pins s σ H v u Q I rx ry q => ?_
    unfold fPow at e
    split at e <;> rename_i hz
    · cases e
      exact op_pow pins s σ H _ _ v u Q I rx ry ⟨i, j, rfl, rfl, powOk_ok hz, q⟩
    · cases e
  | LShift =>
    refine opD_int (f := fShl) fun i j k e pins s σ H v u Q I rx ry q => ?_
    unfold fShl at e
    split at e <;> rename_i hz
    · cases e
      exact op_shl pins s σ H _ _ v u Q I rx ry ⟨i, j, rfl, rfl, powOk_ok hz, q⟩
    · cases e
  | RShift =>
    refine opD_int (f := fShr) fun i j k e pins s σ H v u Q I rx ry q => ?_
    unfold fShr at e
    split at e <;> rename_i hz
    · cases e
      exact op_shr pins s σ H _ _ v u Q I rx ry ⟨i, j, rfl, rfl, hz, q⟩
    · cases e
  | BitAnd =>
    refine opD_int (f := fAnd) fun i j k e pins s σ H v u Q I rx ry q => ?_
    cases e
    exact op_and pins s σ H _ _ v u Q I rx ry ⟨i, j, rfl, rfl, q⟩
  | BitXor =>
    refine opD_int (f := fXor) fun i j k e pins s σ H v u Q I rx ry q => ?_
    cases e
    exact op_xor pins s σ H _ _ v u Q I rx ry ⟨i, j, rfl, rfl, q⟩
  | _ => exact fun pins s σ H x y v u Q I rx ry ⟨φ, h, d1, d2, hr, r1, r2, q⟩ => q.elim
theorem augD_ok (op : Operator) : OpR X (inplaceOp op) (vR2 R (augD op)) := by
  intro pins s σ H x y v u Q I rx ry ⟨φ, h, d1, d2, hr, r1, r2, q⟩
  cases d1 with
  | int i =>
    cases d2 with
    | int j =>
      obtain rfl := r1
      obtain rfl := r2
      cases op with
      | Add => exact iop_add pins s σ H _ _ v u Q I rx ry ⟨i, j, rfl, rfl, OutV.here (d := .int (i + j)) hr rfl q⟩
      | Sub => exact iop_sub pins s σ H _ _ v u Q I rx ry ⟨i, j, rfl, rfl, OutV.here (d := .int (i - j)) hr rfl q⟩
      | Mult =>
        simp only [augD] at q
        split at q <;> rename_i hz
        · rw [Bool.or_eq_true] at hz
          exact iop_mul pins s σ H _ _ v u Q I rx ry ⟨i, j, rfl, rfl, hz.elim (fun z => .inl (small64_ok z)) (fun z => .inr (small64_ok z)), OutV.here (d := .int (i * j)) hr rfl q⟩
        · exact q.elim
      | _ => exact q.elim
    | _ => exact q.elim
  | str a =>
    cases d2 with
    | str b =>
      obtain rfl := r1
      obtain rfl := r2
      cases op with
      | Add =>
        simp only [augD] at q
        split at q <;> rename_i hz
        · exact iop_add_str pins s σ H _ _ v u Q I rx ry ⟨a, b, rfl, rfl, by rw [← lim_eq]; exact hz, OutV.here (d := .str (a ++ b)) hr rfl q⟩
        · exact q.elim
      | _ => exact q.elim
    | _ => exact q.elim
  | _ => exact q.elim
end
end Bp
end

section
set_option linter.all false
set_option maxRecDepth 100000
set_option maxHeartbeats 0
set_option linter.all false
set_option maxRecDepth 100000
set_option autoImplicit false
set_option maxHeartbeats 1000000
namespace Bp
open PySem PySem.Spec PyProof.Rows L2
theorem mapO_some {α β : Type} {f : α → Option β} {a : α} {r : List α} {x : List β} (h : mapO f (a :: r) = some x) : ∃ b s, f a = some b ∧ mapO f r = some s ∧ x = b :: s := by
  simp only [mapO] at h
  split at h
  · rename_i b e1
    split at h
    · rename_i s e2
      cases h
      exact ⟨b, s, e1, e2, rfl⟩
    · cases h
  · cases h
section
variable {X : Cx} {R : Rx} {φ : List Addr} {H : Hp} {h : DH} {Q : VK}
theorem okV_some {o : Option Bool} {Q : VK} (q : OutV R φ H Q (okV o h)) : ∃ b, o = some b ∧ OutV R φ H Q (some (.bl b, h)) := by
  cases o with
  | some b => exact ⟨b, rfl, q⟩
  | none => exact q.elim
theorem toPD_dp {K : PySem.W.Frag} (hr : HRel R φ H h) : ∀ (k : Nat) (d : D) (v : V) (p : PyData), toPD h k d = some p → Rp φ H d v → Dp K H v p
  | 0, _, _, _, e, _ => by simp [toPD] at e
  | k + 1, d, v, p, e, r => by
    have all : ∀ (l : List D) (xs : List V) (ps : List PyData), mapO (toPD h k) l = some ps → RpL φ H l xs → DpAll K H xs ps := by
      intro l
      induction l with
      | nil =>
        intro xs ps e r
        cases e
        rw [show xs = [] from r]
        exact .nil
      | cons d l ih =>
        intro xs ps e r
        obtain ⟨b, s, e1, e2, rfl⟩ := mapO_some e
        obtain ⟨x, ys, rfl, r1, r2⟩ := r
        exact .cons (toPD_dp hr k d x b e1 r1) (ih ys s e2 r2)
    cases d with
    | non => cases e; obtain rfl := r; exact .non
    | bl b => cases e; obtain rfl := r; exact .bl b
    | int i => cases e; obtain rfl := r; exact .int i
    | str s => cases e; obtain rfl := r; exact .str s
    | tup l =>
      simp only [toPD] at e
      cases e1 : mapO (toPD h k) l with
      | none => rw [e1] at e; cases e
      | some ps =>
        rw [e1] at e
        cases e
        obtain ⟨a, xs, rfl, hs, hl⟩ := r
        exact .tup (SqT.of hs) (all l xs ps e1 hl)
    | ref n =>
      simp only [toPD] at e
      obtain ⟨a, ha, rfl⟩ := r
      have fin : ∀ l, listAt h n = some l → (mapO (toPD h k) l).map PyData.list = some p → Dp K H (.ref a) p := fun l hl e => by
        obtain ⟨a', xs, f1, f2, f3⟩ := hr.list_at hl
        cases get_eq ha f1
        cases e1 : mapO (toPD h k) l with
        | none => rw [e1] at e; cases e
        | some ps =>
          rw [e1] at e
          cases e
          exact .lst f2 (all l xs ps e1 f3)
      split at e
      · rename_i l g
        exact fin l (by simp [listAt, g]) e
      · rename_i l g
        exact fin l (by simp [listAt, g]) e
      · rename_i l g
        obtain ⟨a', xs, f1, _, f2, f3⟩ := hr.tpl_at (K := K) (n := n) (l := l) (by simp [tplAt, g])
        cases get_eq ha f1
        cases e1 : mapO (toPD h k) l with
        | none => rw [e1] at e; cases e
        | some ps =>
          rw [e1] at e
          cases e
          exact .tup f2 (all l xs ps e1 f3)
      · cases e
    | exc _ _ => cases e
    | clo _ _ => cases e
theorem toPDs_dp {K : PySem.W.Frag} (hr : HRel R φ H h) (k : Nat) : ∀ (l : List D) (xs : List V) (ps : List PyData), mapO (toPD h k) l = some ps → RpL φ H l xs → DpAll K H xs ps
  | [], xs, ps, e, r => by
    cases e
    rw [show xs = [] from r]
    exact .nil
  | d :: l, xs, ps, e, r => by
    obtain ⟨b, s, e1, e2, rfl⟩ := mapO_some e
    obtain ⟨x, ys, rfl, r1, r2⟩ := r
    exact .cons (toPD_dp hr k d x b e1 r1) (toPDs_dp hr k l ys s e2 r2)
theorem eqP_cases {K : PySem.W.Frag} {d1 d2 : D} {x y : V} {b : Bool} (hr : HRel R φ H h) (r1 : Rp φ H d1 x) (r2 : Rp φ H d2 y) (e : eqP h d1 d2 = some b) :
    (scal x y = true ∧ b = decide (x = y)) ∨ ∃ p q, Dp K H x p ∧ Dp K H y q ∧ SeqAt.shaped p = true ∧ SeqAt.shaped q = true ∧ b = PyData.eqv p q := by
  have gen : (match toPD h 65 d1, toPD h 65 d2 with
    | some a, some b => if SeqAt.shaped a && SeqAt.shaped b then some (PyData.eqv a b) else none
    | _, _ => none) = some b → ∃ p q, Dp K H x p ∧ Dp K H y q ∧ SeqAt.shaped p = true ∧ SeqAt.shaped q = true ∧ b = PyData.eqv p q := fun e => by
    split at e
    · rename_i p q e1 e2
      split at e <;> rename_i hz
      · cases e
        rw [Bool.and_eq_true] at hz
        exact ⟨p, q, toPD_dp hr 65 d1 x p e1 r1, toPD_dp hr 65 d2 y q e2 r2, hz.1, hz.2, rfl⟩
      · cases e
    · cases e
  unfold eqP at e
  split at e
  · cases e
    obtain rfl := r1
    obtain rfl := r2
    exact .inl ⟨rfl, by rw [dec_int]; exact (Bool.beq_eq_decide_eq ..).symm⟩
  · cases e
    obtain rfl := r1
    obtain rfl := r2
    exact .inl ⟨rfl, by rw [dec_str]; exact (Bool.beq_eq_decide_eq ..).symm⟩
  · cases e
    obtain rfl := r1
    obtain rfl := r2
    exact .inl ⟨rfl, by rw [dec_bl]; exact (Bool.beq_eq_decide_eq ..).symm⟩
  · cases e
    obtain rfl := r1
    obtain rfl := r2
    exact .inl ⟨rfl, by simp⟩
  · exact .inr (gen e)
theorem cmp_eq (hu : X.A.units + 65 < cLine) : OpR X (compareOp .Eq) (vR2 R fun h x y => okV (eqP h x y) h) := by
  intro pins s σ H x y v u Q I rx ry ⟨φ, h, d1, d2, hr, r1, r2, q⟩
  obtain ⟨b, e, q⟩ := okV_some q
  rcases eqP_cases hr r1 r2 e with ⟨h1, rfl⟩ | ⟨p, p', h1, h2, h3, h4, rfl⟩
  · exact op_eq pins s σ H x y v u Q I rx ry ⟨h1, OutV.here (d := .bl _) hr rfl q⟩
  · exact op_eqD (by omega) pins s σ H x y v u Q I rx ry ⟨p, p', h1, h2, h3, h4, OutV.here (d := .bl _) hr rfl q⟩
theorem cmp_ne (hu : X.A.units + 65 < cLine) : OpR X (compareOp .NotEq) (vR2 R fun h x y => okV ((eqP h x y).map (!·)) h) := by
  intro pins s σ H x y v u Q I rx ry ⟨φ, h, d1, d2, hr, r1, r2, q⟩
  obtain ⟨b, e, q⟩ := okV_some q
  cases e1 : eqP h d1 d2 with
  | none => rw [e1] at e; cases e
  | some c =>
    rw [e1] at e
    cases e
    rcases eqP_cases hr r1 r2 e1 with ⟨h1, rfl⟩ | ⟨p, p', h1, h2, h3, h4, rfl⟩
    · exact op_ne pins s σ H x y v u Q I rx ry ⟨h1, OutV.here (d := .bl _) hr rfl q⟩
    · exact op_neD (by omega) pins s σ H x y v u Q I rx ry ⟨p, p', h1, h2, h3, h4, OutV.here (d := .bl _) hr rfl q⟩
theorem cmp_int {op : CmpOp} {p : Int → Int → Bool} {f : D → D → Option Bool} (hf : ∀ d1 d2 b, f d1 d2 = some b → ∃ i j, d1 = .int i ∧ d2 = .int j ∧ b = p i j) (ho : OpR X (compareOp op) (rI0 fun i j => .bl (p i j))) : OpR X (compareOp op) (vR2 R fun h x y => okV (f x y) h) := by
  intro pins s σ H x y v u Q I rx ry ⟨φ, h, d1, d2, hr, r1, r2, q⟩
  obtain ⟨b, e, q⟩ := okV_some q
  obtain ⟨i, j, rfl, rfl, rfl⟩ := hf _ _ _ e
  obtain rfl := r1
  obtain rfl := r2
  exact ho pins s σ H _ _ v u Q I rx ry ⟨i, j, rfl, rfl, OutV.here (d := .bl _) hr rfl q⟩
theorem ltP_some (d1 d2 : D) (b : Bool) (h : ltP d1 d2 = some b) : ∃ i j, d1 = .int i ∧ d2 = .int j ∧ b = decide (i < j) := by
  unfold ltP at h
  split at h
  · cases h; exact ⟨_, _, rfl, rfl, rfl⟩
  · cases h
theorem leP_some (d1 d2 : D) (b : Bool) (h : leP d1 d2 = some b) : ∃ i j, d1 = .int i ∧ d2 = .int j ∧ b = decide (i ≤ j) := by
  unfold leP at h
  split at h
  · cases h; exact ⟨_, _, rfl, rfl, rfl⟩
  · cases h
theorem keyOf_kV {d : D} {k : Key} {v : V} (e : keyOf d = some k) (r : Rp φ H d v) : v = kV k := by
  cases d with
  | int i => cases e; exact r
  | str s => cases e; exact r
  | _ => cases e
theorem keys_kV : ∀ {l : List D} {ks : List Key} {xs : List V}, mapO keyOf l = some ks → RpL φ H l xs → xs = ks.map kV
  | [], ks, xs, e, r => by cases e; exact r
  | d :: l, ks, xs, e, r => by
    obtain ⟨b, s, e1, e2, rfl⟩ := mapO_some e
    obtain ⟨x, ys, rfl, r1, r2⟩ := r
    rw [keyOf_kV e1 r1, keys_kV e2 r2]
    rfl
theorem keyOf_inj {d1 d2 : D} {k : Key} (h1 : keyOf d1 = some k) (h2 : keyOf d2 = some k) : d1 = d2 := by
  cases d1 <;> first | cases h1 | skip
  all_goals (cases d2 <;> first | cases h2 | skip)
  all_goals rfl
theorem keys_inj : ∀ {l1 l2 : List D} {ks : List Key}, mapO keyOf l1 = some ks → mapO keyOf l2 = some ks → l1 = l2
  | [], [], _, _, _ => rfl
  | [], d :: l, ks, h1, h2 => by
    cases h1
    obtain ⟨_, _, _, _, e⟩ := mapO_some h2
    cases e
  | d :: l, [], ks, h1, h2 => by
    cases h2
    obtain ⟨_, _, _, _, e⟩ := mapO_some h1
    cases e
  | d :: l, d' :: l', ks, h1, h2 => by
    obtain ⟨b, s, e1, e2, rfl⟩ := mapO_some h1
    obtain ⟨b', s', e1', e2', e⟩ := mapO_some h2
    injection e with e3 e4
    subst e3 e4
    rw [keyOf_inj e1 e1', keys_inj e2 e2']
theorem tkeyOf_inj {d1 d2 : D} {k : List Key} (h1 : tkeyOf d1 = some k) (h2 : tkeyOf d2 = some k) : d1 = d2 := by
  cases d1 <;> first | cases h1 | skip
  cases d2 <;> first | cases h2 | skip
  rw [keys_inj h1 h2]
theorem dfind_cons (p : D × D) (r : List (D × D)) (k : D) : dfind (p :: r) k = if p.1 = k then some p.2 else dfind r k := by
  unfold dfind
  rw [List.find?_cons]
  by_cases e : p.1 = k
  · simp [e]
  · simp [e]
theorem RpK.find {d : D} {k : Key} (e : keyOf d = some k) : ∀ {l : List (D × D)} {xs : List (Key × V)}, RpK φ H l xs → (∀ v, dfind l d = some v → ∃ x, valV xs k = some x ∧ Rp φ H v x) ∧ (dfind l d = none → valV xs k = none)
  | [], xs, r => by
    rw [show xs = [] from r]
    exact ⟨fun v q => (by cases q), fun _ => rfl⟩
  | p :: l, xs, r => by
    obtain ⟨x, ys, rfl, r1, r2, r3⟩ := r
    rw [dfind_cons]
    by_cases hp : p.1 = d
    · rw [if_pos hp]
      have hk : x.1 = k := by
        rw [hp, e] at r1
        exact (Option.some.inj r1).symm
      rw [valV_pos hk]
      exact ⟨fun v q => (by cases q; exact ⟨_, rfl, r2⟩), fun q => (by cases q)⟩
    · rw [if_neg hp]
      have hk : ¬ x.1 = k := fun z => hp (keyOf_inj r1 (z ▸ e))
      rw [valV_neg hk]
      exact RpK.find e r3
theorem RpT.find {d : D} {k : List Key} (e : tkeyOf d = some k) : ∀ {l : List (D × D)} {xs : List (List Key × V)}, RpT φ H l xs → (∀ v, dfind l d = some v → ∃ x, valV xs k = some x ∧ Rp φ H v x) ∧ (dfind l d = none → valV xs k = none)
  | [], xs, r => by
    rw [show xs = [] from r]
    exact ⟨fun v q => (by cases q), fun _ => rfl⟩
  | p :: l, xs, r => by
    obtain ⟨x, ys, rfl, r1, r2, r3⟩ := r
    rw [dfind_cons]
    by_cases hp : p.1 = d
    · rw [if_pos hp]
      have hk : x.1 = k := by
        rw [hp, e] at r1
        exact (Option.some.inj r1).symm
      rw [valV_pos hk]
      exact ⟨fun v q => (by cases q; exact ⟨_, rfl, r2⟩), fun q => (by cases q)⟩
    · rw [if_neg hp]
      have hk : ¬ x.1 = k := fun z => hp (tkeyOf_inj r1 (z ▸ e))
      rw [valV_neg hk]
      exact RpT.find e r3
end
end Bp
end

section
set_option linter.all false
set_option maxRecDepth 100000
set_option maxHeartbeats 0
set_option linter.all false
set_option maxRecDepth 100000
set_option autoImplicit false
set_option maxHeartbeats 1000000
namespace Bp
open PySem PySem.Spec PyProof.Rows L2
section
variable {X : Cx} {R : Rx} {φ : List Addr} {H : Hp} {h : DH} {Q : VK} {pins : List (Addr × Obj)} {σ : L2.St} {s : Shared} {a : Addr}
theorem Inv.toT (I : L2.Inv X pins σ H s) (e : H a = some (.dK [])) : L2.Inv X pins σ (upd H a (.dT [])) s := by
  obtain ⟨z, hd, vs, rel, o, es, ep, h1, h2, h3, h4, h5, h6⟩ := dk_of I.hok e
  cases rel
  have q := I.write (x := a) (e := a) (o := .dT []) (h' := s.heap) (t' := s.toks) (by rw [e]; trivial) (.inl rfl) (fun b u _ q => q) ⟨_, h1⟩
    ⟨z, hd, [], .nil, o, es, ep, h1, h2, h3, (by
      cases e2 : es.toList with
      | nil => rfl
      | cons b r => rw [e2] at h5; cases h5), List.nodup_nil⟩
  exact q
theorem Inv.toK (I : L2.Inv X pins σ H s) (e : H a = some (.dT [])) : L2.Inv X pins σ (upd H a (.dK [])) s := by
  obtain ⟨z, hd, xs, rel, o, es, ep, h1, h2, h3, h4, h5⟩ := dt_of I.hok e
  cases rel
  have e2 : es = #[] := by
    apply Array.toList_inj.mp
    rw [h4]
    rfl
  subst e2
  have q := I.write (x := a) (e := a) (o := .dK []) (h' := s.heap) (t' := s.toks) (by rw [e]; trivial) (.inl rfl) (fun b u _ q => q) ⟨_, h1⟩
    ⟨z, hd, [], .nil, o, #[], ep, h1, h2, h3, (fun i j => absurd j (by simp)), (by exact .nil), List.nodup_nil⟩
  exact q
theorem upd_back {o u : HO} (e : H a = some o) : upd (upd H a u) a o = H := by
  funext b
  unfold upd
  by_cases hb : b = a
  · rw [if_pos hb, hb, e]
  · rw [if_neg hb, if_neg hb]
theorem dget_ok {o : DO} {k : D} {r : Option D} {y : V} (hr : RO R φ H o a) (rk : Rp φ H k y) (e : dget o k = some r) :
    (∃ ov, DGet H a y ov ∧ (∀ v, r = some v → ∃ x, ov = some x ∧ Rp φ H v x) ∧ (r = none → ov = none)) ∨ (H a = some (.dK []) ∧ r = none ∧ DGet (upd H a (.dT [])) a y none) := by
  have tk : ∀ ks, tkeyOf k = some ks → ∃ b, y = .ref b ∧ H b = some (.tup (ks.map kV)) := fun ks e => by
    cases k with
    | tup l =>
      obtain ⟨b, xs, rfl, h1, h2⟩ := rk
      exact ⟨b, rfl, by rw [h1, keys_kV (show mapO keyOf l = some ks from e) h2]⟩
    | _ => cases e
  cases o with
  | dk kvs =>
    obtain ⟨xs, h1, h2⟩ := hr
    simp only [dget] at e
    split at e
    · rename_i k' e1
      cases e
      refine .inl ⟨valV xs k', .inl ⟨xs, k', .inl h1, keyOf_kV e1 rk, rfl⟩, fun v hv => (h2.find e1).1 v hv, fun hv => (h2.find e1).2 hv⟩
    · split at e
      · rename_i ks e1
        split at e <;> rename_i hz
        · cases e
          subst hz
          have e2 : xs = [] := h2
          subst e2
          obtain ⟨b, rfl, hb⟩ := tk ks e1
          refine .inr ⟨h1, rfl, .inr ⟨[], ks, b, .inl upd_same, rfl, ?_, rfl⟩⟩
          rw [upd_ne (ne_of hb h1 (by intro z; cases z))]
          exact hb
        · cases e
      · cases e
  | lk kvs =>
    obtain ⟨o, xs, h1, h2⟩ := hr
    simp only [dget] at e
    split at e
    · rename_i k' e1
      cases e
      refine .inl ⟨valV xs k', .inl ⟨xs, k', .inr ⟨o, h1⟩, keyOf_kV e1 rk, rfl⟩, fun v hv => (h2.find e1).1 v hv, fun hv => (h2.find e1).2 hv⟩
    · cases e
  | dt kvs =>
    obtain ⟨xs, h1, h2⟩ := hr
    simp only [dget] at e
    split at e
    · rename_i k' e1
      cases e
      obtain ⟨b, rfl, hb⟩ := tk k' e1
      refine .inl ⟨valV xs k', .inr ⟨xs, k', b, .inl h1, rfl, hb, rfl⟩, fun v hv => (h2.find e1).1 v hv, fun hv => (h2.find e1).2 hv⟩
    · cases e
  | lt kvs =>
    obtain ⟨o, xs, h1, h2⟩ := hr
    simp only [dget] at e
    split at e
    · rename_i k' e1
      cases e
      obtain ⟨b, rfl, hb⟩ := tk k' e1
      refine .inl ⟨valV xs k', .inr ⟨xs, k', b, .inr ⟨o, h1⟩, rfl, hb, rfl⟩, fun v hv => (h2.find e1).1 v hv, fun hv => (h2.find e1).2 hv⟩
    · cases e
  | _ => cases e
theorem swapT {α : Type} {t : Sem α} {F : α → Hp → Shared → Prop} (I : L2.Inv X pins σ H s) (e : H a = some (.dK []))
    (k : L2.Inv X pins σ (upd H a (.dT [])) s → wpAny (model X.prog X.w) X.A t (fun r s' => L2.Inv X pins σ (upd H a (.dT [])) s' ∧ F r H s') X.xe s) : wpAny (model X.prog X.w) X.A t (fun r s' => L2.Inv X pins σ H s' ∧ F r H s') X.xe s := by
  refine thn (k (Inv.toT I e)) fun r s' ⟨I', f⟩ => ⟨?_, f⟩
  have q := Inv.toK I' upd_same
  rw [upd_back e] at q
  exact q
theorem in_run (neg : Bool) {k : D} {o : DO} {r : Option D} {y : V} {u : Value} (hu : X.A.units + 65 < cLine) (I : L2.Inv X pins σ H s) (hr : RO R φ H o a) (rk : Rp φ H k y) (ry : RelV y u) (e : dget o k = some r) :
    wpAny (model X.prog X.w) X.A (compareOp (if neg then .NotIn else .In) u (.ref a)) (fun v s' => L2.Inv X pins σ H s' ∧ v = .bool (if neg then !r.isSome else r.isSome)) X.xe s := by
  rcases dget_ok hr rk e with ⟨ov, g, h1, h2⟩ | ⟨e1, rfl, g⟩
  · have e2 : ov.isSome = r.isSome := by
      cases r with
      | some v => obtain ⟨x, rfl, _⟩ := h1 v rfl; rfl
      | none => rw [h2 rfl]; rfl
    cases neg with
    | false => exact d_in (by omega) I g ry fun s' I' => ⟨I', by rw [e2]; rfl⟩
    | true => exact d_notIn (by omega) I g ry fun s' I' => ⟨I', by rw [e2]; rfl⟩
  · refine swapT (F := fun v _ _ => v = Value.bool (if neg then !(none : Option D).isSome else (none : Option D).isSome)) I e1 fun I' => ?_
    cases neg with
    | false => exact d_in (by omega) I' g ry fun s' I' => ⟨I', rfl⟩
    | true => exact d_notIn (by omega) I' g ry fun s' I' => ⟨I', rfl⟩
theorem ref_of {v : Value} {a : Addr} (r : RelV (V.ref a) v) : v = .ref a := r
theorem cmp_in (neg : Bool) (hu : X.A.units + 65 < cLine) : OpR X (compareOp (if neg then .NotIn else .In)) (vR2 R fun h x y => okV ((inP h x y).map fun b => if neg then !b else b) h) := by
  intro pins s σ H x y v u Q I rx ry ⟨φ, h, d1, d2, hr, r1, r2, q⟩
  obtain ⟨b, e, q⟩ := okV_some q
  obtain ⟨c, e1, rfl⟩ := Option.map_eq_some_iff.mp e
  have done : ∀ s', L2.Inv X pins σ H s' → EP X pins σ Q (.bool (if neg then !c else c)) s' := fun s' I' => ⟨.bl _, H, I', rfl, OutV.here (d := .bl _) hr rfl q⟩
  have seq : ∀ l xs a, (SqT X.K H a xs ∨ SqL X.K H a xs) → y = .ref a → RpL φ H l xs → (match toPD h 65 d1, mapO (toPD h 64) l with
      | some a, some ps => if SeqAt.shaped a && SeqAt.shaped (.list ps) then some (ps.any fun p => PyData.eqv p a) else none
      | _, _ => none) = some c → wpAny (model X.prog X.w) X.A (compareOp (if neg then .NotIn else .In) v u) (EP X pins σ Q) X.xe s := fun l xs a hs ey hl e => by
    split at e
    · rename_i p ps g1 g2
      split at e <;> rename_i hz
      · cases e
        rw [Bool.and_eq_true] at hz
        have dx : Dp X.K H x p := toPD_dp hr 65 d1 x p g1 r1
        have dl := toPDs_dp (K := X.K) hr 64 l xs ps g2 hl
        subst ey
        rcases hs with hs | hs
        · obtain ⟨as, q1⟩ := Dp.reads I p x v dx rx
          obtain ⟨bs, q2⟩ := Dp.reads I (.tuple ps) (.ref a) u (.tup hs dl) ry
          have hz2 : SeqAt.shaped (.tuple ps) = true := hz.2
          cases neg with
          | false => exact SeqAt.in_tuple_reads q2 q1 (SeqAt.canLay_of_shaped hz2) (SeqAt.canLay_of_shaped hz.1) (room_in_shaped hz.1 hu) (done s I)
          | true => exact SeqAt.notIn_tuple_reads q2 q1 (SeqAt.canLay_of_shaped hz2) (SeqAt.canLay_of_shaped hz.1) (room_in_shaped hz.1 hu) (done s I)
        · cases neg with
          | false => exact op_inD hu pins s σ H x _ v u Q I rx ry ⟨p, ps, dx, .lst hs dl, hz.1, hz.2, OutV.here (d := .bl _) hr rfl q⟩
          | true => exact op_notInD hu pins s σ H x _ v u Q I rx ry ⟨p, ps, dx, .lst hs dl, hz.1, hz.2, OutV.here (d := .bl _) hr rfl q⟩
      · cases e
    · cases e
  unfold inP at e1
  split at e1
  · rename_i t
    split at e1
    · rename_i z
      cases e1
      obtain rfl := r1
      obtain rfl := r2
      cases neg with
      | false => exact op_in_str pins s σ H _ _ v u Q I rx ry ⟨z, t, rfl, rfl, OutV.here (d := .bl _) hr rfl q⟩
      | true => exact op_notIn_str pins s σ H _ _ v u Q I rx ry ⟨z, t, rfl, rfl, OutV.here (d := .bl _) hr rfl q⟩
    · cases e1
  · split at e1
    · rename_i l g
      cases d2 with
      | tup l' =>
        cases g
        obtain ⟨a, xs, ey, h1, h2⟩ := r2
        exact seq l xs a (.inl (SqT.of h1)) ey h2 e1
      | ref n =>
        obtain ⟨a', f4, ey⟩ := r2
        simp only [seqOf] at g
        split at g
        · rename_i l' gt
          cases g
          obtain ⟨a, xs, f1, _, f2, f3⟩ := hr.tpl_at (K := X.K) gt
          cases get_eq f1 f4
          exact seq _ xs _ (.inl f2) ey f3 e1
        · obtain ⟨a, xs, f1, f2, f3⟩ := hr.list_at (K := X.K) g
          cases get_eq f1 f4
          exact seq _ xs _ (.inr f2) ey f3 e1
      | _ => cases g
    · split at e1
      · rename_i n
        split at e1
        · rename_i o g
          obtain ⟨r, e2, rfl⟩ := Option.map_eq_some_iff.mp e1
          obtain ⟨a, f1, f2⟩ := hr.addr g
          obtain ⟨a', f4, ey⟩ := r2
          cases get_eq f1 f4
          subst ey
          cases ref_of ry
          exact thn (in_run neg hu I f2 r1 rx e2) fun w s' ⟨I', ew⟩ => by rw [ew]; exact done s' I'
        · cases e1
      · cases e1
theorem cmp_isn : OpR X (compareOp .Is) (vR2 R fun h x y => okV (isP x y) h) := by
  intro pins s σ H x y v u Q I rx ry ⟨φ, h, d1, d2, hr, r1, r2, q⟩
  obtain ⟨b, e, q⟩ := okV_some q
  unfold isP at e
  split at e
  · cases e
    obtain rfl := r2
    refine op_isN pins s σ H x _ v u Q I rx ry ⟨rfl, ?_⟩
    have e2 : decide (x = V.non) = decide (d1 = .non) := by
      cases d1 with
      | non => obtain rfl := r1; rfl
      | bl _ => obtain rfl := r1; rfl
      | int _ => obtain rfl := r1; rfl
      | str _ => obtain rfl := r1; rfl
      | tup _ => obtain ⟨_, _, rfl, _⟩ := r1; rfl
      | ref _ => obtain ⟨_, _, rfl⟩ := r1; rfl
      | exc _ _ => exact r1.elim
      | clo _ _ => exact r1.elim
    rw [e2]
    exact OutV.here (d := .bl _) hr rfl q
  · cases e
theorem cmp_notn : OpR X (compareOp .IsNot) (vR2 R fun h x y => okV ((isP x y).map (!·)) h) := by
  intro pins s σ H x y v u Q I rx ry ⟨φ, h, d1, d2, hr, r1, r2, q⟩
  obtain ⟨b, e, q⟩ := okV_some q
  obtain ⟨c, e, e0⟩ := Option.map_eq_some_iff.mp e
  unfold isP at e
  split at e
  · have e3 := Option.some.inj e
    subst e3
    subst e0
    obtain rfl := r2
    refine op_notN pins s σ H x _ v u Q I rx ry ⟨rfl, ?_⟩
    have e2 : decide (x = V.non) = decide (d1 = .non) := by
      cases d1 with
      | non => obtain rfl := r1; rfl
      | bl _ => obtain rfl := r1; rfl
      | int _ => obtain rfl := r1; rfl
      | str _ => obtain rfl := r1; rfl
      | tup _ => obtain ⟨_, _, rfl, _⟩ := r1; rfl
      | ref _ => obtain ⟨_, _, rfl⟩ := r1; rfl
      | exc _ _ => exact r1.elim
      | clo _ _ => exact r1.elim
    rw [e2]
    exact OutV.here (d := .bl _) hr rfl q
  · cases e
theorem cmpD_ok (hu : X.A.units + 65 < cLine) (op : CmpOp) : OpR X (compareOp op) (vR2 R fun h x y => okV (cmpD op h x y) h) := by
  cases op with
  | Eq => exact cmp_eq hu
  | NotEq => exact cmp_ne hu
  | Lt => exact cmp_int ltP_some op_lt
  | LtE => exact cmp_int leP_some op_le
  | Gt => exact cmp_int (p := fun i j => decide (j < i)) (f := fun x y => ltP y x) (fun d1 d2 b e => let ⟨i, j, h1, h2, h3⟩ := ltP_some d2 d1 b e; ⟨j, i, h2, h1, h3⟩) op_gt
  | GtE => exact cmp_int (p := fun i j => decide (j ≤ i)) (f := fun x y => leP y x) (fun d1 d2 b e => let ⟨i, j, h1, h2, h3⟩ := leP_some d2 d1 b e; ⟨j, i, h2, h1, h3⟩) op_ge
  | In =>
    have q := cmp_in (X := X) (R := R) false hu
    have e : (fun (h : DH) (x y : D) => okV ((inP h x y).map fun b => if false then !b else b) h) = fun h x y => okV (inP h x y) h := by
      funext h x y
      cases inP h x y <;> rfl
    rw [e] at q
    exact q
  | NotIn => exact cmp_in (X := X) (R := R) true hu
  | Is => exact cmp_isn
  | IsNot => exact cmp_notn
theorem truD_ok {d : D} {x : V} {b : Bool} (hr : HRel R φ H h) (r : Rp φ H d x) (e : truD h d = some b) : TruV X.K x H b := by
  cases d with
  | non => cases e; obtain rfl := r; rfl
  | bl _ => cases e; obtain rfl := r; rfl
  | int _ => cases e; obtain rfl := r; rfl
  | str z =>
    obtain rfl := r
    simp only [truD] at e
    split at e <;> rename_i hz
    · cases e
      exact ⟨by rw [← lim_eq]; exact hz, rfl⟩
    · cases e
  | tup l =>
    cases e
    obtain ⟨a, xs, rfl, h1, h2⟩ := r
    refine .inr (.inl ⟨xs, SqT.of h1, ?_⟩)
    have := h2.length
    cases l <;> cases xs <;> simp_all
  | ref n =>
    obtain ⟨a, f1, rfl⟩ := r
    simp only [truD] at e
    have fin : ∀ l, listAt h n = some l → TruV X.K (.ref a) H (!l.isEmpty) := fun l hl => by
      obtain ⟨a', xs, f2, f3, f4⟩ := hr.list_at (K := X.K) hl
      cases get_eq f1 f2
      refine .inl ⟨xs, f3, ?_⟩
      have := f4.length
      cases l <;> cases xs <;> simp_all
    split at e
    · rename_i l g; cases e; exact fin l (by simp [listAt, g])
    · rename_i l g; cases e; exact fin l (by simp [listAt, g])
    · rename_i l g
      cases e
      obtain ⟨a', xs, f2, _, f3, f4⟩ := hr.tpl_at (K := X.K) (n := n) (l := l) (by simp [tplAt, g])
      cases get_eq f1 f2
      refine .inr (.inl ⟨xs, f3, ?_⟩)
      have := f4.length
      cases l <;> cases xs <;> simp_all
    · rename_i l g
      cases e
      obtain ⟨a', f2, xs, f3, f4⟩ := hr.addr g
      cases get_eq f1 f2
      refine .inr (.inr ⟨xs, f3, ?_⟩)
      cases l with
      | nil => rw [show xs = [] from f4]; rfl
      | cons _ _ => obtain ⟨_, _, rfl, _⟩ := f4; rfl
    · cases e
  | _ => cases e
end
end Bp
end

section
set_option linter.all false
set_option maxRecDepth 100000
set_option maxHeartbeats 0
set_option linter.all false
set_option maxRecDepth 100000
set_option autoImplicit false
set_option maxHeartbeats 1000000
namespace Bp
open PySem PySem.Spec PyProof.Rows L2
section
variable {X : Cx} {R : Rx} {φ : List Addr} {H : Hp} {h : DH} {Q : VK} {pins : List (Addr × Obj)} {σ : L2.St} {s : Shared} {a : Addr}
theorem RpL.atI {l : List D} {xs : List V} {i : Int} {d : D} (r : RpL φ H l xs) (e : atI l i = some d) : ∃ x, L2.atI xs i = some x ∧ Rp φ H d x := by
  unfold Bp.atI L2.atI at e
  unfold L2.atI
  rw [r.length]
  cases e1 : L2.ixN l.length i with
  | none => rw [e1] at e; cases e
  | some j =>
    rw [e1] at e
    exact r.get (show l[j]? = some d from e)
theorem lsub_ok {value slice : Expr} {y : V} {v u : Value} {n : Nat} {l : List D} {d2 : D} (hr : HRel R φ H h) (r2 : Rp φ H d2 y) (hl : listAt h n = some l) (f1 : φ[n]? = some a) (q : OutV R φ H Q (lsub h l d2))
    (I : Inv X pins σ H s) (rx : RelV (.ref a) v) (ry : RelV y u) (hs : subscripted slice false v u = operate [v, u] (getItem v u)) : wpAny (model X.prog X.w) X.A (subscriptTail value slice v u) (EP X pins σ Q) X.xe s := by
  cases d2 with
  | int i =>
    obtain rfl := r2
    simp only [lsub] at q
    split at q
    · rename_i d e
      obtain ⟨a', xs, f2, f3, f4⟩ := hr.list_at (K := X.K) hl
      cases get_eq f1 f2
      obtain ⟨z, e2, rz⟩ := f4.atI e
      exact ix_list value slice pins s σ H _ _ v u Q I rx ry ⟨a, xs, i, z, rfl, rfl, f3, e2, OutV.here hr rz q⟩ hs
    · exact q.elim
  | _ => exact q.elim
theorem subD_ok (hu : X.A.units + 65 < cLine) : IxR X (vR2 R subD) := by
  intro value slice pins s σ H x y v u Q I rx ry ⟨φ, h, d1, d2, hr, r1, r2, q⟩ hs
  cases d1 with
  | tup l =>
    cases d2 with
    | int i =>
      obtain ⟨a, xs, rfl, h1, h2⟩ := r1
      obtain rfl := r2
      simp only [subD] at q
      split at q
      · rename_i d e
        obtain ⟨z, e2, rz⟩ := h2.atI e
        exact ix_tup value slice pins s σ H _ _ v u Q I rx ry ⟨a, xs, i, z, rfl, rfl, SqT.of h1, e2, OutV.here hr rz q⟩ hs
      · exact q.elim
    | _ => exact q.elim
  | str t =>
    cases d2 with
    | int i =>
      obtain rfl := r1
      obtain rfl := r2
      simp only [subD] at q
      split at q <;> rename_i hz
      · split at q
        · rename_i c e
          exact ix_str value slice pins s σ H _ _ v u Q I rx ry ⟨t, i, c, rfl, rfl, by rw [← lim_eq]; exact hz, e, OutV.here (d := .str ⟨#[c]⟩) hr rfl q⟩ hs
        · exact q.elim
      · exact q.elim
    | _ => exact q.elim
  | ref n =>
    obtain ⟨a, f1, rfl⟩ := r1
    simp only [subD] at q
    split at q
    · rename_i l g
      exact lsub_ok hr r2 (by simp [listAt, g]) f1 q I rx ry hs
    · rename_i l g
      exact lsub_ok hr r2 (by simp [listAt, g]) f1 q I rx ry hs
    · rename_i l g
      cases d2 with
      | int i =>
        obtain rfl := r2
        simp only [lsub] at q
        split at q
        · rename_i d e
          obtain ⟨a', xs, f2, _, f3, f4⟩ := hr.tpl_at (K := X.K) (n := n) (l := l) (by simp [tplAt, g])
          cases get_eq f1 f2
          obtain ⟨z, e2, rz⟩ := f4.atI e
          exact ix_tup value slice pins s σ H _ _ v u Q I rx ry ⟨a, xs, i, z, rfl, rfl, f3, e2, OutV.here hr rz q⟩ hs
        · exact q.elim
      | _ => exact q.elim
    · rename_i o n1 n2 n3 g
      split at q
      · rename_i d e
        obtain ⟨a', f2, f3⟩ := hr.addr g
        cases get_eq f1 f2
        rcases dget_ok f3 r2 e with ⟨ov, gg, h1, h2⟩ | ⟨_, e2, _⟩
        · obtain ⟨z, rfl, rz⟩ := h1 d rfl
          cases ref_of rx
          exact tail_any (dict_typeIs I gg) PySem.F.slot_dict_getitem.lookup (d_getItem (by omega) I gg ry fun w' s3 I3 rw' => ⟨z, H, I3, rw', OutV.here hr rz q⟩) hs
        · cases e2
      · exact q.elim
    · exact q.elim
  | _ => exact q.elim
theorem cutL_rel {l : List D} {xs : List V} (r : RpL φ H l xs) (lo hi : Option Int) : RpL φ H (cutL l lo hi) (cutV xs lo hi) := by
  unfold cutL cutV
  rw [r.length]
  exact (r.drop _).take _
def vRS (R : Rx) : V → Option Int → Option Int → Hp → VK → Prop := fun x lo hi H Q => ∃ φ h d, HRel R φ H h ∧ Rp φ H d x ∧ OutV R φ H Q (sliceD h d lo hi)
theorem sliceD_ok : SlR X (vRS R) := by
  intro pins s σ H x v vl vu lo hi sl Q I rx hs pl pu ⟨φ, h, d, hr, r1, q⟩
  cases d with
  | tup l =>
    obtain ⟨a, xs, rfl, h1, h2⟩ := r1
    refine sl_tupA pins s σ H _ v vl vu lo hi sl Q I rx hs pl pu ⟨a, xs, rfl, SqT.of h1, ?_⟩
    · refine ⟨fun hw => ?_, fun hw p hp => ?_⟩
      · have e : cutL l lo hi = l := by
          unfold cutL
          rw [h2.length] at hw
          rw [hw.1, hw.2]
          simp
        have q' : OutV R φ H Q (some (.tup (cutL l lo hi), h)) := q
        rw [e] at q'
        exact OutV.here (d := .tup l) hr ⟨a, xs, rfl, h1, h2⟩ q'
      · exact OutV.tup hr (cutL_rel h2 lo hi) q hp
  | str z =>
    obtain rfl := r1
    simp only [sliceD] at q
    split at q <;> rename_i hz
    · exact sl_str pins s σ H _ v vl vu lo hi sl Q I rx hs pl pu ⟨z, rfl, by rw [← lim_eq]; exact hz, OutV.here (d := .str _) hr rfl q⟩
    · exact q.elim
  | ref n =>
    obtain ⟨a, f1, rfl⟩ := r1
    simp only [sliceD] at q
    split at q
    · rename_i l g
      obtain ⟨a', xs, f2, f3, f4⟩ := hr.lst_at g
      cases get_eq f1 f2
      exact sl_list pins s σ H _ v vl vu lo hi sl Q I rx hs pl pu ⟨a, xs, rfl, SqL.of f3, fun p hp => q.lst hr (cutL_rel f4 lo hi) hp⟩
    · exact q.elim
  | _ => exact q.elim
def OutP (R : Rx) (φ : List Addr) (H : Hp) (Q : Hp → Prop) : Option DH → Prop
  | some h' => ∀ φ' H', Ext φ H φ' H' → HRel R φ' H' h' → Q H'
  | none => False
def vRP (R : Rx) : TSet := fun o i v H Q => ∃ φ h d1 d2 d3, HRel R φ H h ∧ Rp φ H d1 o ∧ Rp φ H d2 i ∧ Rp φ H d3 v ∧ OutP R φ H Q (putD h d1 d2 d3)
theorem RpK.put {d : D} {k : Key} {v : D} {x : V} (e : keyOf d = some k) (rv : Rp φ H v x) {l : List (D × D)} {xs : List (Key × V)} (r : RpK φ H l xs) : RpK φ H (dset l d v) (putK xs k x) := by
  have any : ∀ {l : List (D × D)} {xs : List (Key × V)}, RpK φ H l xs → (l.any fun p => decide (p.1 = d)) = xs.any fun p => decide (p.1 = k) := by
    intro l
    induction l with
    | nil => intro xs r; rw [show xs = [] from r]; rfl
    | cons p l ih =>
      intro xs r
      obtain ⟨y, ys, rfl, r1, r2, r3⟩ := r
      rw [List.any_cons, List.any_cons, ih r3]
      congr 1
      by_cases hp : p.1 = d
      · have : y.1 = k := by rw [hp, e] at r1; exact (Option.some.inj r1).symm
        simp [hp, this]
      · have : ¬ y.1 = k := fun z => hp (keyOf_inj r1 (z ▸ e))
        simp [hp, this]
  have mp : ∀ {l : List (D × D)} {xs : List (Key × V)}, RpK φ H l xs → RpK φ H (l.map fun p => if p.1 = d then (p.1, v) else p) (xs.map fun p => if p.1 = k then (p.1, x) else p) := by
    intro l
    induction l with
    | nil => intro xs r; rw [show xs = [] from r]; rfl
    | cons p l ih =>
      intro xs r
      obtain ⟨y, ys, rfl, r1, r2, r3⟩ := r
      rw [List.map_cons, List.map_cons]
      by_cases hp : p.1 = d
      · have hk : y.1 = k := by rw [hp, e] at r1; exact (Option.some.inj r1).symm
        rw [if_pos hp, if_pos hk]
        exact ⟨_, _, rfl, r1, rv, ih r3⟩
      · have hk : ¬ y.1 = k := fun z => hp (keyOf_inj r1 (z ▸ e))
        rw [if_neg hp, if_neg hk]
        exact ⟨_, _, rfl, r1, r2, ih r3⟩
  have app : ∀ {l : List (D × D)} {xs : List (Key × V)}, RpK φ H l xs → RpK φ H (l ++ [(d, v)]) (xs ++ [(k, x)]) := by
    intro l
    induction l with
    | nil => intro xs r; rw [show xs = [] from r]; exact ⟨_, _, rfl, e, rv, rfl⟩
    | cons p l ih =>
      intro xs r
      obtain ⟨y, ys, rfl, r1, r2, r3⟩ := r
      exact ⟨_, _, rfl, r1, r2, ih r3⟩
  unfold dset putK
  rw [any r]
  split
  · exact mp r
  · exact app r
theorem RpT.put {d : D} {k : List Key} {v : D} {x : V} (e : tkeyOf d = some k) (rv : Rp φ H v x) {l : List (D × D)} {xs : List (List Key × V)} (r : RpT φ H l xs) : RpT φ H (dset l d v) (putK xs k x) := by
  have any : ∀ {l : List (D × D)} {xs : List (List Key × V)}, RpT φ H l xs → (l.any fun p => decide (p.1 = d)) = xs.any fun p => decide (p.1 = k) := by
    intro l
    induction l with
    | nil => intro xs r; rw [show xs = [] from r]; rfl
    | cons p l ih =>
      intro xs r
      obtain ⟨y, ys, rfl, r1, r2, r3⟩ := r
      rw [List.any_cons, List.any_cons, ih r3]
      congr 1
      by_cases hp : p.1 = d
      · have : y.1 = k := by rw [hp, e] at r1; exact (Option.some.inj r1).symm
        simp [hp, this]
      · have : ¬ y.1 = k := fun z => hp (tkeyOf_inj r1 (z ▸ e))
        simp [hp, this]
  have mp : ∀ {l : List (D × D)} {xs : List (List Key × V)}, RpT φ H l xs → RpT φ H (l.map fun p => if p.1 = d then (p.1, v) else p) (xs.map fun p => if p.1 = k then (p.1, x) else p) := by
    intro l
    induction l with
    | nil => intro xs r; rw [show xs = [] from r]; rfl
    | cons p l ih =>
      intro xs r
      obtain ⟨y, ys, rfl, r1, r2, r3⟩ := r
      rw [List.map_cons, List.map_cons]
      by_cases hp : p.1 = d
      · have hk : y.1 = k := by rw [hp, e] at r1; exact (Option.some.inj r1).symm
        rw [if_pos hp, if_pos hk]
        exact ⟨_, _, rfl, r1, rv, ih r3⟩
      · have hk : ¬ y.1 = k := fun z => hp (tkeyOf_inj r1 (z ▸ e))
        rw [if_neg hp, if_neg hk]
        exact ⟨_, _, rfl, r1, r2, ih r3⟩
  have app : ∀ {l : List (D × D)} {xs : List (List Key × V)}, RpT φ H l xs → RpT φ H (l ++ [(d, v)]) (xs ++ [(k, x)]) := by
    intro l
    induction l with
    | nil => intro xs r; rw [show xs = [] from r]; exact ⟨_, _, rfl, e, rv, rfl⟩
    | cons p l ih =>
      intro xs r
      obtain ⟨y, ys, rfl, r1, r2, r3⟩ := r
      exact ⟨_, _, rfl, r1, r2, ih r3⟩
  unfold dset putK
  rw [any r]
  split
  · exact mp r
  · exact app r
theorem RpK.len : ∀ {l : List (D × D)} {xs : List (Key × V)}, RpK φ H l xs → xs.length = l.length
  | [], _, h => by rw [h]; rfl
  | _ :: l, _, h => by obtain ⟨x, r, rfl, _, _, h2⟩ := h; simp [RpK.len h2]
theorem RpT.len : ∀ {l : List (D × D)} {xs : List (List Key × V)}, RpT φ H l xs → xs.length = l.length
  | [], _, h => by rw [h]; rfl
  | _ :: l, _, h => by obtain ⟨x, r, rfl, _, _, h2⟩ := h; simp [RpT.len h2]
theorem tkey_ref {d : D} {ks : List Key} {y : V} (e : tkeyOf d = some ks) (r : Rp φ H d y) : ∃ b, y = .ref b ∧ H b = some (.tup (ks.map kV)) := by
  cases d with
  | tup l =>
    obtain ⟨b, xs, rfl, h1, h2⟩ := r
    exact ⟨b, rfl, by rw [h1, keys_kV (show mapO keyOf l = some ks from e) h2]⟩
  | _ => cases e
theorem putD_ok (hu : X.A.units + 65 < cLine) : PSet X (vRP R) := by
  intro pins s σ H o i v ov iv u Q I ro ri rv ⟨φ, h, d1, d2, d3, hr, r1, r2, r3, q⟩
  cases d1 with
  | ref n =>
    obtain ⟨a, f1, rfl⟩ := r1
    simp only [putD] at q
    split at q
    · rename_i l g
      cases d2 with
      | int k =>
        obtain rfl := r2
        obtain ⟨a', xs, f2, f3, f4⟩ := hr.lst_at g
        cases get_eq f1 f2
        cases e : ixN l.length k with
        | none => simp only [e] at q; exact q.elim
        | some j =>
          simp only [e] at q
          refine set_list pins s σ H _ _ v ov iv u Q I ro ri rv ⟨a, xs, k, j, rfl, rfl, f3, by rw [f4.length]; exact e, ?_⟩
          have x := ext_set (φ := φ) (a := a) (v := .lst (xs.set j v)) f3 (fun _ z => by cases z) (fun _ _ z => by cases z)
          exact q φ _ x (hr.set f1 f3 (fun _ z => by cases z) (fun _ _ z => by cases z) ⟨_, upd_same, (f4.set r3 j).ext x⟩)
      | _ => exact q.elim
    · rename_i kvs g
      obtain ⟨a', f2, xs, f3, f4⟩ := hr.addr g
      cases get_eq f1 f2
      cases ref_of ro
      simp only [dput] at q
      split at q <;> rename_i hz
      · split at q
        · rename_i k e
          have x := ext_set (φ := φ) (a := a) (v := .dK (putK xs k v)) f3 (fun _ z => by cases z) (fun _ _ z => by cases z)
          exact d_setItem (by omega) I (.inl ⟨xs, k, f3, keyOf_kV e r2, by rw [f4.len, ← lim_eq]; exact hz, rfl⟩) ri rv fun s' I' => ⟨_, I', q φ _ x (hr.set f1 f3 (fun _ z => by cases z) (fun _ _ z => by cases z) ⟨_, upd_same, RpK.ext x (f4.put e r3)⟩)⟩
        · split at q
          · rename_i ks e
            split at q <;> rename_i hn
            · subst hn
              have e2 : xs = [] := f4
              subst e2
              obtain ⟨b, rfl, hb⟩ := tkey_ref e r2
              have x := ext_set (φ := φ) (a := a) (v := .dT [(ks, v)]) f3 (fun _ z => by cases z) (fun _ _ z => by cases z)
              have e3 : upd (upd H a (.dT [])) a (.dT (putK [] ks v)) = upd H a (.dT [(ks, v)]) := upd_upd
              exact d_setItem (H := upd H a (.dT [])) (by omega) (Inv.toT I f3) (.inr ⟨[], ks, b, upd_same, rfl, by rw [upd_ne (ne_of hb f3 (by intro z; cases z))]; exact hb, by rw [sizeLine_eq]; decide, rfl⟩) ri rv fun s' I' =>
                ⟨_, by rw [e3] at I'; exact I', q φ _ x (hr.set f1 f3 (fun _ z => by cases z) (fun _ _ z => by cases z) ⟨_, upd_same, _, _, rfl, e, r3.ext x, rfl⟩)⟩
            · exact q.elim
          · exact q.elim
      · exact q.elim
    · rename_i kvs g
      obtain ⟨a', f2, xs, f3, f4⟩ := hr.addr g
      cases get_eq f1 f2
      cases ref_of ro
      simp only [dput] at q
      split at q <;> rename_i hz
      · split at q
        · rename_i k e
          obtain ⟨b, rfl, hb⟩ := tkey_ref e r2
          have x := ext_set (φ := φ) (a := a) (v := .dT (putK xs k v)) f3 (fun _ z => by cases z) (fun _ _ z => by cases z)
          exact d_setItem (by omega) I (.inr ⟨xs, k, b, f3, rfl, hb, by rw [f4.len, ← lim_eq]; exact hz, rfl⟩) ri rv fun s' I' => ⟨_, I', q φ _ x (hr.set f1 f3 (fun _ z => by cases z) (fun _ _ z => by cases z) ⟨_, upd_same, RpT.ext x (f4.put e r3)⟩)⟩
        · exact q.elim
      · exact q.elim
    · exact q.elim
  | _ => exact q.elim
end
end Bp
end

section
set_option linter.all false
set_option maxRecDepth 100000
set_option maxHeartbeats 0
set_option linter.all false
set_option maxRecDepth 100000
set_option autoImplicit false
set_option maxHeartbeats 1000000
namespace Bp
open PySem PySem.Spec PyProof.Rows L2
section
variable {X : Cx} {R : Rx} {φ : List Addr} {H : Hp} {h : DH} {Q : VK} {pins : List (Addr × Obj)} {σ : L2.St} {s : Shared} {a : Addr}
theorem OutV.int {i : Int} (r : HRel R φ H h) (q : OutV R φ H Q (some (.int i, h))) : Q (.int i) H := q φ H (.int i) .refl r rfl
theorem OutV.bl {i : Bool} (r : HRel R φ H h) (q : OutV R φ H Q (some (.bl i, h))) : Q (.bl i) H := q φ H (.bl i) .refl r rfl
theorem RpL.one_of {d : D} {xs : List V} (r : RpL φ H [d] xs) : ∃ x, xs = [x] ∧ Rp φ H d x := by
  obtain ⟨x, r, rfl, h1, h2⟩ := r
  rw [show r = [] from h2]
  exact ⟨x, rfl, h1⟩
theorem RpL.two_of {d e : D} {xs : List V} (r : RpL φ H [d, e] xs) : ∃ x y, xs = [x, y] ∧ Rp φ H d x ∧ Rp φ H e y := by
  obtain ⟨x, r, rfl, h1, h2⟩ := r
  obtain ⟨y, rfl, h3⟩ := RpL.one_of h2
  exact ⟨x, y, rfl, h1, h3⟩
theorem ints_of : ∀ {l : List D} {xs : List V} {ns : List Int}, intsOf l = some ns → RpL φ H l xs → xs = ns.map V.int
  | [], xs, ns, e, r => by cases e; exact r
  | d :: l, xs, ns, e, r => by
    obtain ⟨b, q, e1, e2, rfl⟩ := mapO_some e
    obtain ⟨x, r', rfl, h1, h2⟩ := r
    cases d with
    | int i => cases e1; obtain rfl := h1; rw [ints_of e2 h2]; rfl
    | _ => cases e1
theorem bls_of : ∀ {l : List D} {xs : List V} {ns : List Bool}, blsOf l = some ns → RpL φ H l xs → xs = ns.map V.bl
  | [], xs, ns, e, r => by cases e; exact r
  | d :: l, xs, ns, e, r => by
    obtain ⟨b, q, e1, e2, rfl⟩ := mapO_some e
    obtain ⟨x, r', rfl, h1, h2⟩ := r
    cases d with
    | bl i => cases e1; obtain rfl := h1; rw [bls_of e2 h2]; rfl
    | _ => cases e1
theorem bind_some {α β : Type} {o : Option α} {f : α → Option β} {b : β} (e : o.bind f = some b) : ∃ a, o = some a ∧ f a = some b := by
  cases o with
  | none => cases e
  | some a => exact ⟨a, rfl, e⟩
theorem bfD_max2 {vs : List D} : bfD .max2 h vs = match vs with | [.int i, .int j] => some (D.int (max i j), h) | _ => none := by
  rcases vs with _ | ⟨x, _ | ⟨y, _ | ⟨z, r⟩⟩⟩
  · rfl
  · cases x <;> rfl
  · cases x <;> cases y <;> rfl
  · cases x <;> cases y <;> rfl
theorem bfD_min2 {vs : List D} : bfD .min2 h vs = match vs with | [.int i, .int j] => some (D.int (min i j), h) | _ => none := by
  rcases vs with _ | ⟨x, _ | ⟨y, _ | ⟨z, r⟩⟩⟩
  · rfl
  · cases x <;> rfl
  · cases x <;> cases y <;> rfl
  · cases x <;> cases y <;> rfl
theorem bfD_abs {vs : List D} : bfD .abs h vs = match vs with | [.int i] => some (D.int i.natAbs, h) | _ => none := by
  rcases vs with _ | ⟨x, _ | ⟨y, _ | ⟨z, r⟩⟩⟩
  · rfl
  · cases x <;> rfl
  · cases x <;> cases y <;> rfl
  · cases x <;> cases y <;> rfl
theorem bfD_int {vs : List D} : bfD .int h vs = match vs with | [.int i] => some (D.int i, h) | [.bl b] => some (D.int (if b then 1 else 0), h) | _ => none := by
  rcases vs with _ | ⟨x, _ | ⟨y, _ | ⟨z, r⟩⟩⟩
  · rfl
  · cases x <;> rfl
  · cases x <;> cases y <;> rfl
  · cases x <;> cases y <;> rfl
theorem bfD_max1 {vs : List D} : bfD .max1 h vs = one h intsOf (fun b => (match maxL b with | some i => some (D.int i, h) | none => none)) vs := by
  rcases vs with _ | ⟨x, _ | ⟨y, _ | ⟨z, r⟩⟩⟩
  · rfl
  · cases x <;> rfl
  · cases x <;> cases y <;> rfl
  · cases x <;> cases y <;> rfl
theorem bfD_min1 {vs : List D} : bfD .min1 h vs = one h intsOf (fun b => (match minL b with | some i => some (D.int i, h) | none => none)) vs := by
  rcases vs with _ | ⟨x, _ | ⟨y, _ | ⟨z, r⟩⟩⟩
  · rfl
  · cases x <;> rfl
  · cases x <;> cases y <;> rfl
  · cases x <;> cases y <;> rfl
theorem bfD_sum {vs : List D} : bfD .sum h vs = one h intsOf (fun b => some (D.int b.sum, h)) vs := by
  rcases vs with _ | ⟨x, _ | ⟨y, _ | ⟨z, r⟩⟩⟩
  · rfl
  · cases x <;> rfl
  · cases x <;> cases y <;> rfl
  · cases x <;> cases y <;> rfl
theorem bfD_all {vs : List D} : bfD .all h vs = one h blsOf (fun b => some (D.bl (b.all id), h)) vs := by
  rcases vs with _ | ⟨x, _ | ⟨y, _ | ⟨z, r⟩⟩⟩
  · rfl
  · cases x <;> rfl
  · cases x <;> cases y <;> rfl
  · cases x <;> cases y <;> rfl
theorem bfD_any {vs : List D} : bfD .any h vs = one h blsOf (fun b => some (D.bl (b.any id), h)) vs := by
  rcases vs with _ | ⟨x, _ | ⟨y, _ | ⟨z, r⟩⟩⟩
  · rfl
  · cases x <;> rfl
  · cases x <;> cases y <;> rfl
  · cases x <;> cases y <;> rfl
theorem bfD_tuple {vs : List D} : bfD .tuple h vs = match vs with | [.tup l] => some (D.tup l, h) | [.ref n] => (match listAt h n with | some l => some (D.tup l, h) | none => match tplAt h n with | some _ => some (D.ref n, h) | none => none) | _ => none := by
  rcases vs with _ | ⟨x, _ | ⟨y, _ | ⟨z, r⟩⟩⟩
  · rfl
  · cases x <;> rfl
  · cases x <;> cases y <;> rfl
  · cases x <;> cases y <;> rfl
theorem bfD_dict {vs : List D} : bfD .dict h vs = match vs with | [.ref n] => (match h[n]? with | some (.dk kvs) => alloc (.dk kvs) h | _ => none) | _ => none := by
  rcases vs with _ | ⟨x, _ | ⟨y, _ | ⟨z, r⟩⟩⟩
  · rfl
  · cases x <;> rfl
  · cases x <;> cases y <;> rfl
  · cases x <;> cases y <;> rfl
theorem bf_len : CallR X (.builtin "len") (vRL R (bfD .len)) := by
  intro pins s σ H xs us Q I rx ⟨φ, h, vs, hr, r, q⟩
  match vs, r, q with
  | [d], r, q =>
    obtain ⟨x, rfl, rd⟩ := r.one_of
    simp only [bfD] at q
    split at q
    · rename_i n e
      cases d with
      | str z =>
        simp only [lenD] at e
        obtain rfl := rd
        split at e <;> rename_i hz
        · cases e
          exact call_len_str pins s σ H _ us Q I rx ⟨z, rfl, by rw [← lim_eq]; exact hz, OutV.int hr q⟩
        · cases e
      | tup l =>
        cases e
        obtain ⟨a, xs, rfl, h1, h2⟩ := rd
        exact call_len_seq pins s σ H _ us Q I rx ⟨a, xs, rfl, .inr (SqT.of h1), by rw [h2.length]; exact OutV.int hr q⟩
      | ref m =>
        obtain ⟨a, f1, rfl⟩ := rd
        have fin : ∀ l, listAt h m = some l → n = l.length → wpAny (model X.prog X.w) X.A (call (.builtin "len") us) (EP X pins σ Q) X.xe s := fun l hl en => by
          obtain ⟨a', xs, f2, f3, f4⟩ := hr.list_at (K := X.K) hl
          cases get_eq f1 f2
          exact call_len_seq pins s σ H _ us Q I rx ⟨a, xs, rfl, .inl f3, by rw [f4.length, ← en]; exact OutV.int hr q⟩
        simp only [lenD] at e
        split at e
        · rename_i l g; cases e; exact fin l (by simp [listAt, g]) rfl
        · rename_i l g; cases e; exact fin l (by simp [listAt, g]) rfl
        · rename_i l g
          cases e
          obtain ⟨a', xs, f2, _, f3, f4⟩ := hr.tpl_at (K := X.K) (n := m) (l := l) (by simp [tplAt, g])
          cases get_eq f1 f2
          exact call_len_seq pins s σ H _ us Q I rx ⟨a, xs, rfl, .inr f3, by rw [f4.length]; exact OutV.int hr q⟩
        · rename_i l g
          cases e
          obtain ⟨a', f2, xs, f3, f4⟩ := hr.addr g
          cases get_eq f1 f2
          exact call_lenD pins s σ H _ us Q I rx ⟨a, xs, rfl, f3, by rw [f4.len]; exact OutV.int hr q⟩
        · cases e
      | _ => cases e
    · exact q.elim
  | [], _, q => exact q.elim
  | _ :: _ :: _, _, q => exact q.elim
theorem bf_abs : CallR X (.builtin "abs") (vRL R (bfD .abs)) := by
  intro pins s σ H xs us Q I rx ⟨φ, h, vs, hr, r, q⟩
  rw [bfD_abs] at q
  split at q
  · obtain ⟨x, rfl, rd⟩ := r.one_of
    obtain rfl := rd
    rename_i i
    refine call_abs pins s σ H _ us Q I rx ⟨i, rfl, ?_⟩
    rw [show (if i < 0 then -i else i) = (i.natAbs : Int) by split <;> omega]
    exact OutV.int hr q
  · exact q.elim
theorem bf_int : CallR X (.type "int") (vRL R (bfD .int)) := by
  intro pins s σ H xs us Q I rx ⟨φ, h, vs, hr, r, q⟩
  rw [bfD_int] at q
  split at q
  · obtain ⟨x, rfl, rd⟩ := r.one_of
    obtain rfl := rd
    exact call_int1 pins s σ H _ us Q I rx (.inl ⟨_, rfl, OutV.int hr q⟩)
  · obtain ⟨x, rfl, rd⟩ := r.one_of
    obtain rfl := rd
    exact call_int1 pins s σ H _ us Q I rx (.inr ⟨_, rfl, OutV.int hr q⟩)
  · exact q.elim
theorem two_ints {f : Int → Int → Int} {vs : List D} {xs : List V} (q : OutV R φ H Q (match vs with | [.int i, .int j] => some (D.int (f i j), h) | _ => none)) (r : RpL φ H vs xs) (hr : HRel R φ H h) : ∃ i j, xs = [.int i, .int j] ∧ Q (.int (f i j)) H := by
  split at q
  · obtain ⟨x, y, rfl, r1, r2⟩ := r.two_of
    obtain rfl := r1
    obtain rfl := r2
    exact ⟨_, _, rfl, OutV.int hr q⟩
  · exact q.elim
theorem bf_max2 (hc : X.calm = true) : CallR X (.builtin "max") (vRL R (bfD .max2)) := by
  intro pins s σ H xs us Q I rx ⟨φ, h, vs, hr, r, q⟩
  rw [bfD_max2] at q
  obtain ⟨i, j, rfl, q⟩ := two_ints q r hr
  refine call_max2 hc pins s σ H _ us Q I rx ⟨i, j, rfl, ?_⟩
  rw [show (if j > i then j else i) = max i j by split <;> omega]
  exact q
theorem bf_min2 (hc : X.calm = true) : CallR X (.builtin "min") (vRL R (bfD .min2)) := by
  intro pins s σ H xs us Q I rx ⟨φ, h, vs, hr, r, q⟩
  rw [bfD_min2] at q
  obtain ⟨i, j, rfl, q⟩ := two_ints q r hr
  refine call_min2 hc pins s σ H _ us Q I rx ⟨i, j, rfl, ?_⟩
  rw [show (if j < i then j else i) = min i j by split <;> omega]
  exact q
theorem max_is : ∀ (r : List Int) (a : Int), (r.foldl max a ∈ a :: r) ∧ ∀ y ∈ a :: r, y ≤ r.foldl max a
  | [], a => ⟨by simp, by simp⟩
  | b :: r, a => by
    obtain ⟨h1, h2⟩ := max_is r (max a b)
    rw [List.foldl_cons]
    refine ⟨?_, fun y hy => ?_⟩
    · rcases List.mem_cons.mp h1 with e | e
      · rw [e]
        rcases Int.le_total a b with l | l
        · rw [Int.max_eq_right l]; simp
        · rw [Int.max_eq_left l]; simp
      · simp [e]
    · have h3 := h2 (max a b) List.mem_cons_self
      rcases List.mem_cons.mp hy with e | e
      · omega
      · rcases List.mem_cons.mp e with e | e
        · omega
        · exact h2 y (List.mem_cons_of_mem _ e)
theorem min_is : ∀ (r : List Int) (a : Int), (r.foldl min a ∈ a :: r) ∧ ∀ y ∈ a :: r, r.foldl min a ≤ y
  | [], a => ⟨by simp, by simp⟩
  | b :: r, a => by
    obtain ⟨h1, h2⟩ := min_is r (min a b)
    rw [List.foldl_cons]
    refine ⟨?_, fun y hy => ?_⟩
    · rcases List.mem_cons.mp h1 with e | e
      · rw [e]
        rcases Int.le_total a b with l | l
        · rw [Int.min_eq_left l]; simp
        · rw [Int.min_eq_right l]; simp
      · simp [e]
    · have h3 := h2 (min a b) List.mem_cons_self
      rcases List.mem_cons.mp hy with e | e
      · omega
      · rcases List.mem_cons.mp e with e | e
        · omega
        · exact h2 y (List.mem_cons_of_mem _ e)
theorem one_list {α : Type} {K : PySem.W.Frag} {vs : List D} {xs : List V} {g : List D → Option α} {F : α → RV} (q : OutV R φ H Q (one h g F vs)) (r : RpL φ H vs xs) (hr : HRel R φ H h) :
    ∃ a ys l b, xs = [.ref a] ∧ SqL K H a ys ∧ RpL φ H l ys ∧ g l = some b ∧ OutV R φ H Q (F b) := by
  unfold one at q
  split at q
  · rename_i n
    obtain ⟨x, rfl, a, f1, rfl⟩ := r.one_of
    split at q
    · rename_i b e
      obtain ⟨l, e1, e2⟩ := bind_some e
      obtain ⟨a', ys, f2, f3, f4⟩ := hr.list_at (K := K) e1
      cases get_eq f1 f2
      exact ⟨a, ys, l, b, rfl, f3, f4, e2, q⟩
    · exact q.elim
  · exact q.elim
theorem bf_max1 (hc : X.calm = true) : CallR X (.builtin "max") (vRL R (bfD .max1)) := by
  intro pins s σ H xs us Q I rx ⟨φ, h, vs, hr, r, q⟩
  rw [bfD_max1] at q
  obtain ⟨a, ys, l, ns, rfl, h1, h2, h3, q⟩ := one_list q r hr
  split at q
  · rename_i i e
    cases ns with
    | nil => cases e
    | cons b ns =>
      cases e
      rw [ints_of h3 h2] at h1
      obtain ⟨m1, m2⟩ := max_is ns b
      refine cr_max hc pins s σ H _ us Q I rx ⟨a, _, rfl, h1, by simp, fun m hm hy => ?_⟩
      have e1 := hy _ m1
      have e2 := m2 _ hm
      have : m = ns.foldl max b := by omega
      rw [this]
      exact OutV.int hr q
  · exact q.elim
theorem bf_min1 (hc : X.calm = true) : CallR X (.builtin "min") (vRL R (bfD .min1)) := by
  intro pins s σ H xs us Q I rx ⟨φ, h, vs, hr, r, q⟩
  rw [bfD_min1] at q
  obtain ⟨a, ys, l, ns, rfl, h1, h2, h3, q⟩ := one_list q r hr
  split at q
  · rename_i i e
    cases ns with
    | nil => cases e
    | cons b ns =>
      cases e
      rw [ints_of h3 h2] at h1
      obtain ⟨m1, m2⟩ := min_is ns b
      refine cr_min hc pins s σ H _ us Q I rx ⟨a, _, rfl, h1, by simp, fun m hm hy => ?_⟩
      have e1 := hy _ m1
      have e2 := m2 _ hm
      have : m = ns.foldl min b := by omega
      rw [this]
      exact OutV.int hr q
  · exact q.elim
theorem bf_sum (hc : X.calm = true) : CallR X (.builtin "sum") (vRL R (bfD .sum)) := by
  intro pins s σ H xs us Q I rx ⟨φ, h, vs, hr, r, q⟩
  rw [bfD_sum] at q
  obtain ⟨a, ys, l, ns, rfl, h1, h2, h3, q⟩ := one_list q r hr
  rw [ints_of h3 h2] at h1
  exact cr_sum hc pins s σ H _ us Q I rx ⟨a, _, rfl, h1, OutV.int hr q⟩
theorem bf_all (hc : X.calm = true) : CallR X (.builtin "all") (vRL R (bfD .all)) := by
  intro pins s σ H xs us Q I rx ⟨φ, h, vs, hr, r, q⟩
  rw [bfD_all] at q
  obtain ⟨a, ys, l, ns, rfl, h1, h2, h3, q⟩ := one_list q r hr
  rw [bls_of h3 h2] at h1
  exact cr_all hc pins s σ H _ us Q I rx ⟨a, _, rfl, h1, OutV.bl hr q⟩
theorem bf_any (hc : X.calm = true) : CallR X (.builtin "any") (vRL R (bfD .any)) := by
  intro pins s σ H xs us Q I rx ⟨φ, h, vs, hr, r, q⟩
  rw [bfD_any] at q
  obtain ⟨a, ys, l, ns, rfl, h1, h2, h3, q⟩ := one_list q r hr
  rw [bls_of h3 h2] at h1
  exact cr_any hc pins s σ H _ us Q I rx ⟨a, _, rfl, h1, OutV.bl hr q⟩
theorem seq_of {K : PySem.W.Frag} {d : D} {x : V} {l : List D} (hr : HRel R φ H h) (e : seqOf h d = some l) (r : Rp φ H d x) : ∃ a xs, x = .ref a ∧ (SqL K H a xs ∨ SqT K H a xs) ∧ RpL φ H l xs := by
  cases d with
  | tup l' =>
    cases e
    obtain ⟨a, xs, rfl, h1, h2⟩ := r
    exact ⟨a, xs, rfl, .inr (SqT.of h1), h2⟩
  | ref n =>
    obtain ⟨a, f1, rfl⟩ := r
    simp only [seqOf] at e
    split at e
    · rename_i l' gt
      cases e
      obtain ⟨a', xs, f2, _, f3, f4⟩ := hr.tpl_at (K := K) gt
      cases get_eq f1 f2
      exact ⟨a, xs, rfl, .inr f3, f4⟩
    · obtain ⟨a', xs, f2, f3, f4⟩ := hr.list_at (K := K) e
      cases get_eq f1 f2
      exact ⟨a, xs, rfl, .inl f3, f4⟩
  | _ => cases e
theorem bf_list : CallR X (.type "list") (vRL R (bfD .list)) := by
  intro pins s σ H xs us Q I rx ⟨φ, h, vs, hr, r, q⟩
  match vs, r, q with
  | [d], r, q =>
    obtain ⟨x, rfl, rd⟩ := r.one_of
    simp only [bfD] at q
    split at q
    · rename_i l e
      obtain ⟨a, xs, rfl, h1, h2⟩ := seq_of (K := X.K) hr e rd
      exact call_list_of pins s σ H _ us Q I rx ⟨a, xs, rfl, h1, fun p hp => q.lst hr h2 hp⟩
    · exact q.elim
  | [], _, q => exact q.elim
  | _ :: _ :: _, _, q => exact q.elim
theorem bf_tuple : CallR X (.type "tuple") (vRL R (bfD .tuple)) := by
  intro pins s σ H xs us Q I rx ⟨φ, h, vs, hr, r, q⟩
  rw [bfD_tuple] at q
  split at q
  · obtain ⟨x, rfl, rd⟩ := r.one_of
    have rd' := rd
    obtain ⟨a, xs, rfl, h1, h2⟩ := rd
    exact call_tuple_of pins s σ H _ us Q I rx ⟨a, xs, rfl, .inr ⟨SqT.of h1, OutV.here hr rd' q⟩⟩
  · obtain ⟨x, rfl, a, f1, rfl⟩ := r.one_of
    split at q
    · rename_i l e
      obtain ⟨a', xs, f2, f3, f4⟩ := hr.list_at (K := X.K) e
      cases get_eq f1 f2
      exact call_tuple_of pins s σ H _ us Q I rx ⟨a, xs, rfl, .inl ⟨f3, fun p hp => q.tup hr f4 hp⟩⟩
    · split at q
      · rename_i l e
        obtain ⟨a', xs, f2, _, f3, f4⟩ := hr.tpl_at (K := X.K) e
        cases get_eq f1 f2
        exact call_tuple_of pins s σ H _ us Q I rx ⟨a, xs, rfl, .inr ⟨f3, q φ H (.ref a) .refl hr ⟨a, f1, rfl⟩⟩⟩
      · exact q.elim
  · exact q.elim
theorem bf_dict : CallR X (.type "dict") (vRL R (bfD .dict)) := by
  intro pins s σ H xs us Q I rx ⟨φ, h, vs, hr, r, q⟩
  rw [bfD_dict] at q
  split at q
  · obtain ⟨x, rfl, a, f1, rfl⟩ := r.one_of
    split at q
    · rename_i l g
      obtain ⟨a', f2, xs, f3, f4⟩ := hr.addr g
      cases get_eq f1 f2
      refine call_dictD pins s σ H _ us Q I rx ⟨a, xs, rfl, .inl f3, fun p hp => ?_⟩
      refine q (φ ++ [p]) _ (.ref p) (ext_push hp) (hr.push hp ⟨xs, upd_same, RpK.ext (ext_push hp) f4⟩) ⟨p, ?_, rfl⟩
      show (φ ++ [p])[h.length]? = some p
      rw [← hr.len]
      simp
    · exact q.elim
  · exact q.elim
open PySem.W in
theorem each_of {K : PySem.W.Frag} (hK : K = X.K) (I : L2.Inv X pins σ H s) : ∀ {l : List D} {xs : List V} {ps : List PyData} {us : List Value}, RpL φ H l xs → DpAll K H xs ps → Vals xs us →
    EachIs (fun (u : Value) (p : D × PyData) => ∃ x, Rp φ H p.1 x ∧ RelV x u ∧ ∃ as, Reads s.heap u p.2 as) us (l.zip ps)
  | [], _, ps, us, r, dp, rv => by
    cases (show _ = [] from r)
    cases rv
    exact .nil
  | d :: l, _, ps, us, r, dp, rv => by
    obtain ⟨x, r', rfl, h1, h2⟩ := r
    cases dp with
    | cons d1 d2 =>
      cases rv with
      | cons v1 v2 =>
        subst hK
        exact .cons ⟨x, h1, v1, Dp.reads I _ _ _ d1 v1⟩ (each_of rfl I h2 d2 v2)
theorem mapO_len {α β : Type} {f : α → Option β} : ∀ {l : List α} {r : List β}, mapO f l = some r → r.length = l.length
  | [], _, e => by cases e; rfl
  | _ :: l, _, e => by
    obtain ⟨b, s, _, e2, rfl⟩ := mapO_some e
    simp [mapO_len e2]
open PySem.W in
theorem out_rel : ∀ {us : List Value} {ps : List (D × PyData)}, EachIs (fun (u : Value) (p : D × PyData) => ∃ x, Rp φ H p.1 x ∧ RelV x u ∧ ∃ as, Reads s.heap u p.2 as) us ps → ∃ xs, RpL φ H (ps.map Prod.fst) xs ∧ Vals xs us
  | _, _, .nil => ⟨[], rfl, .nil⟩
  | _, _, .cons ⟨x, h1, h2, _⟩ e => by
    obtain ⟨xs, q1, q2⟩ := out_rel e
    exact ⟨x :: xs, ⟨x, xs, rfl, h1, q1⟩, .cons h2 q2⟩
open PySem.W in
theorem bf_sortedL (hu : X.A.units + 67 < cLine) : CallR X (.builtin "sorted") (vRL R (fun h vs => one h (sortP h) (fun b => alloc (.lst b) h) vs)) := by
  intro pins s σ H xs us Q I rx ⟨φ, h, vs, hr, r, q⟩
  obtain ⟨a, ys, l, ns, rfl, h1, h2, h3, q⟩ := one_list (K := X.K) q r hr
  unfold sortP at h3
  split at h3
  · rename_i ps ep
    split at h3
    · rename_i ok
      cases h3
      have dp := toPDs_dp (K := X.K) hr 64 l ys ps ep h2
      obtain ⟨its, rv, hl, hz⟩ := I.list h1
      have ea := each_of rfl I h2 dp rv
      have hlen := mapO_len ep
      have hm : (l.zip ps).map Prod.snd = ps := List.map_snd_zip (by rw [hlen]; exact Nat.le_refl _)
      unfold sortOk at ok
      rw [Bool.and_eq_true, Bool.and_eq_true] at ok
      obtain ⟨⟨o1, o2⟩, o3⟩ := ok
      rw [Vals.ref1 rx]
      have hn : (l.zip ps).length = l.length := by rw [List.length_zip, hlen]; omega
      refine sorted_data (bs := l.zip ps) (enc := Prod.snd) (R := fun (u : Value) (p : D × PyData) => ∃ x, Rp φ H p.1 x ∧ RelV x u ∧ ∃ as, Reads s.heap u p.2 as) hl.isList ea (ea.mono fun u p ⟨x, _, _, as, z⟩ => ⟨as, z⟩) ?_ ?_ ?_ ?_ ?_
      · rw [hm]
        intro d hd d' hd'
        exact List.all_eq_true.mp (List.all_eq_true.mp o1 d hd) d' hd'
      · rw [hm]
        rcases Bool.or_eq_true _ _ ▸ o2 with o2 | o2
        · refine .inl fun d hd => ?_
          have := List.all_eq_true.mp o2 d hd
          split at this
          · exact ⟨_, _, rfl⟩
          · cases this
        · refine .inr fun d hd => ?_
          have := List.all_eq_true.mp o2 d hd
          split at this
          · cases this
          · cases this
          · rename_i g1 g2
            exact ⟨fun z => g2 z, fun xs z => g1 xs z⟩
      · rw [hn, ← h2.length]; exact hz
      · intro b hb
        have : b.2 ∈ ps := by
          rw [← hm]
          exact List.mem_map_of_mem hb
        have := of_decide_eq_true (List.all_eq_true.mp o3 _ this)
        omega
      · intro out ho eo
        obtain ⟨zs, q1, q2⟩ := out_rel eo
        obtain ⟨ep, he'⟩ := PyProof.Rows.sortedAll_at s.heap its out.toArray
        have hlz : zs.length ≤ sizeLine := by
          rw [q2.length, ho, hn, ← h2.length]
          exact hz
        have hp : H (s.heap.objs.size + 1) = none := I.hok.fresh (Nat.le_succ _)
        refine ⟨.ref _, upd H (s.heap.objs.size + 1) (.lst zs), I.laid (t' := s.toks) (fun _ _ => PyProof.Rows.sortedAll_old) (Nat.le_succ _) ⟨hlz, out, ep, q2, he'⟩, rfl, ?_⟩
        refine OutV.lst hr ?_ q hp
        have : (fun (p q : D × PyData) => !dataLt q.2 p.2) = dataLe false Prod.snd := by
          rw [dataLe_eq]
          rfl
        rw [this]
        exact q1
    · cases h3
  · cases h3
end
end Bp
end

section
set_option linter.all false
set_option maxRecDepth 100000
set_option maxHeartbeats 0
set_option linter.all false
set_option maxRecDepth 100000
set_option autoImplicit false
set_option maxHeartbeats 1000000
namespace Bp
open PySem PySem.Spec PyProof.Rows L2
section
variable {X : Cx} {R : Rx} {φ : List Addr} {H : Hp} {h : DH} {Q : VK} {pins : List (Addr × Obj)} {σ : L2.St} {s : Shared} {a : Addr}
theorem RpL.nil_of {xs : List V} (r : RpL φ H [] xs) : xs = [] := r
theorem mutL {n : Nat} {l l' : List D} {xs xs' : List V} {d : D} {x : V} (hr : HRel R φ H h) (f1 : φ[n]? = some a) (f3 : H a = some (.lst xs)) (rl : RpL φ H l' xs') (rx : Rp φ H d x) (q : OutV R φ H Q (some (d, h.set n (.lst l')))) : Q x (upd H a (.lst xs')) := by
  have x' := ext_set (φ := φ) (a := a) (v := .lst xs') f3 (fun _ z => by cases z) (fun _ _ z => by cases z)
  exact q φ _ x x' (hr.set f1 f3 (fun _ z => by cases z) (fun _ _ z => by cases z) ⟨_, upd_same, rl.ext x'⟩) (rx.ext x')
theorem mf_append : MtM X "list.append" (vRM R (mfD .append)) := by
  intro pins s σ H x xs v us Q I rx rs ⟨φ, h, d, l, hr, r1, r2, q⟩
  simp only [mfD] at q
  split at q
  · obtain ⟨a, f1, rfl⟩ := r1
    obtain ⟨y, rfl, ry⟩ := r2.one_of
    split at q
    · rename_i l g
      split at q <;> rename_i hz
      · obtain ⟨a', zs, f2, f3, f4⟩ := hr.lst_at g
        cases get_eq f1 f2
        exact mt_append pins s σ H _ _ v us Q I rx rs ⟨a, zs, y, rfl, rfl, f3, by rw [f4.length, ← lim_eq]; exact hz, mutL (l := l) hr f1 f3 (f4.append (RpL.one ry)) (show Rp φ H .non .non from rfl) q⟩
      · exact q.elim
    · exact q.elim
  · exact q.elim
theorem mf_extend : MtM X "list.extend" (vRM R (mfD .extend)) := by
  intro pins s σ H x xs v us Q I rx rs ⟨φ, h, d, l, hr, r1, r2, q⟩
  simp only [mfD] at q
  split at q
  · obtain ⟨a, f1, rfl⟩ := r1
    obtain ⟨y, rfl, b, g1, rfl⟩ := r2.one_of
    split at q
    · rename_i l r g g'
      split at q <;> rename_i hz
      · obtain ⟨a', zs, f2, f3, f4⟩ := hr.lst_at g
        cases get_eq f1 f2
        obtain ⟨b', ws, g2, g3, g4⟩ := hr.lst_at g'
        cases get_eq g1 g2
        exact mt_extend pins s σ H _ _ v us Q I rx rs ⟨a, b, zs, ws, rfl, rfl, f3, g3, by rw [f4.length, g4.length, ← lim_eq]; exact hz, mutL (l := l) hr f1 f3 (f4.append g4) (show Rp φ H .non .non from rfl) q⟩
      · exact q.elim
    · exact q.elim
  · exact q.elim
theorem RpL.dropLast {l : List D} {xs : List V} (r : RpL φ H l xs) : RpL φ H l.dropLast xs.dropLast := by
  rw [List.dropLast_eq_take, List.dropLast_eq_take, r.length]
  exact r.take _
theorem mf_pop0 : MtM X "list.pop" (vRM R (mfD .pop0)) := by
  intro pins s σ H x xs v us Q I rx rs ⟨φ, h, d, l, hr, r1, r2, q⟩
  simp only [mfD] at q
  split at q
  · obtain ⟨a, f1, rfl⟩ := r1
    obtain rfl := r2.nil_of
    split at q
    · rename_i l g
      split at q
      · rename_i y e
        obtain ⟨a', zs, f2, f3, f4⟩ := hr.lst_at g
        cases get_eq f1 f2
        obtain ⟨z, e2, rz⟩ := f4.get e
        exact mt_pop pins s σ H _ _ v us Q I rx rs ⟨a, zs, z, rfl, rfl, f3, by rw [f4.length]; exact e2, mutL (l := l) hr f1 f3 f4.dropLast rz q⟩
      · exact q.elim
    · exact q.elim
  · exact q.elim
theorem ixN_seq {n : Nat} {i : Int} {k : Nat} (e : ixN n i = some k) : seqIndex? i n = some k := (L2.ixN_seq e).1
theorem mf_pop1 : MtM X "list.pop" (vRM R (mfD .pop1)) := by
  intro pins s σ H x xs v us Q I rx rs ⟨φ, h, d, l, hr, r1, r2, q⟩
  simp only [mfD] at q
  split at q
  · obtain ⟨a, f1, rfl⟩ := r1
    obtain ⟨y, rfl, ry⟩ := r2.one_of
    obtain rfl := ry
    split at q
    · rename_i l g
      split at q <;> rename_i hz
      · simp only [Bool.and_eq_true, decide_eq_true_eq] at hz
        split at q
        · rename_i k ek
          split at q
          · rename_i y e
            obtain ⟨a', zs, f2, f3, f4⟩ := hr.lst_at g
            cases get_eq f1 f2
            obtain ⟨z, e2, rz⟩ := f4.get e
            exact mt_popAt pins s σ H _ _ v us Q I rx rs ⟨a, zs, _, k, z, rfl, rfl, f3, by omega, by omega, by rw [f4.length]; exact ixN_seq ek, e2, mutL (l := l) hr f1 f3 (f4.erase k) rz q⟩
          · exact q.elim
        · exact q.elim
      · exact q.elim
    · exact q.elim
  · exact q.elim
theorem mf_sindex : MtR X "str.index" (vRM R (mfD .sindex)) := by
  intro pins s σ H x xs v us Q I rx rs ⟨φ, h, d, l, hr, r1, r2, q⟩
  simp only [mfD] at q
  split at q
  · obtain rfl := r1
    obtain ⟨y, rfl, ry⟩ := r2.one_of
    obtain rfl := ry
    split at q
    · rename_i j e
      unfold strIdx at e
      obtain ⟨rest, e⟩ := List.head?_eq_some_iff.mp e
      exact mt_sindex pins s σ H _ _ v us Q I rx rs ⟨_, _, j, rest, rfl, rfl, e, OutV.int hr q⟩
    · exact q.elim
  · exact q.elim
theorem idx_ints : ∀ {ns : List Int} {i : Int}, ns.contains i = true → ∃ z, (ns.map V.int)[ns.idxOf i]? = some z ∧ eqV z (.int i) = true ∧ ∀ (m : Nat) (z' : V), m < ns.idxOf i → (ns.map V.int)[m]? = some z' → eqV z' (.int i) = false := by
  intro ns i hc
  have hm : i ∈ ns := by simpa using hc
  have hl : ns.idxOf i < ns.length := List.idxOf_lt_length_of_mem hm
  refine ⟨.int i, ?_, ?_, fun m z' hm hz => ?_⟩
  · rw [List.getElem?_map, List.getElem?_eq_getElem hl, List.getElem_idxOf]
    rfl
  · simp [eqV]
  · rw [List.getElem?_map] at hz
    have hml : m < ns.length := by omega
    rw [List.getElem?_eq_getElem hml] at hz
    cases hz
    have := List.not_of_lt_findIdx (p := fun x => x == i) (xs := ns) (i := m) hm
    simp [eqV] at this ⊢
    exact this
theorem mf_lindex : MtR X "list.index" (vRM R (mfD .lindex)) := by
  intro pins s σ H x xs v us Q I rx rs ⟨φ, h, d, l, hr, r1, r2, q⟩
  simp only [mfD] at q
  split at q
  · obtain ⟨a, f1, rfl⟩ := r1
    obtain ⟨y, rfl, ry⟩ := r2.one_of
    obtain rfl := ry
    rename_i n i
    split at q
    · rename_i ns e
      split at q <;> rename_i hc
      · obtain ⟨l, e1, e2⟩ := bind_some e
        obtain ⟨a', ys, f2, f3, f4⟩ := hr.list_at (K := X.K) e1
        cases get_eq f1 f2
        rw [ints_of e2 f4] at f3
        obtain ⟨z, z1, z2, z3⟩ := idx_ints hc
        exact mt_index pins s σ H _ _ v us Q I rx rs ⟨a, _, _, _, z, rfl, rfl, f3, rfl, by simp [flatV], z1, z2, z3, OutV.int hr q⟩
      · exact q.elim
    · exact q.elim
  · exact q.elim
theorem mf_get2 (hu : X.A.units + 65 < cLine) : MtR X "dict.get" (vRM R (mfD .get2)) := by
  intro pins s σ H x xs v us Q I rx rs ⟨φ, h, d, l, hr, r1, r2, q⟩
  simp only [mfD] at q
  split at q
  · obtain ⟨a, f1, rfl⟩ := r1
    obtain ⟨y, z, rfl, ry, rz⟩ := r2.two_of
    split at q
    · rename_i o g
      split at q
      · rename_i r e
        obtain ⟨a', f2, f3⟩ := hr.addr g
        cases get_eq f1 f2
        cases ref_of rx
        cases rs with
        | cons v1 rs =>
          cases rs with
          | cons v2 rs =>
            cases rs
            rcases dget_ok f3 ry e with ⟨ov, gg, h1, h2⟩ | ⟨e1, e2, gg⟩
            · refine d_get2 (by omega) I gg v1 v2 fun w' s' I' rw' => ⟨_, H, I', rw', ?_⟩
              cases r with
              | none => rw [h2 rfl]; exact OutV.here hr rz q
              | some u => obtain ⟨x, rfl, rx'⟩ := h1 u rfl; exact OutV.here hr rx' q
            · subst e2
              refine d_get2 (by omega) (Inv.toT I e1) gg v1 v2 fun w' s' I' rw' => ⟨_, H, ?_, rw', OutV.here hr rz q⟩
              have := Inv.toK I' upd_same
              rw [upd_upd, show upd H a (.dK []) = H from funext fun b => by unfold upd; by_cases hb : b = a <;> simp [hb, e1]] at this
              exact this
      · exact q.elim
    · exact q.elim
  · exact q.elim
theorem foldl_rel : ∀ {r : List (D × D)} {rs : List (Key × V)} {l : List (D × D)} {xs : List (Key × V)}, RpK φ H r rs → RpK φ H l xs → RpK φ H (r.foldl (fun acc p => dset acc p.1 p.2) l) (mergeK xs rs)
  | [], rs, l, xs, h, h0 => by rw [show rs = [] from h]; exact h0
  | p :: r, rs, l, xs, h, h0 => by
    obtain ⟨y, ys, rfl, r1, r2, r3⟩ := h
    show RpK φ H (r.foldl (fun acc p => dset acc p.1 p.2) (dset l p.1 p.2)) (mergeK (putK xs y.1 y.2) ys)
    exact foldl_rel r3 (h0.put r1 r2)
theorem mf_update : MtR X "dict.update" (vRM R (mfD .update)) := by
  intro pins s σ H x xs v us Q I rx rs ⟨φ, h, d, l, hr, r1, r2, q⟩
  simp only [mfD] at q
  split at q
  · obtain ⟨a, f1, rfl⟩ := r1
    obtain ⟨y, rfl, b, g1, rfl⟩ := r2.one_of
    rename_i n m
    split at q
    · rename_i l r g g'
      split at q <;> rename_i hz
      · obtain ⟨a', f2, kv, f3, f4⟩ := hr.addr g
        cases get_eq f1 f2
        obtain ⟨b', g2, rv, g3, g4⟩ := hr.addr g'
        cases get_eq g1 g2
        cases ref_of rx
        cases rs with
        | cons v1 rs =>
          cases rs
          cases ref_of v1
          have hab : a ≠ b := fun z => hz.2 (by
            subst z
            obtain ⟨i1, e1⟩ := List.getElem?_eq_some_iff.mp f1
            obtain ⟨i2, e2⟩ := List.getElem?_eq_some_iff.mp g1
            exact (List.getElem_inj hr.nd).mp (e1.trans e2.symm))
          obtain ⟨z1, hd1, vs1, rel1, d1⟩ := dk_of I.hok f3
          obtain ⟨z2, hd2, vs2, rel2, d2⟩ := dk_of I.hok g3
          have hlen : kv.length + rv.length ≤ sizeLine := by rw [f4.len, g4.len, ← lim_eq]; exact hz.1
          refine call_meetsIn PySem.F.slot_dict_update d1.typeIs PySem.F.entry_dict_update (PySem.F.args_dict_update_2 _ _) (meets_dict_update (mixKind X.prog X.w) a b hab hd2) ⟨vs1, vs2, d1, d2, by rw [← Paired.length rel1, ← Paired.length rel2]; exact hlen, fun h' dd' _ hs => ?_⟩
          have x' := ext_set (φ := φ) (a := a) (v := .dK (mergeK kv rv)) f3 (fun _ z => by cases z) (fun _ _ z => by cases z)
          refine ⟨.non, upd H a (.dK (mergeK kv rv)), ?_, rfl, q φ _ .non x' (hr.set f1 f3 (fun _ z => by cases z) (fun _ _ z => by cases z) ⟨_, upd_same, RpK.ext x' (foldl_rel g4 f4)⟩) rfl⟩
          have he : ∃ q, h'.get? a = some q := let ⟨q, _, _, hq, _⟩ := dd'; ⟨q, hq⟩
          have hzl : (mergeK kv rv).length ≤ sizeLine := Nat.le_trans (length_mergeK rv kv) hlen
          exact d_write I (by rw [f3]; exact True.intro) hs he (dk_new hzl hd1 (rel2.merge rel1) dd')
      · exact q.elim
    · exact q.elim
  · exact q.elim
end
end Bp
end

section
set_option linter.all false
set_option maxRecDepth 100000
set_option maxHeartbeats 0
set_option linter.all false
set_option maxRecDepth 100000
set_option autoImplicit false
set_option maxHeartbeats 2000000
namespace Bp
open PySem PySem.Spec PyProof.Rows L2
def ch (n : Nat) : Str := ⟨#[n]⟩
theorem rising_ch : ∀ (ns : List Nat) (p : Nat), risingS (ch p) (ns.map ch) = true → (p :: ns).Pairwise (· ≤ ·)
  | [], p, _ => by simp
  | n :: ns, p, h => by
    simp only [List.map_cons, risingS, Bool.and_eq_true] at h
    have ih := rising_ch ns n h.2
    have hp : p ≤ n := by
      have h1 := h.1
      simp [ch, ltCps] at h1
      exact h1
    refine List.pairwise_cons.mpr ⟨fun m hm => ?_, ih⟩
    rcases List.mem_cons.mp hm with rfl | hm
    · exact hp
    · exact Nat.le_trans hp ((List.pairwise_cons.mp ih).1 m hm)
theorem sorted_ch {ns : List Nat} (h : sortedS (ns.map ch) = true) : ns.Pairwise (· ≤ ·) := by
  cases ns with
  | nil => exact .nil
  | cons n ns => exact rising_ch ns n h
theorem ch_perm {ns : List Nat} {ys : List Str} (hp : ys.Perm (ns.map ch)) (hs : sortedS ys = true) : ys = (ns.mergeSort fun a b => decide (a ≤ b)).map ch := by
  have hy : ∃ ms : List Nat, ys = ms.map ch := by
    have : ∀ ys : List Str, (∀ y ∈ ys, ∃ n, y = ch n) → ∃ ms : List Nat, ys = ms.map ch := by
      intro ys
      induction ys with
      | nil => intro _; exact ⟨[], rfl⟩
      | cons y ys ih =>
        intro h
        obtain ⟨n, e⟩ := h y List.mem_cons_self
        obtain ⟨ms, e2⟩ := ih fun z hz => h z (List.mem_cons_of_mem _ hz)
        exact ⟨n :: ms, by rw [e, e2]; rfl⟩
    refine this ys fun y hy => ?_
    obtain ⟨n, _, e⟩ := List.mem_map.mp (hp.mem_iff.mp hy)
    exact ⟨n, e.symm⟩
  obtain ⟨ms, rfl⟩ := hy
  have inj : ∀ a b, ch a = ch b → a = b := fun a b h => by
    have := congrArg Str.cps h
    simpa [ch] using this
  have hms : ms.Perm ns := by
    have := hp.map (fun s : Str => s.cps.getD 0 0)
    simpa [List.map_map, Function.comp_def, ch] using this
  congr 1
  have h1 := sorted_ch hs
  have h2 : (ns.mergeSort fun a b => decide (a ≤ b)).Pairwise (· ≤ ·) := by
    have := List.pairwise_mergeSort (le := fun a b : Nat => decide (a ≤ b)) (by intro a b c; simp; omega) (by intro a b; simp; omega) ns
    exact this.imp (by intro a b h; simpa using h)
  exact List.Perm.eq_of_pairwise (le := (· ≤ ·)) (fun a b _ _ h h' => Nat.le_antisymm h h') h1 h2 (hms.trans (List.mergeSort_perm ns _).symm)
section
variable {X : Cx}
theorem call_sortedStr (hcalm : X.calm = true) : CallR X (.builtin "sorted") (fun xs H Q => ∃ z : Str, xs = [.str z] ∧ z.cps.size < 64 ∧ ∀ p, H p = none → Q (.ref p) (upd H p (.lst (((z.cps.toList.mergeSort fun a b => decide (a ≤ b)).map ch).map V.str)))) := by
  intro pins s σ H xs us Q I r q
  obtain ⟨z, ex, h64, q⟩ := q
  subst ex
  obtain ⟨u, eu, rx⟩ := vals1 r
  subst eu
  obtain ⟨t, rfl⟩ := rx
  have h16 : z.cps.size ≤ sizeLine := by rw [sizeLine_eq]; omega
  refine Calls.call_function_entry PyProof.Rows.kind_sorted PyProof.Rows.plain_sorted PyProof.Rows.entry_sorted (PyProof.Rows.args_sorted1 _) ?_
  unfold Builtin.«sorted»
  refine wpAny_bind (m := checkCount "sorted" 1 1 _) (wpAny_pure ?_)
  refine wpAny_bind (wpAny_collect_str (A := X.A.in1) (I.ok.hd hcalm) z t (fun s' acc hk hg hd ho hacc => ?_) h16)
  have hal : acc.toList.length = (z.cps.toList.map ch).length := by rw [Array.length_toList, hacc.1, List.length_map, Array.length_toList]
  have hS : StrsAre acc.toList (z.cps.toList.map ch) := strs_at hal fun j v e => by
    obtain ⟨c, u, e1, e2⟩ := hacc.2 j v (by rw [← Array.getElem?_toList]; exact e)
    refine ⟨ch c, u, ?_, e2⟩
    rw [List.getElem?_map, Array.getElem?_toList, e1]
    rfl
  obtain ⟨h', g', d', tk, o'⟩ := s'
  simp only at hk hg hd ho
  subst hg hd ho
  have hl : acc.toList.length < 64 := by rw [Array.length_toList, hacc.1]; exact h64
  have I1 : L2.Inv X pins σ H { s with heap := h', toks := tk } := I.kept hk
  show wpAny _ _ _ _ _ { s with heap := h', toks := tk }
  refine wpAny_bind (wpAny_newList ?_ (by rw [sizeLine_eq]; omega))
  have hoL : (h'.push (seqObj "list" acc.toList.toArray 0)).get? h'.objs.size = some (seqObj "list" acc.toList.toArray 0) := Heap.get?_push_size _ rfl
  show wpAny _ _ _ _ _ { s with heap := h'.push (seqObj "list" acc.toList.toArray 0), toks := tk }
  refine wpAny_bind (wpAny_holding (wpAny_call_entry PyProof.Rows.slot_list_sort ⟨_, hoL, rfl⟩ PyProof.Rows.entry_list_sort
    (list_sort_treeK strKind_oneLt (s := { s with heap := h'.push (seqObj "list" acc.toList.toArray 0), toks := tk }) hoL hS.keysOf (fun v₁ v₂ rest e => keyKind_strs (by rw [← e]; exact hS)) hl fun st' hp hs => ⟨_, rfl, ?_⟩)
    (PyProof.Rows.args_list_sort _)))
  obtain ⟨ys, g1, g2, g3⟩ := sorted_out_str hS hp hs
  obtain ⟨e', he'⟩ := PyProof.Rows.sortedHeap_at (vs := acc.toList) (out := (arrOf st').map (·.2)) hoL
  have hy := ch_perm g2 g3
  have hlen : (ys.map V.str).length ≤ sizeLine := by
    rw [List.length_map, g2.length_eq, List.length_map, Array.length_toList]
    exact h16
  rw [← hy] at q
  refine wpAny_pure ⟨_, rfl, .ref h'.objs.size, upd H h'.objs.size (.lst (ys.map V.str)), I1.laid (t' := tk) (fun b u e => ?_) (Nat.le_refl _)
    (show ObjOk X.prog X.w _ _ _ (.lst (ys.map V.str)) from ⟨hlen, ((arrOf st').map (·.2)).toList, e', vals_of_strs g1, by rw [Array.toArray_toList]; exact he'⟩), rfl, q _ (I1.hok.fresh (Nat.le_refl _))⟩
  have hb : b < h'.objs.size := Heap.lt_size e
  rw [PyProof.Rows.sortedHeap_old (Nat.ne_of_lt hb) (by rw [size_push']; exact Nat.lt_succ_of_lt hb)]
  exact Heap.get?_push_of_some _ e
theorem strs_rel {φ : List Addr} {H : Hp} : ∀ ns : List Nat, RpL φ H (ns.map fun c => .str ⟨#[c]⟩) ((ns.map ch).map V.str)
  | [] => rfl
  | n :: ns => ⟨_, _, rfl, rfl, strs_rel ns⟩
theorem bf_sorted {R : Rx} (hc : X.calm = true) (hu : X.A.units + 67 < cLine) : CallR X (.builtin "sorted") (vRL R (bfD .sorted)) := by
  intro pins s σ H xs us Q I rx ⟨φ, h, vs, hr, r, q⟩
  have lst : OutV R φ H Q (one h (sortP h) (fun b => alloc (.lst b) h) vs) → wpAny (model X.prog X.w) X.A (call (.builtin "sorted") us) (EP X pins σ Q) X.xe s := fun q => bf_sortedL (R := R) hu pins s σ H xs us Q I rx ⟨φ, h, vs, hr, r, q⟩
  simp only [bfD] at q
  split at q
  · rename_i z
    obtain ⟨x, rfl, rd⟩ := r.one_of
    obtain rfl := rd
    split at q <;> rename_i hz
    · exact call_sortedStr hc pins s σ H _ us Q I rx ⟨z, rfl, hz, fun p hp => OutV.lst hr (strs_rel _) q hp⟩
    · exact q.elim
  · exact lst q
end
end Bp
end

section
set_option linter.all false
set_option maxRecDepth 100000
set_option maxHeartbeats 0
set_option linter.all false
set_option maxRecDepth 100000
set_option autoImplicit false
set_option maxHeartbeats 1000000
namespace Bp
open PySem PySem.Spec PyProof.Rows L2
theorem sub0 {xs : List V} : xs.length ≤ lim → xs.length ≤ sizeLine := by rw [lim_eq]; exact id
section
variable {X : Cx} {R : Rx} {XR : XQ} {g : Gm} {a b c : Expr} {m1 m2 m3 : ME} {pos : Pos}
theorem b_var {i : Nat} {x : Str} (hN : X.N[i]? = some x) (hv : Vis X.env.scope x) (hd : (x == ("__debug__" : Str)) = false) (hcd : (x == ("__classdict__" : Str)) = false) : PE X (.Name x pos) (tE R XR g (mVar i)) := by
  refine (pe_var hN hv hd hcd).imp fun σ H Q ⟨φ, e, h, he, hr, q⟩ => ?_
  unfold mVar at q
  split at q
  · rename_i v hi
    obtain ⟨x, h1, h2⟩ := he.at_ i v hi
    exact ⟨x, h1, q φ H x .refl hr h2⟩
  · exact q.elim
theorem b_K {e : Expr} {d : D} {v : V} (h : PE X e (tC v)) (hd : ∀ φ H h, HRel R φ H h → Rp φ H d v) : PE X e (tE R XR g (mK d)) :=
  h.imp fun σ H Q ⟨φ, e, h, he, hr, q⟩ => q φ H v .refl hr (hd φ H h hr)
theorem two {σ : L2.St} {H : Hp} {Q : VK} {ta tb : TE} {f : DH → D → D → RV} (ha : ∀ σ H Q, tE R XR g m1 σ H Q → ta σ H Q) (hb : ∀ σ H Q, tE R XR g m2 σ H Q → tb σ H Q)
    {φ : List Addr} {e : Env} {h : DH} (he : ERel φ H e σ) (hr : HRel R φ H h) (q : OutE R XR φ H σ Q ((m1 g e h).bind fun x h1 => (m2 g e h1).bind fun y h2 => ofV (f h2 x y))) : tOp (vR2 R f) ta tb σ H Q := by
  refine ha σ H _ ⟨φ, e, h, he, hr, q.bind.mono fun x H1 ⟨φ1, d, h1, x1, r1, p1, q1⟩ => ?_⟩
  refine hb σ H1 _ ⟨φ1, e, h1, he.ext x1, r1, q1.bind.mono fun y H2 ⟨φ2, d2, h2, x2, r2, p2, q2⟩ => ?_⟩
  exact ⟨φ2, h2, d, d2, r2, p1.ext x2, p2, OutV.ofE q2⟩
theorem b_bin {op : Operator} (ha : PE X a (tE R XR g m1)) (hb : PE X b (tE R XR g m2)) : PE X (.BinOp a op b pos) (tE R XR g (mBin op m1 m2)) :=
  (pe_op (opD op) ha hb).imp fun σ H Q ⟨φ, e, h, he, hr, q⟩ => two (fun _ _ _ z => z) (fun _ _ _ z => z) he hr q
theorem okB_ofV {o : Option Bool} {h : DH} : okB o h = ofV (okV o h) := by cases o <;> rfl
theorem b_cmp {op : CmpOp} (hu : X.A.units + 65 < cLine) (ha : PE X a (tE R XR g m1)) (hb : PE X b (tE R XR g m2)) (hm : behindInMarks op b = false) : PE X (.Compare a [op] [b] pos) (tE R XR g (mCmp op m1 m2)) :=
  (pe_cmpR (cmpD_ok hu op) ha hb hm).imp fun σ H Q ⟨φ, e, h, he, hr, q⟩ => by
    unfold mCmp at q
    simp only [okB_ofV] at q
    exact two (fun _ _ _ z => z) (fun _ _ _ z => z) he hr q
theorem chain_rd {σ : L2.St} {H : Hp} {Q : VK} {op op' : CmpOp} {φ : List Addr} {e : Env} {h : DH} (he : ERel φ H e σ) (hr : HRel R φ H h) (q : OutE R XR φ H σ Q (mChain op op' m1 m2 m3 g e h)) :
    tChain (vR2 R fun h x y => okV (cmpD op h x y) h) (vR2 R fun h x y => okV (cmpD op' h x y) h) (tE R XR g m1) (tE R XR g m2) (tE R XR g m3) σ H Q := by
  unfold mChain at q
  refine ⟨φ, e, h, he, hr, q.bind.mono fun x H1 ⟨φ1, d, h1, x1, r1, p1, q1⟩ => ?_⟩
  refine ⟨φ1, e, h1, he.ext x1, r1, q1.bind.mono fun y H2 ⟨φ2, d2, h2, x2, r2, p2, q2⟩ => ?_⟩
  refine ⟨φ2, h2, d, d2, r2, p1.ext x2, p2, ?_⟩
  show OutV R φ2 H2 _ (okV (cmpD op h2 d d2) h2)
  split at q2
  · rename_i hk
    rw [hk]
    intro φ3 H3 z x3 r3 p3
    refine ⟨true, p3, ?_⟩
    rw [if_pos rfl]
    refine ⟨φ3, e, h2, (he.ext (x1.trans x2)).ext x3, r3, ?_⟩
    refine (OutE.bind (q2.ext x3)).mono fun w H4 ⟨φ4, d4, h4, x4, r4, p4, q4⟩ => ?_
    refine ⟨φ4, h4, d2, d4, r4, (p2.ext x3).ext x4, p4, OutV.ofE (XR := XR) (σ := σ) ?_⟩
    show OutE R XR φ4 H4 σ Q (ofV (okV (cmpD op' h4 d2 d4) h4))
    rw [← okB_ofV]
    exact q4
  · rename_i hk
    rw [hk]
    intro φ3 H3 z x3 r3 p3
    refine ⟨false, p3, ?_⟩
    rw [if_neg (by decide)]
    exact q2 φ3 H3 (.bl false) x3 r3 rfl
  · exact q2.elim
theorem b_chain {op op' : CmpOp} (hu : X.A.units + 65 < cLine) (ha : PE X a (tE R XR g m1)) (hb : PE X b (tE R XR g m2)) (hc : PE X c (tE R XR g m3)) (hm : lastMarks [op, op'] [b, c] = false) : PE X (.Compare a [op, op'] [b, c] pos) (tE R XR g (mChain op op' m1 m2 m3)) :=
  (pe_chain (cmpD_ok hu op) (cmpD_ok hu op') ha hb hc hm).imp fun σ H Q ⟨φ, e, h, he, hr, q⟩ => chain_rd he hr q
theorem OutB.toE {φ : List Addr} {H : Hp} {σ : L2.St} {Q : Bool → Hp → Prop} {r : RE} (h : OutB R XR φ H σ Q r) : OutE R XR φ H σ (fun x H' => ∃ k, x = .bl k ∧ Q k H') r := h.ofE
theorem bt_cmp {op : CmpOp} (hu : X.A.units + 65 < cLine) (ha : PE X a (tE R XR g m1)) (hb : PE X b (tE R XR g m2)) (hm : behindInMarks op b = false) : PT X (.Compare a [op] [b] pos) (tT R XR g (mCmp op m1 m2)) :=
  (pt_cmpR (cmpD_ok hu op) ha hb hm).imp fun σ H Q ⟨φ, e, h, he, hr, q⟩ => by
    have q := q.toE
    unfold mCmp at q
    simp only [okB_ofV] at q
    exact two (Q := fun x H' => ∃ k, x = .bl k ∧ Q k H') (fun _ _ _ z => z) (fun _ _ _ z => z) he hr q
theorem bt_chain {op op' : CmpOp} (hu : X.A.units + 65 < cLine) (ha : PE X a (tE R XR g m1)) (hb : PE X b (tE R XR g m2)) (hc : PE X c (tE R XR g m3)) (hm : lastMarks [op, op'] [b, c] = false) : PT X (.Compare a [op, op'] [b, c] pos) (tT R XR g (mChain op op' m1 m2 m3)) :=
  (pt_chain (cmpD_ok hu op) (cmpD_ok hu op') ha hb hc hm).imp fun σ H Q ⟨φ, e, h, he, hr, q⟩ => chain_rd (Q := fun x H' => ∃ k, x = .bl k ∧ Q k H') he hr q.toE
theorem okB_tru {φ : List Addr} {H : Hp} {σ : L2.St} {Q : Bool → Hp → Prop} {d : D} {x : V} {h : DH} {K : PySem.W.Frag} {X : Cx} (hK : X.K = K) (hr : HRel R φ H h) (rp : Rp φ H d x) (q : OutB R XR φ H σ Q (okB (truD h d) h)) : ∃ k, TruV K x H k ∧ Q k H := by
  unfold okB at q
  split at q
  · rename_i k e
    obtain ⟨b, eb, q⟩ := q
    cases eb
    subst hK
    exact ⟨k, truD_ok hr rp e, q φ H .refl hr⟩
  · exact q.elim
theorem OutB.bind {φ : List Addr} {H : Hp} {σ : L2.St} {Q : Bool → Hp → Prop} {r : RE} {f : D → DH → RE} (h : OutB R XR φ H σ Q (r.bind f)) :
    OutE R XR φ H σ (fun x H1 => ∃ φ1 d h1, Ext φ H φ1 H1 ∧ HRel R φ1 H1 h1 ∧ Rp φ1 H1 d x ∧ OutB R XR φ1 H1 σ Q (f d h1)) r := by
  cases r with
  | ok v h' => exact fun φ' H' x e hr rp => ⟨φ', v, h', e, hr, rp, OutB.ext e h⟩
  | ex c l h' => exact h
  | bad => exact h
theorem bt_truth (ha : PE X a (tE R XR g m1)) (hi : ∀ whole, isTrue a X.env whole = (do let v ← whole; standAt a.pos; holding [v] (truthy v))) : PT X a (tT R XR g (tOf m1)) :=
  (pt_truth ha hi).imp fun σ H Q ⟨φ, e, h, he, hr, q⟩ => ⟨φ, e, h, he, hr, (OutB.bind q).mono fun x H1 ⟨φ1, d, h1, x1, r1, p1, q1⟩ => okB_tru rfl r1 p1 q1⟩
theorem bt_not (ha : PT X a (tT R XR g m1)) : PT X (.UnaryOp .Not a pos) (tT R XR g (tNot m1)) :=
  (pt_not ha).imp fun σ H Q ⟨φ, e, h, he, hr, q⟩ => ⟨φ, e, h, he, hr, (OutB.onB q).mono fun b H1 ⟨φ1, h1, x1, r1, q1⟩ => by
    obtain ⟨b', e', q1⟩ := q1
    cases e'
    exact q1 φ1 H1 .refl r1⟩
theorem _root_.L2.PW.imp {e : Expr} {t t' : TT} (h : PW X e t) (hi : ∀ σ H Q, t' σ H Q → t σ H Q) : PW X e t' := ⟨fun wh pins s σ H Q I hq => h.run wh pins s σ H Q I (hi σ H Q hq)⟩
theorem bw_and {rest : List Expr} (ha : PT X a (tT R XR g m1)) (hb : PW X (.BoolOp .And (b :: rest) pos) (tT R XR g m2)) : PW X (.BoolOp .And (a :: b :: rest) pos) (tT R XR g (tAnd m1 m2)) :=
  (pw_and ha hb).imp fun σ H Q ⟨φ, e, h, he, hr, q⟩ => ⟨φ, e, h, he, hr, (OutB.onB q).mono fun b H1 ⟨φ1, h1, x1, r1, q1⟩ => by
    cases b with
    | true => exact ⟨φ1, e, h1, he.ext x1, r1, q1⟩
    | false => obtain ⟨b', e', q1⟩ := q1; cases e'; exact q1 φ1 H1 .refl r1⟩
theorem bw_or {rest : List Expr} (ha : PT X a (tT R XR g m1)) (hb : PW X (.BoolOp .Or (b :: rest) pos) (tT R XR g m2)) : PW X (.BoolOp .Or (a :: b :: rest) pos) (tT R XR g (tOr m1 m2)) :=
  (pw_or ha hb).imp fun σ H Q ⟨φ, e, h, he, hr, q⟩ => ⟨φ, e, h, he, hr, (OutB.onB q).mono fun b H1 ⟨φ1, h1, x1, r1, q1⟩ => by
    cases b with
    | true => obtain ⟨b', e', q1⟩ := q1; cases e'; exact q1 φ1 H1 .refl r1
    | false => exact ⟨φ1, e, h1, he.ext x1, r1, q1⟩⟩
theorem b_and {rest : List Expr} (ha : PE X a (tE R XR g m1)) (hb : PE X (.BoolOp .And (b :: rest) pos) (tE R XR g m2)) : PE X (.BoolOp .And (a :: b :: rest) pos) (tE R XR g (mAnd m1 m2)) :=
  (pe_andT ha hb).imp fun σ H Q ⟨φ, e, h, he, hr, q⟩ => ⟨φ, e, h, he, hr, (OutE.bind q).mono fun x H1 ⟨φ1, d, h1, x1, r1, p1, q1⟩ => by
    split at q1
    · rename_i k ek
      refine ⟨k, truD_ok r1 p1 ek, ?_⟩
      cases k with
      | true => exact ⟨φ1, e, h1, he.ext x1, r1, q1⟩
      | false => exact q1 φ1 H1 x .refl r1 p1
    · exact q1.elim⟩
theorem b_or {rest : List Expr} (ha : PE X a (tE R XR g m1)) (hb : PE X (.BoolOp .Or (b :: rest) pos) (tE R XR g m2)) : PE X (.BoolOp .Or (a :: b :: rest) pos) (tE R XR g (mOr m1 m2)) :=
  (pe_orT ha hb).imp fun σ H Q ⟨φ, e, h, he, hr, q⟩ => ⟨φ, e, h, he, hr, (OutE.bind q).mono fun x H1 ⟨φ1, d, h1, x1, r1, p1, q1⟩ => by
    split at q1
    · rename_i k ek
      refine ⟨k, truD_ok r1 p1 ek, ?_⟩
      cases k with
      | true => exact q1 φ1 H1 x .refl r1 p1
      | false => exact ⟨φ1, e, h1, he.ext x1, r1, q1⟩
    · exact q1.elim⟩
theorem b_not (ha : PE X a (tE R XR g m1)) : PE X (.UnaryOp .Not a pos) (tE R XR g (mNot m1)) :=
  (pe_notT ha).imp fun σ H Q ⟨φ, e, h, he, hr, q⟩ => ⟨φ, e, h, he, hr, (OutE.bind q).mono fun x H1 ⟨φ1, d, h1, x1, r1, p1, q1⟩ => by
    cases ek : truD h1 d with
    | none => rw [ek] at q1; exact q1.elim
    | some k => rw [ek] at q1; exact ⟨k, truD_ok r1 p1 ek, q1 φ1 H1 (.bl (!k)) .refl r1 rfl⟩⟩
theorem b_if (hc : PT X c (tT R XR g m1)) (ha : PE X a (tE R XR g m2)) (hb : PE X b (tE R XR g m3)) : PE X (.IfExp c a b pos) (tE R XR g (mIf m1 m2 m3)) :=
  (pe_ifExp hc ha hb).imp fun σ H Q ⟨φ, e, h, he, hr, q⟩ => ⟨φ, e, h, he, hr, (OutE.onB q).mono fun b H1 ⟨φ1, h1, x1, r1, q1⟩ => by
    cases b with
    | true => exact ⟨φ1, e, h1, he.ext x1, r1, q1⟩
    | false => exact ⟨φ1, e, h1, he.ext x1, r1, q1⟩⟩
theorem b_neg (ha : PE X a (tE R XR g m1)) : PE X (.UnaryOp .USub a pos) (tE R XR g (mNeg m1)) :=
  (pe_un un_neg ha).imp fun σ H Q ⟨φ, e, h, he, hr, q⟩ => ⟨φ, e, h, he, hr, (OutE.bind q).mono fun x H1 ⟨φ1, d, h1, x1, r1, p1, q1⟩ => by
    cases d with
    | int i => obtain rfl := p1; exact ⟨i, rfl, q1 φ1 H1 (.int (-i)) .refl r1 rfl⟩
    | _ => exact q1.elim⟩
theorem b_sub (hu : X.A.units + 65 < cLine) (ha : PE X a (tE R XR g m1)) (hb : PE X b (tE R XR g m2)) (hs : PlainIx b) : PE X (.Subscript a b pos) (tE R XR g (mSub m1 m2)) :=
  (pe_ix (subD_ok hu) ha hb hs).imp fun σ H Q ⟨φ, e, h, he, hr, q⟩ => two (fun _ _ _ z => z) (fun _ _ _ z => z) he hr q
abbrev MP := Gm → Env → DH → (Option Int → DH → RE) → RE
def tP (R : Rx) (XR : XQ) (g : Gm) (m : MP) : TO := fun σ H Q => ∃ φ e h f Q', ERel φ H e σ ∧ HRel R φ H h ∧ OutE R XR φ H σ Q' (m g e h f) ∧ ∀ φ1 H1 h1 o, Ext φ H φ1 H1 → HRel R φ1 H1 h1 → OutE R XR φ1 H1 σ Q' (f o h1) → Q o H1
theorem _root_.L2.PO.imp {e : Option Expr} {t t' : TO} (h : PO X e t) (hi : ∀ σ H Q, t' σ H Q → t σ H Q) : PO X e t' := ⟨fun pins s σ H Q I hq => h.run pins s σ H Q I (hi σ H Q hq)⟩
theorem bp_none : PO X none (tP R XR g pNone) := po_none.imp fun σ H Q ⟨φ, e, h, f, Q', he, hr, q, k⟩ => k φ H h none .refl hr q
theorem bp_some (ha : PE X a (tE R XR g m1)) : PO X (some a) (tP R XR g (pSome m1)) :=
  (po_some ha).imp fun σ H Q ⟨φ, e, h, f, Q', he, hr, q, k⟩ => ⟨φ, e, h, he, hr, (OutE.bind q).mono fun x H1 ⟨φ1, d, h1, x1, r1, p1, q1⟩ => by
    cases d with
    | int i => obtain rfl := p1; exact ⟨i, rfl, k φ1 H1 h1 (some i) x1 r1 q1⟩
    | _ => exact q1.elim⟩
theorem b_slice {lo hi : Option Expr} {l u : MP} {p2 : Pos} (ha : PE X a (tE R XR g m1)) (hl : PO X lo (tP R XR g l)) (hh : PO X hi (tP R XR g u)) : PE X (.Subscript a (.Slice lo hi none p2) pos) (tE R XR g (mSlice m1 l u)) :=
  (pe_slice sliceD_ok ha hl hh).imp fun σ H Q ⟨φ, e, h, he, hr, q⟩ => ⟨φ, e, h, he, hr, (OutE.bind q).mono fun x H1 ⟨φ1, d, h1, x1, r1, p1, q1⟩ =>
    ⟨φ1, e, h1, _, Q, he.ext x1, r1, q1, fun φ2 H2 h2 o x2 r2 q2 => ⟨φ2, e, h2, _, Q, (he.ext x1).ext x2, r2, q2, fun φ3 H3 h3 o' x3 r3 q3 => ⟨φ3, h3, d, r3, (p1.ext x2).ext x3, OutV.ofE q3⟩⟩⟩⟩
theorem OutA.bindA {φ : List Addr} {H : Hp} {σ : L2.St} {Q : List V → Hp → Prop} {m : ME} {ar : MA} {e : Env} {h : DH} (q : OutA R XR φ H σ Q (aCons m ar g e h)) :
    OutE R XR φ H σ (fun x H1 => ∃ φ1 d h1, Ext φ H φ1 H1 ∧ HRel R φ1 H1 h1 ∧ Rp φ1 H1 d x ∧ OutA R XR φ1 H1 σ (fun xs H2 => Q (x :: xs) H2) (ar g e h1)) (m g e h) := by
  unfold aCons at q
  cases hm : m g e h with
  | ok v h1 =>
    rw [hm] at q
    intro φ1 H1 x x1 r1 p1
    refine ⟨φ1, v, h1, x1, r1, p1, ?_⟩
    cases ha : ar g e h1 with
    | ok vs h2 =>
      simp only [ha] at q
      exact fun φ2 H2 xs x2 r2 p2 => q φ2 H2 (x :: xs) (x1.trans x2) r2 ⟨x, xs, rfl, p1.ext x2, p2⟩
    | ex c l h2 =>
      simp only [ha] at q
      exact fun φ2 H2 x2 r2 => q φ2 H2 (x1.trans x2) r2
    | bad => simp only [ha] at q; exact q
  | ex c l h1 => rw [hm] at q; exact q
  | bad => rw [hm] at q; exact q
theorem ba_nil : PA X [] (tA R XR g aNil) := pa_nil.imp fun σ H Q ⟨φ, e, h, he, hr, q⟩ => q φ H [] .refl hr rfl
theorem ba_cons {es : List Expr} {ar : MA} (ha : PE X a (tE R XR g m1)) (hr : PA X es (tA R XR g ar)) (hs : starEach (a :: es) X.env = (false, eval a X.env) :: starEach es X.env) : PA X (a :: es) (tA R XR g (aCons m1 ar)) :=
  (pa_cons ha hr hs).imp fun σ H Q ⟨φ, e, h, he, hr, q⟩ => ⟨φ, e, h, he, hr, (OutA.bindA q).mono fun x H1 ⟨φ1, d, h1, x1, r1, p1, q1⟩ => ⟨φ1, e, h1, he.ext x1, r1, q1⟩⟩
theorem b_tup {es : List Expr} {ar : MA} {k} (h : PA X es (tA R XR g ar)) : PE X (.Tuple es k pos) (tE R XR g (mTup ar)) :=
  (pe_tup h).imp fun σ H Q ⟨φ, e, h, he, hr, q⟩ => ⟨φ, e, h, he, hr, (OutA.bind q).mono fun xs H1 ⟨φ1, d, h1, x1, r1, p1, q1⟩ => by
    split at q1 <;> rename_i hl
    · exact ⟨sub0 (by rw [p1.length]; exact hl), fun p hp => OutV.tup (Q := Q) r1 p1 (OutV.ofE (XR := XR) (σ := σ) (r := some (.tup d, h1)) q1) hp⟩
    · exact q1.elim⟩
theorem b_lst {es : List Expr} {ar : MA} (h : PA X es (tA R XR g ar)) : PE X (.List es pos) (tE R XR g (mLst ar)) :=
  (pe_lst h).imp fun σ H Q ⟨φ, e, h, he, hr, q⟩ => ⟨φ, e, h, he, hr, (OutA.bind q).mono fun xs H1 ⟨φ1, d, h1, x1, r1, p1, q1⟩ => by
    split at q1 <;> rename_i hl
    · exact ⟨sub0 (by rw [p1.length]; exact hl), fun p hp => OutV.lst (Q := Q) r1 p1 (OutV.ofE (XR := XR) (σ := σ) q1) hp⟩
    · exact q1.elim⟩
theorem bf_rd {σ : L2.St} {H : Hp} {Q : VK} {bf : Bf} {ar : MA} {φ : List Addr} {e : Env} {h : DH} (he : ERel φ H e σ) (hr : HRel R φ H h) (q : OutE R XR φ H σ Q (mBf bf ar g e h)) : tCB (vRL R (bfD bf)) (tA R XR g ar) σ H Q :=
  ⟨φ, e, h, he, hr, (OutA.bind q).mono fun xs H1 ⟨φ1, d, h1, x1, r1, p1, q1⟩ => ⟨φ1, h1, d, r1, p1, OutV.ofE q1⟩⟩
end
end Bp
end

section
set_option linter.all false
set_option maxRecDepth 100000
set_option maxHeartbeats 0
set_option linter.all false
set_option maxRecDepth 100000
set_option autoImplicit false
set_option maxHeartbeats 1000000
namespace Bp
open PySem PySem.Spec PyProof.Rows L2
def noX : XQ := fun _ _ _ _ _ => False
def spF (R : Rx) (np : Nat) (m : List D → DH → RE) : Sp := fun vs H Q _ => vs.length = np ∧ ∃ φ h ds, HRel R φ H h ∧ RpL φ H ds vs ∧ OutE R noX φ H [] Q (m ds h)
theorem OutE.noσ {R : Rx} {φ : List Addr} {H : Hp} {σ σ' : L2.St} {Q : VK} {r : RE} (h : OutE R noX φ H σ Q r) : OutE R noX φ H σ' Q r := by
  cases r with
  | ok v h' => exact h
  | ex c l h' => exact h
  | bad => exact h
theorem passes0 {X : Cx} : Passes CX0 X E0 := fun _ _ _ _ _ _ _ z => z.elim
section
variable {X : Cx} {R : Rx} {g : Gm} {a b c o e : Expr} {es : List Expr} {m1 m2 m3 : ME} {ar : MA} {pos p apos : Pos} {x : Str} {k np : Nat} {f C : Addr} {fd : FuncData} {ps : List Str}
theorem call_rd {σ : L2.St} {H : Hp} {Q : VK} {i : Nat} {φ : List Addr} {e : Env} {h : DH} (hn : ∀ σ H Q, tA R noX g ar σ H Q → tA R noX g ar σ H fun vs H1 => vs.length = np ∧ Q vs H1) (he : ERel φ H e σ) (hr : HRel R φ H h) (q : OutE R noX φ H σ Q (mCall i ar g e h)) :
    tCall (spF R np (g.call i)) [] E0 (tA R noX g ar) σ H Q := by
  have z : tA R noX g ar σ H (fun vs H1 => ∃ φ1 h1 ds, HRel R φ1 H1 h1 ∧ RpL φ1 H1 ds vs ∧ OutE R noX φ1 H1 [] Q (g.call i ds h1)) :=
    ⟨φ, e, h, he, hr, (OutA.bind q).mono fun xs H1 ⟨φ1, d, h1, x1, r1, p1, q1⟩ => ⟨φ1, h1, d, r1, p1, q1.noσ⟩⟩
  obtain ⟨φ', e', h', he', hr', q'⟩ := hn σ H _ z
  exact ⟨φ', e', h', he', hr', q'.mono fun vs H1 ⟨hl, w⟩ => by rw [List.append_nil]; exact ⟨hl, w⟩⟩
def AN (R : Rx) (g : Gm) (ar : MA) (n : Nat) : Prop := ∀ e h vs h', ar g e h = .ok vs h' → vs.length = n
theorem AN.nil : AN R g aNil 0 := fun _ _ _ _ z => by cases z; rfl
theorem AN.cons {n : Nat} (h : AN R g ar n) : AN R g (aCons m1 ar) (n + 1) := fun e h0 vs h' z => by
  unfold aCons at z
  split at z
  · split at z
    · rename_i q
      cases z
      rw [List.length_cons, h _ _ _ _ q]
    · cases z
    · cases z
  · cases z
  · cases z
theorem AN.rd {n : Nat} (h : AN R g ar n) (σ : L2.St) (H : Hp) (Q : List V → Hp → Prop) (z : tA R noX g ar σ H Q) : tA R noX g ar σ H fun vs H1 => vs.length = n ∧ Q vs H1 := by
  obtain ⟨φ, e, h0, he, hr, q⟩ := z
  refine ⟨φ, e, h0, he, hr, ?_⟩
  cases hq : ar g e h0 with
  | ok vs h' =>
    rw [hq] at q
    exact fun φ' H' xs x1 r1 p1 => ⟨by rw [p1.length]; exact h _ _ _ _ hq, q φ' H' xs x1 r1 p1⟩
  | ex c l h' => rw [hq] at q; exact q
  | bad => rw [hq] at q; exact q
theorem b_call {i : Nat} (F : FnOk X.prog X.w X.K X.mg X.base CX0 k f fd ps (spF R np (g.call i))) (hr : Room k X.A) (hg : Gl X x) (hm : X.mg x = some (.ref f)) (hk : PySem.W.keepIn X.K (.ref f) = true) (hb : Binds X.K fd ps [])
    (ha : PA X (e :: es) (tA R noX g ar)) (hn : AN R g ar np) (hdb : (x == ("__debug__" : Str)) = false) (he : starEach (e :: es) X.env = (false, eval e X.env) :: starEach es X.env) (hpl : (backTo pos (starEach es X.env)).any (·.1) = false) :
    PE X (.Call (.Name x p) (e :: es) [] pos) (tE R noX g (mCall i ar)) :=
  (pe_call F hr hg hm hk hb .nil passes0 ha hdb he hpl).imp fun σ H Q ⟨φ, e, h, he, hr, q⟩ => call_rd hn.rd he hr q
theorem b_call0 {i : Nat} (F : FnOk X.prog X.w X.K X.mg X.base CX0 k f fd ps (spF R 0 (g.call i))) (hr : Room k X.A) (hg : Gl X x) (hm : X.mg x = some (.ref f)) (hk : PySem.W.keepIn X.K (.ref f) = true) (hb : Binds X.K fd ps [])
    (hdb : (x == ("__debug__" : Str)) = false) : PE X (.Call (.Name x p) [] [] pos) (tE R noX g (mCall i aNil)) :=
  (pe_call0 F hr hg hm hk hb .nil passes0 hdb).imp fun σ H Q ⟨φ, e, h, he, hr, q⟩ => ⟨rfl, φ, h, [], hr, rfl, OutE.noσ (σ := σ) (show OutE R noX φ H σ Q (g.call i [] h) from q)⟩
theorem two_upd {R : Rx} {φ : List Addr} {H : Hp} {h : DH} {x dx : Addr} {c : Nat} (hr : HRel R φ H h) (h1 : H x = none) (h2 : H dx = none) (hne : dx ≠ x) :
    HRel R (φ ++ [x]) (upd (upd H dx (.own x)) x (.ins (R.ca c) dx [])) (h ++ [.ins c []]) ∧ Ext φ H (φ ++ [x]) (upd (upd H dx (.own x)) x (.ins (R.ca c) dx [])) := by
  have hx : upd H dx (.own x) x = none := by rw [upd_ne (Ne.symm hne)]; exact h1
  exact ⟨(hr.other h2).push hx ⟨dx, [], upd_same, rfl⟩, (ext_tup h2).trans (ext_push hx)⟩
theorem make_rd {σ : L2.St} {H : Hp} {Q : VK} {i c : Nat} {φ : List Addr} {h : DH} {ds : List D} {vs : List V} (hl : vs.length = np) (hr : HRel R φ H h) (rl : RpL φ H ds vs) (q : OutE R noX φ H σ Q (mkD c (g.low i) ds h)) (x dx : Addr) (h1 : H x = none) (h2 : H dx = none) (hne : dx ≠ x) :
    spF R (np + 1) (g.low i) (.ref x :: vs) (upd (upd H dx (.own x)) x (.ins (R.ca c) dx [])) (fun v H2 => v = .non ∧ Q (.ref x) H2) E0 := by
  obtain ⟨r2, x2⟩ := two_upd (c := c) hr h1 h2 hne
  have hx : (φ ++ [x])[h.length]? = some x := by rw [← hr.len]; simp
  refine ⟨by rw [List.length_cons, hl], φ ++ [x], h ++ [.ins c []], .ref h.length :: ds, r2, ⟨.ref x, vs, rfl, ⟨x, hx, rfl⟩, rl.ext x2⟩, ?_⟩
  unfold mkD at q
  split at q
  · rename_i h' e
    rw [e]
    intro φ3 H3 v x3 r3 p3
    exact ⟨p3, q φ3 H3 (.ref x) (x2.trans x3) r3 ⟨x, pre_get x3.pre hx, rfl⟩⟩
  · rename_i e
    rw [e]
    exact fun φ3 H3 x3 r3 => q φ3 H3 (x2.trans x3) r3
  · exact q.elim
theorem b_make {i c : Nat} (M : Mk X.K (R.ca c) f) (F : FnOk X.prog X.w X.K X.mg X.base CX0 k f fd ps (spF R (np + 1) (g.low i))) (hr : Room (k + 1) X.A) (hg : Gl X x) (hm : X.mg x = some (.ref (R.ca c))) (hb : Binds X.K fd ps [])
    (ha : PA X (e :: es) (tA R noX g ar)) (hn : AN R g ar np) (hdb : (x == ("__debug__" : Str)) = false) (he : starEach (e :: es) X.env = (false, eval e X.env) :: starEach es X.env) (hpl : (backTo pos (starEach es X.env)).any (·.1) = false) :
    PE X (.Call (.Name x p) (e :: es) [] pos) (tE R noX g (mMake c i ar)) :=
  (pe_make M F hr hg hm hb .nil passes0 ha hdb he hpl).imp fun σ H Q ⟨φ, e, h, he, hr, q⟩ => by
    have z : tA R noX g ar σ H (fun vs H1 => ∃ φ1 h1 ds, HRel R φ1 H1 h1 ∧ RpL φ1 H1 ds vs ∧ OutE R noX φ1 H1 σ Q (mkD c (g.low i) ds h1)) :=
      ⟨φ, e, h, he, hr, (OutA.bind q).mono fun xs H1 ⟨φ1, d, h1, x1, r1, p1, q1⟩ => ⟨φ1, h1, d, r1, p1, q1⟩⟩
    obtain ⟨φ', e', h', he', hr', q'⟩ := hn.rd σ H _ z
    exact ⟨φ', e', h', he', hr', q'.mono fun vs H1 ⟨hl, φ1, h1, ds, r1, p1, q1⟩ x dx hx hdx hne => by rw [List.append_nil]; exact make_rd hl r1 p1 q1 x dx hx hdx hne⟩
theorem RpF.look (nd : R.an.Nodup) {φ : List Addr} {H : Hp} {f : Nat} {nm : Str} (hf : R.an[f]? = some nm) : ∀ {fs : List (Nat × D)} {fv : List (Str × V)}, RpF R φ H fs fv → (∀ d, fs.lookup f = some d → ∃ v, fv.lookup nm = some v ∧ Rp φ H d v) ∧ (fs.lookup f = none → fv.lookup nm = none)
  | [], _, r => by rw [show _ = [] from r]; exact ⟨fun _ z => by simp at z, fun _ => rfl⟩
  | (i, d') :: fs, _, r => by
    obtain ⟨⟨n, v⟩, r', rfl, h1, h2, h3⟩ := r
    obtain ⟨k1, k2⟩ := RpF.look nd hf h3
    simp only [List.lookup_cons]
    by_cases hi : f = i
    · subst hi
      have : n = nm := by rw [hf] at h1; exact (Option.some.inj h1).symm
      subst this
      refine ⟨fun d z => ?_, fun z => ?_⟩
      · simp at z; subst z; exact ⟨v, by simp, h2⟩
      · simp at z
    · have hne : ¬ nm = n := fun z => hi (by
        subst z
        obtain ⟨l1, e1⟩ := List.getElem?_eq_some_iff.mp hf
        obtain ⟨l2, e2⟩ := List.getElem?_eq_some_iff.mp h1
        exact (List.getElem_inj nd).mp (e1.trans e2.symm))
      have b1 : (f == i) = false := by simpa using hi
      have b2 : (nm == n) = false := by simpa using hne
      rw [b1, b2]
      exact ⟨k1, k2⟩
theorem RpF.len {φ : List Addr} {H : Hp} : ∀ {fs : List (Nat × D)} {fv : List (Str × V)}, RpF R φ H fs fv → fv.length = fs.length
  | [], _, h => by rw [show _ = [] from h]; rfl
  | _ :: l, _, h => by obtain ⟨x, r, rfl, _, _, h2⟩ := h; simp [RpF.len h2]
theorem b_meth {pl : Sem Bool} {i mi c : Nat} {m : Str} (nd : R.an.Nodup) (hmi : R.an[mi]? = some m) (ho : PE X o (tE R noX g m1)) (cl : Cls X.K (R.ca c)) (hm : Meth X.K (R.ca c) m f) (F : FnOk X.prog X.w X.K X.mg X.base CX0 k f fd ps (spF R (np + 1) (g.call i))) (hr : Room k X.A) (hb : Binds X.K fd ps [])
    (ha : PA X (e :: es) (tA R noX g ar)) (hn : AN R g ar np)
    (hst : starEach (e :: es) X.env = (false, eval e X.env) :: starEach es X.env) (hpl : (backTo pos (starEach es X.env)).any (·.1) = false)
    (ht : eval (.Call (.Attribute o m apos) (e :: es) [] pos) X.env = (do
      let ov ← eval o X.env
      standAt apos.atName
      let (f, first) ← holding [ov] (getMethod ov m pl)
      callWith pos f first (backTo pos (starEach (e :: es) X.env)) (backToKw pos (keywordEach [] X.env)))) :
    PE X (.Call (.Attribute o m apos) (e :: es) [] pos) (tE R noX g (mMeth [(c, i)] mi m1 ar)) :=
  (pe_meth ho cl hm F hr hb .nil passes0 ha hst hpl ht).imp fun σ H Q ⟨φ, e, h, he, hr, q⟩ => ⟨φ, e, h, he, hr, (OutE.bind q).mono fun x H1 ⟨φ1, d, h1, x1, r1, p1, q1⟩ => by
    split at q1
    · rename_i n
      split at q1
      · rename_i c' fs e1
        split at q1
        · rename_i f' e2
          split at q1
          · rename_i e3
            obtain ⟨a, f1, rfl⟩ := p1
            obtain ⟨a', f2, dx, fv, f3, f4⟩ := r1.addr e1
            cases get_eq f1 f2
            have : c' = c ∧ f' = i := by
              simp [List.lookup_cons] at e2
              split at e2
              · rename_i hc; cases e2; exact ⟨by simpa using hc, rfl⟩
              · cases e2
            obtain ⟨rfl, rfl⟩ := this
            refine ⟨a, dx, fv, rfl, f3, (f4.look nd hmi).2 e3, ?_⟩
            have z : tA R noX g ar σ H1 (fun vs H2 => ∃ φ2 h2 ds, Ext φ1 H1 φ2 H2 ∧ HRel R φ2 H2 h2 ∧ RpL φ2 H2 ds vs ∧ OutE R noX φ2 H2 [] Q (g.call f' (.ref n :: ds) h2)) :=
              ⟨φ1, _, h1, he.ext x1, r1, (OutA.bind q1).mono fun xs H2 ⟨φ2, d, h2, x2, r2, p2, q2⟩ => ⟨φ2, h2, d, x2, r2, p2, q2.noσ⟩⟩
            obtain ⟨φ', e', h', he', hr', q'⟩ := hn.rd σ H1 _ z
            exact ⟨φ', e', h', he', hr', q'.mono fun vs H2 ⟨hl, φ2, h2, ds, x2, r2, p2, q2⟩ => by
              rw [List.append_nil]
              exact ⟨by rw [List.length_cons, hl], φ2, h2, .ref n :: ds, r2, ⟨_, _, rfl, ⟨a, pre_get x2.pre f1, rfl⟩, p2⟩, q2⟩⟩
          · exact q1.elim
        · exact q1.elim
      · exact q1.elim
    · exact q1.elim⟩
theorem b_prop {i fi c : Nat} {fn : Str} {pr : Addr} {fl : List Nat} (ho : PE X o (tE R noX g m1)) (cl : Cls X.K (R.ca c)) (hp : PropOf X.K (R.ca c) fn pr f) (F : FnOk X.prog X.w X.K X.mg X.base CX0 k f fd ps (spF R 1 (g.low i))) (hr : Room (k + 1) X.A) (hb : Binds X.K fd ps [])
    (hab : attributeBase o fn X.env (eval o X.env) = eval o X.env) : PE X (.Attribute o fn pos) (tE R noX g (mAttr [(c, i)] [] fi m1)) :=
  (pe_prop (E := E0) ho cl hp F hr hb .nil (fun _ _ _ _ _ _ _ z => z.elim) hab).imp fun σ H Q ⟨φ, e, h, he, hr, q⟩ => ⟨φ, e, h, he, hr, (OutE.bind q).mono fun x H1 ⟨φ1, d, h1, x1, r1, p1, q1⟩ => by
    split at q1
    · rename_i n
      split at q1
      · rename_i c' fs e1
        obtain ⟨a, f1, rfl⟩ := p1
        obtain ⟨a', f2, dx, fv, f3, f4⟩ := r1.addr e1
        cases get_eq f1 f2
        split at q1
        · rename_i f' e2
          have : c' = c ∧ f' = i := by
            simp [List.lookup_cons] at e2
            split at e2
            · rename_i hc; cases e2; exact ⟨by simpa using hc, rfl⟩
            · cases e2
          obtain ⟨rfl, rfl⟩ := this
          exact ⟨a, dx, fv, rfl, f3, rfl, φ1, h1, [.ref n], r1, ⟨_, _, rfl, ⟨a, f1, rfl⟩, rfl⟩, q1.noσ⟩
        · simp at q1
          exact q1.elim
      · exact q1.elim
    · exact q1.elim⟩
theorem b_fld {fi c : Nat} {fn : Str} (nd : R.an.Nodup) (hfi : R.an[fi]? = some fn) (ho : PE X o (tE R noX g m1)) (cl : Cls X.K (R.ca c)) (hna : NoAttr X.K (R.ca c) fn)
    (hab : attributeBase o fn X.env (eval o X.env) = eval o X.env) : PE X (.Attribute o fn pos) (tE R noX g (mAttr [] [c] fi m1)) :=
  (pe_fld ho hab).imp fun σ H Q ⟨φ, e, h, he, hr, q⟩ => ⟨φ, e, h, he, hr, (OutE.bind q).mono fun x H1 ⟨φ1, d, h1, x1, r1, p1, q1⟩ => by
    split at q1
    · rename_i n
      split at q1
      · rename_i c' fs e1
        obtain ⟨a, f1, rfl⟩ := p1
        obtain ⟨a', f2, dx, fv, f3, f4⟩ := r1.addr e1
        cases get_eq f1 f2
        simp only [List.lookup_nil] at q1
        split at q1
        · rename_i hc
          have : c' = c := by simpa using hc
          subst this
          split at q1
          · rename_i v e3
            obtain ⟨u, e4, ru⟩ := (f4.look nd hfi).1 v e3
            exact ⟨a, _, dx, fv, u, rfl, f3, cl, hna, e4, q1 φ1 H1 u .refl r1 ru⟩
          · exact q1.elim
        · exact q1.elim
      · exact q1.elim
    · exact q1.elim⟩
end
end Bp
end

section
set_option linter.all false
set_option maxRecDepth 100000
set_option maxHeartbeats 0
set_option linter.all false
set_option maxRecDepth 100000
set_option autoImplicit false
set_option maxHeartbeats 1000000
namespace Bp
open PySem PySem.Spec PyProof.Rows L2
def kV (R : Rx) : Option Nat × String → Value
  | (some c, _) => .ref (R.ca c)
  | (none, t) => .type t
def tV (R : Rx) : Ty → Value
  | .ty t => .type t
  | .cls c => .ref (R.ca c)
def tW (R : Rx) : Ty → V
  | .ty t => .ty t
  | .cls c => .ref (R.ca c)
abbrev Sub := List (Option Nat × String × Ty × Bool)
structure SubOk (K : PySem.W.Frag) (R : Rx) (sub : Sub) : Prop where
  kit : ∀ r ∈ sub, PySem.W.kitOne K (kV R (r.1, r.2.1)) (tV R r.2.2.1) = some r.2.2.2
  cl : ∀ r ∈ sub, ∀ c, r.1 = some c → C8.InsC K (R.ca c)
section
variable {X : Cx} {R : Rx} {XR : XQ} {g : Gm} {φ : List Addr} {H : Hp} {h : DH} {a : Expr} {m1 m2 : ME}
theorem clsV (t : Ty) : ClsV (tW R t) (tV R t) := by
  cases t with
  | ty n => exact .ty n
  | cls c => exact .own _
theorem isTy_ok {K : PySem.W.Frag} {sub : Sub} (ok : SubOk K R sub) {k : Option Nat × String} {t : Ty} {b : Bool} (e : isTy sub k t = some b) : PySem.W.kitOne K (kV R k) (tV R t) = some b ∧ ∀ c, k.1 = some c → C8.InsC K (R.ca c) := by
  unfold isTy at e
  cases hf : sub.find? (fun r => decide (r.1 = k.1) && (decide (r.2.1 = k.2) && decide (r.2.2.1 = t))) with
  | none => rw [hf] at e; cases e
  | some r =>
    rw [hf] at e
    have hm := List.mem_of_find?_eq_some hf
    have hp := List.find?_some hf
    simp only [Bool.and_eq_true, decide_eq_true_eq] at hp
    obtain ⟨p1, p2, p3⟩ := hp
    have hb : r.2.2.2 = b := by simpa using e
    have := ok.kit r hm
    rw [p1, p2, p3, hb] at this
    exact ⟨this, fun c hc => ok.cl r hm c (p1.trans hc)⟩
theorem anyTy_ok {K : PySem.W.Frag} {sub : Sub} (ok : SubOk K R sub) {k : Option Nat × String} : ∀ {ts : List Ty} {b : Bool}, anyTy sub k ts = some b → PySem.W.kitAny K (kV R k) (ts.map (tV R)) = some b ∧ (ts ≠ [] → ∀ c, k.1 = some c → C8.InsC K (R.ca c))
  | [], b, e => by cases e; exact ⟨rfl, fun z => absurd rfl z⟩
  | t :: r, b, e => by
    unfold anyTy at e
    split at e
    · rename_i e1
      cases e
      obtain ⟨h1, h2⟩ := isTy_ok ok e1
      exact ⟨kitAny_cons h1 (fun z => by cases z) (fun _ => rfl), fun _ => h2⟩
    · rename_i e1
      obtain ⟨h1, h2⟩ := isTy_ok ok e1
      exact ⟨kitAny_cons h1 (fun _ => (anyTy_ok ok e).1) (fun z => by cases z), fun _ => h2⟩
    · cases e
theorem kind_ok {K : PySem.W.Frag} {d : D} {x : V} {k : Option Nat × String} (hr : HRel R φ H h) (rp : Rp φ H d x) (e : kindD h d = some k) (hi : ∀ c, k.1 = some c → C8.InsC K (R.ca c)) : TyX K H x (kV R k) := by
  cases d with
  | non => cases e; obtain rfl := rp; exact .base .non
  | bl b => cases e; obtain rfl := rp; exact .base (.bl b)
  | int b => cases e; obtain rfl := rp; exact .base (.int b)
  | str b => cases e; obtain rfl := rp; exact .base (.str b)
  | tup l => cases e; obtain ⟨a, xs, rfl, h1, h2⟩ := rp; exact .base (.tup h1)
  | ref n =>
    obtain ⟨a, f1, rfl⟩ := rp
    have e : kindH h n = some k := e
    unfold kindH at e
    split at e
    · rename_i l g; cases e; obtain ⟨a', f2, xs, f3, _⟩ := hr.addr g; cases get_eq f1 f2; exact .base (.lst f3)
    · rename_i l g; cases e; obtain ⟨a', f2, o, xs, f3, _⟩ := hr.addr g; cases get_eq f1 f2; exact .base (.frz f3)
    · rename_i l g; cases e; obtain ⟨a', f2, o, xs, f3, _⟩ := hr.addr g; cases get_eq f1 f2; exact .fTuple f3
    · rename_i l g; cases e; obtain ⟨a', f2, xs, f3, _⟩ := hr.addr g; cases get_eq f1 f2; exact .base (.dK f3)
    · rename_i l g; cases e; obtain ⟨a', f2, xs, f3, _⟩ := hr.addr g; cases get_eq f1 f2; exact .base (.dT f3)
    · rename_i l g; cases e; obtain ⟨a', f2, o, xs, f3, _⟩ := hr.addr g; cases get_eq f1 f2; exact .fDict f3
    · rename_i c l g
      cases e
      obtain ⟨a', f2, dx, xs, f3, _⟩ := hr.addr g
      cases get_eq f1 f2
      obtain ⟨i1, i2, i3, i4, i5, i6⟩ := hi c rfl
      exact .base (.ins f3 i1 i2 i3 i4 i5)
    · cases e
  | _ => cases e
variable {pos p p2 : Pos} {c : Expr} {sub : Sub}
theorem b_isi1 {t : Ty} (ok : SubOk X.K R sub) (hg : Gl X "isinstance") (hm : X.mg "isinstance" = none) (ha : PE X a (tE R XR g m1)) (hc : PE X c (tC (tW R t)))
    (h1 : starEach [a, c] X.env = [(false, eval a X.env), (false, eval c X.env)]) (h2 : starEach [c] X.env = [(false, eval c X.env)]) : PE X (.Call (.Name "isinstance" p) [a, c] [] pos) (tE R XR g (mIsi sub [t] m1)) :=
  (pe_callB call_isi hg hm PyProof.Rows.boot_isinstance (pa_cons ha (pa_cons hc pa_nil (by rw [h2]; rfl)) (by rw [h1, h2])) (by decide) (by decide) (by rw [h1, h2]) (by rw [h2]; rfl)).imp fun σ H Q ⟨φ, e, h, he, hr, q⟩ =>
    ⟨φ, e, h, he, hr, (OutE.bind q).mono fun x H1 ⟨φ1, d, h1, x1, r1, p1, q1⟩ => by
      split at q1
      · rename_i k ek
        cases eb : anyTy sub k [t] with
        | none => rw [eb] at q1; exact q1.elim
        | some b =>
          rw [eb] at q1
          obtain ⟨k1, k2⟩ := anyTy_ok ok eb
          have eo : isTy sub k t = some b := by
            unfold anyTy at eb
            split at eb
            · rename_i e1; cases eb; exact e1
            · rename_i e1; cases eb; exact e1
            · cases eb
          exact ⟨x, tW R t, kV R k, tV R t, b, rfl, clsV t, kind_ok r1 p1 ek (k2 (by simp)), (isTy_ok ok eo).1, q1 φ1 H1 (.bl b) .refl r1 rfl⟩
      · exact q1.elim⟩
def tCls (R : Rx) (ts : List Ty) : TA := fun _ H Q => Q (ts.map (tW R)) H
theorem bc_nil : PA X [] (tCls R []) := pa_nil
theorem bc_cons {t : Ty} {ts : List Ty} {es : List Expr} (hc : PE X c (tC (tW R t))) (hr : PA X es (tCls R ts)) (hs : starEach (c :: es) X.env = (false, eval c X.env) :: starEach es X.env) : PA X (c :: es) (tCls R (t :: ts)) := pa_cons hc hr hs
theorem clsVs : ∀ ts : List Ty, Paired ClsV (ts.map (tW R)) (ts.map (tV R))
  | [] => .nil
  | t :: ts => .cons (clsV t) (clsVs ts)
theorem b_isiT {ts : List Ty} {es : List Expr} {n : Nat} (hts : ts ≠ []) (hlen : ts.length ≤ 100) (ok : SubOk X.K R sub) (hg : Gl X "isinstance") (hm : X.mg "isinstance" = none) (ha : PE X a (tE R XR g m1)) (hc : PA X es (tCls R ts))
    (h1 : starEach [a, .Tuple es n p2] X.env = [(false, eval a X.env), (false, eval (.Tuple es n p2) X.env)]) (h2 : starEach [.Tuple es n p2] X.env = [(false, eval (.Tuple es n p2) X.env)]) : PE X (.Call (.Name "isinstance" p) [a, .Tuple es n p2] [] pos) (tE R XR g (mIsi sub ts m1)) :=
  (pe_callB call_isiT hg hm PyProof.Rows.boot_isinstance (pa_cons ha (pa_cons (pe_tup hc) pa_nil (by rw [h2]; rfl)) (by rw [h1, h2])) (by decide) (by decide) (by rw [h1, h2]) (by rw [h2]; rfl)).imp fun σ H Q ⟨φ, e, h, he, hr, q⟩ =>
    ⟨φ, e, h, he, hr, (OutE.bind q).mono fun x H1 ⟨φ1, d, h1, x1, r1, p1, q1⟩ => by
      refine ⟨by rw [List.length_map, sizeLine_eq]; omega, fun tp hp => ?_⟩
      split at q1
      · rename_i k ek
        cases eb : anyTy sub k ts with
        | none => rw [eb] at q1; exact q1.elim
        | some b =>
          rw [eb] at q1
          obtain ⟨k1, k2⟩ := anyTy_ok ok eb
          have x2 := ext_tup (φ := φ1) (H := H1) (u := .tup (ts.map (tW R))) hp
          have r2 := r1.other (u := .tup (ts.map (tW R))) hp
          exact ⟨x, tp, ts.map (tW R), kV R k, ts.map (tV R), b, rfl, upd_same, clsVs ts, kind_ok r2 (p1.ext x2) ek (k2 hts), k1, q1 φ1 _ (.bl b) x2 r2 rfl⟩
      · exact q1.elim⟩
end
def But (vs : List Nat) (σ σ' : L2.St) : Prop := σ'.length = σ.length ∧ ∀ i, i ∉ vs → σ'[i]? = σ[i]?
theorem wipe_get {σ : L2.St} {i : Nat} : ∀ {vs : List Nat}, (wipe σ vs)[i]? = if i ∈ vs then (if i < σ.length then some none else none) else σ[i]?
  | [] => by simp [wipe]
  | v :: vs => by
    unfold wipe
    by_cases hi : v = i
    · subst hi
      by_cases hl : v < σ.length
      · rw [List.getElem?_set_self (by rw [wipe_length]; exact hl)]
        simp [hl]
      · rw [List.getElem?_eq_none (by rw [List.length_set, wipe_length]; omega)]
        simp [hl]
    · rw [List.getElem?_set_ne hi, wipe_get]
      have : i ≠ v := fun z => hi z.symm
      simp [this]
theorem But.wipe {vs : List Nat} {σ σ' : L2.St} (h : But vs σ σ') : L2.wipe σ' vs = L2.wipe σ vs := by
  apply List.ext_getElem?
  intro i
  rw [wipe_get, wipe_get, h.1]
  by_cases hi : i ∈ vs
  · rw [if_pos hi, if_pos hi]
  · rw [if_neg hi, if_neg hi]
    exact h.2 i hi
theorem But.refl {vs : List Nat} {σ : L2.St} : But vs σ σ := ⟨rfl, fun _ _ => rfl⟩
theorem But.app {vs ws : List Nat} {σ σ' σ2 : L2.St} (a : But vs σ σ') (b : But ws σ' σ2) : But (vs ++ ws) σ σ2 :=
  ⟨b.1.trans a.1, fun i hi => by
    rw [List.mem_append] at hi
    exact (b.2 i fun z => hi (.inr z)).trans (a.2 i fun z => hi (.inl z))⟩
theorem ERel.set {φ : List Addr} {H : Hp} {e : Env} {σ : L2.St} {d : D} {v : V} (r : ERel φ H e σ) (rp : Rp φ H d v) (i : Nat) : ERel φ H (e.set i (some d)) (σ.set i (some v)) := by
  refine ⟨by simp [r.len], fun j d' h => ?_⟩
  by_cases hj : i = j
  · subst hj
    have hl : i < e.length := by
      have := (List.getElem?_eq_some_iff.mp h).1
      simpa using this
    rw [List.getElem?_set_self hl] at h
    cases h
    exact ⟨v, List.getElem?_set_self (by rw [← r.len]; exact hl), rp⟩
  · rw [List.getElem?_set_ne hj] at h ⊢
    exact r.at_ j d' h
def tP1 (R : Rx) (t : Tg) : TG := fun v σ H Q => ∃ φ e h d e1, ERel φ H e σ ∧ HRel R φ H h ∧ Rp φ H d v ∧ t.bind d e = some e1 ∧ ∀ σ', ERel φ H e1 σ' → But t.slots σ σ' → Q σ' H
def tPL (R : Rx) (l : List Tg) : TGs := fun vs σ H Q => ∃ φ e h ds e1, ERel φ H e σ ∧ HRel R φ H h ∧ RpL φ H ds vs ∧ Tg.binds l ds e = some e1 ∧ ∀ σ', ERel φ H e1 σ' → But (Tg.slotsL l) σ σ' → Q σ' H
theorem _root_.L2.PG.imp {X : Cx} {e : Expr} {t t' : TG} (h : PG X e t) (hi : ∀ v σ H Q, t' v σ H Q → t v σ H Q) : PG X e t' := ⟨fun pins s σ H v u Q I r hq => h.run pins s σ H v u Q I r (hi v σ H Q hq)⟩
theorem _root_.L2.PGs.imp {X : Cx} {e : List Expr} {t t' : TGs} (h : PGs X e t) (hi : ∀ v σ H Q, t' v σ H Q → t v σ H Q) : PGs X e t' := ⟨fun pins s σ H v u Q I r hq => h.run pins s σ H v u Q I r (hi v σ H Q hq)⟩
section
variable {X : Cx} {R : Rx} {XR : XQ} {g : Gm} {pos : Pos}
theorem bg_nm {i : Nat} {x : Str} (hN : X.N.Nodup) (hi : X.N[i]? = some x) (hx : Loc X.env.scope x) (hf : X.fn x = true ∨ X.env.scope.names.lookup x = some .local) : PG X (.Name x pos) (tP1 R (.nm i)) :=
  (pg_name hN hi hx hf).imp fun v σ H Q ⟨φ, e, h, d, e1, he, hr, rp, eb, q⟩ => by
    have eb' : some (e.set i (some d)) = some e1 := by simpa only [Tg.bind] using eb
    cases eb'
    refine q _ (he.set rp i) ⟨by simp, fun j hj => ?_⟩
    simp only [Tg.slots, List.mem_singleton] at hj
    exact List.getElem?_set_ne (Ne.symm hj)
theorem bgs_nil : PGs X [] (tPL R []) := pgs_nil.imp fun vs σ H Q ⟨φ, e, h, ds, e1, he, hr, rl, eb, q⟩ => by
  cases ds with
  | nil => rw [Tg.binds] at eb; cases eb; exact ⟨rl, q σ he .refl⟩
  | cons _ _ => simp only [Tg.binds] at eb; cases eb
theorem bgs_cons {e : Expr} {es : List Expr} {t : Tg} {l : List Tg} (h1 : PG X e (tP1 R t)) (h2 : PGs X es (tPL R l)) (hs : (assignEach (e :: es) X.env).map (·.2) = assign e X.env :: (assignEach es X.env).map (·.2)) : PGs X (e :: es) (tPL R (t :: l)) :=
  (pgs_cons h1 h2 hs).imp fun vs σ H Q ⟨φ, e, h, ds, e1, he, hr, rl, eb, q⟩ => by
    cases ds with
    | nil => simp only [Tg.binds] at eb; cases eb
    | cons d ds =>
      obtain ⟨v, r, rfl, p1, p2⟩ := rl
      simp only [Tg.binds] at eb
      split at eb
      · rename_i e2 eb1
        exact ⟨v, r, rfl, φ, e, h, d, e2, he, hr, p1, eb1, fun σ' he' b1 => ⟨φ, e2, h, ds, e1, he', hr, p2, eb, fun σ2 he2 b2 => q σ2 he2 (by rw [Tg.slotsL]; exact b1.app b2)⟩⟩
      · cases eb
theorem binds_len : ∀ {l : List Tg} {xs : List D} {e e1 : Env}, Tg.binds l xs e = some e1 → xs.length = l.length
  | [], [], _, _, _ => rfl
  | [], _ :: _, _, _, h => by simp only [Tg.binds] at h; cases h
  | _ :: _, [], _, _, h => by simp only [Tg.binds] at h; cases h
  | t :: l, x :: xs, e, e1, h => by
    simp only [Tg.binds] at h
    split at h
    · rw [List.length_cons, List.length_cons, binds_len h]
    · cases h
theorem bg_tp {es : List Expr} {k : Nat} {l : List Tg} (hc : X.calm = true) (h : PGs X es (tPL R l)) (hn : (assignEach es X.env).length = l.length) (hst : (assignEach es X.env).findIdx? (·.1) = none) : PG X (.Tuple es k pos) (tP1 R (.tp l)) :=
  (pg_tup hc h hn hst).imp fun v σ H Q ⟨φ, e, h, d, e1, he, hr, rp, eb, q⟩ => by
    simp only [Tg.bind] at eb
    split at eb
    · rename_i xs
      obtain ⟨a, ys, rfl, k1, k2⟩ := rp
      exact ⟨a, ys, rfl, SqT.of k1, by rw [k2.length, binds_len eb], φ, e, h, xs, e1, he, hr, k2, eb, fun σ' he' b => q σ' he' (by rw [Tg.slots]; exact b)⟩
    · cases eb
end
def JOk (R : Rx) (J : It) (xs : List D) (deps : List (Nat × DO)) (φ0 : List Addr) (H0 : Hp) : Prop := ∀ φ H h i, Ext φ0 H0 φ H → HRel R φ H h → depsOk h deps = true →
  (xs.length ≤ i → J.stop i H) ∧ ∀ d, xs[i]? = some d → J.go i H ∧ ∀ x H', J.yld i H x H' → Ext φ H φ H' ∧ HRel R φ H' h ∧ Rp φ H' d x
def OutI (R : Rx) (XR : XQ) (φ : List Addr) (H : Hp) (σ : L2.St) (Rr : It → Hp → Prop) : RI → Prop
  | .ok xs deps lock h' => lock = none ∧ ∀ φ' H' J, Ext φ H φ' H' → HRel R φ' H' h' → JOk R J xs deps φ' H' → Rr J H'
  | .ex c l h' => ∀ φ' H', Ext φ H φ' H' → HRel R φ' H' h' → XR c l φ' σ H'
  | .bad => False
def tI (R : Rx) (XR : XQ) (g : Gm) (mi : MI) : TI := fun σ H Rr => ∃ φ e h, ERel φ H e σ ∧ HRel R φ H h ∧ OutI R XR φ H σ Rr (mi g e h)
theorem _root_.L2.PI.imp {X : Cx} {tg e : Expr} {t t' : TI} (h : PI X tg e t) (hi : ∀ σ H Q, t' σ H Q → t σ H Q) : PI X tg e t' := ⟨fun pins s σ H Q I hq => h.run pins s σ H Q I (hi σ H Q hq)⟩
section
variable {X : Cx} {R : Rx} {XR : XQ} {g : Gm} {pos p : Pos} {tg a b : Expr} {m1 : ME} {ar : MA}
theorem OutI.bind {φ : List Addr} {H : Hp} {σ : L2.St} {Q : It → Hp → Prop} {r : RE} {f : D → DH → RI} (h : OutI R XR φ H σ Q (r.toI f)) :
    OutE R XR φ H σ (fun x H1 => ∃ φ1 d h1, Ext φ H φ1 H1 ∧ HRel R φ1 H1 h1 ∧ Rp φ1 H1 d x ∧ OutI R XR φ1 H1 σ Q (f d h1)) r := by
  have ext : ∀ {φ1 H1 r}, Ext φ H φ1 H1 → OutI R XR φ H σ Q r → OutI R XR φ1 H1 σ Q r := fun {φ1 H1 r} x q => by
    cases r with
    | ok xs ds l h' => exact ⟨q.1, fun φ' H' J y => q.2 φ' H' J (x.trans y)⟩
    | ex c l h' => exact fun φ' H' y => q φ' H' (x.trans y)
    | bad => exact q
  cases r with
  | ok v h' => exact fun φ' H' x e hr rp => ⟨φ', v, h', e, hr, rp, ext e h⟩
  | ex c l h' => exact h
  | bad => exact h
theorem OutI.bindA {φ : List Addr} {H : Hp} {σ : L2.St} {Q : It → Hp → Prop} {r : RA} {f : List D → DH → RI} (h : OutI R XR φ H σ Q (r.toI f)) :
    OutA R XR φ H σ (fun x H1 => ∃ φ1 d h1, Ext φ H φ1 H1 ∧ HRel R φ1 H1 h1 ∧ RpL φ1 H1 d x ∧ OutI R XR φ1 H1 σ Q (f d h1)) r := by
  have ext : ∀ {φ1 H1 r}, Ext φ H φ1 H1 → OutI R XR φ H σ Q r → OutI R XR φ1 H1 σ Q r := fun {φ1 H1 r} x q => by
    cases r with
    | ok xs ds l h' => exact ⟨q.1, fun φ' H' J y => q.2 φ' H' J (x.trans y)⟩
    | ex c l h' => exact fun φ' H' y => q φ' H' (x.trans y)
    | bad => exact q
  cases r with
  | ok v h' => exact fun φ' H' x e hr rp => ⟨φ', v, h', e, hr, rp, ext e h⟩
  | ex c l h' => exact h
  | bad => exact h
theorem jok_list {K : PySem.W.Frag} {n : Nat} {o : DO} {l : List D} {φ : List Addr} {H : Hp} {a : Addr} (f1 : φ[n]? = some a) (ho : o = .lst l ∨ o = .frz l) : JOk R (Itl K a) l [(n, o)] φ H := by
  intro φ2 H2 h2 i x2 r2 dep
  have hn : h2[n]? = some o := by simpa [depsOk] using dep
  have hl : listAt h2 n = some l := by rcases ho with rfl | rfl <;> simp [listAt, hn]
  obtain ⟨a', xs, g2, g3, g4⟩ := r2.list_at (K := K) hl
  cases get_eq (pre_get x2.pre f1) g2
  obtain ⟨a'', g5, g6⟩ := r2.addr hn
  cases get_eq g2 g5
  refine ⟨fun hi => ⟨xs, g3, by rw [g4.length]; exact hi⟩, fun d hd => ?_⟩
  obtain ⟨x, hx, rx⟩ := g4.get hd
  refine ⟨⟨xs, x, g3, hx⟩, fun x' H' ⟨e1, e2⟩ => ?_⟩
  subst e1
  have := e2 xs g3
  rw [hx] at this
  cases this
  exact ⟨.refl, r2, rx⟩
theorem jok_tpl {K : PySem.W.Frag} {n : Nat} {l : List D} {φ : List Addr} {H : Hp} {a : Addr} (f1 : φ[n]? = some a) : JOk R (Itt K a) l [(n, .tpl l)] φ H := by
  intro φ2 H2 h2 i x2 r2 dep
  have hn : h2[n]? = some (.tpl l) := by simpa [depsOk] using dep
  obtain ⟨a', xs, g2, _, g3, g4⟩ := r2.tpl_at (K := K) (n := n) (l := l) (by simp [tplAt, hn])
  cases get_eq (pre_get x2.pre f1) g2
  refine ⟨fun hi => ⟨xs, g3, by rw [g4.length]; exact hi⟩, fun d hd => ?_⟩
  obtain ⟨x, hx, rx⟩ := g4.get hd
  refine ⟨⟨xs, x, g3, hx⟩, fun x' H' ⟨e1, e2⟩ => ?_⟩
  subst e1
  have := e2 xs g3
  rw [hx] at this
  cases this
  exact ⟨.refl, r2, rx⟩
theorem jok_tup {K : PySem.W.Frag} {l : List D} {xs : List V} {φ : List Addr} {H : Hp} {a : Addr} (h1 : H a = some (.tup xs)) (h2 : RpL φ H l xs) : JOk R (Itt K a) l [] φ H := by
  intro φ2 H2 h2' i x2 r2 dep
  have g3 : H2 a = some (.tup xs) := x2.tup a xs h1
  have g4 := h2.ext x2
  refine ⟨fun hi => ⟨xs, SqT.of g3, by rw [g4.length]; exact hi⟩, fun d hd => ?_⟩
  obtain ⟨x, hx, rx⟩ := g4.get hd
  refine ⟨⟨xs, x, SqT.of g3, hx⟩, fun x' H' ⟨e1, e2⟩ => ?_⟩
  subst e1
  have := e2 xs (SqT.of g3)
  rw [hx] at this
  cases this
  exact ⟨.refl, r2, rx⟩
end
end Bp
end

section
set_option linter.all false
set_option maxRecDepth 100000
set_option maxHeartbeats 0
set_option linter.all false
set_option maxRecDepth 100000
set_option autoImplicit false
set_option maxHeartbeats 1000000
namespace Bp
open PySem PySem.Spec PyProof.Rows L2
section
variable {X : Cx} {R : Rx} {XR : XQ} {g : Gm} {pos p : Pos} {tg a b elt iter : Expr} {m1 m2 m3 : ME} {ar : MA} {mi : MI}
def iAny (K : PySem.W.Frag) (tl : TE) : TI := fun σ H R => tl σ H fun x H1 => (∃ a xs, x = .ref a ∧ SqL K H1 a xs ∧ R (Itl K a) H1) ∨ (∃ a xs, x = .ref a ∧ SqT K H1 a xs ∧ R (Itt K a) H1) ∨ ∃ s, x = .str s ∧ R (Its s) H1
theorem pi_any {tl : TE} (hl : PE X a tl) : PI X tg a (iAny X.K tl) := by
  refine ⟨fun pins s σ H R I h => ?_⟩
  refine thn (hl.run pins s σ H _ I h) fun v s1 ⟨x, H1, I1, r1, q1⟩ => ?_
  rcases q1 with ⟨a, xs, e, hq, q⟩ | ⟨a, xs, e, hq, q⟩ | ⟨z, e, q⟩
  · subst e
    cases r1
    obtain ⟨its, rv, p, hz⟩ := I1.list hq
    refine wpAny_pyIter_list p.isList ?_
    refine ⟨s1.heap.objs.size, [s1.heap.objs.size], _, _, H1, rfl, I1.kept (t' := s1.toks) fun b o e => Heap.get?_push_of_some _ e, turn_list a _, ⟨_, Heap.get?_push_size _ rfl, rfl, rfl⟩, fun b hb => ?_, q⟩
    have e : b = s1.heap.objs.size := by simpa using hb
    subst e
    exact I1.fpOk (Nat.le_refl _) (I1.hok.fresh (Nat.le_refl _))
  · subst e
    cases r1
    obtain ⟨its, rv, p, hz⟩ := I1.tuple hq
    refine wpAny_pyIter_tuple (show s1.heap.IsTuple a its.toArray from p) ?_
    refine ⟨s1.heap.objs.size, [s1.heap.objs.size], _, _, H1, rfl, I1.kept (t' := s1.toks) fun b o e => Heap.get?_push_of_some _ e, turn_tuple a _, ⟨_, Heap.get?_push_size _ rfl, rfl, rfl⟩, fun b hb => ?_, q⟩
    have e : b = s1.heap.objs.size := by simpa using hb
    subst e
    exact I1.fpOk (Nat.le_refl _) (I1.hok.fresh (Nat.le_refl _))
  · subst e
    obtain ⟨t, rfl⟩ := r1
    cases ha : z.cps.all (· < 128)
    · exact wpAny_pyIter_wide ha (pi_one (tk := s1.toks) I1 _ (turn_str _ z t "str_iterator" (.inr rfl)) ⟨_, Heap.get?_push_size _ rfl, rfl, rfl⟩ q)
    · exact wpAny_pyIter_ascii ha (pi_one (tk := s1.toks) I1 _ (turn_str _ z t "str_ascii_iterator" (.inl rfl)) ⟨_, Heap.get?_push_size _ rfl, rfl, rfl⟩ q)
theorem jok_str {s : Str} {φ : List Addr} {H : Hp} : JOk R (Its s) (strItems s) [] φ H := by
  intro φ2 H2 h2 i x2 r2 dep
  have hl : (strItems s).length = s.cps.size := by simp [strItems]
  refine ⟨fun hi => by show s.cps.size ≤ i; omega, fun d hd => ?_⟩
  have hi : i < s.cps.size := by rw [← hl]; exact (List.getElem?_eq_some_iff.mp hd).1
  refine ⟨hi, fun x H' ⟨e1, c, hc, ex⟩ => ?_⟩
  subst e1 ex
  refine ⟨.refl, r2, ?_⟩
  unfold strItems at hd
  rw [List.getElem?_map, Array.getElem?_toList, hc] at hd
  cases hd
  exact rfl
theorem bi_val (ha : PE X a (tE R XR g m1)) : PI X tg a (tI R XR g (iVal m1)) :=
  (pi_any ha).imp fun σ H Rr ⟨φ, e, h, he, hr, q⟩ => ⟨φ, e, h, he, hr, (OutI.bind q).mono fun x H1 ⟨φ1, d, h1, x1, r1, p1, q1⟩ => by
    split at q1
    · rename_i xs ds ei
      obtain ⟨_, q1⟩ := q1
      cases d with
      | tup l =>
        cases ei
        obtain ⟨a, ys, rfl, k1, k2⟩ := p1
        exact .inr (.inl ⟨a, ys, rfl, SqT.of k1, q1 φ1 H1 _ .refl r1 (jok_tup k1 k2)⟩)
      | str z =>
        cases ei
        obtain rfl := p1
        exact .inr (.inr ⟨z, rfl, q1 φ1 H1 _ .refl r1 jok_str⟩)
      | ref n =>
        obtain ⟨a, f1, rfl⟩ := p1
        have ei' : (match h1[n]? with
          | some (.lst l) => some (l, [(n, DO.lst l)])
          | some (.frz l) => some (l, [(n, DO.frz l)])
          | some (.tpl l) => some (l, [(n, DO.tpl l)])
          | _ => none) = some (xs, ds) := ei
        split at ei'
        · rename_i l g'
          cases ei'
          obtain ⟨a', ys, f2, f3, f4⟩ := r1.list_at (K := X.K) (n := n) (l := xs) (by simp [listAt, g'])
          cases get_eq f1 f2
          exact .inl ⟨a, ys, rfl, f3, q1 φ1 H1 _ .refl r1 (jok_list f1 (.inl rfl))⟩
        · rename_i l g'
          cases ei'
          obtain ⟨a', ys, f2, f3, f4⟩ := r1.list_at (K := X.K) (n := n) (l := xs) (by simp [listAt, g'])
          cases get_eq f1 f2
          exact .inl ⟨a, ys, rfl, f3, q1 φ1 H1 _ .refl r1 (jok_list f1 (.inr rfl))⟩
        · rename_i l g'
          cases ei'
          obtain ⟨a', ys, f2, _, f3, f4⟩ := r1.tpl_at (K := X.K) (n := n) (l := xs) (by simp [tplAt, g'])
          cases get_eq f1 f2
          exact .inr (.inl ⟨a, ys, rfl, f3, q1 φ1 H1 _ .refl r1 (jok_tpl f1)⟩)
        · cases ei'
      | _ => cases ei
    · exfalso
      split at q1
      · split at q1
        · split at q1
          · split at q1
            · exact absurd q1.1 (by simp)
            · exact q1
          · exact q1
        · exact q1
      · exact q1⟩
theorem inR_ok {i : Int} (h : inR i = true) : -(2 ^ 62) ≤ i ∧ i < 2 ^ 62 := by
  unfold inR at h
  simp at h
  omega
theorem jok_rng {lo : Int} {n : Nat} {φ : List Addr} {H : Hp} : JOk R (Itr lo n) (rangeL lo n 1) [] φ H := by
  intro φ2 H2 h2 i x2 r2 dep
  have hl : (rangeL lo n 1).length = n := by simp [rangeL]
  refine ⟨fun hi => by show n ≤ i; omega, fun d hd => ?_⟩
  have hi : i < n := by rw [← hl]; exact (List.getElem?_eq_some_iff.mp hd).1
  refine ⟨hi, fun x H' ⟨e1, ex⟩ => ?_⟩
  subst e1 ex
  refine ⟨.refl, r2, ?_⟩
  unfold rangeL at hd
  rw [List.getElem?_map, List.getElem?_range hi] at hd
  cases hd
  show V.int _ = V.int _
  simp
theorem bi_range1 (hn : AN R g ar 1) (hg : Gl X "range") (hm : X.mg "range" = none) (ha : PA X [a] (tA R XR g ar)) (hs : starEach [a] X.env = [(false, eval a X.env)]) : PI X tg (.Call (.Name "range" p) [a] [] pos) (tI R XR g (iRange ar)) :=
  (pi_range1 hg hm ha hs).imp fun σ H Rr ⟨φ, e, h, he, hr, q⟩ => by
    have z : OutA R XR φ H σ (fun x H1 => ∃ φ1 d h1, Ext φ H φ1 H1 ∧ HRel R φ1 H1 h1 ∧ RpL φ1 H1 d x ∧ OutI R XR φ1 H1 σ Rr (match d with
      | [.int j] => if inR j then .ok (rangeL 0 j.toNat 1) [] none h1 else .bad
      | [.int i, .int j] => if inR i && inR j then .ok (rangeL i (j - i).toNat 1) [] none h1 else .bad
      | _ => .bad)) (ar g e h) := OutI.bindA q
    refine ⟨φ, e, h, he, hr, ?_⟩
    cases hq : ar g e h with
    | bad => rw [hq] at z; exact z
    | ex c l h' => rw [hq] at z; exact z
    | ok ds h' =>
      rw [hq] at z
      have hl := hn _ _ _ _ hq
      intro φ1 H1 xs x1 r1 p1
      obtain ⟨φ2, d2, h2, x2, r2, p2, q2⟩ := z φ1 H1 xs x1 r1 p1
      have hl2 : d2.length = 1 := by rw [← p2.length, p1.length, hl]
      match d2, hl2, p2, q2 with
      | [d], _, p2, q2 =>
        obtain ⟨x, rfl, px⟩ := p2.one_of
        cases d with
        | int j =>
          obtain rfl := px
          simp only at q2
          split at q2 <;> rename_i hj
          · obtain ⟨j1, j2⟩ := inR_ok hj
            exact ⟨j, rfl, j1, j2, q2.2 φ2 H1 _ .refl r2 (jok_rng (lo := 0))⟩
          · exact q2.elim
        | _ => exact q2.elim
theorem bi_range2 (hn : AN R g ar 2) (hg : Gl X "range") (hm : X.mg "range" = none) (ha : PA X [a, b] (tA R XR g ar)) (hs : starEach [a, b] X.env = [(false, eval a X.env), (false, eval b X.env)]) (hs2 : starEach [b] X.env = [(false, eval b X.env)]) : PI X tg (.Call (.Name "range" p) [a, b] [] pos) (tI R XR g (iRange ar)) :=
  (pi_range2 hg hm ha hs hs2).imp fun σ H Rr ⟨φ, e, h, he, hr, q⟩ => by
    have z : OutA R XR φ H σ (fun x H1 => ∃ φ1 d h1, Ext φ H φ1 H1 ∧ HRel R φ1 H1 h1 ∧ RpL φ1 H1 d x ∧ OutI R XR φ1 H1 σ Rr (match d with
      | [.int j] => if inR j then .ok (rangeL 0 j.toNat 1) [] none h1 else .bad
      | [.int i, .int j] => if inR i && inR j then .ok (rangeL i (j - i).toNat 1) [] none h1 else .bad
      | _ => .bad)) (ar g e h) := OutI.bindA q
    refine ⟨φ, e, h, he, hr, ?_⟩
    cases hq : ar g e h with
    | bad => rw [hq] at z; exact z
    | ex c l h' => rw [hq] at z; exact z
    | ok ds h' =>
      rw [hq] at z
      have hl := hn _ _ _ _ hq
      intro φ1 H1 xs x1 r1 p1
      obtain ⟨φ2, d2, h2, x2, r2, p2, q2⟩ := z φ1 H1 xs x1 r1 p1
      have hl2 : d2.length = 2 := by rw [← p2.length, p1.length, hl]
      match d2, hl2, p2, q2 with
      | [d, d'], _, p2, q2 =>
        obtain ⟨x, y, rfl, px, py⟩ := p2.two_of
        cases d with
        | int i =>
          cases d' with
          | int j =>
            obtain rfl := px
            obtain rfl := py
            simp only at q2
            split at q2 <;> rename_i hj
            · rw [Bool.and_eq_true] at hj
              obtain ⟨j1, j2⟩ := inR_ok hj.1
              obtain ⟨j3, j4⟩ := inR_ok hj.2
              exact ⟨i, j, rfl, ⟨j1, j2, j3, j4⟩, q2.2 φ2 H1 _ .refl r2 jok_rng⟩
            · exact q2.elim
          | _ => exact q2.elim
        | _ => exact q2.elim
theorem enumL_get : ∀ {l : List D} {k i : Nat} {d : D}, (enumL k l)[i]? = some d → ∃ x, l[i]? = some x ∧ d = .tup [.int ((k + i : Nat) : Int), x]
  | [], k, i, d, h => by simp [enumL] at h
  | x :: r, k, 0, d, h => by simp [enumL] at h; exact ⟨x, by simp, by rw [← h]; simp⟩
  | x :: r, k, i + 1, d, h => by
    simp only [enumL, List.getElem?_cons_succ] at h
    obtain ⟨y, h1, h2⟩ := enumL_get h
    exact ⟨y, by simpa using h1, by rw [h2, show k + 1 + i = k + (i + 1) by omega]⟩
theorem enumL_len : ∀ {l : List D} {k : Nat}, (enumL k l).length = l.length
  | [], _ => rfl
  | x :: r, k => by simp [enumL, enumL_len]
theorem jok_enum {K : PySem.W.Frag} {n : Nat} {l : List D} {φ : List Addr} {H : Hp} {a : Addr} (f1 : φ[n]? = some a) : JOk R (Ite K a) (enumL 0 l) [(n, .lst l)] φ H := by
  intro φ2 H2 h2 i x2 r2 dep
  have hn : h2[n]? = some (.lst l) := by simpa [depsOk] using dep
  obtain ⟨a', xs, g2, g3, g4⟩ := r2.list_at (K := K) (show listAt h2 n = some l by simp [listAt, hn])
  cases get_eq (pre_get x2.pre f1) g2
  refine ⟨fun hi => ⟨xs, g3, by rw [g4.length]; rw [enumL_len] at hi; exact hi⟩, fun d hd => ?_⟩
  obtain ⟨y, hy, ed⟩ := enumL_get hd
  obtain ⟨x, hx, rx⟩ := g4.get hy
  refine ⟨⟨xs, x, g3, hx⟩, fun x' H' ⟨T, z, e1, e2, e3, e4⟩ => ?_⟩
  have := e4 xs g3
  rw [hx] at this
  cases this
  subst e1 e3 ed
  refine ⟨ext_tup e2, r2.other e2, T, _, rfl, upd_same, .int (i : Nat), [x], rfl, ?_, x, [], rfl, rx.ext (ext_tup e2), rfl⟩
  show V.int _ = V.int _
  simp
theorem bi_enum {elts : List Expr} {kk : Nat} {tpos : Pos} (hg : Gl X "enumerate") (hm : X.mg "enumerate" = none) (ha : PE X a (tE R XR g m1)) (hs : starEach [a] X.env = [(false, eval a X.env)]) (hs0 : starEach [a] X.env = (false, eval a X.env) :: starEach [] X.env) :
    PI X (.Tuple elts kk tpos) (.Call (.Name "enumerate" p) [a] [] pos) (tI R XR g (iEnum m1)) :=
  (pi_enum hg hm (pa_cons ha pa_nil hs0) hs).imp fun σ H Rr ⟨φ, e, h, he, hr, q⟩ => ⟨φ, e, h, he, hr, (OutI.bind q).mono fun x H1 ⟨φ1, d, h1, x1, r1, p1, q1⟩ => by
    cases d with
    | ref n =>
      obtain ⟨a, f1, rfl⟩ := p1
      simp only at q1
      split at q1
      · rename_i l g'
        obtain ⟨a', ys, f2, f3, f4⟩ := r1.list_at (K := X.K) (n := n) (l := l) (by simp [listAt, g'])
        cases get_eq f1 f2
        exact ⟨a, ys, rfl, f3, q1.2 φ1 H1 _ .refl r1 (jok_enum f1)⟩
      · exact q1.elim
    | _ => exact q1.elim⟩
end
end Bp
end

section
set_option linter.all false
set_option maxRecDepth 100000
set_option maxHeartbeats 0
set_option linter.all false
set_option maxRecDepth 100000
set_option autoImplicit false
set_option maxHeartbeats 1000000
namespace Bp
open PySem PySem.Spec PyProof.Rows L2
theorem ERel.wipe {φ : List Addr} {H : Hp} {e : Env} {σ : L2.St} (r : ERel φ H e σ) : ∀ vs : List Nat, ERel φ H (wipeE e vs) (L2.wipe σ vs)
  | [] => r
  | v :: vs => by
    have ih := ERel.wipe r vs
    refine ⟨by simp only [wipeE, L2.wipe, List.length_set]; exact ih.len, fun i d h => ?_⟩
    unfold wipeE at h
    unfold L2.wipe
    by_cases hv : v = i
    · subst hv
      have hl : v < (wipeE e vs).length := by
        have := (List.getElem?_eq_some_iff.mp h).1
        simpa using this
      rw [List.getElem?_set_self hl] at h
      cases h
    · rw [List.getElem?_set_ne hv] at h ⊢
      exact ih.at_ i d h
theorem But.mono {vs ws : List Nat} {σ σ' : L2.St} (h : But vs σ σ') (s : ∀ i ∈ vs, i ∈ ws) : But ws σ σ' := ⟨h.1, fun i hi => h.2 i fun z => hi (s i z)⟩
theorem wipe_wipe {σ : L2.St} {vs : List Nat} : wipe (wipe σ vs) vs = wipe σ vs := by
  apply List.ext_getElem?
  intro i
  rw [wipe_get, wipe_length, wipe_get]
  by_cases hi : i ∈ vs <;> simp [hi]
section
variable {X : Cx} {R : Rx} {XR : XQ} {g : Gm} {pos p : Pos} {tg a b elt iter : Expr} {m1 mt me : ME} {mi : MI} {ifs : List Expr} {scope : Scope} {own : List (Str × Nat)} {t : Tg}
theorem lc_rd0 {σ : L2.St} {H : Hp} {Q : VK} (hsl : ∀ i ∈ t.slots, i ∈ own.map (·.2)) {φ : List Addr} {e : Env} {h : DH} (he : ERel φ H e σ) (hr : HRel R φ H h) (q : OutE R XR φ H σ Q (mLC mi (own.map (·.2)) t mt me g e h)) :
    tLc (tI R XR g mi) (tP1 R t) (tT R noX g mt) (tE R noX g me) (own.map (·.2)) σ H Q := by
  generalize hvs : own.map (·.2) = vs at *
  refine ⟨φ, e, h, he, hr, ?_⟩
  unfold mLC at q
  cases hm : mi g e h with
  | bad => rw [hm] at q; exact q
  | ex c l h1 => rw [hm] at q; exact q
  | ok xs deps lock h1 =>
    rw [hm] at q
    cases lock with
    | some z => exact q.elim
    | none =>
    simp only at q
    refine ⟨rfl, fun φ1 H1 J x1 r1 jok D hD => ?_⟩
    have x2 : Ext φ1 H1 (φ1 ++ [D]) (upd H1 D (.lst [])) := ext_push hD
    have r2 : HRel R (φ1 ++ [D]) (upd H1 D (.lst [])) (h1 ++ [.lst []]) := r1.push hD ⟨[], upd_same, rfl⟩
    have hn : (φ1 ++ [D])[h1.length]? = some D := by rw [← r1.len]; simp
    generalize hst : stepC t mt me g (wipeE e vs) = step at q
    have q0 : OutE R noX φ H σ Q (loopC h1.length deps step xs (h1 ++ [.lst []])) := by
      cases hl : loopC h1.length deps step xs (h1 ++ [.lst []]) with
      | ok v h2 => rw [hl] at q; exact q
      | ex c l h2 => rw [hl] at q; exact q.elim
      | bad => rw [hl] at q; exact q
    let C : Nat → Hp → Prop := fun i H' => ∃ φ' h', Ext φ1 H1 φ' H' ∧ HRel R φ' H' h' ∧ φ'[h1.length]? = some D ∧ OutE R noX φ' H' σ Q (loopC h1.length deps step (xs.drop i) h')
    refine ⟨fun i m H' => m + i = xs.length ∧ C i H', ⟨xs.length, by omega, _, _, x2, r2, hn, by rw [List.drop_zero]; exact q0.ext (x1.trans x2)⟩, ?_⟩
    rintro i m H' ⟨hmi, φ', h', x', r', hn', q'⟩
    have dep : depsOk h' deps = true := by
      cases hx : xs.drop i with
      | nil =>
        rw [hx] at q'
        unfold loopC at q'
        split at q'
        · assumption
        · exact q'.elim
      | cons d r =>
        rw [hx] at q'
        unfold loopC at q'
        split at q'
        · assumption
        · exact q'.elim
    obtain ⟨j1, j2⟩ := jok φ' H' h' i x' r' dep
    by_cases hi : xs.length ≤ i
    · refine .inl ⟨j1 hi, ?_⟩
      rw [List.drop_eq_nil_of_le hi] at q'
      unfold loopC at q'
      rw [if_pos dep] at q'
      exact q' φ' H' (.ref D) .refl r' ⟨D, hn', rfl⟩
    · have hi' : i < xs.length := Nat.lt_of_not_le hi
      have hd : xs[i]? = some xs[i] := List.getElem?_eq_getElem hi'
      rw [List.drop_eq_getElem_cons hi'] at q'
      unfold loopC at q'
      rw [if_pos dep] at q'
      obtain ⟨j3, j4⟩ := j2 _ hd
      refine .inr ⟨j3, C (i + 1), fun H2 c => ⟨m - 1, by omega, by omega, c⟩, fun x H2 hy => ?_⟩
      obtain ⟨x3, r3, p3⟩ := j4 x H2 hy
      have q3 := q'.ext x3
      rw [← hst] at q3
      unfold stepC at q3
      have he1 : ERel φ' H2 (wipeE e vs) (wipe σ vs) := (((he.ext x1).ext x').ext x3).wipe vs
      cases eb : t.bind xs[i] (wipeE e vs) with
      | none => rw [eb] at q3; exact q3.elim
      | some e1 =>
        rw [eb] at q3
        simp only at q3
        refine ⟨φ', wipeE e vs, h', xs[i], e1, he1, r3, p3, eb, fun σ2 he2 bt => ⟨((bt.mono hsl).wipe).trans wipe_wipe, ?_⟩⟩
        refine ⟨φ', e1, h', he2, r3, ?_⟩
        cases et : mt g e1 h' with
        | bad => rw [et] at q3; exact q3.elim
        | ex c l h4 => rw [et] at q3; exact q3.elim
        | ok v h4 =>
          rw [et] at q3
          cases v with
          | bl k =>
            cases k with
            | true =>
              simp only at q3
              refine ⟨true, rfl, fun φ4 H4 x4 r4 => ?_⟩
              simp only [if_true]
              refine ⟨φ4, e1, h4, he2.ext x4, r4, ?_⟩
              cases em : me g e1 h4 with
              | bad => rw [em] at q3; exact q3.elim
              | ex c l h5 => rw [em] at q3; exact q3.elim
              | ok y h5 =>
                rw [em] at q3
                simp only at q3
                intro φ5 H5 yv x5 r5 p5
                have xx := x4.trans x5
                have hn5 : φ5[h1.length]? = some D := pre_get xx.pre hn'
                have q5 := q3.ext xx
                split at q5
                · rename_i acc ea
                  split at q5 <;> rename_i hz
                  · obtain ⟨a', ys, f2, f3, f4⟩ := r5.lst_at ea
                    cases get_eq hn5 f2
                    have x6 := ext_set (φ := φ5) (a := D) (v := .lst (ys ++ [yv])) f3 (fun _ z => by cases z) (fun _ _ z => by cases z)
                    refine ⟨ys, f3, by rw [f4.length, ← lim_eq]; exact hz, φ5, h5.set h1.length (.lst (acc ++ [y])), ((x'.trans x3).trans xx).trans x6, r5.set hn5 f3 (fun _ z => by cases z) (fun _ _ z => by cases z) ⟨_, upd_same, (f4.append (RpL.one p5)).ext x6⟩, hn5, ?_⟩
                    rw [← hst] 
                    exact q5.ext x6
                  · exact q5.elim
                · exact q5.elim
            | false =>
              simp only at q3
              refine ⟨false, rfl, fun φ4 H4 x4 r4 => ?_⟩
              simp only [Bool.false_eq_true, if_false]
              refine ⟨φ4, h4, (x'.trans x3).trans x4, r4, pre_get x4.pre hn', ?_⟩
              rw [← hst]
              exact q3.ext x4
          | _ => exact q3.elim
theorem b_lc (hc : X.calm = true) (hN : X.N.Nodup) (hi : PI X tg iter (tI R XR g mi)) (ok : BlkOk X.N X.env.scope scope own) (hsl : ∀ i ∈ t.slots, i ∈ own.map (·.2))
    (hg : ∀ (s : Shared) (H : Hp) (C : Addr) (cl : List (Str × Addr)) (fp : List Addr), PG (X.blk s H scope (compEnvC scope cl C X.env) fp) tg (tP1 R t)) (ht : ∀ (s : Shared) (H : Hp) (C : Addr) (cl : List (Str × Addr)) (fp : List Addr), PTs (X.blk s H scope (compEnvC scope cl C X.env) fp) ifs (tT R noX g mt))
    (he : ∀ (s : Shared) (H : Hp) (C : Addr) (cl : List (Str × Addr)) (fp : List Addr), PE (X.blk s H scope (compEnvC scope cl C X.env) fp) elt (tE R noX g me)) (hs : ∀ x, foldedSetIterable iter X.env x = pure x) :
    PE X (.ListComp elt [⟨tg, iter, ifs, 0⟩] scope pos) (tE R XR g (mLC mi (own.map (·.2)) t mt me)) :=
  (pe_lc hc hN hi ok hg ht he hs).imp fun σ H Q ⟨φ, e, h, he, hr, q⟩ => lc_rd0 hsl he hr q
theorem pairs_rd {σ : L2.St} {Q' : List V → Hp → Prop} : ∀ (ks : List Str) (ms : List ME) (H : Hp), ms.length = ks.length → (∃ φ e h, ERel φ H e σ ∧ HRel R φ H h ∧ OutA R XR φ H σ Q' (aL ms g e h)) →
    tPairs ((ks.map fun k => tC (.str k)).zip (ms.map (tE R XR g))) σ H (fun ps H' => ∃ xs : List V, ps = (ks.zip xs).map (fun q => (V.str q.1, q.2)) ∧ xs.length = ks.length ∧ Q' xs H')
  | [], [], H, _, ⟨φ, e, h, he, hr, q⟩ => ⟨[], rfl, rfl, q φ H [] .refl hr rfl⟩
  | [], _ :: _, _, hl, _ => by cases hl
  | _ :: _, [], _, hl, _ => by cases hl
  | k :: ks, m :: ms, H, hl, ⟨φ, e, h, he, hr, q⟩ => by
    refine ⟨φ, e, h, he, hr, (OutA.bindA q).mono fun x H1 ⟨φ1, d, h1, x1, r1, p1, q1⟩ => ?_⟩
    have := pairs_rd (Q' := fun xs H2 => Q' (x :: xs) H2) ks ms H1 (by simpa using hl) ⟨φ1, e, h1, he.ext x1, r1, q1⟩
    have mono : ∀ (l : List (TE × TE)) (H : Hp) {Q Q2 : List (V × V) → Hp → Prop}, (∀ te ∈ l, (∃ v, te.1 = tC v) ∧ ∃ m, te.2 = tE R XR g m) → (∀ ps H, Q ps H → Q2 ps H) → tPairs l σ H Q → tPairs l σ H Q2 := by
      intro l
      induction l with
      | nil => intro H Q Q2 _ hq hp; exact hq _ _ hp
      | cons te l ih =>
        intro H Q Q2 hl hq hp
        obtain ⟨tk, tv⟩ := te
        obtain ⟨⟨v, hv⟩, m, hm⟩ := hl _ List.mem_cons_self
        simp only at hv hm
        subst hv hm
        obtain ⟨φ, e, h, he, hr, q⟩ := hp
        exact ⟨φ, e, h, he, hr, q.mono fun y H1 z => ih H1 (fun te ht => hl te (List.mem_cons_of_mem _ ht)) (fun ps H w => hq _ _ w) z⟩
    refine mono _ _ (fun te ht => ?_) (fun ps H2 ⟨xs, e1, e2, e3⟩ => ⟨x :: xs, by rw [e1]; rfl, by simp [e2], e3⟩) this
    obtain ⟨t1, t2⟩ := te
    obtain ⟨h1, h2⟩ := List.of_mem_zip ht
    obtain ⟨k', _, e1⟩ := List.mem_map.mp h1
    obtain ⟨m', _, e2⟩ := List.mem_map.mp h2
    exact ⟨⟨_, e1.symm⟩, m', e2.symm⟩
theorem merge_rel {φ : List Addr} {H : Hp} : ∀ {ks : List Str} {vs : List D} {xs : List V} {acc : List (D × D)} {kv : List (Key × V)}, RpL φ H vs xs → RpK φ H acc kv → RpK φ H (mergeD acc ks vs) (mergeK kv ((ks.zip xs).map fun q => (Sum.inr q.1, q.2)))
  | [], vs, xs, acc, kv, _, h => by unfold mergeD; exact h
  | k :: ks, [], xs, acc, kv, h1, h => by rw [show xs = [] from h1]; unfold mergeD; exact h
  | k :: ks, v :: vs, xs, acc, kv, h1, h => by
    obtain ⟨x, r, rfl, p1, p2⟩ := h1
    unfold mergeD
    exact merge_rel (acc := dset acc (.str k) v) (kv := putK kv (Sum.inr k) x) p2 (h.put rfl p1)
theorem b_dict {ks : List Str} {ms : List ME} {keys : List (Option Expr)} {values : List Expr} (hp : PPs X pos keys values ((ks.map fun k => tC (.str k)).zip (ms.map (tE R XR g)))) (hall : keys.all (·.isSome) = true) (hl : keys.length = values.length) (h0 : keys ≠ []) (h15 : keys.length ≤ 15) :
    PE X (.Dict keys values pos) (tE R XR g (mDict ks ms)) :=
  (pe_disp hp hall hl h0 h15).imp fun σ H Q ⟨φ, e, h, he, hr, q⟩ p hpn => by
    unfold mDict at q
    split at q <;> rename_i hlen
    · have x0 : Ext φ H (φ ++ [p]) (upd H p (.dK [])) := ext_push hpn
      have r0 : HRel R (φ ++ [p]) (upd H p (.dK [])) (h ++ [.dk []]) := hr.push hpn ⟨[], upd_same, rfl⟩
      have hn : (φ ++ [p])[h.length]? = some p := by rw [← hr.len]; simp
      have q1 := OutA.bind (q.ext x0)
      -- the merge, told of the values
      have key := pairs_rd (XR := XR) (R := R) (g := g) (σ := σ) (Q' := fun xs H1 => ∃ φ1 d h1, Ext (φ ++ [p]) (upd H p (.dK [])) φ1 H1 ∧ HRel R φ1 H1 h1 ∧ RpL φ1 H1 d xs ∧ OutE R XR φ1 H1 σ Q (if h1[h.length]? = some (.dk []) then .ok (.ref h.length) (h1.set h.length (.dk (mergeD [] ks d))) else .bad)) ks ms _ hlen.1 ⟨φ ++ [p], e, h ++ [.dk []], he.ext x0, r0, q1⟩
      have mono : ∀ (l : List (TE × TE)) (H : Hp) {Q Q2 : List (V × V) → Hp → Prop}, (∀ te ∈ l, (∃ v, te.1 = tC v) ∧ ∃ m, te.2 = tE R XR g m) → (∀ ps H, Q ps H → Q2 ps H) → tPairs l σ H Q → tPairs l σ H Q2 := by
        intro l
        induction l with
        | nil => intro H Q Q2 _ hq hp; exact hq _ _ hp
        | cons te l ih =>
          intro H Q Q2 hl hq hp
          obtain ⟨tk, tv⟩ := te
          obtain ⟨⟨v, hv⟩, m, hm⟩ := hl _ List.mem_cons_self
          simp only at hv hm
          subst hv hm
          obtain ⟨φ, e, h, he, hr, q⟩ := hp
          exact ⟨φ, e, h, he, hr, q.mono fun y H1 z => ih H1 (fun te ht => hl te (List.mem_cons_of_mem _ ht)) (fun ps H w => hq _ _ w) z⟩
      refine mono _ _ (fun te ht => ?_) (fun ps H2 ⟨xs, e1, e2, φ1, d, h1, x1, r1, p1, q2⟩ => ?_) key
      · obtain ⟨t1, t2⟩ := te
        obtain ⟨h1, h2⟩ := List.of_mem_zip ht
        obtain ⟨k', _, e1⟩ := List.mem_map.mp h1
        obtain ⟨m', _, e2⟩ := List.mem_map.mp h2
        exact ⟨⟨_, e1.symm⟩, m', e2.symm⟩
      · split at q2 <;> rename_i hd
        · have hn1 : φ1[h.length]? = some p := pre_get x1.pre hn
          obtain ⟨a', f2, kv, f3, f4⟩ := r1.addr hd
          cases get_eq hn1 f2
          have hkv : kv = [] := f4
          subst hkv
          refine ⟨f3, (ks.zip xs).map fun q => (Sum.inr q.1, q.2), ?_, ?_, ?_⟩
          · rw [e1, List.map_map]
            rfl
          · rw [List.length_map, List.length_zip, e2]
            omega
          · have x3 := ext_set (φ := φ1) (a := p) (v := .dK (mergeK [] ((ks.zip xs).map fun q => (Sum.inr q.1, q.2)))) f3 (fun _ z => by cases z) (fun _ _ z => by cases z)
            have mr : RpK φ1 H2 (mergeD [] ks d) (mergeK [] ((ks.zip xs).map fun q => (Sum.inr q.1, q.2))) := merge_rel (acc := []) (kv := []) p1 rfl
            exact q2 φ1 _ (.ref p) x3 (r1.set hn1 f3 (fun _ z => by cases z) (fun _ _ z => by cases z) ⟨_, upd_same, RpK.ext x3 mr⟩) ⟨p, hn1, rfl⟩
        · exact q2.elim
    · exact q.elim
theorem b_dict0 : PE X (.Dict [] [] pos) (tE R XR g (mDict [] [])) := pe_dnewK.imp fun σ H Q ⟨φ, e, h, he, hr, q⟩ p hpn => by
  have x0 : Ext φ H (φ ++ [p]) (upd H p (.dK [])) := ext_push hpn
  have r0 : HRel R (φ ++ [p]) (upd H p (.dK [])) (h ++ [.dk []]) := hr.push hpn ⟨[], upd_same, rfl⟩
  have hn : (φ ++ [p])[h.length]? = some p := by rw [← hr.len]; simp
  unfold mDict at q
  rw [if_pos ⟨rfl, by decide⟩] at q
  have q2 : OutE R XR φ H σ Q (if (h ++ [DO.dk []])[h.length]? = some (.dk []) then .ok (.ref h.length) ((h ++ [DO.dk []]).set h.length (.dk (mergeD [] [] []))) else .bad) := q
  rw [if_pos (by simp)] at q2
  have e1 : (h ++ [DO.dk []]).set h.length (.dk (mergeD [] [] [])) = h ++ [.dk []] := by
    unfold mergeD
    simp
  rw [e1] at q2
  exact q2 _ _ (.ref p) x0 r0 ⟨p, hn, rfl⟩
theorem bts_nil : PTs X [] (tT R noX g tYes) := ⟨fun pins s σ H Q I ⟨φ, e, h, he, hr, b, eb, q⟩ => pts_nil.run pins s σ H Q I (by cases eb; exact q φ H .refl hr)⟩
end
end Bp
end

section
set_option linter.all false
set_option maxRecDepth 100000
set_option maxHeartbeats 0
set_option linter.all false
set_option maxRecDepth 100000
set_option autoImplicit false
set_option maxHeartbeats 1000000
namespace Bp
open PySem PySem.Spec PyProof.Rows L2
section
variable {X : Cx} {R : Rx} {XR : XQ} {g : Gm} {pos p p' tpos : Pos} {tg a b c o i e : Expr} {st : Stmt} {sts body : List Stmt} {m m1 m2 m3 mt : ME} {mi : MI} {s1 s2 : MS} {ar : MA} {mg : MG} {t : Tg}
theorem OutS.seq {φ : List Addr} {H : Hp} {D : Ends} {e : Env} {h : DH} (q : OutS R XR φ H D (sSeq s1 s2 g e h)) : OutS R XR φ H { D with nx := fun σ' H' => tS R XR g s2 D σ' H' } (s1 g e h) := by
  unfold sSeq at q
  cases hs : s1 g e h with
  | nx e1 h1 => rw [hs] at q; exact fun φ1 H1 σ1 x1 r1 he1 => ⟨φ1, e1, h1, he1, r1, OutS.ext x1 q⟩
  | rt v h1 => rw [hs] at q; exact q
  | bk e1 h1 => rw [hs] at q; exact q
  | ct e1 h1 => rw [hs] at q; exact q
  | ex c l e1 h1 => rw [hs] at q; exact q
  | bad => rw [hs] at q; exact q
theorem bss_nil : PSs X [] (tS R XR g sNil) := pss_nil.imp fun D σ H ⟨φ, e, h, he, hr, q⟩ => q φ H σ .refl hr he
theorem bss_cons (h1 : PS X st (tS R XR g s1)) (h2 : PSs X sts (tS R XR g s2)) : PSs X (st :: sts) (tS R XR g (sSeq s1 s2)) :=
  (pss_cons h1 h2).imp fun D σ H ⟨φ, e, h, he, hr, q⟩ => ⟨φ, e, h, he, hr, q.seq⟩
def sPass : MS := sNil
def sBrk : MS := fun _ e h => .bk e h
def sCnt : MS := fun _ e h => .ct e h
theorem bs_pass : PS X (.Pass pos) (tS R XR g sNil) := ps_pass.imp fun D σ H ⟨φ, e, h, he, hr, q⟩ => q φ H σ .refl hr he
theorem bs_brk : PS X (.Break pos) (tS R XR g sBrk) := ps_break.imp fun D σ H ⟨φ, e, h, he, hr, q⟩ => q φ H σ .refl hr he
theorem bs_cnt : PS X (.Continue pos) (tS R XR g sCnt) := ps_continue.imp fun D σ H ⟨φ, e, h, he, hr, q⟩ => q φ H σ .refl hr he
theorem bs_expr (ha : PE X a (tE R XR g m)) (hs : swapsWith a none pos.line X.env = pure false) : PS X (.Expr a pos) (tS R XR g (sExpr m)) :=
  (ps_expr ha hs).imp fun D σ H ⟨φ, e, h, he, hr, q⟩ => ⟨φ, e, h, he, hr, (OutE.toS he q).mono fun x H1 ⟨φ1, d, h1, x1, r1, p1, q1⟩ => q1 φ1 H1 σ .refl r1 (he.ext x1)⟩
theorem bs_ret (ha : PE X a (tE R XR g m)) : PS X (.Return (some a) pos) (tS R XR g (sRet m)) :=
  (ps_ret ha).imp fun D σ H ⟨φ, e, h, he, hr, q⟩ => ⟨φ, e, h, he, hr, (OutE.toS he q).mono fun x H1 ⟨φ1, d, h1, x1, r1, p1, q1⟩ => q1 φ1 H1 x .refl r1 p1⟩
theorem bs_retN : PS X (.Return none pos) (tS R XR g sRetN) :=
  ps_retN.imp fun D σ H ⟨φ, e, h, he, hr, q⟩ => q φ H .non .refl hr rfl
theorem OutB.toS {φ : List Addr} {H : Hp} {σ : L2.St} {N : Ends} {r : RE} {e : Env} {f : Bool → DH → RS} (he : ERel φ H e σ) (q : OutS R XR φ H N (r.toS e fun v h1 => match v with
    | .bl true => f true h1
    | .bl false => f false h1
    | _ => .bad)) : OutB R XR φ H σ (fun b H1 => ∃ φ1 h1, Ext φ H φ1 H1 ∧ HRel R φ1 H1 h1 ∧ OutS R XR φ1 H1 N (f b h1)) r := by
  cases r with
  | ok v h' =>
    cases v with
    | bl b => cases b <;> exact ⟨_, rfl, fun φ' H' x hr => ⟨φ', h', x, hr, OutS.ext x q⟩⟩
    | _ => exact False.elim q
  | ex c l h' => exact fun φ' H' x hr => q φ' H' σ x hr (he.ext x)
  | bad => exact q
theorem bs_if {x y : List Stmt} (hc : PT X c (tT R XR g mt)) (ha : PSs X x (tS R XR g s1)) (hb : PSs X y (tS R XR g s2)) : PS X (.If c x y pos) (tS R XR g (sIf mt s1 s2)) :=
  (ps_if hc ha hb).imp fun D σ H ⟨φ, e, h, he, hr, q⟩ => ⟨φ, e, h, he, hr, (OutB.toS (N := D) (f := fun b h1 => if b then s1 g e h1 else s2 g e h1) he (by
    unfold sIf at q
    exact q)).mono fun b H1 ⟨φ1, h1, x1, r1, q1⟩ => by
      cases b with
      | true => exact ⟨φ1, e, h1, he.ext x1, r1, q1⟩
      | false => exact ⟨φ1, e, h1, he.ext x1, r1, q1⟩⟩
theorem asg_rd {D : Ends} {σ : L2.St} {H : Hp} {G : TG} {te : TE} (hG : ∀ φ e h d v σ H Q, ERel φ H e σ → HRel R φ H h → Rp φ H d v → OutS R XR φ H { nx := Q, rt := fun _ _ => False } (mg g d e h) → G v σ H Q)
    (hx : ∀ d e h, match mg g d e h with | .nx _ _ => True | .ex _ _ _ _ => True | .bad => True | _ => False) (hte : ∀ σ H Q, tE R XR g m σ H Q → te σ H Q)
    (q : tS R XR g (sAsg m mg) D σ H) : tAsg te G D σ H := by
  obtain ⟨φ, e, h, he, hr, q⟩ := q
  refine hte σ H _ ⟨φ, e, h, he, hr, (OutE.toS he q).mono fun x H1 ⟨φ1, d, h1, x1, r1, p1, q1⟩ => ?_⟩
  refine hG φ1 e h1 d x σ H1 _ (he.ext x1) r1 p1 ?_
  have hk := hx d e h1
  cases hm : mg g d e h1 with
  | nx e1 h2 => rw [hm] at q1; exact q1
  | rt _ _ => rw [hm] at hk; exact hk.elim
  | bk _ _ => rw [hm] at hk; exact hk.elim
  | ct _ _ => rw [hm] at hk; exact hk.elim
  | ex _ _ _ _ => rw [hm] at q1; exact q1
  | bad => rw [hm] at q1; exact q1
theorem bs_set {k : Nat} {x : Str} (hN : X.N.Nodup) (hi : X.N[k]? = some x) (hx : Loc X.env.scope x) (ha : PE X a (tE R XR g m)) (hs : swapsWith a (some (.Name x p')) pos.line X.env = pure false) (hf : X.fn x = true ∨ X.env.scope.names.lookup x = some .local) :
    PS X (.Assign [.Name x p'] a pos) (tS R XR g (sAsg m (gPat (.nm k)))) :=
  (ps_set hN hi hx ha hs hf).imp fun D σ H q => by
    obtain ⟨φ, e, h, he, hr, q⟩ := q
    exact ⟨φ, e, h, he, hr, (OutE.toS he q).mono fun x H1 ⟨φ1, d, h1, x1, r1, p1, q1⟩ => q1 φ1 H1 _ .refl r1 ((he.ext x1).set p1 k)⟩
theorem pat_rd {φ : List Addr} {e : Env} {h : DH} {d : D} {v : V} {σ : L2.St} {H : Hp} {Q : L2.St → Hp → Prop} (he : ERel φ H e σ) (hr : HRel R φ H h) (rp : Rp φ H d v) (q : OutS R XR φ H { nx := Q, rt := fun _ _ => False } (gPat t g d e h)) : tP1 R t v σ H Q := by
  unfold gPat at q
  split at q
  · rename_i e1 eb
    exact ⟨φ, e, h, d, e1, he, hr, rp, eb, fun σ' he' _ => q φ H σ' .refl hr he'⟩
  · exact q.elim
theorem bs_pat (ha : PE X a (tE R XR g m)) (hg : PG X tg (tP1 R t)) (hs : swapsWithSole [tg] a pos.line X.env = pure false) (hw : swappedStores [tg] a X.env = pure none) (h1 : (assignEach [tg] X.env).map (·.2) = [assign tg X.env]) :
    PS X (.Assign [tg] a pos) (tS R XR g (sAsg m (gPat t))) :=
  (ps_asg ha hg hs hw h1).imp fun D σ H q => asg_rd (fun φ e h d v σ H Q he hr rp q => pat_rd he hr rp q) (fun d e h => by unfold gPat; cases t.bind d e <;> exact trivial) (fun _ _ _ z => z) q
theorem bs_sub (hu : X.A.units + 65 < cLine) (ha : PE X a (tE R XR g m)) (ho : PE X o (tE R XR g m1)) (hi : PE X i (tE R XR g m2)) (hs : swapsWithSole [.Subscript o i p'] a pos.line X.env = pure false) (hw : swappedStores [.Subscript o i p'] a X.env = pure none)
    (h1 : (assignEach [.Subscript o i p'] X.env).map (·.2) = [assign (.Subscript o i p') X.env])
    (hasg : ∀ v, assign (.Subscript o i p') X.env v = (do
      let ov ← holding [v] (eval o X.env)
      let iv ← holding [v, ov] (eval i X.env)
      standAt p'
      holding [v, ov, iv] (setItem ov iv v)
      release [v, ov, iv] [])) : PS X (.Assign [.Subscript o i p'] a pos) (tS R XR g (sAsg m (gSub m1 m2))) :=
  (ps_asg ha (pg_sub ho hi (putD_ok hu) hasg) hs hw h1).imp fun D σ H ⟨φ, e, h, he, hr, q⟩ => ⟨φ, e, h, he, hr, (OutE.toS he q).mono fun x H1 ⟨φ1, d, h1, x1, r1, p1, q1⟩ =>
    ⟨φ1, e, h1, he.ext x1, r1, (OutE.toS (he.ext x1) q1).mono fun y H2 ⟨φ2, d2, h2, x2, r2, p2, q2⟩ => ⟨φ2, e, h2, (he.ext x1).ext x2, r2, (OutE.toS ((he.ext x1).ext x2) q2).mono fun z H3 ⟨φ3, d3, h3, x3, r3, p3, q3⟩ => by
      refine ⟨φ3, h3, d2, d3, d, r3, p2.ext x3, p3, (p1.ext x2).ext x3, ?_⟩
      cases ep : putD h3 d2 d3 d with
      | none => rw [ep] at q3; exact q3.elim
      | some h4 => rw [ep] at q3; exact fun φ4 H4 x4 r4 => q3 φ4 H4 σ x4 r4 ((((he.ext x1).ext x2).ext x3).ext x4)⟩⟩⟩
theorem putF_rel (nd : R.an.Nodup) {φ : List Addr} {H : Hp} {f : Nat} {nm : Str} {d : D} {v : V} (hf : R.an[f]? = some nm) (rv : Rp φ H d v) : ∀ {fs : List (Nat × D)} {fv : List (Str × V)}, RpF R φ H fs fv → RpF R φ H (fput f d fs) (putF nm v fv)
  | [], _, r => by
    rw [show _ = [] from r]
    exact ⟨(nm, v), [], rfl, hf, rv, rfl⟩
  | (j, d') :: fs, _, r => by
    obtain ⟨⟨n, u⟩, r', rfl, h1, h2, h3⟩ := r
    have ih := putF_rel nd hf rv h3
    by_cases hj : j = f
    · subst hj
      have : n = nm := by rw [hf] at h1; exact (Option.some.inj h1).symm
      subst this
      have e1 : fput j d ((j, d') :: fs) = (j, d) :: fs := by simp [fput]
      have e2 : putF n v ((n, u) :: r') = (n, v) :: r' := by simp [putF]
      rw [e1, e2]
      exact ⟨_, _, rfl, hf, rv, h3⟩
    · have hne : ¬ n = nm := fun z => hj (by
        subst z
        obtain ⟨l1, e1⟩ := List.getElem?_eq_some_iff.mp hf
        obtain ⟨l2, e2⟩ := List.getElem?_eq_some_iff.mp h1
        exact (List.getElem_inj nd).mp (e2.trans e1.symm))
      have e1 : fput f d ((j, d') :: fs) = (j, d') :: fput f d fs := by simp [fput, hj]
      have e2 : putF nm v ((n, u) :: r') = (n, u) :: putF nm v r' := by simp [putF, hne]
      rw [e1, e2]
      exact ⟨_, _, rfl, h1, h2, ih⟩
theorem bs_fld {fi k : Nat} {fn : Str} (nd : R.an.Nodup) (hfi : R.an[fi]? = some fn) (cl : Cls X.K (R.ca k)) (hna : NoAttr X.K (R.ca k) fn) (ha : PE X a (tE R XR g m)) (ho : PE X o (tE R XR g m1)) (hs : swapsWith a (some (.Attribute o fn p')) pos.line X.env = pure false) :
    PS X (.Assign [.Attribute o fn p'] a pos) (tS R XR g (sAsg m (gAttr k fi m1))) :=
  (ps_fld ho ha hs).imp fun D σ H ⟨φ, e, h, he, hr, q⟩ => ⟨φ, e, h, he, hr, (OutE.toS he q).mono fun x H1 ⟨φ1, d, h1, x1, r1, p1, q1⟩ =>
    ⟨φ1, e, h1, he.ext x1, r1, (OutE.toS (he.ext x1) q1).mono fun y H2 ⟨φ2, d2, h2, x2, r2, p2, q2⟩ => by
      cases ep : setF k h2 d2 fi d with
      | none => rw [ep] at q2; exact q2.elim
      | some h4 =>
        rw [ep] at q2
        unfold setF at ep
        split at ep
        · rename_i n
          obtain ⟨a, f1, rfl⟩ := p2
          split at ep
          · rename_i c fs g1
            split at ep <;> rename_i hz
            · cases ep
              obtain ⟨hc, hl⟩ := hz
              subst hc
              obtain ⟨a', f2, dx, fv, f3, f4⟩ := r2.addr g1
              cases get_eq f1 f2
              have x3 := ext_set (φ := φ2) (a := a) (v := .ins (R.ca c) dx (putF fn x fv)) f3 (fun _ z => by cases z) (fun _ _ z => by cases z)
              refine ⟨a, _, dx, fv, rfl, f3, cl, hna, by rw [f4.len]; omega, q2 φ2 _ σ x3 (r2.set f1 f3 (fun _ z => by cases z) (fun _ _ z => by cases z) ⟨dx, _, upd_same, (putF_rel nd hfi (p1.ext x2) f4).ext x3⟩) (((he.ext x1).ext x2).ext x3)⟩
            · cases ep
          · cases ep
        · cases ep⟩⟩
theorem par_rd {σ : L2.St} {H : Hp} {D : Ends} {l : List Nat} {φ : List Addr} {e : Env} {h : DH} (he : ERel φ H e σ) (q : OutS R XR φ H D (sPar l ar g e h)) :
    OutA R XR φ H σ (fun vs H1 => vs.length = l.length ∧ D.nx ((l.zip vs).foldl (fun s p => s.set p.1 (some p.2)) σ) H1) (ar g e h) := by
  unfold sPar at q
  cases ha : ar g e h with
  | bad => rw [ha] at q; exact q
  | ex c l h1 => rw [ha] at q; exact fun φ' H' x hr => q φ' H' σ x hr (he.ext x)
  | ok ds h1 =>
    rw [ha] at q
    simp only at q
    split at q <;> rename_i hl
    · intro φ1 H1 xs x1 r1 p1
      refine ⟨by rw [p1.length, hl], q φ1 H1 _ x1 r1 ?_⟩
      have gen : ∀ (l : List Nat) (ds : List Bp.D) (xs : List V) (e : Env) (σ : L2.St), ERel φ1 H1 e σ → RpL φ1 H1 ds xs → ERel φ1 H1 ((l.zip ds).foldl (fun e p => e.set p.1 (some p.2)) e) ((l.zip xs).foldl (fun s p => s.set p.1 (some p.2)) σ) := by
        intro l
        induction l with
        | nil => intro ds xs e σ he _; exact he
        | cons i l ih =>
          intro ds xs e σ he rl
          cases ds with
          | nil => rw [show xs = [] from rl]; exact he
          | cons d ds =>
            obtain ⟨x, r, rfl, h1, h2⟩ := rl
            exact ih ds r _ _ (he.set h1 i) h2
      exact gen l ds xs e σ (he.ext x1) p1
    · exact q.elim
theorem bs_par2 {k j : Nat} {x y : Str} {px py pt : Pos} {kt k2 pt2} (hc : X.calm = true) (hN : X.N.Nodup) (hi : X.N[k]? = some x) (hj : X.N[j]? = some y) (hij : k ≠ j)
    (hx : X.env.scope.names.lookup x = some .local) (hy : X.env.scope.names.lookup y = some .local) (ha : PA X [a, b] (tA R XR g ar))
    (hw : swappedStores [.Tuple [.Name x px, .Name y py] kt pt] (.Tuple [a, b] k2 pt2) X.env = pure (some [x, y]))
    (hs : swapsWithSole [.Tuple [.Name x px, .Name y py] kt pt] (.Tuple [a, b] k2 pt2) pos.line X.env = pure false) :
    PS X (.Assign [.Tuple [.Name x px, .Name y py] kt pt] (.Tuple [a, b] k2 pt2) pos) (tS R XR g (sPar [k, j] ar)) :=
  (ps_par hc hN hi hj hij hx hy ha hw hs).imp fun D σ H ⟨φ, e, h, he, hr, q⟩ => ⟨φ, e, h, he, hr, (par_rd he q).mono fun vs H1 ⟨hl, q1⟩ => by
    match vs, hl, q1 with
    | [v, w], _, q1 => exact ⟨v, w, rfl, q1⟩⟩
theorem bs_par3 {k j l : Nat} {x y z : Str} {px py pz pt : Pos} {kt k2 pt2} (hc : X.calm = true) (hN : X.N.Nodup) (hi : X.N[k]? = some x) (hj : X.N[j]? = some y) (hl : X.N[l]? = some z) (hij : k ≠ j) (hil : k ≠ l) (hjl : j ≠ l)
    (hx : X.env.scope.names.lookup x = some .local) (hy : X.env.scope.names.lookup y = some .local) (hz : X.env.scope.names.lookup z = some .local) (ha : PA X [a, b, c] (tA R XR g ar))
    (hw : swappedStores [.Tuple [.Name x px, .Name y py, .Name z pz] kt pt] (.Tuple [a, b, c] k2 pt2) X.env = pure (some [x, y, z]))
    (hs : swapsWithSole [.Tuple [.Name x px, .Name y py, .Name z pz] kt pt] (.Tuple [a, b, c] k2 pt2) pos.line X.env = pure false) :
    PS X (.Assign [.Tuple [.Name x px, .Name y py, .Name z pz] kt pt] (.Tuple [a, b, c] k2 pt2) pos) (tS R XR g (sPar [k, j, l] ar)) :=
  (ps_par3 hc hN hi hj hl hij hil hjl hx hy hz ha hw hs).imp fun D σ H ⟨φ, e, h, he, hr, q⟩ => ⟨φ, e, h, he, hr, (par_rd he q).mono fun vs H1 ⟨hl, q1⟩ => by
    match vs, hl, q1 with
    | [u, v, w], _, q1 => exact ⟨u, v, w, rfl, q1⟩⟩
theorem bs_aug {k : Nat} {x : Str} {op : Operator} (hN : X.N.Nodup) (hi : X.N[k]? = some x) (hx : Loc X.env.scope x) (ha : PE X a (tE R XR g m)) (hf : X.fn x = true ∨ X.env.scope.names.lookup x = some .local) :
    PS X (.AugAssign (.Name x p') op a pos) (tS R XR g (sAug k op m)) :=
  (ps_aug hN hi hx ha (augD_ok (R := R) op) hf).imp fun D σ H ⟨φ, e, h, he, hr, q⟩ => by
    unfold sAug at q
    split at q
    · rename_i d ed
      obtain ⟨v, hv, rv⟩ := he.at_ k d ed
      refine ⟨v, hv, φ, e, h, he, hr, (OutE.toS he q).mono fun y H1 ⟨φ1, d1, h1, x1, r1, p1, q1⟩ => ?_⟩
      exact ⟨φ1, h1, d, d1, r1, rv.ext x1, p1, OutV.ofE (XR := XR) (σ := σ) ((OutE.toS (he.ext x1) q1).mono fun z H2 ⟨φ2, d2, h2, x2, r2, p2, q2⟩ => q2 φ2 H2 _ .refl r2 (((he.ext x1).ext x2).set p2 k))⟩
    · exact q.elim
end
end Bp
end

section
set_option linter.all false
set_option maxRecDepth 100000
set_option maxHeartbeats 0
set_option linter.all false
set_option maxRecDepth 100000
set_option autoImplicit false
set_option maxHeartbeats 1000000
namespace Bp
open PySem PySem.Spec PyProof.Rows L2
section
variable {X : Cx} {R : Rx} {g : Gm} {pos p p' tpos : Pos} {tg a b c o i e iter : Expr} {body : List Stmt} {m m1 m2 m3 mt : ME} {mi : MI} {s1 s2 : MS} {t : Tg}
theorem for_rd {σ : L2.St} {H : Hp} {D : Ends} (q : tS R noX g (sFor mi (gPat t) s1) D σ H) : tFor (tI R noX g mi) (tP1 R t) (tS R noX g s1) D σ H := by
  obtain ⟨φ, e, h, he, hr, q⟩ := q
  refine ⟨φ, e, h, he, hr, ?_⟩
  unfold sFor at q
  cases hm : mi g e h with
  | bad => rw [hm] at q; exact q
  | ex c l h1 => rw [hm] at q; exact fun φ' H' x hr' => q φ' H' σ x hr' (he.ext x)
  | ok xs deps lock h1 =>
    rw [hm] at q
    cases lock with
    | some z => exact False.elim q
    | none =>
    simp only at q
    refine ⟨rfl, fun φ1 H1 J x1 r1 jok => ?_⟩
    generalize hst : stepS (gPat t) s1 g = step at q
    let C : Nat → L2.St → Hp → Prop := fun i σ' H' => ∃ φ' e' h', Ext φ1 H1 φ' H' ∧ HRel R φ' H' h' ∧ ERel φ' H' e' σ' ∧ OutS R noX φ' H' D (loopS deps step (xs.drop i) e' h')
    refine ⟨fun i m σ' H' => m + i = xs.length ∧ C i σ' H', ⟨xs.length, by omega, φ1, e, h1, .refl, r1, he.ext x1, by rw [List.drop_zero]; exact q.ext x1⟩, ?_⟩
    rintro i m σ' H' ⟨hmi, φ', e', h', x', r', he', q'⟩
    have dep : depsOk h' deps = true := by
      cases hx : xs.drop i with
      | nil =>
        rw [hx] at q'
        unfold loopS at q'
        split at q'
        · assumption
        · exact q'.elim
      | cons d r =>
        rw [hx] at q'
        unfold loopS at q'
        split at q'
        · assumption
        · exact q'.elim
    obtain ⟨j1, j2⟩ := jok φ' H' h' i x' r' dep
    by_cases hi : xs.length ≤ i
    · refine .inl ⟨j1 hi, ?_⟩
      rw [List.drop_eq_nil_of_le hi] at q'
      unfold loopS at q'
      rw [if_pos dep] at q'
      exact q' φ' H' σ' .refl r' he'
    · have hi' : i < xs.length := Nat.lt_of_not_le hi
      have hd : xs[i]? = some xs[i] := List.getElem?_eq_getElem hi'
      rw [List.drop_eq_getElem_cons hi'] at q'
      unfold loopS at q'
      rw [if_pos dep] at q'
      obtain ⟨j3, j4⟩ := j2 _ hd
      refine .inr ⟨j3, C (i + 1), fun σ2 H2 c => ⟨m - 1, by omega, by omega, c⟩, fun x H2 hy => ?_⟩
      obtain ⟨x3, r3, p3⟩ := j4 x H2 hy
      have q3 := q'.ext x3
      rw [← hst] at q3
      unfold stepS gPat at q3
      cases eb : t.bind xs[i] e' with
      | none => simp only [eb] at q3; exact q3.elim
      | some e1 =>
        simp only [eb] at q3
        refine ⟨φ', e', h', xs[i], e1, he'.ext x3, r3, p3, eb, fun σ2 he2 bt => ⟨φ', e1, h', he2, r3, ?_⟩⟩
        have hst' : (fun x e h => match (match t.bind x e with | some e1 => RS.nx e1 h | none => RS.bad) with | .nx e1 h1 => s1 g e1 h1 | r => r) = step := by
          rw [← hst]
          rfl
        cases es : s1 g e1 h' with
        | nx e2 h2 => simp only [es] at q3; exact fun φ4 H4 σ4 x4 r4 he4 => ⟨φ4, e2, h2, (x'.trans x3).trans x4, r4, he4, by rw [← hst']; exact q3.ext x4⟩
        | ct e2 h2 => simp only [es] at q3; exact fun φ4 H4 σ4 x4 r4 he4 => ⟨φ4, e2, h2, (x'.trans x3).trans x4, r4, he4, by rw [← hst']; exact q3.ext x4⟩
        | bk e2 h2 => simp only [es] at q3; exact q3
        | rt v h2 => simp only [es] at q3; exact q3
        | ex c l e2 h2 => simp only [es] at q3; exact q3
        | bad => simp only [es] at q3; exact q3
theorem bs_for (hp : PassesOwn (model X.prog X.w) X.A X.env X.xe) (hc : X.calm = true) (hi : PI X tg iter (tI R noX g mi)) (hg : PG X tg (tP1 R t)) (hb : PSs X body (tS R noX g s1)) (hs : ∀ x, foldedSetIterable iter X.env x = pure x) :
    PS X (.For tg iter body [] pos) (tS R noX g (sFor mi (gPat t) s1)) := (ps_for hp hc hi hg hb hs).imp fun D σ H q => for_rd q
theorem while_rd {σ : L2.St} {H : Hp} {D : Ends} (q : tS R noX g (sWhile mt s1) D σ H) : tWhile (tT R noX g mt) (tS R noX g s1) D σ H := by
  obtain ⟨φ, e, h, he, hr, q⟩ := q
  unfold sWhile at q
  generalize wFuel = n at q
  refine ⟨fun k σ' H' => ∃ φ' e' h', HRel R φ' H' h' ∧ ERel φ' H' e' σ' ∧ OutS R noX φ' H' D (loopW (mt g) (s1 g) k e' h'), ⟨n, φ, e, h, hr, he, q⟩, ?_⟩
  rintro k σ' H' ⟨φ', e', h', r', he', q'⟩
  cases k with
  | zero => exact q'.elim
  | succ k =>
    unfold loopW at q'
    refine ⟨φ', e', h', he', r', ?_⟩
    cases et : mt g e' h' with
    | bad => simp only [et] at q'; exact q'
    | ex c l h1 => simp only [et] at q'; exact fun φ1 H1 x1 r1 => q' φ1 H1 σ' x1 r1 (he'.ext x1)
    | ok v h1 =>
      cases v with
      | bl b =>
        cases b with
        | true =>
          simp only [et] at q'
          refine ⟨true, rfl, fun φ1 H1 x1 r1 => ?_⟩
          simp only [if_true]
          refine ⟨fun σ2 H2 => ∃ φ' e' h', HRel R φ' H2 h' ∧ ERel φ' H2 e' σ2 ∧ OutS R noX φ' H2 D (loopW (mt g) (s1 g) k e' h'), fun σ2 H2 c => ⟨k, by omega, c⟩, φ1, e', h1, he'.ext x1, r1, ?_⟩
          have q1 := q'.ext x1
          cases es : s1 g e' h1 with
          | nx e2 h2 => simp only [es] at q1; exact fun φ4 H4 σ4 x4 r4 he4 => ⟨φ4, e2, h2, r4, he4, q1.ext x4⟩
          | ct e2 h2 => simp only [es] at q1; exact fun φ4 H4 σ4 x4 r4 he4 => ⟨φ4, e2, h2, r4, he4, q1.ext x4⟩
          | bk e2 h2 => simp only [es] at q1; exact q1
          | rt v h2 => simp only [es] at q1; exact q1
          | ex c l e2 h2 => simp only [es] at q1; exact q1
          | bad => simp only [es] at q1; exact q1
        | false =>
          simp only [et] at q'
          refine ⟨false, rfl, fun φ1 H1 x1 r1 => ?_⟩
          simp only [Bool.false_eq_true, if_false]
          exact q' φ1 H1 σ' x1 r1 (he'.ext x1)
      | _ => simp only [et] at q'; exact q'.elim
theorem bs_while (hp : PassesOwn (model X.prog X.w) X.A X.env X.xe) (hc : PT X c (tT R noX g mt)) (hb : PSs X body (tS R noX g s1)) : PS X (.While c body [] pos) (tS R noX g (sWhile mt s1)) := (ps_while hp hc hb).imp fun D σ H q => while_rd q
theorem pget_list {n : Nat} {a : Addr} {l : List Bp.D} {φ : List Addr} {h : DH} {pins : List (Addr × Obj)} {s : Shared} {σ : L2.St} {H : Hp} {y : V} {u : Value} {Q : VK} {d2 : Bp.D} (hr : HRel R φ H h) (r2 : Rp φ H d2 y) (hl : listAt h n = some l) (f1 : φ[n]? = some a) (q : OutV R φ H Q (lsub h l d2))
    (I : L2.Inv X pins σ H s) (ry : RelV y u) : wpAny (model X.prog X.w) X.A (getItem (.ref a) u) (EP X pins σ Q) X.xe s := by
  cases d2 with
  | int i =>
    obtain rfl := r2
    simp only [lsub] at q
    split at q
    · rename_i d e
      obtain ⟨a', xs, f2, f3, f4⟩ := hr.list_at (K := X.K) hl
      cases get_eq f1 f2
      obtain ⟨z, e2, rz⟩ := f4.atI e
      obtain ⟨t, rfl⟩ := ry
      obtain ⟨its, r, pl, hz⟩ := I.list f3
      obtain ⟨j, h1, h2, h3, h4, h5⟩ := atI_get e2
      obtain ⟨w, ew, rw'⟩ := r.get h2
      have hl := r.length
      have hn := line63
      have fin : EP X pins σ Q w s := ⟨z, H, I, rw', OutV.here hr rz q⟩
      by_cases h0 : 0 ≤ i
      · have hj : i.toNat = j := by
          rw [seqIndex_of h0 h5] at h1
          exact Option.some.inj h1
        exact wpAny_getItem_list pl.isList h0 (by omega) (by rw [hj]; simpa using ew) fin
      · have hj : (i + (its.toArray.size : Int)).toNat = j := by
          rw [seqIndex_neg (by omega) h4] at h1
          rw [List.size_toArray, ← hl]
          exact Option.some.inj h1
        exact wpAny_getItem_list_neg pl.isList (by omega) (by rw [List.size_toArray] <;> omega) (by omega) (by rw [hj]; simpa using ew) fin
    · exact q.elim
  | _ => exact q.elim
theorem getD_ok (hu : X.A.units + 65 < cLine) : PGet X (vR2 R subR) := by
  intro pins s σ H x y v u Q I rx ry ⟨φ, h, d1, d2, hr, r1, r2, q⟩
  cases d1 with
  | ref n =>
    obtain ⟨a, f1, rfl⟩ := r1
    cases ref_of rx
    simp only [subR] at q
    split at q
    · rename_i l g
      exact pget_list hr r2 (n := n) (l := l) (by simp [listAt, g]) f1 q I ry
    · rename_i l g
      exact pget_list hr r2 (n := n) (l := l) (by simp [listAt, g]) f1 q I ry
    · exact q.elim
    · rename_i o n1 n2 n3 g
      split at q
      · rename_i d e
        obtain ⟨a', f2, f3⟩ := hr.addr g
        cases get_eq f1 f2
        rcases dget_ok f3 r2 e with ⟨ov, gg, h1, h2⟩ | ⟨_, e2, _⟩
        · obtain ⟨z, rfl, rz⟩ := h1 d rfl
          exact d_getItem (by omega) I gg ry fun w' s3 I3 rw' => ⟨z, H, I3, rw', OutV.here hr rz q⟩
        · cases e2
      · exact q.elim
    · exact q.elim
  | _ => exact q.elim
theorem OutV.toS {XR : XQ} {φ : List Addr} {H : Hp} {σ : L2.St} {N : Ends} {r : RV} {e : Env} {f : Bp.D → DH → RS} (he : ERel φ H e σ) (q : OutS R XR φ H N ((ofV r).toS e f)) : OutV R φ H (fun x H1 => ∃ φ1 d h1, Ext φ H φ1 H1 ∧ HRel R φ1 H1 h1 ∧ Rp φ1 H1 d x ∧ OutS R XR φ1 H1 N (f d h1)) r :=
  OutV.ofE (OutE.toS he q)
theorem bs_augS {op : Operator} (hu : X.A.units + 65 < cLine) (ho : PE X o (tE R noX g m1)) (hi : PE X i (tE R noX g m2)) (ha : PE X a (tE R noX g m)) (hasg : ∀ ov iv new, augStore i ov iv new = (do holding [new, ov, iv] (setItem ov iv new); release [new, ov, iv] []; pure .next)) :
    PS X (.AugAssign (.Subscript o i tpos) op a pos) (tS R noX g (sAugS m1 m2 op m)) :=
  (ps_augS ho hi (getD_ok (R := R) hu) ha (augD_ok (R := R) op) (putD_ok (R := R) hu) hasg).imp fun D σ H ⟨φ, e, h, he, hr, q⟩ => ⟨φ, e, h, he, hr, (OutE.toS he q).mono fun x H1 ⟨φ1, d1, h1, x1, r1, p1, q1⟩ =>
    ⟨φ1, e, h1, he.ext x1, r1, (OutE.toS (he.ext x1) q1).mono fun y H2 ⟨φ2, d2, h2, x2, r2, p2, q2⟩ => ⟨φ2, h2, d1, d2, r2, p1.ext x2, p2, (OutV.toS ((he.ext x1).ext x2) q2).mono fun z H3 ⟨φ3, d3, h3, x3, r3, p3, q3⟩ =>
      ⟨φ3, e, h3, ((he.ext x1).ext x2).ext x3, r3, (OutE.toS (((he.ext x1).ext x2).ext x3) q3).mono fun w H4 ⟨φ4, d4, h4, x4, r4, p4, q4⟩ => ⟨φ4, h4, d3, d4, r4, p3.ext x4, p4, (OutV.toS ((((he.ext x1).ext x2).ext x3).ext x4) q4).mono fun n H5 ⟨φ5, d5, h5, x5, r5, p5, q5⟩ => by
        refine ⟨φ5, h5, d1, d2, d5, r5, (((p1.ext x2).ext x3).ext x4).ext x5, ((p2.ext x3).ext x4).ext x5, p5, ?_⟩
        cases ep : putD h5 d1 d2 d5 with
        | none => rw [ep] at q5; exact q5.elim
        | some h6 => rw [ep] at q5; exact fun φ6 H6 x6 r6 => q5 φ6 H6 σ x6 r6 ((((((he.ext x1).ext x2).ext x3).ext x4).ext x5).ext x6)⟩⟩⟩⟩⟩
end
end Bp
end

section
set_option linter.all false
set_option maxRecDepth 100000
set_option maxHeartbeats 0
set_option linter.all false
set_option maxRecDepth 100000
set_option autoImplicit false
set_option maxHeartbeats 1000000
namespace Bp
open PySem PySem.Spec PyProof.Rows L2
inductive Sl where
  | p (i : Nat) | k (j : Nat) | c (d : D)
def Sl.get (vs zs : List D) : Sl → Option D
  | .p i => vs[i]?
  | .k j => zs[j]?
  | .c d => some d
def arrange (sl : List Sl) (vs zs : List D) : Option (List D) := mapO (Sl.get vs zs) sl
def mMakeK (c f : Nat) (sl : List Sl) (a : MA) : ME := fun g e h => (a g e h).bind fun zs h1 => match arrange sl [] zs with
  | some vs => mkD c (g.low f) vs h1
  | none => .bad
def mCallK (f : Nat) (sl : List Sl) (a b : MA) : ME := fun g e h => (a g e h).bind fun vs h1 => (b g e h1).bind fun zs h2 => match arrange sl vs zs with
  | some ws => g.call f ws h2
  | none => .bad
def SlOk (n m : Nat) (sl : List Sl) (gV : List V → List V → List V) : Prop := ∀ (φ : List Addr) (H : Hp) (vs zs : List V) (ds es ws : List D), vs.length = n → zs.length = m → RpL φ H ds vs → RpL φ H es zs → arrange sl ds es = some ws → RpL φ H ws (gV vs zs)
section
variable {X : Cx} {R : Rx} {g : Gm} {e : Expr} {es : List Expr} {ar br : MA} {pos p : Pos} {x : Str} {k np m : Nat} {f : Addr} {fd : FuncData} {ps ks : List Str} {kws : List Keyword} {sl : List Sl} {gg : List Value → List Value → List Value} {gV : List V → List V → List V}
theorem bk_nil : PK X [] (tA R noX g aNil) := ⟨fun pos pins s σ H Q I ⟨φ, e, h, he, hr, q⟩ => pk_nil.run pos pins s σ H Q I (q φ H [] .refl hr rfl)⟩
theorem _root_.L2.PK.imp {e : List Keyword} {t t' : TA} (h : PK X e t) (hi : ∀ σ H Q, t' σ H Q → t σ H Q) : PK X e t' := ⟨fun pos pins s σ H Q I hq => h.run pos pins s σ H Q I (hi σ H Q hq)⟩
theorem bk_cons {nm : Option Str} {kpos : Pos} {m1 : ME} (ha : PE X e (tE R noX g m1)) (hr : PK X kws (tA R noX g ar)) : PK X (⟨nm, e, kpos⟩ :: kws) (tA R noX g (aCons m1 ar)) :=
  (pk_cons ha hr).imp fun σ H Q ⟨φ, e, h, he, hr, q⟩ => ⟨φ, e, h, he, hr, (OutA.bindA q).mono fun x H1 ⟨φ1, d, h1, x1, r1, p1, q1⟩ => ⟨φ1, e, h1, he.ext x1, r1, q1⟩⟩
theorem b_makeK {i c : Nat} (M : Mk X.K (R.ca c) f) (F : FnOk X.prog X.w X.K X.mg X.base CX0 k f fd ps (spF R (np + 1) (g.low i))) (hr : Room (k + 1) X.A) (hg : Gl X x) (hm : X.mg x = some (.ref (R.ca c))) (hb : KBn X.K fd ps 1 ks gg gV) (hkw : PK X kws (tA R noX g ar)) (hn : AN R g ar ks.length)
    (hsl : ∀ (φ : List Addr) (H : Hp) (x : Addr) (zs : List V) (es ws : List D), zs.length = ks.length → RpL φ H es zs → arrange sl [] es = some ws → ws.length = np ∧ ∃ vs, gV [.ref x] zs = .ref x :: vs ∧ RpL φ H ws vs)
    (hall : (backToKw pos (keywordEach kws X.env)).all (·.1.isSome) = true) (hks : (backToKw pos (keywordEach kws X.env)).filterMap (·.1) = ks) (hdb : (x == ("__debug__" : Str)) = false)
    (hpl : ((backTo pos (starEach [] X.env)).any (·.1) || (backToKw pos (keywordEach kws X.env)).any (·.1.isNone)) = false) : PE X (.Call (.Name x p) [] kws pos) (tE R noX g (mMakeK c i sl ar)) :=
  (pe_makeK0 M F hr hg hm hb passes0 hkw hall hks hdb hpl).imp fun σ H Q ⟨φ, e, h, he, hr, q⟩ => by
    have z : tA R noX g ar σ H (fun zs H1 => ∃ φ1 h1 es, HRel R φ1 H1 h1 ∧ RpL φ1 H1 es zs ∧ OutE R noX φ1 H1 σ Q (match arrange sl [] es with
      | some vs => mkD c (g.low i) vs h1
      | none => .bad)) := ⟨φ, e, h, he, hr, (OutA.bind q).mono fun xs H1 ⟨φ1, d, h1, x1, r1, p1, q1⟩ => ⟨φ1, h1, d, r1, p1, q1⟩⟩
    obtain ⟨φ', e', h', he', hr', q'⟩ := hn.rd σ H _ z
    refine ⟨φ', e', h', he', hr', q'.mono fun zs H1 ⟨hl, φ1, h1, es, r1, p1, q1⟩ => ⟨rfl, hl, fun x dx hx hdx hne => ?_⟩⟩
    split at q1
    · rename_i ws hw
      obtain ⟨hnp, vs, e1, e2⟩ := hsl φ1 H1 x zs es ws hl p1 hw
      have := make_rd (np := np) (by rw [e2.length, hnp]) r1 e2 q1 x dx hx hdx hne
      rw [show gV (.ref x :: []) zs = .ref x :: vs from e1]
      exact this
    · exact q1.elim
end
end Bp
end

section
set_option linter.all false
set_option maxRecDepth 100000
set_option maxHeartbeats 0
set_option linter.all false
set_option maxRecDepth 100000
set_option autoImplicit false
set_option maxHeartbeats 2000000
namespace Bp
open PySem PySem.Spec PyProof.Rows L2
section
variable {prog : Program} {w : World} {A : Around} {E : Value → Shared → Prop} {d : Addr}
theorem ns_one {s : Shared} {es : List DictEntry} {n : Nat} {k : Str} {v : Value} {Q : Unit → Shared → Prop} (D : s.heap.get? d = some (PySem.W.dictOf es n)) (hs : ∀ e ∈ es, e.key.isStr k = false) (hr : ∀ e ∈ es, e.refKey = false)
    (h : ∀ h', h'.get? d = some (PySem.W.dictOf (es ++ [⟨PyData.keyHash w.params k, .str k s.toks, v⟩]) (n + 1)) → (∀ b o, b ≠ d → s.heap.get? b = some o → h'.get? b = some o) → h'.objs.size = s.heap.objs.size → Q () { s with heap := h', toks := s.toks + 1 }) :
    wpAny (model prog w) A (nsSet d k v) Q E s := by
  have e1 : es.any (·.key.isStr k) = false := by
    cases q : es.any (·.key.isStr k) with
    | false => rfl
    | true => obtain ⟨e, he, z⟩ := List.any_eq_true.mp q; rw [hs e he] at z; cases z
  have e2 : es.any (·.refKey) = false := by
    cases q : es.any (·.refKey) with
    | false => rfl
    | true => obtain ⟨e, he, z⟩ := List.any_eq_true.mp q; rw [hr e he] at z; cases z
  have e : Obj.putName k (PyData.keyHash w.params k) (.str k s.toks) v (PySem.W.dictOf es n) = PySem.W.dictOf (es ++ [⟨PyData.keyHash w.params k, .str k s.toks, v⟩]) (n + 1) := by
    rw [PySem.W.putName_dict, PySem.W.putL_new hs]
    show PySem.W.dictOf _ (if es.any (·.key.isStr k) then n else n + 1) = _
    rw [e1, if_neg Bool.false_ne_true]
  have c : aRefKeyMayBeTheName k es.toArray = false := by
    rw [aRefKeyMayBeTheName_at, ← Array.any_toList, ← Array.any_toList]
    show (!es.any (·.key.isStr k) && es.any (·.refKey)) = false
    rw [e2, Bool.and_false]
  have hc := PySem.Froz.upd_const (Obj.putName k (PyData.keyHash w.params k) (.str k s.toks) v) D
  rw [e] at hc
  unfold nsSet
  refine wpAny_bind (wpAny_bind (wpAny_askSetting (wpAny_pure (wpAny_bind (wpAny_mkText (wpAny_bind (wpAny_loadPart D ?_)))))))
  dsimp only
  rw [c]
  refine wpAny_updatePart D ?_
  show Q () { s with heap := s.heap.update d (Obj.putName k (PyData.keyHash w.params k) (.str k s.toks) v), toks := s.toks + 1 }
  rw [hc]
  exact h _ (PySem.Froz.get_upd _ D rfl) (fun b o hb e => by rw [Heap.get?_update_ne _ _ _ _ hb]; exact e) (Heap.size_after_update ..)
theorem ns_fill {Q : PUnit → Shared → Prop} : ∀ (ex : List (Str × Value)) (s : Shared) (es : List DictEntry) (n : Nat), s.heap.get? d = some (PySem.W.dictOf es n) →
    (∀ e ∈ es, ∀ x ∈ ex, e.key.isStr x.1 = false) → (∀ e ∈ es, e.refKey = false) → (ex.map (·.1)).Nodup →
    (∀ h', h'.get? d = some (PySem.W.dictOf (es ++ PySem.W.kwEs w.params s.toks ex) (n + ex.length)) → (∀ b o, b ≠ d → s.heap.get? b = some o → h'.get? b = some o) → h'.objs.size = s.heap.objs.size → Q ⟨⟩ { s with heap := h', toks := s.toks + ex.length }) →
    wpAny (model prog w) A (forIn ex PUnit.unit fun x _ => (nsSet d x.1 x.2 >>= fun _ => pure (ForInStep.yield PUnit.unit))) Q E s
  | [], s, es, n, D, _, _, _, h => by
    rw [List.forIn_nil]
    refine wpAny_pure (h s.heap ?_ (fun _ _ _ e => e) rfl)
    show s.heap.get? d = some (PySem.W.dictOf (es ++ []) n)
    rw [List.append_nil]
    exact D
  | x :: r, s, es, n, D, hs, hr, hn, h => by
    obtain ⟨hn1, hn2⟩ := List.nodup_cons.mp (show (x.1 :: r.map (·.1)).Nodup from hn)
    rw [List.forIn_cons]
    refine wpAny_bind (wpAny_bind (ns_one D (fun e he => hs e he x (.head _)) hr fun h' D' k' z' => wpAny_pure ?_))
    show wpAny (model prog w) A (forIn r PUnit.unit fun x _ => (nsSet d x.1 x.2 >>= fun _ => pure (ForInStep.yield PUnit.unit))) Q E { s with heap := h', toks := s.toks + 1 }
    refine ns_fill r { s with heap := h', toks := s.toks + 1 } _ _ D' (fun e he y hy => ?_) (fun e he => ?_) hn2 fun h'' D'' k'' z'' => ?_
    · rcases List.mem_append.mp he with he | he
      · exact hs e he y (.tail _ hy)
      · obtain rfl := List.mem_singleton.mp he
        show (x.1 == y.1) = false
        exact beq_eq_false_iff_ne.mpr fun q => hn1 (by rw [q]; exact List.mem_map_of_mem hy)
    · rcases List.mem_append.mp he with he | he
      · exact hr e he
      · obtain rfl := List.mem_singleton.mp he
        rfl
    · have t1 : s.toks + 1 + r.length = s.toks + (r.length + 1) := by omega
      have t2 : n + 1 + r.length = n + (r.length + 1) := by omega
      show Q ⟨⟩ { s with heap := h'', toks := s.toks + 1 + r.length }
      rw [t1]
      have := h h''
      rw [List.length_cons] at this
      refine this ?_ (fun b o hb e => k'' b o hb (k' b o hb e)) (z''.trans z')
      rw [← t2]
      rw [List.append_assoc] at D''
      exact D''
theorem kw_pairs : ∀ (ex : List (Str × Value)) (t : Tok), Pairs (mixKind prog w) (PySem.W.kwEs w.params t ex) (ex.map fun p => (Sum.inr p.1, p.2))
  | [], _ => Pairs.nil
  | x :: r, t => Pairs.cons (keyIs_str x.1 t) rfl (kw_pairs r (t + 1))
theorem kw_mix (ex : List (Str × Value)) (t : Tok) (n : Nat) (hn : (ex.map (·.1)).Nodup) {h : Heap} (D : h.get? d = some (PySem.W.dictOf (PySem.W.kwEs w.params t ex) n)) : h.DictOf (mixKind prog w) d (ex.map fun p => (Sum.inr p.1, p.2)) := by
  refine ⟨_, (PySem.W.kwEs w.params t ex).toArray, n, D, ⟨rfl, rfl, rfl⟩, rfl, fun e he => ?_, kw_pairs ex t, ?_⟩
  · obtain ⟨k, u, hk, hh⟩ := PySem.W.kwEs_key ex t e (List.mem_toArray.mp he)
    exact ⟨Sum.inr k, by rw [hk]; exact keyIs_str k u, hh.trans rfl⟩
  · rw [List.map_map]
    have : ((fun x : Key × Value => x.1) ∘ fun p : Str × Value => ((Sum.inr p.1 : Key), p.2)) = (fun x : Str => (Sum.inr x : Key)) ∘ fun p : Str × Value => p.1 := rfl
    rw [this, ← List.map_map]
    exact List.pairwise_map.mpr (hn.imp fun h z => h (Sum.inr.inj z))
end
theorem zip_kv : ∀ {ks : List Str} {zs : List V} {ws : List Value}, Vals zs ws → KV ((ks.zip zs).map fun p => ((Sum.inr p.1 : Key), p.2)) ((ks.zip ws).map fun p => ((Sum.inr p.1 : Key), p.2))
  | [], _, _, _ => .nil
  | k :: ks, _, _, .nil => .nil
  | k :: ks, _, _, .cons h t => .cons ⟨rfl, h⟩ (zip_kv t)
section
variable {CX : CXT} {P : Program} {w : World} {K : PySem.W.Frag} {mg : Str → Option Value} {base : Heap} {k : Nat} {f : Addr} {name qual : Str} {params : Arguments} {body : List Stmt} {scope : Scope} {dV kV doc pm cdv ct oc : Value} {an od : Option Addr}
  {osl : Array (Option Value)} {N ps ks : List Str} {sp : Sp} {pd : Str}
theorem fn_more (lk : K.lookup f = some ⟨oc, od, .func (PySem.W.fnOf name qual params body scope dV kV doc pm an cdv ct), osl⟩) (hcd : PySem.W.codeIn K cdv qual = true) (S : FnScope N (ps ++ [pd]) scope) (hCX : StX.CXUp CX) (hks : ks.Nodup) (hksz : ks.length ≤ 1000)
    (hb : ∀ us ws : List Value, us.length = ps.length → ws.length = ks.length → bindArgs (PySem.W.fnOf name qual params body scope dV kV doc pm an cdv ct) ⟨us, ks.zip ws⟩ =
      ((PySem.alloc ({ cls := .type "dict", data := .dict #[] } : Obj) : Sem Addr) >>= fun d => (forIn (ks.zip ws) PUnit.unit fun x _ => (nsSet d x.1 x.2 >>= fun _ => pure (ForInStep.yield PUnit.unit))) >>= fun _ => pure (ps.zip us ++ [(pd, Value.ref d)])))
    (hbody : ∀ (A : Around) (outer : List PySem.Env) (s : Shared) (H : Hp) (vs : List V) (Q : VK) (E : XK), Room k (A.deeper (envOfC qual scope s.heap.objs.size f cdv)) → sp vs H Q E →
      ∃ t, PSs (cxOf CX P w K mg base N qual scope f cdv A outer s H E) body t ∧ t { nx := fun _ H' => Q .non H', rt := Q } (L2.start N vs) H)
    (A : Around) (outer : List PySem.Env) (s : Shared) (H : Hp) (us ws : List Value) (vs zs : List V) (Q : VK) (E : XK) (hr : Room (k + 1) A) (e0 : Env0 P w K mg base A outer s H) (r : Vals vs us) (rz : Vals zs ws) (hl : vs.length = ps.length) (hz : zs.length = ks.length)
    (hsp : ∀ d, H d = none → sp (vs ++ [V.ref d]) (upd H d (.dK ((ks.zip zs).map fun p => (Sum.inr p.1, p.2)))) Q E) :
    codeAny (model P w) A (.call (.ref f) ⟨us, ks.zip ws⟩) (CR CX outer P w H s Q E) s := by
  have hn : H s.heap.objs.size = Option.none := e0.hok.fresh (Nat.le_refl _)
  have hl1 : us.length = ps.length := by rw [← r.length]; exact hl
  have hw1 : ws.length = ks.length := by rw [← rz.length]; exact hz
  have hnd : ((ks.zip ws).map (·.1)).Nodup := by
    rw [show ((ks.zip ws).map (·.1)) = (ks.zip ws).map Prod.fst from rfl, List.map_fst_zip (by omega)]
    exact hks
  refine StX.run_bnd lk hcd S hr e0 (G := fun xs H2 => ∃ d, H d = Option.none ∧ xs = vs ++ [V.ref d] ∧ H2 = upd H d (.dK ((ks.zip zs).map fun p => (Sum.inr p.1, p.2)))) (fun A' Ex Q' h => ?_) fun s2 H2 xs ⟨d, hd, ex, eH⟩ hr' => ?_
  · rw [hb us ws hl1 hw1]
    have D0 : (s.heap.push ({ cls := .type "dict", data := .dict #[] } : Obj)).get? s.heap.objs.size = some (PySem.W.dictOf [] 0) := Heap.get?_push_size _ rfl
    refine wpAny_bind (wpAny_alloc (wpAny_bind (ns_fill (ks.zip ws) { s with heap := s.heap.push ({ cls := .type "dict", data := .dict #[] } : Obj) } [] 0 D0 (fun e he => by cases he) (fun e he => by cases he) hnd fun h' D' k' z' => wpAny_pure ?_)))
    have dd := kw_mix (prog := P) (ks.zip ws) s.toks (0 + (ks.zip ws).length) hnd D'
    have hsz : (s.heap.objs.size == sysModules) = false := beq_eq_false_iff_ne.mpr (Ne.symm (Nat.ne_of_lt (StX.env0_big e0)))
    have hlen : ((ks.zip zs).map fun p => ((Sum.inr p.1 : Key), p.2)).length ≤ sizeLine := by
      rw [List.length_map, List.length_zip, sizeLine_eq]
      omega
    have kp : ∀ b o, s.heap.get? b = some o → h'.get? b = some o := fun b o e => k' b o (Nat.ne_of_lt (Heap.lt_size e)) (Heap.get?_push_of_some _ e)
    have new : ObjOk P w (upd H s.heap.objs.size (.dK ((ks.zip zs).map fun p => (Sum.inr p.1, p.2)))) h' s.heap.objs.size (.dK ((ks.zip zs).map fun p => (Sum.inr p.1, p.2))) := dk_new hlen hsz (zip_kv rz) dd
    have un : Un (frs outer) [] H (upd H s.heap.objs.size (.dK ((ks.zip zs).map fun p => (Sum.inr p.1, p.2)))) s.heap h' := Un.laid kp (Nat.le_refl _) hn
    have e2 : Env0 P w K mg base A outer { s with heap := h', toks := s.toks + (ks.zip ws).length } (upd H s.heap.objs.size (.dK ((ks.zip zs).map fun p => (Sum.inr p.1, p.2)))) := by
      refine ⟨e0.frames, e0.mod, fun b x e => ⟨kp b x (e0.bs b x e).1, ?_⟩, ?_, Heap.FunFrames.of_keeps (fun b x e _ => ⟨x, kp b x e, rfl⟩) e0.funs, fun b hb => ?_, e0.hok.laid kp (Nat.le_refl _) new, e0.bare⟩
      · rw [upd_ne (Nat.ne_of_lt (Heap.lt_size (e0.bs b x e).1))]
        exact (e0.bs b x e).2
      · show base.objs.size ≤ h'.objs.size
        rw [z']
        show base.objs.size ≤ (s.heap.push _).objs.size
        rw [Heap.size_push]
        exact Nat.le_succ_of_le e0.bsz
      · obtain ⟨_, x, hx, _⟩ := e0.funs.mem hb
        rw [upd_ne (Nat.ne_of_lt (Heap.lt_size hx))]
        exact e0.frf b hb
    have z := h _ _ (vs ++ [V.ref s.heap.objs.size]) (us ++ [Value.ref s.heap.objs.size]) e2 un rfl (fun e s' => hCX outer s H _ _ E e s' un kp rfl) (r.append (.cons rfl .nil))
      (by rw [List.length_append, List.length_append, hl] <;> rfl) ⟨_, hn, rfl, rfl⟩
    rw [List.zip_append hl1.symm] at z
    exact z
  · subst ex eH
    exact hbody A outer s2 _ _ Q E hr' (hsp d hd)
end
end Bp
end

section
set_option linter.all false
set_option maxRecDepth 100000
set_option maxHeartbeats 0
set_option linter.all false
set_option maxRecDepth 100000
set_option autoImplicit false
set_option maxHeartbeats 2000000
namespace Bp
open PySem PySem.Spec PyProof.Rows L2
def kwD : List Str → List D → List (D × D)
  | k :: ks, v :: vs => (.str k, v) :: kwD ks vs
  | _, _ => []
def kwL (ks : List Str) (zs : List V) : List (Key × V) := (ks.zip zs).map fun p => (Sum.inr p.1, p.2)
theorem kw_rel {φ : List Addr} {H : Hp} : ∀ {ks : List Str} {vs : List D} {zs : List V}, RpL φ H vs zs → RpK φ H (kwD ks vs) (kwL ks zs)
  | [], vs, zs, h => by unfold kwD; exact rfl
  | k :: ks, [], zs, h => by rw [show zs = [] from h]; exact rfl
  | k :: ks, v :: vs, zs, h => by
    obtain ⟨x, r, rfl, h1, h2⟩ := h
    exact ⟨(Sum.inr k, x), kwL ks r, rfl, rfl, h1, kw_rel h2⟩
def mMethMore (tb : List (Nat × Nat)) (m : Nat) (ks : List Str) (o : ME) (a : MA) : ME := fun g e h => (o g e h).bind fun x h1 => match x with
  | .ref n => match h1[n]? with
    | some (.ins c fs) => match tb.lookup c with
      | some f => match fs.lookup m with
        | none => (a g e h1).bind fun vs h2 => g.call f [x, .ref h2.length] (h2 ++ [.dk (kwD ks vs)])
        | some _ => .bad
      | none => .bad
    | _ => .bad
  | _ => .bad
def FnM (P : Program) (w : World) (K : PySem.W.Frag) (mg : Str → Option Value) (base : Heap) (k : Nat) (f : Addr) (n : Nat) (ks : List Str) (sp : Sp) : Prop :=
  ∀ (A : Around) (outer : List PySem.Env) (s : Shared) (H : Hp) (us ws : List Value) (vs zs : List V) (Q : VK), Room k A → Env0 P w K mg base A outer s H → Vals vs us → Vals zs ws → vs.length = n → zs.length = ks.length →
    (∀ d, H d = none → sp (vs ++ [V.ref d]) (upd H d (.dK (kwL ks zs))) Q E0) → codeAny (model P w) A (.call (.ref f) ⟨us, ks.zip ws⟩) (CR CX0 outer P w H s Q E0) s
section
variable {X : Cx} {R : Rx} {g : Gm} {o : Expr} {m1 : ME} {ar : MA} {pos apos : Pos} {k : Nat} {f : Addr} {ks : List Str} {kws : List Keyword}
theorem b_methMore {pl : Sem Bool} {i mi c : Nat} {m : Str} (nd : R.an.Nodup) (hmi : R.an[mi]? = some m) (ho : PE X o (tE R noX g m1)) (cl : Cls X.K (R.ca c)) (hm : Meth X.K (R.ca c) m f) (F : FnM X.prog X.w X.K X.mg X.base k f 1 ks (spF R 2 (g.call i))) (hr : Room k X.A)
    (hkw : PK X kws (tA R noX g ar)) (hn : AN R g ar ks.length)
    (hall : (backToKw pos (keywordEach kws X.env)).all (·.1.isSome) = true) (hks : (backToKw pos (keywordEach kws X.env)).filterMap (·.1) = ks)
    (hpl : ((backTo pos (starEach [] X.env)).any (·.1) || (backToKw pos (keywordEach kws X.env)).any (·.1.isNone)) = false)
    (ht : eval (.Call (.Attribute o m apos) [] kws pos) X.env = (do
      let ov ← eval o X.env
      standAt apos.atName
      let (f, first) ← holding [ov] (getMethod ov m pl)
      callWith pos f first (backTo pos (starEach [] X.env)) (backToKw pos (keywordEach kws X.env)))) :
    PE X (.Call (.Attribute o m apos) [] kws pos) (tE R noX g (mMethMore [(c, i)] mi ks m1 ar)) := by
  refine ⟨fun pins s σ H Q I ⟨φ, e, h, he, hr0, q⟩ => ?_⟩
  refine PySem.W.methodCall_KW (pl := pl) (thn (ho.run pins s σ H _ I ⟨φ, e, h, he, hr0, OutE.bind q⟩) fun u s1 ⟨x, H1, I1, rx, φ1, d, h1, x1, r1, p1, q1⟩ => ?_) ht
  split at q1
  · rename_i n
    split at q1
    · rename_i c' fs e1
      split at q1
      · rename_i f' e2
        split at q1
        · rename_i e3
          obtain ⟨a, f1, rfl⟩ := p1
          obtain ⟨a', f2, dx, fv, f3, f4⟩ := r1.addr e1
          cases get_eq f1 f2
          have : c' = c ∧ f' = i := by
            simp [List.lookup_cons] at e2
            split at e2
            · rename_i hc; cases e2; exact ⟨by simpa using hc, rfl⟩
            · cases e2
          obtain ⟨rfl, rfl⟩ := this
          obtain rfl : u = Value.ref a := rx
          refine getmeth_ok I1 f3 cl hm ((f4.look nd hmi).2 e3) ?_
          have z : tA R noX g ar σ H1 (fun zs H2 => ∃ φ2 h2 ds, Ext φ1 H1 φ2 H2 ∧ HRel R φ2 H2 h2 ∧ RpL φ2 H2 ds zs ∧ OutE R noX φ2 H2 σ Q (g.call f' [.ref n, .ref h2.length] (h2 ++ [.dk (kwD ks ds)]))) :=
            ⟨φ1, e, h1, he.ext x1, r1, (OutA.bind q1).mono fun xs H2 ⟨φ2, d, h2, x2, r2, p2, q2⟩ => ⟨φ2, h2, d, x2, r2, p2, q2⟩⟩
          refine PySem.W.callWith_KW0 (first := [.ref a]) (h₀ := X.base) I.ok.mod.kin hm.kp hall (thn (hkw.run pos pins s1 σ H1 _ I1 (hn.rd σ H1 _ z)) fun ws s2 ⟨zs, H2, I2, rz, hl, φ2, h2, ds, x2, r2, p2, q2⟩ => ⟨I2.kIn, ?_⟩) hpl
          rw [hks]
          refine wpAny_call (codeAny_mono (F X.A X.stack s2 H2 [.ref a] ws [.ref a] zs Q hr I2.env0 (.cons rfl .nil) rz rfl hl fun dd hd => ?_) fun r s' hq => ?_)
          · have x3 : Ext φ2 H2 (φ2 ++ [dd]) (upd H2 dd (.dK (kwL ks zs))) := ext_push hd
            have r3 : HRel R (φ2 ++ [dd]) (upd H2 dd (.dK (kwL ks zs))) (h2 ++ [.dk (kwD ks ds)]) := r2.push hd ⟨_, upd_same, RpK.ext x3 (kw_rel p2)⟩
            have hdd : (φ2 ++ [dd])[h2.length]? = some dd := by rw [← r2.len]; simp
            exact ⟨rfl, φ2 ++ [dd], h2 ++ [.dk (kwD ks ds)], [.ref n, .ref h2.length], r3, ⟨_, _, rfl, ⟨a, pre_get (x2.trans x3).pre f1, rfl⟩, _, _, rfl, ⟨dd, hdd, rfl⟩, rfl⟩, (q2.ext x3).noσ⟩
          · cases r with
            | error e => exact False.elim hq
            | ok fl =>
              cases fl with
              | ret u => exact I2.after hq
              | next => exact False.elim hq
              | brk => exact False.elim hq
              | cont => exact False.elim hq
        · exact q1.elim
      · exact q1.elim
    · exact q1.elim
  · exact q1.elim
end
end Bp
end

section
set_option linter.all false
set_option maxRecDepth 100000
set_option maxHeartbeats 0
set_option linter.all false
set_option maxRecDepth 100000
set_option autoImplicit false
set_option maxHeartbeats 2000000
namespace Bp
open PySem PySem.Spec PyProof.Rows L2
section
variable {prog : Program} {w : World} {A : Around} {E : Value → Shared → Prop} {s : Shared}
theorem put_new {d : Addr} {kvs : List (Key × Value)} {k : Key} {key v : Value} {Q : Unit → Shared → Prop} (hkey : keyIs k key = true) (hm : s.heap.DictOf (mixKind prog w) d kvs) (hnot : k ∉ kvs.map (·.1))
    (hQ : ∀ h', h'.DictOf (mixKind prog w) d (kvs ++ [(k, v)]) → Heap.SameBut d s.heap h' → Q () { s with heap := h' })
    (hsz : kvs.length ≤ sizeLine) :
    wpAny (model prog w) A (dictPut d (keyH w k) key v) Q E s := by
  obtain ⟨o, es, ep, ho, hc, hd, hk, hp, hn⟩ := hm
  have hes : es.size ≤ sizeLine := by have e1 := hp.length; have e2 : es.toList.length = es.size := by simp
                                      omega
  unfold dictPut
  refine wpAny_bind (wpAny_dictFind_of (knd := mixKind prog w) hkey ho hd hk ?_)
  have hidx : (es.findIdx? fun e => (mixKind prog w).is k e.key) = kvs.findIdx? fun kv => decide (kv.1 = k) := by
    rw [← hp.findIdx k]; obtain ⟨l⟩ := es; simp
  cases hi : es.findIdx? fun e => (mixKind prog w).is k e.key with
  | some i =>
    have := any_of_findIdx_some (hidx ▸ hi)
    obtain ⟨kv, hkv, he⟩ := List.any_eq_true.mp this
    exact (hnot (List.mem_map.mpr ⟨kv, hkv, of_decide_eq_true he⟩)).elim
  | none =>
    refine wpAny_updateDictKeys (hz := hes) ho hd (hQ _ ⟨_, _, ep + 1, Heap.get?_update_self _ ho (Obj.isFreed_of_dict (Obj.data_mapDictKeys hd _)),
      hc.mapDictKeys _, Obj.data_mapDictKeys hd _, hk.push (knd := mixKind prog w) hkey _, ?_, ?_⟩ (Heap.SameBut.update ..))
    · have := hp.append (knd := mixKind prog w) hkey (keyH w k) v
      obtain ⟨l⟩ := es
      simpa using this
    · rw [List.map_append, List.nodup_append]
      refine ⟨hn, by simp, ?_⟩
      intro a ha b hb
      simp only [List.map_cons, List.map_nil, List.mem_singleton] at hb
      subst hb
      exact fun e => hnot (e ▸ ha)
theorem merge_map {d o : Addr} {more : List (Key × Value)} {Q : Unit → Shared → Prop} (hdo : d ≠ o) (hoS : (o == sysModules) = false)
    (hd : s.heap.DictOf (mixKind prog w) d []) (ho : s.heap.DictOf (mixKind prog w) o more)
    (hQ : ∀ h', h'.DictOf (mixKind prog w) d more → h'.DictOf (mixKind prog w) o more → Heap.SameBut d s.heap h' → Q () { s with heap := h' })
    (hsz : more.length ≤ sizeLine) :
    wpAny (model prog w) A (mergeMapping d (.ref o) true) Q E s := by
  obtain ⟨od, esd, epd, hod, hcd, hdd, hkd, hpd, hnd⟩ := id hd
  obtain ⟨oo, eso, epo, hoo, hco, hdo', hko, hpo, hno⟩ := id ho
  have hesd : esd = #[] := by
    have := hpd.length
    exact Array.eq_empty_of_size_eq_zero (by simpa using this)
  have hlen : more.length = eso.size := by rw [← hpo.length]; simp
  unfold mergeMapping
  refine wpAny_bind (wpAny_isInstance ho.typeIs isSubtype_dict_dict ?_)
  rw [if_pos rfl]
  refine wpAny_bind (wpAny_specialOf ho.typeIs F.slot_dict_iter.lookup (wpAny_bind (wpAny_pure ?_)))
  simp only [beq_self_eq_true]
  rw [if_neg (by rw [hoS]; exact Bool.false_ne_true)]
  refine wpAny_bind (wpAny_dictEntries hod hdd ?_)
  subst hesd
  rw [if_pos (show (#[] : Array DictEntry).isEmpty = true from rfl)]
  refine wpAny_bind (wpAny_dictEntries hoo hdo' ?_)
  have hloop : (forIn eso PUnit.unit fun e (_ : PUnit) => (match e.key with
      | Value.ref a => do
        if ((← specialOf e.key "__eq__") != some (Value.builtin "object.__eq__")) = true then
          if (Array.filter (fun x => x.hash == e.hash) eso).size > 1 then do
            (unsupported "dict.merge-into-an-empty-dict:keys-of-equal-hash" : Sem PUnit)
            pure (ForInStep.yield PUnit.unit)
          else pure (ForInStep.yield PUnit.unit)
        else pure (ForInStep.yield PUnit.unit)
      | x => pure (ForInStep.yield PUnit.unit) : Sem (ForInStep PUnit))) = pure PUnit.unit := by
    rw [← Array.forIn_toList]
    refine forIn_yield_id _ fun e he c => ?_
    obtain ⟨k, hkey, _⟩ := hko e (Array.mem_toList_iff.mp he)
    rcases keyIs_shape hkey with ⟨i, t, _, e1⟩ | ⟨x, t, _, e1⟩ <;> rw [e1]
  refine wpAny_bind (wpAny_of_eq hloop ?_)
  refine wpAny_bind (wpAny_dictEntries hoo hdo' ?_)
  refine wpAny_bind (wpAny_dictEpoch hoo hdo' ?_)
  refine wpAny_bind ?_
  rw [List.range_eq_range']
  refine wpAny_forIn_list _
    (fun rest _ s' => ∃ h' i, s' = { s with heap := h' } ∧ rest = List.range' i (eso.size - i) ∧ i ≤ eso.size ∧ h'.DictOf (mixKind prog w) d (more.take i) ∧ h'.get? o = some oo ∧ Heap.SameBut d s.heap h')
    _ ?_ ?_ _ _ ⟨s.heap, 0, rfl, by simp, Nat.zero_le _, by simpa using hd, hoo, Heap.SameBut.refl _ _⟩
  · rintro x rest b s' ⟨h', i, rfl, hr, hi, hd', hoo', hs'⟩
    have hlt : i < eso.size := by
      rcases Nat.lt_or_ge i eso.size with h | h
      · exact h
      · rw [Nat.sub_eq_zero_of_le h] at hr; simp at hr
    obtain ⟨rfl, hrest⟩ : x = i ∧ rest = List.range' (i + 1) (eso.size - (i + 1)) := by
      have e : eso.size - i = (eso.size - (i + 1)) + 1 := by omega
      rw [e, List.range'_succ] at hr
      injection hr with h1 h2
      exact ⟨h1, h2⟩
    refine wpAny_bind (wpAny_dictEntries hoo' hdo' ?_)
    rw [Array.getElem?_eq_getElem hlt]
    obtain ⟨kv, hkv⟩ : ∃ kv, more[x]? = some kv := ⟨more[x]'(by rw [hlen]; exact hlt), List.getElem?_eq_getElem _⟩
    obtain ⟨k, v⟩ := kv
    obtain ⟨hkey, hval⟩ := hpo.get? (e := eso[x]) (by simp [hlt]) hkv
    obtain ⟨k', hkey', hhash⟩ := hko eso[x] (Array.getElem_mem hlt)
    obtain rfl : k' = k := (mixKind prog w).inj _ _ _ hkey' hkey
    have hnew : k' ∉ (more.take x).map (·.1) := by
      intro hin
      have e1 : more.take (x + 1) = more.take x ++ [(k', v)] := by rw [List.take_add_one, hkv]; rfl
      have e2 : ((more.take (x + 1)).map (·.1)).Nodup := (List.map_take (l := more) (f := (·.1)) (i := x + 1) ▸ hno.sublist (List.take_sublist _ _))
      rw [e1, List.map_append, List.nodup_append] at e2
      exact e2.2.2 _ hin _ (by simp) rfl
    have hmx : (more.take x).length ≤ sizeLine := by
      rw [List.length_take]; omega
    obtain ⟨od', esd', epd', hod', hcd', hdd', hkd', hpd', hnd'⟩ := id hd'
    refine wpAny_bind (wpAny_holding ?_)
    rw [if_pos trivial, hhash, hval]
    refine wpAny_bind (wpAny_dictFind_of (knd := mixKind prog w) hkey hod' hdd' hkd' ?_)
    have hidx : (esd'.findIdx? fun e => (mixKind prog w).is k' e.key) = none := by
      have h0 : (esd'.findIdx? fun e => (mixKind prog w).is k' e.key) = (more.take x).findIdx? fun kv => decide (kv.1 = k') := by
        rw [← hpd'.findIdx k']; obtain ⟨l⟩ := esd'; simp
      rw [h0, List.findIdx?_eq_none_iff]
      intro kv hkv
      exact decide_eq_false fun e => hnew (List.mem_map.mpr ⟨kv, hkv, e⟩)
    rw [hidx, if_neg (by simp)]
    refine put_new hkey hd' hnew (fun h'' hd'' hs'' => ?_) hmx
    have hoo'' : h''.get? o = some oo := (hs''.2 o (Ne.symm hdo)).trans hoo'
    refine wpAny_bind (wpAny_dictEpoch hoo'' hdo' ?_)
    rw [if_neg (by simp)]
    exact wpAny_pure ⟨h'', x + 1, rfl, hrest, hlt, by rw [List.take_add_one, hkv]; exact hd'', hoo'', hs'.trans hs''⟩
  · rintro b s' ⟨h', i, rfl, hr, hi, hd', hoo', hs'⟩
    have hin : i = eso.size := by
      rcases Nat.lt_or_ge i eso.size with h | h
      · have e : eso.size - i = (eso.size - (i + 1)) + 1 := by omega
        rw [e, List.range'_succ] at hr; exact nomatch hr
      · exact Nat.le_antisymm hi h
    refine wpAny_pure (hQ h' ?_ ⟨oo, eso, epo, hoo', hco, hdo', hko, hpo, hno⟩ hs')
    rw [hin, ← hlen, List.take_length] at hd'; exact hd'
theorem kw_read {f : Value} : ∀ {es : List DictEntry} {l : List (Str × Value)} {Q : List (Str × Value) → Shared → Prop} (acc : List (Str × Value)) (body : DictEntry → List (Str × Value) → Sem (ForInStep (List (Str × Value)))), (∀ e x t acc, e.key = .str x t → body e acc = pure (ForInStep.yield (acc ++ [(x, e.val)]))) → Pairs (mixKind prog w) es (l.map fun p => ((Sum.inr p.1 : Key), p.2)) → Q (acc ++ l) s →
    wpAny (model prog w) A (forIn es acc body) Q E s
  | [], [], Q, acc, body, hb, hp, h => by
    rw [List.forIn_nil]
    refine wpAny_pure ?_
    simpa using h
  | e :: es, [], Q, acc, body, hb, hp, h => by have := hp.length; simp at this
  | [], q :: l, Q, acc, body, hb, hp, h => by have := hp.length; simp at this
  | e :: es, (x, v) :: l, Q, acc, body, hb, hp, h => by
    cases hp with
    | cons hk hv hr =>
      rcases keyIs_shape (k := Sum.inr x) (v := e.key) hk with ⟨i, t, e1, _⟩ | ⟨y, t, e1, e2⟩
      · cases e1
      · cases e1
        rw [List.forIn_cons, hb e _ t acc e2]
        refine wpAny_bind (wpAny_pure ?_)
        refine kw_read (f := f) (acc ++ [(x, e.val)]) body hb hr ?_
        rw [hv]
        simpa using h
theorem kw_in {f : Value} {d : Addr} {l : List (Str × Value)} {Q : List (Str × Value) → Shared → Prop} (hd : s.heap.DictOf (mixKind prog w) d (l.map fun p => ((Sum.inr p.1 : Key), p.2))) (h : Q l s) : wpAny (model prog w) A (keywordsIn f d) Q E s := by
  obtain ⟨od, esd, epd, hod, hcd, hdd, hkd, hpd, hnd⟩ := id hd
  unfold keywordsIn
  refine wpAny_bind (wpAny_dictEntries hod hdd ?_)
  rw [← Array.forIn_toList]
  refine wpAny_bind (kw_read (f := f) (l := l) [] _ (fun e x t acc he => ?_) hpd (wpAny_pure ?_))
  · rw [he]
  · simpa using h
theorem merged_one {f : Value} {x : Sem Value} {Q : Addr → Shared → Prop}
    (h : wpAny (model prog w) A x (fun v s1 => ∃ o more, v = .ref o ∧ s.heap.objs.size ≠ o ∧ (o == sysModules) = false ∧ s1.heap.DictOf (mixKind prog w) s.heap.objs.size [] ∧ s1.heap.DictOf (mixKind prog w) o more ∧ more.length ≤ sizeLine ∧
      (∀ h', h'.DictOf (mixKind prog w) s.heap.objs.size more → Heap.SameBut s.heap.objs.size s1.heap h' → Q s.heap.objs.size { s1 with heap := h' })) E { s with heap := s.heap.push { cls := .type "dict", data := .dict #[] } }) :
    wpAny (model prog w) A (mergedKeywords f [(none, x)]) Q E s := by
  unfold mergedKeywords
  refine wpAny_bind (wpAny_alloc ?_)
  refine wpAny_bind (wpAny_holding ?_)
  dsimp only
  refine wpAny_bind ?_
  rw [List.forIn_cons]
  dsimp only
  rw [if_pos (show ([] : List (Str × Sem Value)).isEmpty = true from rfl)]
  refine wpAny_bind ?_
  refine wpAny_bind (wpAny_pure ?_)
  refine wpAny_bind (wpAny_mono h (fun v s1 ⟨o, more, ev, hne, hos, hd, ho, hsz, hq⟩ => ?_) fun _ _ e => e)
  subst ev
  refine wpAny_bind (wpAny_onRaise (wpAny_holding (wpAny_tryCatch (wpAny_onRaise (merge_map hne hos hd ho (fun h' hd' ho' hs' => ?_) hsz)))))
  refine wpAny_pure ?_
  dsimp only
  rw [List.forIn_nil]
  refine wpAny_pure ?_
  rw [if_pos (show ([] : List (Str × Sem Value)).isEmpty = true from rfl)]
  refine wpAny_pure ?_
  exact wpAny_pure (hq h' hd' hs')
theorem evalArgs_one {f : Value} {x : Sem Value} {Q : Args → Shared → Prop}
    (h : wpAny (model prog w) A x (fun v s1 => ∃ o l, v = .ref o ∧ s.heap.objs.size ≠ o ∧ (o == sysModules) = false ∧ s1.heap.DictOf (mixKind prog w) s.heap.objs.size [] ∧ s1.heap.DictOf (mixKind prog w) o (l.map fun p => ((Sum.inr p.1 : Key), p.2)) ∧ l.length ≤ sizeLine ∧
      (∀ h', h'.DictOf (mixKind prog w) s.heap.objs.size (l.map fun p => ((Sum.inr p.1 : Key), p.2)) → Heap.SameBut s.heap.objs.size s1.heap h' → Q ⟨[], l⟩ { s1 with heap := h' })) E { s with heap := s.heap.push { cls := .type "dict", data := .dict #[] } }) :
    wpAny (model prog w) A (evalArgs f true [] [(none, x)]) Q E s := by
  unfold evalArgs
  refine wpAny_bind ?_
  refine wpAny_pure (a := ([] : List Value)) ?_
  refine wpAny_bind (wpAny_pure ?_)
  refine wpAny_holding ?_
  dsimp only
  rw [if_neg (by simp)]
  refine wpAny_bind (merged_one (wpAny_mono h (fun v s1 ⟨o, l, ev, hne, hos, hd, ho, hsz, hq⟩ => ⟨o, _, ev, hne, hos, hd, ho, by rw [List.length_map]; exact hsz, fun h' hd' hs' => ?_⟩) fun _ _ e => e))
  refine wpAny_bind (wpAny_pure ?_)
  refine wpAny_bind (wpAny_holding (kw_in hd' ?_))
  exact wpAny_pure (hq h' hd' hs')
end
section
variable {M : Model} {A : Around} {E : Value → Shared → Prop} {s : Shared} {pos : Pos} {f : Value} {first : List Value} {Q : Value → Shared → Prop}
theorem callWith_star {P : Heap → Prop} {args : List (Bool × Sem Value)} {keywords : List (Option Str × Sem Value)} (hstar : (args.any (·.1) || keywords.any (·.1.isNone)) = true)
    (hk : ∀ h, P h → ∃ k, (k = Keeper.frame ∨ k = Keeper.machine ∨ k = Keeper.boundFrame) ∧ PySem.W.Looks M h (keeperOf f) k)
    (h : wpAny M A (evalArgs f true args keywords) (fun a s₁ => P s₁.heap ∧ wpAny M A (call f (first ++ a.pos) a.kw) Q E s₁) E s) : wpAny M A (callWith pos f first args keywords) Q E s := by
  unfold callWith
  refine wpAny_bind (wpAny_holding (wpAny_mono h (fun a s₁ h₁ => wpAny_bind (wpAny_standAt ?_)) fun _ _ x => x))
  obtain ⟨k, hk', L⟩ := hk _ h₁.1
  simp only [hstar]
  refine wpAny_bind (L.here ?_)
  have tail : ∀ {t : Sem Value}, wpAny M A t Q E s₁ → wpAny M A (t >>= fun r => holding [r] point >>= fun _ => pure r) Q E s₁ :=
    fun ht => wpAny_bind (wpAny_mono ht (fun r s₂ hr => wpAny_bind (wpAny_holding (wpAny_point (wpAny_pure hr)))) fun _ _ x => x)
  have marked (mk : Value) : wpAny M A (callMarked mk f (first ++ a.pos) a.kw) Q E s₁ := by unfold callMarked; exact Calls.wpAny_keep h₁.2
  rcases hk' with rfl | rfl | rfl <;> dsimp only <;> first | exact tail (marked _) | exact tail (wpAny_operateT h₁.2)
end
end Bp
end

section
set_option linter.all false
set_option maxRecDepth 100000
set_option maxHeartbeats 0
set_option linter.all false
set_option maxRecDepth 100000
set_option autoImplicit false
set_option maxHeartbeats 2000000
namespace Bp
open PySem PySem.Spec PyProof.Rows L2
def valsOf : List Str → List (D × D) → Option (List D)
  | [], [] => some []
  | k :: ks, (.str x, v) :: l => if x == k then (valsOf ks l).map (v :: ·) else none
  | _, _ => none
theorem vals_rel {φ : List Addr} {H : Hp} : ∀ {ks : List Str} {l : List (D × D)} {ds : List D} {xs : List (Key × V)}, valsOf ks l = some ds → RpK φ H l xs → ∃ zs, zs.length = ks.length ∧ RpL φ H ds zs ∧ xs = kwL ks zs
  | [], [], ds, xs, h, r => by
    unfold valsOf at h
    cases h
    exact ⟨[], rfl, rfl, r⟩
  | k :: ks, [], ds, xs, h, r => by unfold valsOf at h; cases h
  | [], q :: l, ds, xs, h, r => by unfold valsOf at h; cases h
  | k :: ks, (kd, v) :: l, ds, xs, h, r => by
    cases kd with
    | str x =>
      unfold valsOf at h
      split at h
      · rename_i hx
        obtain rfl : x = k := by simpa using hx
        cases hv : valsOf ks l with
        | none => rw [hv] at h; cases h
        | some ds' =>
          rw [hv] at h
          cases h
          obtain ⟨y, r', rfl, h1, h2, h3⟩ := r
          obtain ⟨zs, e1, e2, rfl⟩ := vals_rel hv h3
          have : keyOf (.str x) = some (Sum.inr x) := rfl
          rw [this] at h1
          refine ⟨y.2 :: zs, by simp [e1], ⟨y.2, zs, rfl, h2, e2⟩, ?_⟩
          show y :: kwL ks zs = (Sum.inr x, y.2) :: kwL ks zs
          rw [Option.some.inj h1]
      · cases h
    | _ => unfold valsOf at h; cases h
theorem kv_zip : ∀ {ks : List Str} {zs : List V} {vs : List (Key × Value)}, KV (kwL ks zs) vs → zs.length = ks.length → ∃ ws, Vals zs ws ∧ vs = (ks.zip ws).map fun p => ((Sum.inr p.1 : Key), p.2)
  | [], [], vs, h, _ => by cases h; exact ⟨[], .nil, rfl⟩
  | [], z :: zs, vs, h, e => by cases e
  | k :: ks, [], vs, h, e => by cases e
  | k :: ks, z :: zs, vs, h, e => by
    have h' : KV ((Sum.inr k, z) :: kwL ks zs) vs := h
    cases h' with
    | @cons a b c d hab hr =>
      obtain ⟨ws, r, rfl⟩ := kv_zip hr (by simpa using e)
      obtain ⟨h1, h2⟩ := hab
      refine ⟨b.2 :: ws, .cons h2 r, ?_⟩
      show b :: _ = (Sum.inr k, b.2) :: _
      rw [show (Sum.inr k : Key) = b.1 from h1]
      rfl
def mMakeS (c f : Nat) (ks : List Str) (sl : List Sl) (i : Nat) : ME := fun g e h => (mVar i g e h).bind fun x h1 => match x with
  | .ref n => match h1[n]? with
    | some (.dk l) => match valsOf ks l with
      | some zs => match arrange sl [] zs with
        | some vs => mkD c (g.low f) vs h1
        | none => .bad
      | none => .bad
    | _ => .bad
  | _ => .bad
section
variable {X : Cx} {R : Rx} {g : Gm} {pos p p' kp : Pos} {x y : Str} {k np : Nat} {f : Addr} {fd : FuncData} {ps ks : List Str} {sl : List Sl} {gg : List Value → List Value → List Value} {gV : List V → List V → List V}
theorem b_makeS {i c j : Nat} (M : Mk X.K (R.ca c) f) (F : FnOk X.prog X.w X.K X.mg X.base CX0 k f fd ps (spF R (np + 1) (g.low i))) (hr : Room (k + 1) X.A) (hg : Gl X x) (hm : X.mg x = some (.ref (R.ca c))) (hb : KBn X.K fd ps 1 ks gg gV)
    (hN : X.N[j]? = some y) (hv : Vis X.env.scope y) (hd : (y == ("__debug__" : Str)) = false) (hcd : (y == ("__classdict__" : Str)) = false)
    (hsl : ∀ (φ : List Addr) (H : Hp) (x : Addr) (zs : List V) (es ws : List D), zs.length = ks.length → RpL φ H es zs → arrange sl [] es = some ws → ws.length = np ∧ ∃ vs, gV [.ref x] zs = .ref x :: vs ∧ RpL φ H ws vs)
    (hdb : (x == ("__debug__" : Str)) = false) : PE X (.Call (.Name x p) [] [⟨none, .Name y p', kp⟩] pos) (tE R noX g (mMakeS c i ks sl j)) := by
  refine ⟨fun pins s σ H Q I ⟨φ, e, h, he, hr0, q⟩ => ?_⟩
  refine wpAny_Call_Name_kw (ld_glob I hg hm ?_ hdb)
  refine callWith_star (P := fun h => X.K.In h) rfl (fun h => PySem.W.keeps_K M.kp h) ?_
  have hn := I.hok.fresh (Nat.le_refl s.heap.objs.size)
  have I1 := I.laid (a := s.heap.objs.size) (o := .dK []) (h' := s.heap.push { cls := .type "dict", data := .dict #[] }) (t' := s.toks) (fun _ _ q => Heap.get?_push_of_some _ q) (Nat.le_refl _) (dk_empty s.heap I.big)
  refine evalArgs_one (wpAny_bind ?_)
  unfold mMakeS at q
  unfold mVar at q
  split at q
  · rename_i d hi
    obtain ⟨u, h1, h2⟩ := he.at_ j d hi
    refine thn ((pe_var (X := X) (pos := p') hN hv hd hcd).run pins _ σ _ (fun v H1 => v = u ∧ H1 = upd H s.heap.objs.size (.dK [])) I1 ⟨u, h1, rfl, rfl⟩) fun w s2 ⟨v, H2, I2, rv, ev, eH⟩ => ?_
    subst ev eH
    refine wpAny_bind (wpAny_standAt (wpAny_pure ?_))
    dsimp only [RE.bind] at q
    split at q
    · rename_i n
      split at q
      · rename_i l e1
        split at q
        · rename_i ds e2
          split at q
          · rename_i dw e3
            obtain ⟨a, f1, rfl⟩ := h2
            obtain ⟨a', f2, xs, f3, f4⟩ := hr0.addr e1
            cases get_eq f1 f2
            obtain ⟨zs, l1, rz, rfl⟩ := vals_rel e2 f4
            obtain rfl : w = Value.ref a := rv
            have hda : a ≠ s.heap.objs.size := ne_of_none f3 hn
            have f5 : (upd H s.heap.objs.size (.dK [])) a = some (.dK (kwL ks zs)) := by rw [upd_ne hda]; exact f3
            obtain ⟨z, hs1, vs, kv, dd⟩ := dk_of I2.hok f5
            obtain ⟨ws', rw', rfl⟩ := kv_zip kv l1
            obtain ⟨_, hs0, vs0, r0, dd0⟩ := dk_of I2.hok (upd_same (H := H) (a := s.heap.objs.size))
            cases r0
            have lw : ws'.length = ks.length := by rw [← rw'.length]; exact l1
            refine ⟨a, ks.zip ws', rfl, hda.symm, hs1, dd0, dd, ?_, fun h' dd' hs' => ?_⟩
            · rw [List.length_zip, lw]
              have : (kwL ks zs).length = ks.length := by unfold kwL; rw [List.length_map, List.length_zip, l1]; simp
              rw [this] at z
              simpa using z
            have he' : ∃ q, h'.get? s.heap.objs.size = some q := let ⟨q, _, _, hq, _⟩ := dd'; ⟨q, hq⟩
            have I3 := d_write (t' := s2.toks) I2 (by rw [upd_same]; exact True.intro) hs' he' (dk_new z hs0 kv dd')
            refine ⟨I3.kIn, run_makeK (us := []) (vs := []) M F hr hb passes0 I3 .nil rw' rfl l1 fun x dx hx hdx hne => ?_⟩
            have eH : upd (upd H s.heap.objs.size (.dK [])) s.heap.objs.size (.dK (kwL ks zs)) = upd H s.heap.objs.size (.dK (kwL ks zs)) := by
              funext b
              by_cases hb : b = s.heap.objs.size
              · subst hb; rw [upd_same, upd_same]
              · rw [upd_ne hb, upd_ne hb, upd_ne hb]
            rw [eH] at hx hdx ⊢
            have x3 : Ext φ H φ (upd H s.heap.objs.size (.dK (kwL ks zs))) := ext_tup hn
            obtain ⟨hnp, vs, g1, g2⟩ := hsl φ _ x zs ds dw l1 (rz.ext x3) e3
            have := make_rd (np := np) (by rw [g2.length, hnp]) (hr0.other hn) g2 (q.ext x3) x dx hx hdx hne
            rw [show gV [.ref x] zs = .ref x :: vs from g1]
            exact this
          · exact q.elim
        · exact q.elim
      · exact q.elim
    · exact q.elim
  · exact q.elim
end
end Bp
end

section
set_option linter.all false
set_option maxRecDepth 100000
set_option maxHeartbeats 0
set_option linter.all false
set_option maxRecDepth 100000
set_option autoImplicit false
set_option maxHeartbeats 2000000
namespace Bp
open PySem PySem.Spec PyProof.Rows L2
structure ExT (φ : List Addr) (H : Hp) (φ' : List Addr) (H' : Hp) : Prop where
  pre : φ <+: φ'
  tup : ∀ b xs, H b = some (.tup xs) → H' b = some (.tup xs)
mutual
theorem Rp.exTA {φ φ' : List Addr} {H H' : Hp} (e : ExT φ H φ' H') : ∀ (d : D) (v : V), Rp φ H d v → Rp φ' H' d v
  | .non, _, h => h
  | .bl _, _, h => h
  | .int _, _, h => h
  | .str _, _, h => h
  | .tup l, v, h => by
    obtain ⟨a, xs, rfl, hs, hl⟩ := h
    exact ⟨a, xs, rfl, e.tup a xs hs, RpL.exTA e l xs hl⟩
  | .ref n, v, h => by
    obtain ⟨a, h1, rfl⟩ := h
    exact ⟨a, pre_get e.pre h1, rfl⟩
  | .exc _ _, _, h => h
  | .clo _ _, _, h => h
theorem RpL.exTA {φ φ' : List Addr} {H H' : Hp} (e : ExT φ H φ' H') : ∀ (l : List D) (xs : List V), RpL φ H l xs → RpL φ' H' l xs
  | [], _, h => h
  | d :: l, xs, h => by
    obtain ⟨x, r, rfl, h1, h2⟩ := h
    exact ⟨x, r, rfl, Rp.exTA e d x h1, RpL.exTA e l r h2⟩
end
theorem Rp.exT {φ φ' : List Addr} {H H' : Hp} {d : D} {v : V} (h : Rp φ H d v) (e : ExT φ H φ' H') : Rp φ' H' d v := Rp.exTA e d v h
theorem RpL.exT {φ φ' : List Addr} {H H' : Hp} {l : List D} {v : List V} (h : RpL φ H l v) (e : ExT φ H φ' H') : RpL φ' H' l v := RpL.exTA e l v h
theorem RpK.exT {φ φ' : List Addr} {H H' : Hp} (e : ExT φ H φ' H') : ∀ {l : List (D × D)} {xs : List (Key × V)}, RpK φ H l xs → RpK φ' H' l xs
  | [], _, h => h
  | _ :: _, _, h => by
    obtain ⟨x, r, rfl, h1, h2, h3⟩ := h
    exact ⟨x, r, rfl, h1, h2.exT e, RpK.exT e h3⟩
theorem RpT.exT {φ φ' : List Addr} {H H' : Hp} (e : ExT φ H φ' H') : ∀ {l : List (D × D)} {xs : List (List Key × V)}, RpT φ H l xs → RpT φ' H' l xs
  | [], _, h => h
  | _ :: _, _, h => by
    obtain ⟨x, r, rfl, h1, h2, h3⟩ := h
    exact ⟨x, r, rfl, h1, h2.exT e, RpT.exT e h3⟩
theorem RpF.exT {R : Rx} {φ φ' : List Addr} {H H' : Hp} (e : ExT φ H φ' H') : ∀ {l : List (Nat × D)} {xs : List (Str × V)}, RpF R φ H l xs → RpF R φ' H' l xs
  | [], _, h => h
  | _ :: _, _, h => by
    obtain ⟨x, r, rfl, h1, h2, h3⟩ := h
    exact ⟨x, r, rfl, h1, h2.exT e, RpF.exT e h3⟩
theorem RO.exT {R : Rx} {φ φ' : List Addr} {H H' : Hp} (e : ExT φ H φ' H') {o : DO} {a : Addr} (h : RO R φ H o a) (ha : H' a = H a) : RO R φ' H' o a := by
  cases o with
  | lst l => obtain ⟨xs, h1, h2⟩ := h; exact ⟨xs, ha.trans h1, h2.exT e⟩
  | frz l => obtain ⟨o, xs, h1, h2⟩ := h; exact ⟨o, xs, ha.trans h1, h2.exT e⟩
  | tpl l => obtain ⟨o, xs, h1, h2⟩ := h; exact ⟨o, xs, ha.trans h1, h2.exT e⟩
  | dk l => obtain ⟨xs, h1, h2⟩ := h; exact ⟨xs, ha.trans h1, RpK.exT e h2⟩
  | dt l => obtain ⟨xs, h1, h2⟩ := h; exact ⟨xs, ha.trans h1, RpT.exT e h2⟩
  | lk l => obtain ⟨o, xs, h1, h2⟩ := h; exact ⟨o, xs, ha.trans h1, RpK.exT e h2⟩
  | lt l => obtain ⟨o, xs, h1, h2⟩ := h; exact ⟨o, xs, ha.trans h1, RpT.exT e h2⟩
  | ins c fs => obtain ⟨dx, fv, h1, h2⟩ := h; exact ⟨dx, fv, ha.trans h1, RpF.exT e h2⟩
def iKeysL (i : Nat) : MI := fun _ e h => match e[i]? with
  | some (some (.ref n)) => match h[n]? with
    | some (.lk l) => .ok (l.map (·.1)) [] none h
    | _ => .bad
  | _ => .bad
def unlK (n : Nat) (l : List (D × D)) : RS → RS
  | .nx e h => .nx e (h.set n (.dk l))
  | .rt v h => .rt v (h.set n (.dk l))
  | .bk e h => .bk e (h.set n (.dk l))
  | .ct e h => .ct e (h.set n (.dk l))
  | _ => .bad
def sForK (i : Nat) (tg : MG) (s : MS) : MS := fun g e h => match e[i]? with
  | some (some (.ref n)) => match h[n]? with
    | some (.dk l) => unlK n l (sFor (iKeysL i) tg s g e (h.set n (.lk l)))
    | _ => .bad
  | _ => .bad
def sForV (i : Nat) (tg : MG) (s : MS) : MS := fun g e h => match e[i]? with
  | some (some (.ref n)) => match h[n]? with
    | some (.dk _) => sForK i tg s g e h
    | _ => sFor (iVal (mVar i)) tg s g e h
  | _ => sFor (iVal (mVar i)) tg s g e h
theorem ps_or {X : Cx} {st : Stmt} {t1 t2 t : TS} (h1 : PS X st t1) (h2 : PS X st t2) (h : ∀ D σ H, t D σ H → t1 D σ H ∨ t2 D σ H) : PS X st t := ⟨fun pins s σ H D I q => (h _ _ _ q).elim (h1.run pins s σ H D I) (h2.run pins s σ H D I)⟩
section
variable {X : Cx} {R : Rx} {g : Gm} {pos p p' : Pos} {tg : Expr} {body : List Stmt} {s1 : MS} {t : Tg} {x : Str}
theorem rpk_get {φ : List Addr} {H : Hp} : ∀ {l : List (D × D)} {kvs : List (Key × V)} {i : Nat} {q : D × D}, RpK φ H l kvs → l[i]? = some q → ∃ k v, kvs[i]? = some (k, v) ∧ keyOf q.1 = some k
  | [], kvs, i, q, h, e => by simp at e
  | p :: l, kvs, 0, q, ⟨y, r, e1, h1, _, _⟩, e => by
    subst e1
    have : p = q := by simpa using e
    subst this
    exact ⟨y.1, y.2, rfl, h1⟩
  | p :: l, kvs, i + 1, q, ⟨y, r, e1, _, _, h3⟩, e => by
    subst e1
    have : l[i]? = some q := by simpa using e
    obtain ⟨k, v, a, b⟩ := rpk_get h3 this
    exact ⟨k, v, by simpa using a, b⟩
theorem rpk_len {φ : List Addr} {H : Hp} : ∀ {l : List (D × D)} {kvs : List (Key × V)}, RpK φ H l kvs → kvs.length = l.length
  | [], kvs, h => by rw [show kvs = [] from h]; rfl
  | p :: l, kvs, ⟨y, r, e1, _, _, h3⟩ => by subst e1; simp [rpk_len h3]
theorem key_rp {φ : List Addr} {H : Hp} {d : D} {k : Key} (h : keyOf d = some k) : Rp φ H d (L2.kV k) := by
  unfold keyOf at h
  split at h
  all_goals first | (cases h; exact rfl) | (cases h)
theorem jok_keys {φ : List Addr} {H : Hp} {a : Addr} {o : Obj} {l : List (D × D)} {kvs : List (Key × V)} (hd : H a = some (.frz o (.dK kvs))) (hk : RpK φ H l kvs) : JOk R (Itk a o kvs) (l.map (·.1)) [] φ H := by
  intro φ2 H2 h2 i x2 r2 dep
  have hl := rpk_len hk
  have hd2 := x2.frz a o _ hd
  refine ⟨fun hi => ⟨hd2, by rw [hl]; simpa using hi⟩, fun d hd => ?_⟩
  rw [List.getElem?_map] at hd
  cases hq : l[i]? with
  | none => rw [hq] at hd; cases hd
  | some q =>
    rw [hq] at hd
    cases hd
    obtain ⟨k, v, e1, e2⟩ := rpk_get hk hq
    refine ⟨⟨hd2, (List.getElem?_eq_some_iff.mp e1).1⟩, fun y H' ⟨e3, k', v', e4, e5⟩ => ?_⟩
    subst e3 e5
    rw [e1] at e4
    cases e4
    exact ⟨.refl, r2, key_rp e2⟩
theorem bi_keysL {i : Nat} (hN : X.N[i]? = some x) (hv : Vis X.env.scope x) (hd : (x == ("__debug__" : Str)) = false) (hcd : (x == ("__classdict__" : Str)) = false) : PI X tg (.Name x p') (tI R noX g (iKeysL i)) := by
  refine (pi_keys (pe_var hN hv hd hcd)).imp fun σ H Rr ⟨φ, e, h, he, hr, q⟩ => ?_
  unfold iKeysL at q
  split at q
  · rename_i n hi
    split at q
    · rename_i l e1
      obtain ⟨y, h1, a, f1, rfl⟩ := he.at_ i _ hi
      obtain ⟨a', f2, o, xs, f3, f4⟩ := hr.addr e1
      cases get_eq f1 f2
      obtain ⟨_, q⟩ := q
      exact ⟨.ref a, h1, a, o, rfl, .inl ⟨xs, f3, q φ H _ .refl hr (jok_keys f3 f4)⟩⟩
    · exact q.elim
  · exact q.elim
theorem hrel_free {φ : List Addr} {H : Hp} {h : DH} (r : HRel R φ H h) {n : Nat} {a : Addr} {o : DO} {u v : HO} (ha : φ[n]? = some a) (hu : H a = some u) (m1 : ∀ xs, u ≠ .tup xs) (ho : RO R φ (upd H a v) o a) : HRel R φ (upd H a v) (h.set n o) := by
  have x : ExT φ H φ (upd H a v) := ⟨List.prefix_rfl, fun b xs q => by
      rw [upd_ne (fun z => by subst z; rw [q] at hu; cases hu; exact m1 _ rfl)]; exact q⟩
  refine ⟨by simp [r.len], r.nd, fun i o' b h1 h2 => ?_, fun p hp => (r.cst p hp).exT x⟩
  by_cases hi : i = n
  · subst hi
    have hn : i < h.length := by
      have := (List.getElem?_eq_some_iff.mp h1).1
      simpa using this
    rw [List.getElem?_set_self hn] at h1
    cases h1
    rw [ha] at h2
    cases h2
    exact ho
  · rw [List.getElem?_set_ne (Ne.symm hi)] at h1
    refine (r.obj i o' b h1 h2).exT x (upd_ne fun e => hi ?_)
    subst e
    obtain ⟨i1, e1⟩ := List.getElem?_eq_some_iff.mp h2
    obtain ⟨i2, e2⟩ := List.getElem?_eq_some_iff.mp ha
    exact (List.getElem_inj r.nd).mp (e1.trans e2.symm)
theorem unl_rel {φ φ' : List Addr} {H H' : Hp} {h' : DH} {n : Nat} {a : Addr} {o : Obj} {l : List (D × D)} {xs : List (Key × V)} (f1 : φ[n]? = some a) (f3 : H a = some (.dK xs)) (f4 : RpK φ H l xs) (x : Ext φ (upd H a (.frz o (.dK xs))) φ' H') (r : HRel R φ' H' h') :
    H' a = some (.frz o (.dK xs)) ∧ Ext φ H φ' (upd H' a (.dK xs)) ∧ ExT φ' H' φ' (upd H' a (.dK xs)) ∧ HRel R φ' (upd H' a (.dK xs)) (h'.set n (.dk l)) := by
  have e1 : H' a = some (.frz o (.dK xs)) := x.frz a o _ upd_same
  have e2 : Ext φ H φ' (upd H' a (.dK xs)) := ⟨x.pre, fun b ys q => by
      have hb : b ≠ a := fun z => by subst z; rw [f3] at q; cases q
      rw [upd_ne hb]
      exact x.tup b ys (by rw [upd_ne hb]; exact q), fun b o' u q => by
      have hb : b ≠ a := fun z => by subst z; rw [f3] at q; cases q
      rw [upd_ne hb]
      exact x.frz b o' u (by rw [upd_ne hb]; exact q)⟩
  have e3 : ExT φ' H' φ' (upd H' a (.dK xs)) := ⟨List.prefix_rfl, fun b ys q => by
      have hb : b ≠ a := fun z => by subst z; rw [e1] at q; cases q
      rw [upd_ne hb]; exact q⟩
  exact ⟨e1, e2, e3, hrel_free r (pre_get x.pre f1) e1 (fun _ z => by cases z) ⟨xs, upd_same, RpK.ext e2 f4⟩⟩
theorem erel_free {φ φ' : List Addr} {H H' : Hp} {e : Env} {σ : L2.St} (r : ERel φ H e σ) (x : ExT φ H φ' H') : ERel φ' H' e σ :=
  ⟨r.len, fun i d h => let ⟨v, h1, h2⟩ := r.at_ i d h; ⟨v, h1, h2.exT x⟩⟩
theorem b_forK {i : Nat} (hp : PassesOwn (model X.prog X.w) X.A X.env X.xe) (hc : X.calm = true) (hN : X.N[i]? = some x) (hv : Vis X.env.scope x) (hd : (x == ("__debug__" : Str)) = false) (hcd : (x == ("__classdict__" : Str)) = false) (hg : PG X tg (tP1 R t)) (hb : PSs X body (tS R noX g s1)) (hs : ∀ y, foldedSetIterable (.Name x p') X.env y = pure y) :
    PS X (.For tg (.Name x p') body [] pos) (tS R noX g (sForK i (gPat t) s1)) :=
  (ps_lock (bs_for hp hc (bi_keysL hN hv hd hcd) hg hb hs)).imp fun D σ H ⟨φ, e, h, he, hr, q⟩ => by
    unfold sForK at q
    split at q
    · rename_i n hi
      split at q
      · rename_i l e1
        obtain ⟨y, h1, a, f1, rfl⟩ := he.at_ i _ hi
        obtain ⟨a', f2, xs, f3, f4⟩ := hr.addr e1
        cases get_eq f1 f2
        refine ⟨a, .dK xs, f3, True.intro, fun od => ?_⟩
        have x0 : Ext φ H φ (upd H a (.frz od (.dK xs))) := ext_set f3 (fun _ z => by cases z) (fun _ _ z => by cases z)
        have r0 : HRel R φ (upd H a (.frz od (.dK xs))) (h.set n (.lk l)) := hr.set f1 f3 (fun _ z => by cases z) (fun _ _ z => by cases z) ⟨od, xs, upd_same, RpK.ext x0 f4⟩
        refine ⟨φ, e, _, he.ext x0, r0, ?_⟩
        cases er : sFor (iKeysL i) (gPat t) s1 g e (h.set n (.lk l)) with
        | nx e2 h2 =>
          rw [er] at q
          intro φ' H' σ' x' r' he'
          obtain ⟨k1, k2, k3, k4⟩ := unl_rel f1 f3 f4 x' r'
          exact ⟨k1, q φ' _ σ' k2 k4 (erel_free he' k3)⟩
        | rt v h2 =>
          rw [er] at q
          intro φ' H' y x' r' he'
          obtain ⟨k1, k2, k3, k4⟩ := unl_rel f1 f3 f4 x' r'
          exact ⟨k1, q φ' _ y k2 k4 (he'.exT k3)⟩
        | bk e2 h2 =>
          rw [er] at q
          intro φ' H' σ' x' r' he'
          obtain ⟨k1, k2, k3, k4⟩ := unl_rel f1 f3 f4 x' r'
          exact ⟨k1, q φ' _ σ' k2 k4 (erel_free he' k3)⟩
        | ct e2 h2 =>
          rw [er] at q
          intro φ' H' σ' x' r' he'
          obtain ⟨k1, k2, k3, k4⟩ := unl_rel f1 f3 f4 x' r'
          exact ⟨k1, q φ' _ σ' k2 k4 (erel_free he' k3)⟩
        | ex c l e2 h2 => rw [er] at q; exact q.elim
        | bad => rw [er] at q; exact q.elim
      · exact q.elim
    · exact q.elim
theorem b_forV {i : Nat} (hp : PassesOwn (model X.prog X.w) X.A X.env X.xe) (hc : X.calm = true) (hN : X.N[i]? = some x) (hv : Vis X.env.scope x) (hd : (x == ("__debug__" : Str)) = false) (hcd : (x == ("__classdict__" : Str)) = false) (hg : PG X tg (tP1 R t)) (hb : PSs X body (tS R noX g s1)) (hs : ∀ y, foldedSetIterable (.Name x p') X.env y = pure y) :
    PS X (.For tg (.Name x p') body [] pos) (tS R noX g (sForV i (gPat t) s1)) :=
  ps_or (b_forK hp hc hN hv hd hcd hg hb hs) (bs_for hp hc (bi_val (b_var hN hv hd hcd)) hg hb hs) fun D σ H ⟨φ, e, h, he, hr, q⟩ => by
    unfold sForV at q
    split at q
    · split at q
      · exact .inl ⟨φ, e, h, he, hr, q⟩
      · exact .inr ⟨φ, e, h, he, hr, q⟩
    · exact .inr ⟨φ, e, h, he, hr, q⟩
end
end Bp
end

section
set_option linter.all false
set_option maxRecDepth 100000
set_option maxHeartbeats 0
set_option linter.all false
set_option maxRecDepth 100000
set_option autoImplicit false
set_option maxHeartbeats 2000000
namespace Bp
open PySem PySem.Spec PyProof.Rows L2
def kwNames : List Keyword → Option (List Str)
  | [] => some []
  | ⟨some n, _, _⟩ :: r => (kwNames r).map (n :: ·)
  | ⟨none, _, _⟩ :: _ => none
theorem kw_ok {pos : Pos} {env : PySem.Env} : ∀ {kws : List Keyword} {ks : List Str}, kwNames kws = some ks →
    (backToKw pos (keywordEach kws env)).all (·.1.isSome) = true ∧ (backToKw pos (keywordEach kws env)).filterMap (·.1) = ks ∧ (backToKw pos (keywordEach kws env)).any (·.1.isNone) = false
  | [], ks, h => by cases h; exact ⟨rfl, rfl, rfl⟩
  | ⟨none, e, p⟩ :: r, ks, h => by cases h
  | ⟨some n, e, p⟩ :: r, ks, h => by
    unfold kwNames at h
    cases hr : kwNames r with
    | none => rw [hr] at h; cases h
    | some k1 =>
      rw [hr] at h
      cases h
      obtain ⟨a, b, c⟩ := kw_ok (pos := pos) (env := env) hr
      refine ⟨?_, ?_, ?_⟩
      · show (true && (backToKw pos (keywordEach r env)).all (·.1.isSome)) = true
        rw [a]; rfl
      · show n :: (backToKw pos (keywordEach r env)).filterMap (·.1) = n :: k1
        rw [b]
      · show (false || (backToKw pos (keywordEach r env)).any (·.1.isNone)) = false
        rw [c]; rfl
theorem kw_plain {pos : Pos} {env : PySem.Env} {kws : List Keyword} {ks : List Str} (h : kwNames kws = some ks) : ((backTo pos (starEach [] env)).any (·.1) || (backToKw pos (keywordEach kws env)).any (·.1.isNone)) = false := by
  rw [(kw_ok h).2.2]
  rfl
theorem meth_tree {o : Expr} {m : Str} {apos pos : Pos} {env : PySem.Env} {kws : List Keyword} {ks : List Str} (h : kwNames kws = some ks) (hb : attributeBase o m env (eval o env) = eval o env) (hl : (apos.endLine == pos.line) = true) (h20 : kws.length < 20) :
    eval (.Call (.Attribute o m apos) [] kws pos) env = (do
      let ov ← eval o env
      standAt apos.atName
      let (f, first) ← holding [ov] (getMethod ov m (do return (← importBound o env).getD true))
      callWith pos f first (backTo pos (starEach [] env)) (backToKw pos (keywordEach kws env))) := by
  have e1 : methodCallForm (([] : List Expr).length + kws.length) (backTo pos (starEach [] env)) (backToKw pos (keywordEach kws env)) = true := by
    unfold methodCallForm
    rw [(kw_ok h).1]
    have : (([] : List Expr).length + kws.length + (if (backToKw pos (keywordEach kws env)).isEmpty then 0 else 1) < 30) := by
      split <;> simp <;> omega
    simp only [Bool.and_true, decide_eq_true this]
    rfl
  have e0 : eval (.Call (.Attribute o m apos) [] kws pos) env = (do
      let ov ← attributeBase o m env (eval o env)
      standAt apos.atName
      methodCall o m apos pos env ov (([] : List Expr).length + kws.length) (backTo pos (starEach [] env)) (backToKw pos (keywordEach kws env))) := by
    rw [eval]
  rw [e0, hb]
  unfold methodCall calleeOf methodCallPos
  simp only [e1, if_true, hl, Bool.not_true, Bool.false_or]
  rfl
end Bp
end

section
set_option linter.all false
set_option maxRecDepth 100000
set_option maxHeartbeats 0
set_option linter.all false
set_option maxRecDepth 100000
set_option autoImplicit false
set_option maxHeartbeats 1000000
namespace Bp
open PySem PySem.Spec
inductive GI where
  | fn (i np : Nat) | cls (c i np : Nat) | cst (d : D) | ty (c : Nat)
structure GT where
  g : List (Str × GI)
  bl : List Str
  m : List (Str × (Nat × Nat × Nat × Nat))
  p : List (Str × (Nat × Nat × Nat))
  f : List (Str × (Nat × Nat))
  sub : List (Option Nat × String × Ty × Bool)
  km : List ((Str × List Str) × (Nat × Nat × List Sl))
  ms : List (Str × (Nat × Nat × List Str × List Sl))
  mm : List ((Str × List Str) × (Nat × Nat × Nat))
structure CT where
  N : List Str
  sc : Scope
  fn : Bool
  G : GT
  cb : Str → Bool
def cellsIn (scope : Scope) : Str → Bool := fun x => scope.names.lookup x == some .cell
def noCells : Str → Bool := fun _ => false
def ixOf : List Str → Str → Option Nat
  | [], _ => none
  | y :: r, x => if x == y then some 0 else (ixOf r x).map (· + 1)
def mBad : ME := fun _ _ _ => .bad
def aBad : MA := fun _ _ _ => .bad
def iBad : MI := fun _ _ _ => .bad
def sBad : MS := fun _ _ _ => .bad
def CT.kind (T : CT) (x : Str) : Option NameKind := T.sc.names.lookup x
def CT.gl (T : CT) (x : Str) : Bool := T.kind x == some .globalImplicit
def CT.slot (T : CT) (x : Str) : Option Nat := if T.kind x == some .local || (T.kind x == some .cell && (T.fn || T.cb x)) then ixOf T.N x else none
def CT.see (T : CT) (x : Str) : Option Nat := if (T.kind x == some .local || T.kind x == some .cell || T.kind x == some .free) && !(x == ("__debug__" : Str)) && !(x == ("__classdict__" : Str)) then ixOf T.N x else none
def notStar : Expr → Bool
  | .Starred _ _ => false
  | _ => true
def plainBase : Expr → Bool
  | .Call (.Name _ _) [] [] _ => false
  | _ => true
def isLc : Expr → Bool
  | .ListComp _ _ _ _ => true
  | .SetComp _ _ _ _ => true
  | .DictComp _ _ _ _ _ => true
  | _ => false
def isSlc : Expr → Bool
  | .Slice _ _ _ _ => true
  | _ => false
def isSet : Expr → Bool
  | .Set _ _ _ => true
  | _ => false
def bfT : List (Str × Nat × Bf) := [("len", 1, .len), ("abs", 1, .abs), ("int", 1, .int), ("max", 2, .max2), ("min", 2, .min2), ("max", 1, .max1), ("min", 1, .min1), ("sum", 1, .sum), ("all", 1, .all), ("any", 1, .any), ("sorted", 1, .sorted), ("tuple", 1, .tuple), ("list", 1, .list), ("dict", 1, .dict)]
def bfOf (x : Str) (n : Nat) : Option Bf := (bfT.find? fun r => r.1 == x && r.2.1 == n).map (·.2.2)
def mfT : List (Str × Nat × Mf) := [("append", 1, .append), ("extend", 1, .extend), ("pop", 0, .pop0), ("pop", 1, .pop1), ("get", 2, .get2), ("update", 1, .update)]
def mfOf (o : Expr) (x : Str) (n : Nat) : Option Mf := if x == ("index" : Str) && n == 1 then (match o with
  | .Constant (.str _) _ _ => some .sindex
  | _ => some .lindex) else (mfT.find? fun r => r.1 == x && r.2.1 == n).map (·.2.2)
def tyOf (T : CT) : Expr → Option Ty
  | .Name x _ => if T.gl x && !(x == ("__debug__" : Str)) then (match T.G.g.lookup x with
    | some (.cls c _ _) => some (.cls c)
    | some (.ty c) => some (.cls c)
    | some _ => none
    | none => if T.G.bl.contains x then (if x == ("int" : Str) then some (.ty "int") else if x == ("bool" : Str) then some (.ty "bool") else if x == ("str" : Str) then some (.ty "str") else if x == ("tuple" : Str) then some (.ty "tuple") else if x == ("list" : Str) then some (.ty "list") else none) else none) else none
  | _ => none
def tysOf (T : CT) : List Expr → Option (List Ty)
  | [] => some []
  | e :: r => match tyOf T e, tysOf T r with
    | some t, some ts => some (t :: ts)
    | _, _ => none
def relN (scope : Scope) (sc : Scope) : Scope := L2.relS scope sc
def ownOf (T : CT) (scope : Scope) : Option (List (Str × Nat)) :=
  let own := scope.names.filterMap fun p => if p.2 == .local || p.2 == .cell then (ixOf T.N p.1).map fun i => (p.1, i) else none
  if scope.kind == .function && (scope.names.all fun y => scope.names.lookup y.1 == some y.2) && (scope.names.all fun y => !(y.2 == .free) || (T.kind y.1 == some .cell || T.kind y.1 == some .free)) && (scope.names.all fun y => !(y.2 == .local || y.2 == .cell) || (own.any fun p => p.1 == y.1) || !(T.N.contains y.1)) then some own else none
mutual
def tgOf : Nat → CT → Expr → Option Tg
  | 0, _, _ => none
  | k + 1, T, e => match e with
    | .Name x _ => (T.slot x).map .nm
    | .Tuple es _ _ => (tgsOf k T es).map .tp
    | _ => none
def tgsOf : Nat → CT → List Expr → Option (List Tg)
  | 0, _, _ => none
  | k + 1, T, es => match es with
    | [] => some []
    | e :: r => if notStar e then match tgOf k T e, tgsOf k T r with
      | some t, some ts => some (t :: ts)
      | _, _ => none
      else none
end
def keysOf : List (Option Expr) → Option (List Str)
  | [] => some []
  | some (.Constant (.str k) _ _) :: r => (keysOf r).map (k :: ·)
  | _ => none
mutual
def compE : Nat → CT → Expr → ME
  | 0, _, _ => mBad
  | k + 1, T, e => match e with
    | .Name x _ => match T.see x with
      | some i => mVar i
      | none => if T.gl x && !(x == ("__debug__" : Str)) then match T.G.g.lookup x with
        | some (.cst d) => mK d
        | _ => mBad
        else mBad
    | .Constant c _ _ => match c with
      | .none => mK .non
      | .bool b => mK (.bl b)
      | .int i => mK (.int i)
      | .str s => mK (.str s)
      | _ => mBad
    | .BinOp a op b _ => mBin op (compE k T a) (compE k T b)
    | .UnaryOp op a _ => match op with
      | .Not => mNot (compE k T a)
      | .USub => mNeg (compE k T a)
      | _ => mBad
    | .BoolOp op vs pos => match vs with
      | [] => mBad
      | [a] => compE k T a
      | a :: b :: rest => match op with
        | .And => mAnd (compE k T a) (compE k T (.BoolOp .And (b :: rest) pos))
        | .Or => mOr (compE k T a) (compE k T (.BoolOp .Or (b :: rest) pos))
    | .IfExp c a b _ => mIf (compT k T c) (compE k T a) (compE k T b)
    | .Compare a ops bs _ => match ops, bs with
      | [op], [b] => if behindInMarks op b then mBad else mCmp op (compE k T a) (compE k T b)
      | [op, op'], [b, c] => if lastMarks [op, op'] [b, c] then mBad else mChain op op' (compE k T a) (compE k T b) (compE k T c)
      | _, _ => mBad
    | .Subscript a i _ => match i with
      | .Slice lo hi none _ => mSlice (compE k T a) (compP k T lo) (compP k T hi)
      | .Slice none none (some (.UnaryOp .USub (.Constant (.int 1) _ _) _)) _ => mRev (compE k T a)
      | .Slice _ _ _ _ => mBad
      | i => mSub (compE k T a) (compE k T i)
    | .Tuple es _ _ => mTup (compA k T es)
    | .List es _ => mLst (compA k T es)
    | .Dict keys values _ => match keysOf keys with
      | some ks => if ks.length == values.length && !ks.isEmpty && decide (ks.length ≤ 15) then mDict ks (values.map (compE k T)) else if ks.isEmpty && values.isEmpty then mDict [] [] else mBad
      | none => mBad
    | .Attribute o f _ => if plainBase o then match T.G.p.lookup f with
      | some (c, i, fi) => mAttr [(c, i)] [] fi (compE k T o)
      | none => match T.G.f.lookup f with
        | some (c, fi) => mAttr [] [c] fi (compE k T o)
        | none => mBad
      else mBad
    | .ListComp elt gs scope _ => match gs with
      | [⟨tg, iter, ifs, async⟩] => if async == 0 && !isSet iter then match ownOf T scope with
        | some own => match tgOf k ⟨T.N, relN scope T.sc, false, T.G, cellsIn scope⟩ tg with
          | some t => if t.slots.all (fun i => (own.map (·.2)).contains i) then mLC (compI k T tg iter) (own.map (·.2)) t (compC k ⟨T.N, relN scope T.sc, false, T.G, cellsIn scope⟩ ifs) (compE k ⟨T.N, relN scope T.sc, false, T.G, cellsIn scope⟩ elt) else mBad
          | none => mBad
        | none => mBad
        else mBad
      | _ => mBad
    | .Call f args kws pos => match kws with
      | [] => match f with
        | .Name x _ => if T.gl x && !(x == ("__debug__" : Str)) then match T.G.g.lookup x with
          | some (.fn i np) => if args.length == np && args.all notStar then (if args.isEmpty then mCall i aNil else mCall i (compA k T args)) else mBad
          | some (.cls c i np) => if args.length == np && !args.isEmpty && args.all notStar then mMake c i (compA k T args) else mBad
          | some _ => mBad
          | none => if T.G.bl.contains x then (if x == ("isinstance" : Str) then (match args with
              | [a, c] => if notStar a then (match c with
                | .Tuple es _ _ => (match tysOf T es with
                  | some ts => if !ts.isEmpty && decide (ts.length ≤ 100) then mIsi T.G.sub ts (compE k T a) else mBad
                  | none => mBad)
                | c => (match tyOf T c with
                  | some t => mIsi T.G.sub [t] (compE k T a)
                  | none => mBad)) else mBad
              | _ => mBad)
            else match bfOf x args.length with
              | some b => if args.all notStar then mBf b (compA k T args) else mBad
              | none => mBad) else mBad
          else mBad
        | .Attribute o m apos => if plainBase o && (apos.endLine == pos.line) && args.all notStar && decide (args.length < 20) then match T.G.m.lookup m with
          | some (c, i, np, mi) => if args.length == np && !args.isEmpty then mMeth [(c, i)] mi (compE k T o) (compA k T args) else mBad
          | none => match mfOf o m args.length with
            | some f => if args.isEmpty then mMf f (compE k T o) aNil else mMf f (compE k T o) (compA k T args)
            | none => mBad
          else mBad
        | _ => mBad
      | kws => match args with
        | [] => match f with
          | .Name x _ => if T.gl x && !(x == ("__debug__" : Str)) then (match kws with
            | [⟨none, .Name y _, _⟩] => (match T.G.ms.lookup x, T.see y with
              | some (c, i, ks, sl), some j => mMakeS c i ks sl j
              | _, _ => mBad)
            | kws => (match kwNames kws with
              | some ks => (match T.G.km.lookup (x, ks) with
                | some (c, i, sl) => mMakeK c i sl (compK k T kws)
                | none => mBad)
              | none => mBad))
            else mBad
          | .Attribute o m apos => if plainBase o && (apos.endLine == pos.line) && decide (kws.length < 20) then (match kwNames kws with
              | some ks => (match T.G.mm.lookup (m, ks) with
                | some (c, i, mi) => mMethMore [(c, i)] mi ks (compE k T o) (compK k T kws)
                | none => mBad)
              | none => mBad)
            else mBad
          | _ => mBad
        | _ => mBad
    | _ => mBad
def compK : Nat → CT → List Keyword → MA
  | 0, _, _ => aBad
  | k + 1, T, kws => match kws with
    | [] => aNil
    | ⟨_, e, _⟩ :: r => aCons (compE k T e) (compK k T r)
def compT : Nat → CT → Expr → ME
  | 0, _, _ => mBad
  | k + 1, T, e => match e with
    | .UnaryOp .Not a _ => tNot (compT k T a)
    | .BoolOp op vs pos => match vs with
      | [] => mBad
      | [a] => compT k T a
      | a :: b :: rest => match op with
        | .And => tAnd (compT k T a) (compT k T (.BoolOp .And (b :: rest) pos))
        | .Or => tOr (compT k T a) (compT k T (.BoolOp .Or (b :: rest) pos))
    | .Compare a ops bs _ => match ops, bs with
      | [op], [b] => if behindInMarks op b then mBad else mCmp op (compE k T a) (compE k T b)
      | [op, op'], [b, c] => if lastMarks [op, op'] [b, c] then mBad else mChain op op' (compE k T a) (compE k T b) (compE k T c)
      | _, _ => mBad
    | .IfExp _ _ _ _ => mBad
    | e => tOf (compE k T e)
def compA : Nat → CT → List Expr → MA
  | 0, _, _ => aBad
  | k + 1, T, es => match es with
    | [] => aNil
    | e :: r => if notStar e then aCons (compE k T e) (compA k T r) else aBad
def compP : Nat → CT → Option Expr → MP
  | 0, _, _ => fun _ _ _ _ => .bad
  | k + 1, T, e => match e with
    | none => pNone
    | some e => pSome (compE k T e)
def compC : Nat → CT → List Expr → ME
  | 0, _, _ => mBad
  | k + 1, T, es => match es with
    | [] => tYes
    | [e] => compT k T e
    | _ => mBad
def compI : Nat → CT → Expr → Expr → MI
  | 0, _, _, _ => iBad
  | k + 1, T, tg, e => match e with
    | .Call (.Name x _) args [] _ => if x == ("range" : Str) && T.gl x && T.G.bl.contains x then (match args with
        | [a] => if notStar a then iRange (compA k T [a]) else iBad
        | [a, b] => if notStar a && notStar b then iRange (compA k T [a, b]) else iBad
        | _ => iBad)
      else if x == ("enumerate" : Str) && T.gl x && T.G.bl.contains x then (match args with
        | [a] => if notStar a then (match tg with
          | .Tuple _ _ _ => iEnum (compE k T a)
          | _ => iBad) else iBad
        | _ => iBad)
      else iVal (compE k T e)
    | e => iVal (compE k T e)
end
def swLine (ts : List Expr) : Nat := (ts.head?.map (·.pos.line)).getD 0
def swNames (T : CT) (ts : List Expr) : List Str := ts.filterMap fun
  | .Name id pos => if T.kind id == some .local && pos.line == swLine ts then some id else none
  | _ => none
def swKind (T : CT) (ts vs : List Expr) : Nat :=
  if !(ts.length == 2 || ts.length == 3) || vs.length != ts.length then 0
  else if !(vs.all notStar) then 0
  else if (swNames T ts).length != ts.length || (swNames T ts).eraseDups.length != (swNames T ts).length then 0
  else if vs.all (foldedForSure 8) then 0
  else if vs.all (constantsAlone 8) then 2 else 1
mutual
def compS : Nat → CT → Stmt → MS
  | 0, _, _ => sBad
  | k + 1, T, st => match st with
    | .Expr e _ => if isLc e then sBad else sExpr (compE k T e)
    | .Return (some e) _ => sRet (compE k T e)
    | .Return none _ => sRetN
    | .Pass _ => sNil
    | .Break _ => sBrk
    | .Continue _ => sCnt
    | .If c a b _ => sIf (compT k T c) (compSs k T a) (compSs k T b)
    | .For tg iter body els _ => match els with
      | [] => if isSet iter then sBad else match tgOf k T tg with
        | some t => (match iter with
          | .Name x _ => (match T.see x with
            | some i => sForV i (gPat t) (compSs k T body)
            | none => sBad)
          | iter => sFor (compI k T tg iter) (gPat t) (compSs k T body))
        | none => sBad
      | _ => sBad
    | .While c body els _ => match els with
      | [] => sWhile (compT k T c) (compSs k T body)
      | _ => sBad
    | .AugAssign tg op e _ => match tg with
      | .Name x _ => match T.slot x with
        | some i => sAug i op (compE k T e)
        | none => sBad
      | .Subscript o i _ => if isSlc i then sBad else sAugS (compE k T o) (compE k T i) op (compE k T e)
      | _ => sBad
    | .Assign tgs e _ => match tgs with
      | [tg] => match tg with
        | .Name x _ => match T.slot x with
          | some i => if T.sc.kind == .function then sAsg (compE k T e) (gPat (.nm i)) else sBad
          | none => sBad
        | .Tuple ts _ _ => if T.sc.kind == .function then match e with
          | .Tuple vs _ _ => match swKind T ts vs with
            | 0 => match tgOf k T tg with
              | some t => sAsg (compE k T e) (gPat t)
              | none => sBad
            | 1 => match ts, vs with
              | [.Name x _, .Name y _], [a, b] => match ixOf T.N x, ixOf T.N y with
                | some i, some j => if i == j then sBad else sPar [i, j] (compA k T [a, b])
                | _, _ => sBad
              | [.Name x _, .Name y _, .Name z _], [a, b, c] => match ixOf T.N x, ixOf T.N y, ixOf T.N z with
                | some i, some j, some l => if i == j || (i == l || j == l) then sBad else sPar [i, j, l] (compA k T [a, b, c])
                | _, _, _ => sBad
              | _, _ => sBad
            | _ => sBad
          | _ => match tgOf k T tg with
            | some t => sAsg (compE k T e) (gPat t)
            | none => sBad
          else sBad
        | .Subscript o i _ => if isSlc i then sBad else sAsg (compE k T e) (gSub (compE k T o) (compE k T i))
        | .Attribute o f _ => match T.G.f.lookup f with
          | some (c, fi) => sAsg (compE k T e) (gAttr c fi (compE k T o))
          | none => sBad
        | _ => sBad
      | _ => sBad
    | _ => sBad
def compSs : Nat → CT → List Stmt → MS
  | 0, _, _ => sBad
  | k + 1, T, sts => match sts with
    | [] => sNil
    | st :: r => sSeq (compS k T st) (compSs k T r)
end
end Bp
end

section
set_option linter.all false
set_option maxRecDepth 100000
set_option maxHeartbeats 0
set_option linter.all false
set_option maxRecDepth 100000
set_option autoImplicit false
set_option maxHeartbeats 1000000
namespace Bp
open PySem PySem.Spec PyProof.Rows L2
theorem star1 {e : Expr} {es : List Expr} {env : PySem.Env} (h : notStar e = true) : starEach (e :: es) env = (false, eval e env) :: starEach es env := by
  cases e <;> first | rfl | cases h
theorem stars_plain {pos : Pos} {env : PySem.Env} : ∀ {es : List Expr}, es.all notStar = true → (backTo pos (starEach es env)).any (·.1) = false
  | [], _ => rfl
  | e :: es, h => by
    rw [List.all_cons, Bool.and_eq_true] at h
    rw [star1 h.1]
    show (false || (backTo pos (starEach es env)).any (·.1)) = false
    rw [stars_plain h.2]
    rfl
theorem stars_all {pos : Pos} {env : PySem.Env} : ∀ {es : List Expr}, es.all notStar = true → (backTo pos (starEach es env)).all (fun x => !x.1) = true
  | [], _ => rfl
  | e :: es, h => by
    rw [List.all_cons, Bool.and_eq_true] at h
    rw [star1 h.1]
    show (!false && (backTo pos (starEach es env)).all (fun x => !x.1)) = true
    rw [stars_all h.2]
    rfl
theorem base_plain {o : Expr} {f : Str} {env : PySem.Env} {w : Sem Value} (h : plainBase o = true) : attributeBase o f env w = w := by
  unfold attributeBase
  split
  · cases h
  · rfl
theorem set_fold {e : Expr} {env : PySem.Env} (h : isSet e = false) : ∀ x, foldedSetIterable e env x = pure x := fun x => by
  unfold foldedSetIterable
  split
  · cases h
  · rfl
theorem sw_plain {e : Expr} {tg : Option Expr} {l : Nat} {env : PySem.Env} (h : isLc e = false) : swapsWith e tg l env = pure false := by
  cases e <;> first | rfl | cases h
theorem ix_plain {e : Expr} (h : isSlc e = false) : PlainIx e := fun o i => by
  cases e <;> first | rfl | cases h
section
variable {X : Cx} {R : Rx} {XR : XQ} {g : Gm} {o e : Expr} {es : List Expr} {m1 : ME} {ar : MA} {pos p apos : Pos} {x : Str}
theorem b_bad {e : Expr} : PE X e (tE R XR g mBad) := ⟨fun _ _ _ _ _ _ ⟨_, _, _, _, _, q⟩ => q.elim⟩
theorem bt_bad {e : Expr} : PT X e (tT R XR g mBad) := ⟨fun _ _ _ _ _ _ ⟨_, _, _, _, _, q⟩ => q.elim⟩
theorem ba_bad {e : List Expr} : PA X e (tA R XR g aBad) := ⟨fun _ _ _ _ _ _ _ ⟨_, _, _, _, _, q⟩ => q.elim⟩
theorem bi_bad {tg e : Expr} : PI X tg e (tI R XR g iBad) := ⟨fun _ _ _ _ _ _ ⟨_, _, _, _, _, q⟩ => q.elim⟩
theorem bs_bad {e : Stmt} : PS X e (tS R XR g sBad) := ⟨fun _ _ _ _ _ _ ⟨_, _, _, _, _, q⟩ => q.elim⟩
theorem bss_bad {e : List Stmt} : PSs X e (tS R XR g sBad) := ⟨fun _ _ _ _ _ _ ⟨_, _, _, _, _, q⟩ => q.elim⟩
theorem bp_bad {e : Option Expr} : PO X e (tP R XR g fun _ _ _ _ => .bad) := ⟨fun _ _ _ _ _ _ ⟨_, _, _, _, _, _, _, q, _⟩ => q.elim⟩
def BfGood (X : Cx) (R : Rx) (x : Str) (b : Bf) : Prop := x ≠ "__name__" ∧ ((∃ id, bootBuiltins x = some (.builtin id) ∧ CallR X (.builtin id) (vRL R (bfD b))) ∨ ∃ t, bootBuiltins x = some (.type t) ∧ CallR X (.type t) (vRL R (bfD b)))
theorem bf_good (hc : X.calm = true) (hu : X.A.units + 67 < cLine) {r : Str × Nat × Bf} (h : r ∈ bfT) : BfGood X R r.1 r.2.2 := by
  have l1 : ∀ {x : Str} {b : Bf} (id : String), x ≠ "__name__" → bootBuiltins x = some (.builtin id) → CallR X (.builtin id) (vRL R (bfD b)) → BfGood X R x b := fun id n h1 h2 => ⟨n, .inl ⟨id, h1, h2⟩⟩
  have l2 : ∀ {x : Str} {b : Bf} (id : String), x ≠ "__name__" → bootBuiltins x = some (.type id) → CallR X (.type id) (vRL R (bfD b)) → BfGood X R x b := fun id n h1 h2 => ⟨n, .inr ⟨id, h1, h2⟩⟩
  simp only [bfT, List.mem_cons, List.not_mem_nil, or_false] at h
  rcases h with rfl | rfl | rfl | rfl | rfl | rfl | rfl | rfl | rfl | rfl | rfl | rfl | rfl | rfl
  · exact l1 "len" (by decide) (by decide +kernel) bf_len
  · exact l1 "abs" (by decide) (by decide +kernel) bf_abs
  · exact l2 "int" (by decide) (by decide +kernel) bf_int
  · exact l1 "max" (by decide) (by decide +kernel) (bf_max2 hc)
  · exact l1 "min" (by decide) (by decide +kernel) (bf_min2 hc)
  · exact l1 "max" (by decide) (by decide +kernel) (bf_max1 hc)
  · exact l1 "min" (by decide) (by decide +kernel) (bf_min1 hc)
  · exact l1 "sum" (by decide) (by decide +kernel) (bf_sum hc)
  · exact l1 "all" (by decide) (by decide +kernel) (bf_all hc)
  · exact l1 "any" (by decide) (by decide +kernel) (bf_any hc)
  · exact l1 "sorted" (by decide) (by decide +kernel) (bf_sorted hc hu)
  · exact l2 "tuple" (by decide) (by decide +kernel) bf_tuple
  · exact l2 "list" (by decide) (by decide +kernel) bf_list
  · exact l2 "dict" (by decide) (by decide +kernel) bf_dict
theorem bfOf_some {x : Str} {n : Nat} {b : Bf} (h : bfOf x n = some b) : (x, n, b) ∈ bfT := by
  unfold bfOf at h
  cases hf : bfT.find? (fun r => r.1 == x && r.2.1 == n) with
  | none => rw [hf] at h; cases h
  | some r =>
    rw [hf] at h
    have hm := List.mem_of_find?_eq_some hf
    have hp := List.find?_some hf
    simp only [Bool.and_eq_true, beq_iff_eq] at hp
    have hb : r.2.2 = b := by simpa using h
    obtain ⟨a1, a2, a3⟩ := r
    simp only at hp hb
    rw [← hp.1, ← hp.2, ← hb]
    exact hm
theorem b_bf {b : Bf} (hg : Gl X x) (hm : X.mg x = none) (hd : (x == ("__debug__" : Str)) = false) (good : BfGood X R x b) (ha : PA X (e :: es) (tA R XR g ar)) (hst : (e :: es).all notStar = true) : PE X (.Call (.Name x p) (e :: es) [] pos) (tE R XR g (mBf b ar)) := by
  rw [List.all_cons, Bool.and_eq_true] at hst
  obtain ⟨hn, ⟨id, h1, h2⟩ | ⟨t, h1, h2⟩⟩ := good
  · exact (pe_callB h2 hg hm h1 ha hn hd (star1 hst.1) (stars_plain hst.2)).imp fun σ H Q ⟨φ, e, h, he, hr, q⟩ => bf_rd he hr q
  · exact (pe_callTy h2 hg hm h1 ha hn hd (star1 hst.1) (stars_plain hst.2)).imp fun σ H Q ⟨φ, e, h, he, hr, q⟩ => bf_rd he hr q
def mfS : Mf → String
  | .sindex => "str"
  | .get1 => "dict"
  | .get2 => "dict"
  | .update => "dict"
  | _ => "list"
theorem mfTy_ok {φ : List Addr} {H : Hp} {h : DH} {d : D} {v : V} {m : Mf} {K : PySem.W.Frag} (hr : HRel R φ H h) (rp : Rp φ H d v) (e : mfTy m h d = true) : tyV K (mfS m) v H := by
  have lst : ∀ n, d = .ref n → (listAt h n).isSome = true → tyV K "list" v H := fun n hd hl => by
    subst hd
    obtain ⟨a, f1, rfl⟩ := rp
    obtain ⟨l, hl⟩ := Option.isSome_iff_exists.mp hl
    obtain ⟨a', xs, f2, f3, f4⟩ := hr.list_at (K := K) hl
    cases get_eq f1 f2
    exact .inl ⟨rfl, xs, f3⟩
  have dct : ∀ n, d = .ref n → (match h[n]? with | some (.dk _) => true | some (.dt _) => true | _ => false) = true → tyV K "dict" v H := fun n hd hl => by
    subst hd
    obtain ⟨a, f1, rfl⟩ := rp
    split at hl
    · rename_i l g; obtain ⟨a', f2, xs, f3, f4⟩ := hr.addr g; cases get_eq f1 f2; exact .inr (.inr (.inl ⟨rfl, .inl ⟨xs, f3⟩⟩))
    · rename_i l g; obtain ⟨a', f2, xs, f3, f4⟩ := hr.addr g; cases get_eq f1 f2; exact .inr (.inr (.inl ⟨rfl, .inr ⟨xs, f3⟩⟩))
    · cases hl
  unfold mfTy at e
  cases m <;> cases d <;> first | (cases e; done) | exact lst _ rfl e | exact dct _ rfl e | (obtain rfl := rp; rfl)
def MfGood (X : Cx) (R : Rx) (x : Str) (m : Mf) : Prop := ∃ id, PlainAttrs (mfS m) ∧ Slot (mfS m) x id ∧ typeOf (.builtin id) = pure (.type "method_descriptor") ∧ MtR X id (vRM R (mfD m))
theorem mf_good (hu : X.A.units + 65 < cLine) {r : Str × Nat × Mf} (h : r ∈ mfT) : MfGood X R r.1 r.2.2 := by
  simp only [mfT, List.mem_cons, List.not_mem_nil, or_false] at h
  rcases h with rfl | rfl | rfl | rfl | rfl | rfl
  · exact ⟨_, PySem.F.plainAttrs_list, PySem.F.slot_list_append, PySem.F.type_list_append, mf_append⟩
  · exact ⟨_, PySem.F.plainAttrs_list, PySem.F.slot_list_extend, PySem.F.type_list_extend, mf_extend⟩
  · exact ⟨_, PySem.F.plainAttrs_list, PySem.F.slot_list_pop, PySem.F.type_list_pop, mf_pop0⟩
  · exact ⟨_, PySem.F.plainAttrs_list, PySem.F.slot_list_pop, PySem.F.type_list_pop, mf_pop1⟩
  · exact ⟨_, PySem.F.plainAttrs_dict, PySem.F.slot_dict_get, PySem.F.type_dict_get, mf_get2 hu⟩
  · exact ⟨_, PySem.F.plainAttrs_dict, PySem.F.slot_dict_update, PySem.F.type_dict_update, mf_update⟩
theorem mf_goodI (hu : X.A.units + 65 < cLine) (o : Expr) {x : Str} {n : Nat} {m : Mf} (h : mfOf o x n = some m) : MfGood X R x m := by
  unfold mfOf at h
  split at h
  · rename_i hx
    simp only [Bool.and_eq_true, beq_iff_eq] at hx
    obtain ⟨rfl, rfl⟩ := hx
    split at h
    · cases h; exact ⟨_, PySem.F.plainAttrs_str, PySem.F.slot_str_index, PySem.F.type_str_index, mf_sindex⟩
    · cases h; exact ⟨_, PySem.F.plainAttrs_list, PySem.F.slot_list_index, PySem.F.type_list_index, mf_lindex⟩
  · cases hf : mfT.find? (fun r => r.1 == x && r.2.1 == n) with
    | none => rw [hf] at h; cases h
    | some r =>
      rw [hf] at h
      have hm := List.mem_of_find?_eq_some hf
      have hp := List.find?_some hf
      simp only [Bool.and_eq_true, beq_iff_eq] at hp
      have hb : r.2.2 = m := by simpa using h
      have := mf_good (R := R) hu hm
      rw [hp.1, hb] at this
      exact this
theorem mf_rd {σ : L2.St} {H : Hp} {Q : VK} {m : Mf} {φ : List Addr} {e : Env} {h : DH} (he : ERel φ H e σ) (hr : HRel R φ H h) (q : OutE R XR φ H σ Q (mMf m m1 ar g e h)) : tBM X.K (mfS m) (vRM R (mfD m)) (tE R XR g m1) (tA R XR g ar) σ H Q :=
  ⟨φ, e, h, he, hr, (OutE.bind q).mono fun x H1 ⟨φ1, d, h1, x1, r1, p1, q1⟩ => by
    split at q1 <;> rename_i ht
    · exact ⟨mfTy_ok r1 p1 ht, φ1, e, h1, he.ext x1, r1, (OutA.bind q1).mono fun xs H2 ⟨φ2, d2, h2, x2, r2, p2, q2⟩ => ⟨φ2, h2, d, d2, r2, p1.ext x2, p2, OutV.ofE q2⟩⟩
    · exact q1.elim⟩
theorem b_mf0 {m : Mf} (good : MfGood X R x m) (ho : PE X o (tE R XR g m1)) (hb : plainBase o = true) (hl : (apos.endLine == pos.line) = true) :
    PE X (.Call (.Attribute o x apos) [] [] pos) (tE R XR g (mMf m m1 aNil)) := by
  obtain ⟨id, g1, g2, g3, g4⟩ := good
  exact (pe_bm0 g1 g2 g3 g4 ho (base_plain hb) hl).imp fun σ H Q ⟨φ, e, h, he, hr, q⟩ => ⟨φ, e, h, he, hr, (OutE.bind q).mono fun x H1 ⟨φ1, d, h1, x1, r1, p1, q1⟩ => by
    split at q1 <;> rename_i ht
    · exact ⟨mfTy_ok r1 p1 ht, φ1, h1, d, [], r1, p1, rfl, OutV.ofE (XR := XR) (σ := σ) q1⟩
    · exact q1.elim⟩
theorem b_mf {m : Mf} (good : MfGood X R x m) (ho : PE X o (tE R XR g m1)) (ha : PA X (e :: es) (tA R XR g ar)) (hst : (e :: es).all notStar = true) (hb : plainBase o = true) (hl : (apos.endLine == pos.line) = true) (hfew : (e :: es).length < 20) :
    PE X (.Call (.Attribute o x apos) (e :: es) [] pos) (tE R XR g (mMf m m1 ar)) := by
  obtain ⟨id, g1, g2, g3, g4⟩ := good
  have hst' := hst
  rw [List.all_cons, Bool.and_eq_true] at hst'
  refine (pe_bm g1 g2 g3 g4 ho ha (base_plain hb) ?_ hl (star1 hst'.1) (stars_plain hst'.2)).imp fun σ H Q ⟨φ, e, h, he, hr, q⟩ => mf_rd he hr q
  rw [stars_all hst]
  simp only [List.isEmpty_nil, if_true, List.length_nil, Nat.add_zero, Bool.true_and]
  simp [keywordEach, backToKw]
  simp at hfew
  omega
end
end Bp
end

section
set_option linter.all false
set_option maxRecDepth 100000
set_option maxHeartbeats 0
set_option linter.all false
set_option maxRecDepth 100000
set_option autoImplicit false
set_option maxHeartbeats 2000000
namespace Bp
open PySem PySem.Spec PyProof.Rows L2
def ArrOk (ks : List Str) (np : Nat) (sl : List Sl) (gV : List V → List V → List V) : Prop := ∀ (φ : List Addr) (H : Hp) (x : Addr) (zs : List V) (es ws : List D), zs.length = ks.length → RpL φ H es zs → arrange sl [] es = some ws → ws.length = np ∧ ∃ vs, gV [.ref x] zs = .ref x :: vs ∧ RpL φ H ws vs
structure GOk (P : Program) (w : World) (K : PySem.W.Frag) (mg : Str → Option Value) (base : Heap) (R : Rx) (G : GT) (g : Gm) (j : Nat) : Prop where
  nd : R.an.Nodup
  sub : SubOk K R G.sub
  cst : ∀ x d, G.g.lookup x = some (.cst d) → ∃ u v, mg x = some u ∧ RelV v u ∧ ∀ φ H h, HRel R φ H h → Rp φ H d v
  fn : ∀ x i np, G.g.lookup x = some (.fn i np) → ∃ f fd ps, FnOk P w K mg base CX0 (j + 1) f fd ps (spF R np (g.call i)) ∧ mg x = some (.ref f) ∧ PySem.W.keepIn K (.ref f) = true ∧ L2.Binds K fd ps []
  cls : ∀ x c i np, G.g.lookup x = some (.cls c i np) → mg x = some (.ref (R.ca c)) ∧ ∃ f fd ps, Mk K (R.ca c) f ∧ FnOk P w K mg base CX0 j f fd ps (spF R (np + 1) (g.low i)) ∧ L2.Binds K fd ps []
  ty : ∀ x c, G.g.lookup x = some (.ty c) → mg x = some (.ref (R.ca c))
  bl : ∀ x, G.bl.contains x = true → mg x = none
  m : ∀ x c i np mi, G.m.lookup x = some (c, i, np, mi) → Cls K (R.ca c) ∧ R.an[mi]? = some x ∧ ∃ f fd ps, Meth K (R.ca c) x f ∧ FnOk P w K mg base CX0 (j + 1) f fd ps (spF R (np + 1) (g.call i)) ∧ L2.Binds K fd ps []
  p : ∀ x c i fi, G.p.lookup x = some (c, i, fi) → Cls K (R.ca c) ∧ ∃ pr f fd ps, PropOf K (R.ca c) x pr f ∧ FnOk P w K mg base CX0 j f fd ps (spF R 1 (g.low i)) ∧ L2.Binds K fd ps []
  f : ∀ x c fi, G.f.lookup x = some (c, fi) → Cls K (R.ca c) ∧ R.an[fi]? = some x ∧ NoAttr K (R.ca c) x
  km : ∀ x ks c i sl, G.km.lookup (x, ks) = some (c, i, sl) → mg x = some (.ref (R.ca c)) ∧ ∃ f fd ps np, ∃ (gg : List Value → List Value → List Value) (gV : List V → List V → List V), Mk K (R.ca c) f ∧ FnOk P w K mg base CX0 j f fd ps (spF R (np + 1) (g.low i)) ∧ KBn K fd ps 1 ks gg gV ∧ ArrOk ks np sl gV
  ms : ∀ x c i ks sl, G.ms.lookup x = some (c, i, ks, sl) → mg x = some (.ref (R.ca c)) ∧ ∃ f fd ps np, ∃ (gg : List Value → List Value → List Value) (gV : List V → List V → List V), Mk K (R.ca c) f ∧ FnOk P w K mg base CX0 j f fd ps (spF R (np + 1) (g.low i)) ∧ KBn K fd ps 1 ks gg gV ∧ ArrOk ks np sl gV
  mm : ∀ x ks c i mi, G.mm.lookup (x, ks) = some (c, i, mi) → Cls K (R.ca c) ∧ R.an[mi]? = some x ∧ ∃ f, Meth K (R.ca c) x f ∧ FnM P w K mg base (j + 1) f 1 ks (spF R 2 (g.call i))
structure Fit (X : Cx) (T : CT) (R : Rx) (g : Gm) (j : Nat) : Prop where
  N : X.N = T.N
  nd : T.N.Nodup
  sc : X.env.scope = T.sc
  fn : T.fn = true → ∀ x, X.fn x = true
  cb : ∀ x, T.cb x = true → X.fn x = true
  calm : X.calm = true
  room : Room (j + 1) X.A
  own : T.fn = true → PassesOwn (model X.prog X.w) X.A X.env X.xe
  ok : GOk X.prog X.w X.K X.mg X.base R T.G g j
theorem ixOf_some : ∀ {N : List Str} {x : Str} {i : Nat}, ixOf N x = some i → N[i]? = some x
  | [], _, _, h => by cases h
  | y :: r, x, i, h => by
    unfold ixOf at h
    split at h
    · rename_i hx
      cases h
      simp only [beq_iff_eq] at hx
      simp [hx]
    · cases hr : ixOf r x with
      | none => rw [hr] at h; cases h
      | some k =>
        rw [hr] at h
        have : k + 1 = i := by simpa using h
        subst this
        simpa using ixOf_some hr
section
variable {X : Cx} {T : CT} {R : Rx} {g : Gm} {j : Nat}
theorem Fit.u65 (F : Fit X T R g j) : X.A.units + 65 < cLine := by have := F.room.un; omega
theorem Fit.u67 (F : Fit X T R g j) : X.A.units + 67 < cLine := by have := F.room.un; omega
theorem Fit.kind (F : Fit X T R g j) (x : Str) : X.env.scope.names.lookup x = T.kind x := by rw [F.sc]; rfl
theorem Fit.gl (F : Fit X T R g j) {x : Str} (h : T.gl x = true) : Gl X x := by
  show X.env.scope.names.lookup x = _
  rw [F.kind]
  simpa [CT.gl] using h
theorem Fit.ix (F : Fit X T R g j) {x : Str} {i : Nat} (h : ixOf T.N x = some i) : X.N[i]? = some x := by rw [F.N]; exact ixOf_some h
theorem Fit.see (F : Fit X T R g j) {x : Str} {i : Nat} (h : T.see x = some i) : X.N[i]? = some x ∧ Vis X.env.scope x ∧ (x == ("__debug__" : Str)) = false ∧ (x == ("__classdict__" : Str)) = false := by
  unfold CT.see at h
  split at h
  · rename_i hx
    simp only [Bool.and_eq_true, Bool.or_eq_true, beq_iff_eq, Bool.not_eq_true'] at hx
    obtain ⟨⟨hk, h1⟩, h2⟩ := hx
    refine ⟨F.ix h, ?_, h1, h2⟩
    unfold Vis
    rw [F.kind]
    rcases hk with (hk | hk) | hk
    · exact .inl hk
    · exact .inr (.inl hk)
    · exact .inr (.inr hk)
  · cases h
theorem Fit.slot (F : Fit X T R g j) {x : Str} {i : Nat} (h : T.slot x = some i) : X.N[i]? = some x ∧ Loc X.env.scope x ∧ (X.fn x = true ∨ X.env.scope.names.lookup x = some .local) := by
  unfold CT.slot at h
  split at h
  · rename_i hx
    simp only [Bool.and_eq_true, Bool.or_eq_true, beq_iff_eq] at hx
    refine ⟨F.ix h, ?_, ?_⟩
    · unfold L2.Loc
      rw [F.kind]
      rcases hx with hk | ⟨hk, _⟩
      · exact .inl hk
      · exact .inr hk
    · rcases hx with hk | ⟨_, hf⟩
      · exact .inr ((F.kind x).trans hk)
      · exact .inl (hf.elim (fun z => F.fn z x) (F.cb x))
  · cases h
theorem Fit.xnd (F : Fit X T R g j) : X.N.Nodup := by rw [F.N]; exact F.nd
theorem Fit.blk (F : Fit X T R g j) {s : Shared} {H : Hp} {scope : Scope} {cl : List (Str × Addr)} {C : Addr} {fp : List Addr} : Fit (X.blk s H scope (compEnvC scope cl C X.env) fp) ⟨T.N, relN scope T.sc, false, T.G, cellsIn scope⟩ R g j where
  N := F.N
  nd := F.nd
  sc := by
    show relS scope X.env.scope = relS scope T.sc
    rw [F.sc]
  fn := fun z => by cases z
  cb := fun _ z => z
  calm := F.calm
  room := F.room
  own := fun z => by cases z
  ok := F.ok
theorem Fit.blkOk (F : Fit X T R g j) {scope : Scope} {own : List (Str × Nat)} (h : ownOf T scope = some own) : BlkOk X.N X.env.scope scope own := by
  unfold ownOf at h
  simp only at h
  split at h
  · rename_i hx
    have h' := Option.some.inj h
    simp only [Bool.and_eq_true, beq_iff_eq, List.all_eq_true, Bool.or_eq_true, Bool.not_eq_true'] at hx
    obtain ⟨⟨⟨k1, k2⟩, k3⟩, k4⟩ := hx
    refine ⟨k1, fun y hy => k2 y hy, fun q hq => ?_, fun y hy hf => ?_, fun y hy hl => ?_⟩
    · rw [← h'] at hq
      obtain ⟨y, hy, he⟩ := List.mem_filterMap.mp hq
      split at he
      · cases hi : ixOf T.N y.1 with
        | none => rw [hi] at he; cases he
        | some i =>
          rw [hi] at he
          have : (y.1, i) = q := by simpa using he
          rw [← this]
          exact F.ix hi
      · cases he
    · rcases k3 y hy with z | z
      · rw [hf] at z; simp at z
      · rw [F.sc]; exact z
    · rcases k4 y hy with (z | z) | z
      · exfalso
        rcases hl with hl | hl <;> rw [hl] at z <;> simp at z
      · left
        rw [← h']
        obtain ⟨q, hq, e⟩ := List.any_eq_true.mp z
        simp only [beq_iff_eq] at e
        rw [← e]
        have hq2 : q ∈ own := by rw [← h']; simpa using hq
        rw [h']
        exact List.mem_map_of_mem hq2
      · right
        rw [F.N]
        intro hm
        have := List.contains_iff_mem.mpr hm
        rw [this] at z
        cases z
  · cases h
theorem each_len {env : PySem.Env} : ∀ es : List Expr, (assignEach es env).length = es.length
  | [] => rfl
  | e :: es => by cases e <;> simp [assignEach, each_len es]
theorem each_cons {e : Expr} {es : List Expr} {env : PySem.Env} (h : notStar e = true) : (assignEach (e :: es) env).map (·.2) = assign e env :: (assignEach es env).map (·.2) := by
  cases e <;> first | rfl | cases h
theorem each_none {env : PySem.Env} : ∀ {es : List Expr}, es.all notStar = true → (assignEach es env).findIdx? (·.1) = none
  | [], _ => rfl
  | e :: es, h => by
    rw [List.all_cons, Bool.and_eq_true] at h
    have : assignEach (e :: es) env = (false, assign e env) :: assignEach es env := by
      cases e <;> first | rfl | cases h.1
    rw [this, List.findIdx?_cons]
    simp [each_none h.2]
theorem tg_ok : ∀ k : Nat, (∀ (X : Cx) (T : CT), Fit X T R g j → ∀ e t, tgOf k T e = some t → PG X e (tP1 R t)) ∧ (∀ (X : Cx) (T : CT), Fit X T R g j → ∀ es l, tgsOf k T es = some l → PGs X es (tPL R l) ∧ es.length = l.length ∧ es.all notStar = true)
  | 0 => ⟨fun X T F e t h => (by cases h), fun X T F es l h => (by cases h)⟩
  | k + 1 => by
    obtain ⟨ih1, ih2⟩ := tg_ok k
    refine ⟨fun X T F e t h => ?_, fun X T F es l h => ?_⟩
    · rw [tgOf.eq_def] at h
      simp only at h
      split at h
      · rename_i x p
        cases hs : T.slot x with
        | none => rw [hs] at h; cases h
        | some i =>
          rw [hs] at h
          have : Tg.nm i = t := by simpa using h
          subst this
          obtain ⟨s1, s2, s3⟩ := F.slot hs
          exact bg_nm F.xnd s1 s2 s3
      · rename_i es n p
        cases hs : tgsOf k T es with
        | none => rw [hs] at h; cases h
        | some l =>
          rw [hs] at h
          have : Tg.tp l = t := by simpa using h
          subst this
          obtain ⟨h1, h2, h3⟩ := ih2 X T F es l hs
          exact bg_tp F.calm h1 ((each_len es).trans h2) (each_none h3)
      · cases h
    · rw [tgsOf.eq_def] at h
      simp only at h
      split at h
      · cases h; exact ⟨bgs_nil, rfl, rfl⟩
      · rename_i e r
        split at h <;> rename_i hn
        · split at h
          · rename_i t ts e1 e2
            cases h
            obtain ⟨h1, h2, h3⟩ := ih2 X T F r ts e2
            exact ⟨bgs_cons (ih1 X T F e t e1) h1 (each_cons hn), by simp [h2], by rw [List.all_cons, hn, h3]; rfl⟩
          · cases h
        · cases h
theorem an_ok : ∀ (k : Nat) (T : CT) (es : List Expr), AN R g (compA k T es) es.length
  | 0, T, es => fun e h vs h' z => by rw [compA] at z; cases z
  | k + 1, T, es => by
    rw [compA.eq_def]
    simp only
    split
    · exact AN.nil
    · rename_i e r
      split
      · exact AN.cons (an_ok k T r)
      · exact fun e h vs h' z => by cases z
theorem bltn_ty {p : Pos} {x : Str} {t : String} (F : Fit X T R g j) (hg : T.gl x = true) (hd : (x == ("__debug__" : Str)) = false) (hm : X.mg x = none) (hb : bootBuiltins x = some (.type t)) (hn : x ≠ "__name__") : PE X (.Name x p) (tC (tW R (.ty t))) :=
  pe_bltn (F.gl hg) hm hb rfl hn hd
theorem ty_ok (F : Fit X T R g j) {e : Expr} {t : Ty} (h : tyOf T e = some t) : PE X e (tC (tW R t)) ∧ notStar e = true := by
  unfold tyOf at h
  split at h
  · rename_i x p
    split at h
    · rename_i hx
      simp only [Bool.and_eq_true, Bool.not_eq_true'] at hx
      obtain ⟨hg, hd⟩ := hx
      refine ⟨?_, rfl⟩
      split at h
      · rename_i c i np hl
        cases h
        exact pe_glob (F.gl hg) (F.ok.cls x _ _ _ hl).1 rfl hd
      · rename_i c hl
        cases h
        exact pe_glob (F.gl hg) (F.ok.ty x _ hl) rfl hd
      · cases h
      · split at h
        · rename_i hb
          have hm := F.ok.bl x hb
          repeat' split at h
          all_goals first | (cases h; done) | (rename_i hx; simp only [beq_iff_eq] at hx; subst hx; cases h; exact bltn_ty F hg hd hm (by decide +kernel) (by decide))
        · cases h
    · cases h
  · cases h
theorem tys_ok (F : Fit X T R g j) : ∀ {es : List Expr} {ts : List Ty}, tysOf T es = some ts → PA X es (tCls R ts)
  | [], ts, h => by cases h; exact bc_nil
  | e :: r, ts, h => by
    unfold tysOf at h
    split at h
    · rename_i t ts' e1 e2
      cases h
      obtain ⟨h1, h2⟩ := ty_ok F e1
      exact bc_cons h1 (tys_ok F e2) (star1 h2)
    · cases h
end
end Bp
end

section
set_option linter.all false
set_option maxRecDepth 100000
set_option maxHeartbeats 0
set_option linter.all false
set_option maxRecDepth 100000
set_option autoImplicit false
set_option maxHeartbeats 4000000
namespace Bp
open PySem PySem.Spec PyProof.Rows L2
theorem b_rev {X : Cx} {R : Rx} {XR : XQ} {g : Gm} {a : Expr} {m : ME} {k : Nat} {p1 p2 p3 pos : Pos} (ha : PE X a (tE R XR g m)) : PE X (.Subscript a (.Slice none none (some (.UnaryOp .USub (.Constant (.int 1) k p1) p2)) p3) pos) (tE R XR g (mRev m)) :=
  (pe_revL ha).imp fun σ H Q ⟨φ, e, h, he, hr, q⟩ => ⟨φ, e, h, he, hr, (OutE.bind q).mono fun x H1 ⟨φ1, d, h1, x1, r1, p1, q1⟩ => by
    cases d with
    | ref n =>
      obtain ⟨a, f1, rfl⟩ := p1
      have q2 : OutV R φ1 H1 Q (revD h1 (.ref n)) := OutV.ofE q1
      simp only [revD] at q2
      split at q2
      · rename_i l g'
        obtain ⟨a', ys, f2, f3, f4⟩ := r1.list_at (K := X.K) (n := n) (l := l) (by simp [listAt, g'])
        cases get_eq f1 f2
        exact ⟨a, ys, rfl, f3, fun p hp => OutV.lst r1 f4.reverse q2 hp⟩
      · exact q2.elim
    | _ => exact q1.elim⟩
structure Snd (R : Rx) (g : Gm) (j k : Nat) : Prop where
  e : ∀ X T, Fit X T R g j → ∀ e, PE X e (tE R noX g (compE k T e))
  t : ∀ X T, Fit X T R g j → ∀ e, PT X e (tT R noX g (compT k T e))
  a : ∀ X T, Fit X T R g j → ∀ e, PA X e (tA R noX g (compA k T e))
  p : ∀ X T, Fit X T R g j → ∀ e, PO X e (tP R noX g (compP k T e))
  c : ∀ X T, Fit X T R g j → ∀ e, PTs X e (tT R noX g (compC k T e))
  i : ∀ X T, Fit X T R g j → ∀ tg e, PI X tg e (tI R noX g (compI k T tg e))
  k : ∀ X T, Fit X T R g j → ∀ kws, PK X kws (tA R noX g (compK k T kws))
theorem btc_bad {X : Cx} {R : Rx} {XR : XQ} {g : Gm} {e : List Expr} : PTs X e (tT R XR g mBad) := ⟨fun _ _ _ _ _ _ ⟨_, _, _, _, _, q⟩ => q.elim⟩
theorem bk_bad {X : Cx} {R : Rx} {XR : XQ} {g : Gm} {e : List Keyword} : PK X e (tA R XR g aBad) := ⟨fun _ _ _ _ _ _ _ ⟨_, _, _, _, _, q⟩ => q.elim⟩
theorem Snd.zero {R : Rx} {g : Gm} {j : Nat} : Snd R g j 0 := by
  refine ⟨fun X T F e => ?_, fun X T F e => ?_, fun X T F e => ?_, fun X T F e => ?_, fun X T F e => ?_, fun X T F tg e => ?_, fun X T F e => ?_⟩
  · rw [compE]; exact b_bad
  · rw [compT]; exact bt_bad
  · rw [compA]; exact ba_bad
  · rw [compP]; exact bp_bad
  · rw [compC]; exact btc_bad
  · rw [compI]; exact bi_bad
  · rw [compK]; exact bk_bad
section
variable {X : Cx} {T : CT} {R : Rx} {g : Gm} {j k : Nat}
theorem pw_pt {op : BoolOp} {vs : List Expr} {pos : Pos} {t : TT} (h : PW X (.BoolOp op vs pos) t) : PT X (.BoolOp op vs pos) t := h.pt
theorem pt_pw {op : BoolOp} {vs : List Expr} {pos : Pos} {t : TT} (h : PT X (.BoolOp op vs pos) t) : PW X (.BoolOp op vs pos) t :=
  ⟨fun wh pins s σ H Q I hq => h.run pins s σ H Q I hq⟩
theorem istrue_plain {e : Expr} {env : PySem.Env} (h1 : ∀ a p, e ≠ .UnaryOp .Not a p) (h2 : ∀ o v p, e ≠ .BoolOp o v p) (h3 : ∀ a b c p, e ≠ .IfExp a b c p) (h4 : ∀ a b c p, e ≠ .Compare a b c p) (whole : Sem Value) : isTrue e env whole = (do let v ← whole; standAt e.pos; holding [v] (truthy v)) := by
  cases e with
  | UnaryOp op a p => cases op <;> first | rfl | exact absurd rfl (h1 a p)
  | BoolOp o v p => exact absurd rfl (h2 o v p)
  | IfExp a b c p => exact absurd rfl (h3 a b c p)
  | Compare a b c p => exact absurd rfl (h4 a b c p)
  | _ => rfl
theorem snd_t (S : Snd R g j k) (F : Fit X T R g j) (e : Expr) : PT X e (tT R noX g (compT (k + 1) T e)) := by
  rw [compT.eq_def]
  simp only
  split
  · exact bt_not (S.t X T F _)
  · rename_i op vs pos
    split
    · exact bt_bad
    · rename_i a
      cases op with
      | And => exact (pw_and1 (S.t X T F a)).pt
      | Or => exact (pw_or1 (S.t X T F a)).pt
    · rename_i a b rest
      cases op with
      | And => exact (bw_and (S.t X T F a) (pt_pw (S.t X T F _))).pt
      | Or => exact (bw_or (S.t X T F a) (pt_pw (S.t X T F _))).pt
  · split
    · split <;> rename_i hb
      · exact bt_bad
      · exact bt_cmp F.u65 (S.e X T F _) (S.e X T F _) (by simpa using hb)
    · split <;> rename_i hb
      · exact bt_bad
      · exact bt_chain F.u65 (S.e X T F _) (S.e X T F _) (S.e X T F _) (by simpa using hb)
    · exact bt_bad
  · exact bt_bad
  · rename_i h1 h2 h3 h4
    exact bt_truth (S.e X T F _) (istrue_plain (fun a p z => h1 a p z) (fun o v p z => h2 o v p z) (fun a b c p z => h4 a b c p z) (fun a b c p z => h3 a b c p z))
theorem snd_a (S : Snd R g j k) (F : Fit X T R g j) (es : List Expr) : PA X es (tA R noX g (compA (k + 1) T es)) := by
  rw [compA.eq_def]
  simp only
  split
  · exact ba_nil
  · split <;> rename_i hn
    · exact ba_cons (S.e X T F _) (S.a X T F _) (star1 hn)
    · exact ba_bad
theorem snd_p (S : Snd R g j k) (F : Fit X T R g j) (e : Option Expr) : PO X e (tP R noX g (compP (k + 1) T e)) := by
  rw [compP.eq_def]
  simp only
  split
  · exact bp_none
  · exact bp_some (S.e X T F _)
theorem snd_c (S : Snd R g j k) (F : Fit X T R g j) (es : List Expr) : PTs X es (tT R noX g (compC (k + 1) T es)) := by
  rw [compC.eq_def]
  simp only
  split
  · exact bts_nil
  · exact pts_one (S.t X T F _)
  · exact btc_bad
theorem Fit.bltn (F : Fit X T R g j) {x : Str} (h : T.G.bl.contains x = true) : X.mg x = none := F.ok.bl x h
theorem snd_i (S : Snd R g j k) (F : Fit X T R g j) (tg e : Expr) : PI X tg e (tI R noX g (compI (k + 1) T tg e)) := by
  rw [compI.eq_def]
  simp only
  split
  · split <;> rename_i hx
    · simp only [Bool.and_eq_true, beq_iff_eq] at hx
      obtain ⟨⟨rfl, hg⟩, hb⟩ := hx
      split
      · split <;> rename_i hn
        · exact bi_range1 (an_ok k T [_]) (F.gl hg) (F.bltn hb) (S.a X T F _) (star1 hn)
        · exact bi_bad
      · split <;> rename_i hn
        · rw [Bool.and_eq_true] at hn
          exact bi_range2 (an_ok k T [_, _]) (F.gl hg) (F.bltn hb) (S.a X T F _) (by rw [star1 hn.1, star1 hn.2]; rfl) (star1 hn.2)
        · exact bi_bad
      · exact bi_bad
    · split <;> rename_i hx
      · simp only [Bool.and_eq_true, beq_iff_eq] at hx
        obtain ⟨⟨rfl, hg⟩, hb⟩ := hx
        split
        · split <;> rename_i hn
          · split
            · exact bi_enum (F.gl hg) (F.bltn hb) (S.e X T F _) (star1 hn) (star1 hn)
            · exact bi_bad
          · exact bi_bad
        · exact bi_bad
      · exact bi_val (S.e X T F _)
  · exact bi_val (S.e X T F _)
end
end Bp
end

section
set_option linter.all false
set_option maxRecDepth 100000
set_option maxHeartbeats 0
set_option linter.all false
set_option maxRecDepth 100000
set_option autoImplicit false
set_option maxHeartbeats 4000000
namespace Bp
open PySem PySem.Spec PyProof.Rows L2
section
variable {X : Cx} {T : CT} {R : Rx} {g : Gm} {j k : Nat}
theorem snd_name (F : Fit X T R g j) (x : Str) (p : Pos) : PE X (.Name x p) (tE R noX g (match T.see x with
    | some i => mVar i
    | none => if T.gl x && !(x == ("__debug__" : Str)) then match T.G.g.lookup x with
      | some (.cst d) => mK d
      | _ => mBad
      else mBad)) := by
  split
  · rename_i i h
    obtain ⟨h1, h2, h3, h4⟩ := F.see h
    exact b_var h1 h2 h3 h4
  · split <;> rename_i hx
    · simp only [Bool.and_eq_true, Bool.not_eq_true'] at hx
      split
      · rename_i d hl
        obtain ⟨u, v, h1, h2, h3⟩ := F.ok.cst x d hl
        exact b_K (pe_glob (F.gl hx.1) h1 h2 hx.2) h3
      · exact b_bad
    · exact b_bad
theorem snd_lc (S : Snd R g j k) (F : Fit X T R g j) (elt tg iter : Expr) (ifs : List Expr) (scope : Scope) (pos : Pos) (own : List (Str × Nat)) (t : Tg) (hs : isSet iter = false) (ho : ownOf T scope = some own) (ht : tgOf k ⟨T.N, relN scope T.sc, false, T.G, cellsIn scope⟩ tg = some t) (hsl : t.slots.all (fun i => (own.map (·.2)).contains i) = true) :
    PE X (.ListComp elt [⟨tg, iter, ifs, 0⟩] scope pos) (tE R noX g (mLC (compI k T tg iter) (own.map (·.2)) t (compC k ⟨T.N, relN scope T.sc, false, T.G, cellsIn scope⟩ ifs) (compE k ⟨T.N, relN scope T.sc, false, T.G, cellsIn scope⟩ elt))) :=
  b_lc F.calm F.xnd (S.i X T F tg iter) (F.blkOk ho) (fun i hi => by simpa using List.all_eq_true.mp hsl i hi)
    (fun s H C cl fp => (tg_ok k).1 _ _ F.blk tg t ht) (fun s H C cl fp => S.c _ _ F.blk ifs) (fun s H C cl fp => S.e _ _ F.blk elt) (set_fold hs)
theorem kwNames_len : ∀ {kws : List Keyword} {ks : List Str}, kwNames kws = some ks → ks.length = kws.length
  | [], ks, h => by cases h; rfl
  | ⟨none, e, p⟩ :: r, ks, h => by cases h
  | ⟨some n, e, p⟩ :: r, ks, h => by
    unfold kwNames at h
    cases hr : kwNames r with
    | none => rw [hr] at h; cases h
    | some k1 => rw [hr] at h; cases h; simp [kwNames_len hr]
theorem anK : ∀ (k : Nat) (T : CT) (kws : List Keyword), AN R g (compK k T kws) kws.length
  | 0, T, kws => by rw [compK]; intro e h vs h' z; cases z
  | k + 1, T, [] => by rw [compK]; exact .nil
  | k + 1, T, ⟨n, e, p⟩ :: r => by rw [compK]; exact .cons (anK k T r)
theorem snd_call (S : Snd R g j k) (F : Fit X T R g j) (x : Str) (p pos : Pos) (args : List Expr) : PE X (.Call (.Name x p) args [] pos) (tE R noX g (if T.gl x && !(x == ("__debug__" : Str)) then match T.G.g.lookup x with
          | some (.fn i np) => if args.length == np && args.all notStar then (if args.isEmpty then mCall i aNil else mCall i (compA k T args)) else mBad
          | some (.cls c i np) => if args.length == np && !args.isEmpty && args.all notStar then mMake c i (compA k T args) else mBad
          | some _ => mBad
          | none => if T.G.bl.contains x then (if x == ("isinstance" : Str) then (match args with
              | [a, c] => if notStar a then (match c with
                | .Tuple es _ _ => (match tysOf T es with
                  | some ts => if !ts.isEmpty && decide (ts.length ≤ 100) then mIsi T.G.sub ts (compE k T a) else mBad
                  | none => mBad)
                | c => (match tyOf T c with
                  | some t => mIsi T.G.sub [t] (compE k T a)
                  | none => mBad)) else mBad
              | _ => mBad)
            else match bfOf x args.length with
              | some b => if args.all notStar then mBf b (compA k T args) else mBad
              | none => mBad) else mBad
          else mBad)) := by
  split <;> rename_i hx
  · simp only [Bool.and_eq_true, Bool.not_eq_true'] at hx
    obtain ⟨hg, hd⟩ := hx
    split
    · rename_i i np hl
      obtain ⟨f, fd, ps, h1, h2, h3, h4⟩ := F.ok.fn x i np hl
      split <;> rename_i ha
      · simp only [Bool.and_eq_true, beq_iff_eq] at ha
        obtain ⟨ha1, ha2⟩ := ha
        subst ha1
        cases args with
        | nil => exact b_call0 h1 F.room (F.gl hg) h2 h3 h4 hd
        | cons a r =>
          rw [List.all_cons, Bool.and_eq_true] at ha2
          exact b_call h1 F.room (F.gl hg) h2 h3 h4 (S.a X T F _) (an_ok k T _) hd (star1 ha2.1) (stars_plain ha2.2)
      · exact b_bad
    · rename_i c i np hl
      obtain ⟨h2, f, fd, ps, hM, h1, h4⟩ := F.ok.cls x c i np hl
      split <;> rename_i ha
      · simp only [Bool.and_eq_true, beq_iff_eq] at ha
        obtain ⟨⟨ha1, ha3⟩, ha2⟩ := ha
        subst ha1
        cases args with
        | nil => cases ha3
        | cons a r =>
          rw [List.all_cons, Bool.and_eq_true] at ha2
          exact b_make hM h1 F.room (F.gl hg) h2 h4 (S.a X T F _) (an_ok k T _) hd (star1 ha2.1) (stars_plain ha2.2)
      · exact b_bad
    · exact b_bad
    · split <;> rename_i hb
      · have hm := F.bltn hb
        split <;> rename_i hi
        · simp only [beq_iff_eq] at hi
          subst hi
          split
          · rename_i a c
            split <;> rename_i hn
            · split
              · rename_i es n p2
                split
                · rename_i ts hts
                  split <;> rename_i hlen
                  · simp only [Bool.and_eq_true, Bool.not_eq_true', decide_eq_true_eq] at hlen
                    exact b_isiT (by intro z; rw [z] at hlen; simp at hlen) hlen.2 F.ok.sub (F.gl hg) hm (S.e X T F a) (tys_ok F hts) (star1 hn) rfl
                  · exact b_bad
                · exact b_bad
              · split
                · rename_i t ht
                  obtain ⟨h1, h2⟩ := ty_ok F ht
                  exact b_isi1 F.ok.sub (F.gl hg) hm (S.e X T F a) h1 (by rw [star1 hn, star1 h2]; rfl) (star1 h2)
                · exact b_bad
            · exact b_bad
          · exact b_bad
        · split
          · rename_i b hbf
            split <;> rename_i hn
            · have hin := bfOf_some hbf
              cases args with
              | nil =>
                exfalso
                simp [bfT] at hin
              | cons a r =>
                exact b_bf (F.gl hg) hm hd (bf_good F.calm F.u67 hin) (S.a X T F _) hn
            · exact b_bad
          · exact b_bad
      · exact b_bad
  · exact b_bad
theorem snd_meth (S : Snd R g j k) (F : Fit X T R g j) (o : Expr) (m : Str) (apos pos : Pos) (args : List Expr) : PE X (.Call (.Attribute o m apos) args [] pos) (tE R noX g (if plainBase o && (apos.endLine == pos.line) && args.all notStar && decide (args.length < 20) then match T.G.m.lookup m with
          | some (c, i, np, mi) => if args.length == np && !args.isEmpty then mMeth [(c, i)] mi (compE k T o) (compA k T args) else mBad
          | none => match mfOf o m args.length with
            | some f => if args.isEmpty then mMf f (compE k T o) aNil else mMf f (compE k T o) (compA k T args)
            | none => mBad
          else mBad)) := by
  split <;> rename_i hx
  · simp only [Bool.and_eq_true, decide_eq_true_eq] at hx
    obtain ⟨⟨⟨h1, h2⟩, h3⟩, h4⟩ := hx
    split
    · rename_i c i np mi hl
      obtain ⟨hc, hn, f, fd, ps, hM, hF, hB⟩ := F.ok.m m c i np mi hl
      split <;> rename_i ha
      · simp only [Bool.and_eq_true, beq_iff_eq] at ha
        obtain ⟨ha1, ha2⟩ := ha
        subst ha1
        cases args with
        | nil => cases ha2
        | cons a r =>
          have h3' := h3
          rw [List.all_cons, Bool.and_eq_true] at h3'
          refine b_meth (pl := do return (← importBound o X.env).getD true) F.ok.nd hn (S.e X T F o) hc hM hF F.room hB (S.a X T F _) (an_ok k T _) (star1 h3'.1) (stars_plain h3'.2) ?_
          have hform : methodCallForm ((a :: r).length + ([] : List Keyword).length) (backTo pos (starEach (a :: r) X.env)) (backToKw pos (keywordEach [] X.env)) = true := by
            unfold methodCallForm
            rw [stars_all h3]
            simp [keywordEach, backToKw]
            simp at h4
            omega
          have hpos : methodCallPos true o X.env apos pos = pure pos := by
            unfold methodCallPos
            simp [h2]
          rw [arm_eval_Call, base_plain h1]
          unfold methodCall calleeOf
          rw [hform, hpos]
          rfl
      · exact b_bad
    · split
      · rename_i f hf
        have good := mf_goodI (X := X) (R := R) F.u65 o hf
        cases args with
        | nil => exact b_mf0 good (S.e X T F o) h1 h2
        | cons a r => exact b_mf good (S.e X T F o) (S.a X T F _) h3 h1 h2 h4
      · exact b_bad
  · exact b_bad
theorem snd_sub (S : Snd R g j k) (F : Fit X T R g j) (a i : Expr) (pos : Pos) : PE X (.Subscript a i pos) (tE R noX g (match i with
      | .Slice lo hi none _ => mSlice (compE k T a) (compP k T lo) (compP k T hi)
      | .Slice none none (some (.UnaryOp .USub (.Constant (.int 1) _ _) _)) _ => mRev (compE k T a)
      | .Slice _ _ _ _ => mBad
      | i => mSub (compE k T a) (compE k T i))) := by
  split
  · exact b_slice (S.e X T F a) (S.p X T F _) (S.p X T F _)
  · exact b_rev (S.e X T F a)
  · exact b_bad
  · rename_i h1 h2 h3
    refine b_sub F.u65 (S.e X T F a) (S.e X T F _) (ix_plain ?_)
    cases i with
    | Slice lo hi st p => exact absurd rfl (h3 lo hi st p)
    | _ => rfl
theorem keysOf_ok : ∀ {keys : List (Option Expr)} {ks : List Str}, keysOf keys = some ks → keys.all (·.isSome) = true ∧ keys.length = ks.length ∧
    ∀ (values : List Expr) (f : Expr → ME) {pos : Pos}, ks.length = values.length → (∀ e, PE X e (tE R noX g (f e))) → PPs X pos keys values ((ks.map fun k => tC (.str k)).zip ((values.map f).map (tE R noX g)))
  | [], ks, h => by
    cases h
    refine ⟨rfl, rfl, fun values f pos hl hf => ?_⟩
    cases values with
    | nil => exact pps_nil
    | cons _ _ => cases hl
  | none :: r, ks, h => by cases h
  | some e :: r, ks, h => by
    cases e with
    | Constant c j p =>
      cases c with
      | str k =>
        simp only [keysOf] at h
        cases hr : keysOf r with
        | none => rw [hr] at h; cases h
        | some ks' =>
          rw [hr] at h
          have : k :: ks' = ks := by simpa using h
          subst this
          obtain ⟨h1, h2, h3⟩ := keysOf_ok hr
          refine ⟨by simp [h1], by simp [h2], fun values f pos hl hf => ?_⟩
          cases values with
          | nil => cases hl
          | cons v values => exact pps_cons pe_str (hf v) (h3 values f (by simpa using hl) hf)
      | _ => cases h
    | _ => cases h
theorem snd_e (S : Snd R g j k) (F : Fit X T R g j) (e : Expr) : PE X e (tE R noX g (compE (k + 1) T e)) := by
  rw [compE.eq_def]
  cases e with
  | Name x p => exact snd_name F x p
  | Constant c n p =>
    cases c with
    | none => exact b_K pe_non fun _ _ _ _ => rfl
    | bool b => exact b_K pe_bl fun _ _ _ _ => rfl
    | int i => exact b_K pe_int fun _ _ _ _ => rfl
    | str s => exact b_K pe_str fun _ _ _ _ => rfl
    | _ => exact b_bad
  | BinOp a op b p => exact b_bin (S.e X T F a) (S.e X T F b)
  | UnaryOp op a p =>
    cases op with
    | Not => exact b_not (S.e X T F a)
    | USub => exact b_neg (S.e X T F a)
    | _ => exact b_bad
  | BoolOp op vs p =>
    match vs with
    | [] => exact b_bad
    | [a] => exact pe_one (S.e X T F a)
    | a :: b :: rest =>
      cases op with
      | And => exact b_and (S.e X T F a) (S.e X T F _)
      | Or => exact b_or (S.e X T F a) (S.e X T F _)
  | IfExp c a b p => exact b_if (S.t X T F c) (S.e X T F a) (S.e X T F b)
  | Compare a ops bs p =>
    simp only
    split
    · split <;> rename_i hb
      · exact b_bad
      · exact b_cmp F.u65 (S.e X T F _) (S.e X T F _) (by simpa using hb)
    · split <;> rename_i hb
      · exact b_bad
      · exact b_chain F.u65 (S.e X T F _) (S.e X T F _) (S.e X T F _) (by simpa using hb)
    · exact b_bad
  | Subscript a i p => exact snd_sub S F a i p
  | Tuple es n p => exact b_tup (S.a X T F es)
  | List es p => exact b_lst (S.a X T F es)
  | Dict keys values p =>
    simp only
    split
    · rename_i ks hk
      obtain ⟨k1, k2, k3⟩ := keysOf_ok hk
      split <;> rename_i hl
      · simp only [Bool.and_eq_true, beq_iff_eq, Bool.not_eq_true', decide_eq_true_eq] at hl
        obtain ⟨⟨l1, l2⟩, l3⟩ := hl
        exact b_dict (k3 values (compE k T) l1 fun e => S.e X T F e) k1 (by rw [k2, l1]) (by intro z; rw [z] at k2; cases ks with | nil => cases l2 | cons _ _ => cases k2) (by rw [k2]; exact l3)
      · split <;> rename_i hz
        · simp only [Bool.and_eq_true, List.isEmpty_iff] at hz
          obtain ⟨rfl, rfl⟩ := hz
          have : keys = [] := List.length_eq_zero_iff.mp (by rw [k2]; rfl)
          subst this
          exact b_dict0
        · exact b_bad
    · exact b_bad
  | Attribute o f p =>
    simp only
    split <;> rename_i ho
    · split
      · rename_i c i fi hl
        obtain ⟨hc, pr, f', fd, ps, h1, h2, h3⟩ := F.ok.p f c i fi hl
        exact b_prop (fl := []) (S.e X T F o) hc h1 h2 F.room h3 (base_plain ho)
      · split
        · rename_i c fi hl
          obtain ⟨hc, h1, h2⟩ := F.ok.f f c fi hl
          exact b_fld F.ok.nd h1 (S.e X T F o) hc h2 (base_plain ho)
        · exact b_bad
    · exact b_bad
  | ListComp elt gs scope p =>
    simp only
    split
    · rename_i tg iter ifs async
      split <;> rename_i ha
      · simp only [Bool.and_eq_true, beq_iff_eq, Bool.not_eq_true'] at ha
        obtain ⟨ha1, ha2⟩ := ha
        subst ha1
        split
        · rename_i own ho
          split
          · rename_i t ht
            split <;> rename_i hsl
            · exact snd_lc S F elt tg iter ifs scope p own t ha2 ho ht hsl
            · exact b_bad
          · exact b_bad
        · exact b_bad
      · exact b_bad
    · exact b_bad
  | Call f args kws p =>
    simp only
    split
    · split
      · exact snd_call S F _ _ _ _
      · exact snd_meth S F _ _ _ _ _
      · exact b_bad
    · split
      · split
        · split <;> rename_i hx
          · simp only [Bool.and_eq_true, Bool.not_eq_true'] at hx
            split
            · split
              · rename_i c i ks sl jj h1 h2
                obtain ⟨hm, f', fd, ps, np, gg, gV, q1, q2, q3, q4⟩ := F.ok.ms _ c i ks sl h1
                obtain ⟨v1, v2, v3, v4⟩ := F.see h2
                exact b_makeS q1 q2 F.room (F.gl hx.1) hm q3 v1 v2 v3 v4 q4 hx.2
              · exact b_bad
            · split
              · rename_i ks hk
                split
                · rename_i c i sl h1
                  obtain ⟨hm, f', fd, ps, np, gg, gV, q1, q2, q3, q4⟩ := F.ok.km _ ks c i sl h1
                  exact b_makeK q1 q2 F.room (F.gl hx.1) hm q3 (S.k X T F _) (kwNames_len hk ▸ anK k T _) q4 (kw_ok hk).1 (kw_ok hk).2.1 hx.2 (kw_plain hk)
                · exact b_bad
              · exact b_bad
          · exact b_bad
        · split <;> rename_i hx
          · simp only [Bool.and_eq_true, decide_eq_true_eq] at hx
            split
            · rename_i ks hk
              split
              · rename_i c i mi h1
                obtain ⟨hc, hn, f', hM, hF⟩ := F.ok.mm _ ks c i mi h1
                exact b_methMore F.ok.nd hn (S.e X T F _) hc hM hF F.room (S.k X T F _) (kwNames_len hk ▸ anK k T _) (kw_ok hk).1 (kw_ok hk).2.1 (kw_plain hk) (meth_tree hk (base_plain hx.1.1) hx.1.2 hx.2)
              · exact b_bad
            · exact b_bad
          · exact b_bad
        · exact b_bad
      · exact b_bad
  | _ => exact b_bad
theorem snd_k (S : Snd R g j k) (F : Fit X T R g j) (kws : List Keyword) : PK X kws (tA R noX g (compK (k + 1) T kws)) := by
  rw [compK.eq_def]
  cases kws with
  | nil => exact bk_nil
  | cons a r => cases a with | mk n e p => exact bk_cons (S.e X T F e) (S.k X T F r)
theorem Snd.succ (S : Snd R g j k) : Snd R g j (k + 1) := ⟨fun X T F e => snd_e S F e, fun X T F e => snd_t S F e, fun X T F e => snd_a S F e, fun X T F e => snd_p S F e, fun X T F e => snd_c S F e, fun X T F tg e => snd_i S F tg e, fun X T F kws => snd_k S F kws⟩
theorem Snd.all : ∀ k, Snd R g j k
  | 0 => .zero
  | k + 1 => (Snd.all k).succ
end
end Bp
end

section
set_option linter.all false
set_option maxRecDepth 100000
set_option maxHeartbeats 0
set_option linter.all false
set_option maxRecDepth 100000
set_option autoImplicit false
set_option maxHeartbeats 4000000
namespace Bp
open PySem PySem.Spec PyProof.Rows L2
section
variable {X : Cx} {T : CT} {R : Rx} {g : Gm} {j k : Nat}
theorem sub_asg {o i : Expr} {p : Pos} {env : PySem.Env} (h : isSlc i = false) : ∀ v, assign (.Subscript o i p) env v = (do
      let ov ← holding [v] (eval o env)
      let iv ← holding [v, ov] (eval i env)
      standAt p
      holding [v, ov, iv] (setItem ov iv v)
      release [v, ov, iv] []) := fun v => by
  cases i <;> first | rfl | cases h
theorem sub_aug {i : Expr} (h : isSlc i = false) : ∀ ov iv new, augStore i ov iv new = (do holding [new, ov, iv] (setItem ov iv new); release [new, ov, iv] []; pure .next) := fun ov iv new => by
  cases i <;> first | rfl | cases h
theorem swap_none {tg e : Expr} {env : PySem.Env} (h : (∀ ts n p, tg ≠ .Tuple ts n p) ∧ (∀ ts p, tg ≠ .List ts p) ∨ ∀ vs n p, e ≠ .Tuple vs n p) : swappedStores [tg] e env = pure none := by
  unfold swappedStores
  cases tg with
  | Tuple ts n p =>
    rcases h with h | h
    · exact absurd rfl (h.1 ts n p)
    · cases e with
      | Tuple vs m q => exact absurd rfl (h vs m q)
      | _ => rfl
  | List ts p =>
    rcases h with h | h
    · exact absurd rfl (h.2 ts p)
    · cases e with
      | Tuple vs m q => exact absurd rfl (h vs m q)
      | _ => rfl
  | _ => rfl
theorem swsole {tg e : Expr} {l : Nat} {env : PySem.Env} (h : isLc e = false ∨ (∀ x p, tg ≠ .Name x p)) : swapsWithSole [tg] e l env = pure false := by
  show swapsWith e (some tg) l env = pure false
  rcases h with h | h
  · exact sw_plain h
  · cases e <;> first | rfl | (cases tg <;> first | rfl | (rename_i x p; exact absurd rfl (h x p)))
theorem Fit.blockKind (F : Fit X T R g j) (h : T.sc.kind = .function) : X.env.blockKind = .function := by
  unfold PySem.Env.blockKind
  rw [F.sc, h]
  rfl
theorem swNames_eq (F : Fit X T R g j) (ts : List Expr) : (ts.filterMap fun
    | .Name id pos => if X.env.kindOf id == some .local && pos.line == (ts.head?.map (·.pos.line)).getD 0 then some id else none
    | _ => none) = swNames T ts := by
  unfold swNames swLine
  congr 1
  funext e
  cases e <;> try rfl
  rename_i x p
  show (if X.env.scope.names.lookup x == some .local && _ then _ else _) = _
  rw [F.kind]
theorem swKind_ok (F : Fit X T R g j) (hk : T.sc.kind = .function) {ts vs : List Expr} {n m : Nat} {p q : Pos} : (swKind T ts vs = 0 → swappedStores [.Tuple ts n p] (.Tuple vs m q) X.env = pure none) ∧ (swKind T ts vs = 1 → swappedStores [.Tuple ts n p] (.Tuple vs m q) X.env = pure (some (swNames T ts)) ∧ (swNames T ts).length = ts.length) := by
  have e0 : swappedStores [.Tuple ts n p] (.Tuple vs m q) X.env = (do
    if !(ts.length == 2 || ts.length == 3) || vs.length != ts.length || X.env.blockKind != .function then return none
    if vs.any fun | .Starred .. => true | _ => false then return none
    let names := swNames T ts
    if names.length != ts.length || names.eraseDups.length != names.length then return none
    if vs.all (foldedForSure 8) then return none
    if vs.all (constantsAlone 8) then unsupported "assign.tuple-of-constant-expressions:order-of-the-stores"
    return some names) := by
    rw [← swNames_eq F ts]
    rfl
  have hst : ∀ vs : List Expr, (vs.any fun | .Starred .. => true | _ => false) = !(vs.all notStar) := by
    intro vs
    induction vs with
    | nil => rfl
    | cons e r ih => rw [List.any_cons, List.all_cons, ih]; cases e <;> simp [notStar]
  rw [hst] at e0
  rw [e0, F.blockKind hk]
  unfold swKind
  have hb : (ScopeKind.function != ScopeKind.function) = false := by decide
  rw [hb, Bool.or_false]
  split <;> rename_i h1
  · exact ⟨fun _ => rfl, fun z => by cases z⟩
  · split <;> rename_i h2
    · refine ⟨fun _ => ?_, fun z => by cases z⟩
      rfl
    · split <;> rename_i h3
      · refine ⟨fun _ => ?_, fun z => (by cases z)⟩
        show (if _ then pure none else _) = _
        rw [if_pos h3]
      · split <;> rename_i h4
        · refine ⟨fun _ => ?_, fun z => (by cases z)⟩
          show (if _ then pure none else _) = _
          rw [if_neg h3]
        · split <;> rename_i h5
          · exact ⟨fun z => (by cases z), fun z => (by cases z)⟩
          · refine ⟨fun z => (by cases z), fun _ => ⟨?_, ?_⟩⟩
            · show (if _ then pure none else _) = _
              rw [if_neg h3]
            · simp at h3
              exact h3.1
theorem bs_setLc {elt tg iter : Expr} {ifs : List Expr} {scope : Scope} {own : List (Str × Nat)} {t : Tg} {mi : MI} {mt me : ME} {i : Nat} {y : Str} {py pos spos : Pos} (hc : X.calm = true) (hN : X.N.Nodup) (hy : X.N[i]? = some y) (hyl : X.env.scope.names.lookup y = some .local)
    (hsw : swapsWith (.ListComp elt [⟨tg, iter, ifs, 0⟩] scope pos) (some (.Name y py)) spos.line X.env = pure true) (hi : PI X tg iter (tI R noX g mi)) (ok : BlkOk X.N X.env.scope scope own) (hsl : ∀ i ∈ t.slots, i ∈ own.map (·.2))
    (hg : ∀ (s : Shared) (H : Hp) (C : Addr) (cl : List (Str × Addr)) (fp : List Addr), PG (X.blk s H scope (compEnvC scope cl C X.env) fp) tg (tP1 R t)) (ht : ∀ (s : Shared) (H : Hp) (C : Addr) (cl : List (Str × Addr)) (fp : List Addr), PTs (X.blk s H scope (compEnvC scope cl C X.env) fp) ifs (tT R noX g mt))
    (he : ∀ (s : Shared) (H : Hp) (C : Addr) (cl : List (Str × Addr)) (fp : List Addr), PE (X.blk s H scope (compEnvC scope cl C X.env) fp) elt (tE R noX g me)) (hs : ∀ x, foldedSetIterable iter X.env x = pure x) :
    PS X (.Assign [.Name y py] (.ListComp elt [⟨tg, iter, ifs, 0⟩] scope pos) spos) (tS R noX g (sAsg (mLC mi (own.map (·.2)) t mt me) (gPat (.nm i)))) :=
  (ps_setLc hc hN hy hyl hsw hi ok hg ht he hs).imp fun D σ H ⟨φ, e, h, he, hr, q⟩ =>
    lc_rd0 (Q := fun x H1 => gName i x σ H1 D.nx) hsl he hr ((OutE.toS he q).mono fun x H1 ⟨φ1, d, h1, x1, r1, p1, q1⟩ => q1 φ1 H1 _ .refl r1 ((he.ext x1).set p1 i))
theorem snd_set (S : Snd R g j k) (F : Fit X T R g j) (x : Str) (p : Pos) (e : Expr) (pos : Pos) (i : Nat) (hi : T.slot x = some i) (hk : T.sc.kind = .function) : PS X (.Assign [.Name x p] e pos) (tS R noX g (sAsg (compE k T e) (gPat (.nm i)))) := by
  obtain ⟨h1, h2, h3⟩ := F.slot hi
  by_cases hl : isLc e = true
  · cases k with
    | zero =>
      rw [compE]
      exact ⟨fun _ _ _ _ _ _ ⟨_, _, _, _, _, q⟩ => q.elim⟩
    | succ k =>
      cases e with
      | ListComp elt gs scope lp =>
        by_cases hsw : swapsWith (.ListComp elt gs scope lp) (some (.Name x p)) pos.line X.env = pure false
        · exact bs_set F.xnd h1 h2 ((Snd.all (k + 1)).e X T F _) hsw h3
        · have hb : swapsWith (.ListComp elt gs scope lp) (some (.Name x p)) pos.line X.env = pure (X.env.blockKind == .function && X.env.kindOf x == some .local && p.line == lp.line && !(scope.names.any fun (n, k) => n == x && (k == .local || k == .cell))) := rfl
          have hsw2 : swapsWith (.ListComp elt gs scope lp) (some (.Name x p)) pos.line X.env = pure true := by
            cases hc : (X.env.blockKind == .function && X.env.kindOf x == some .local && p.line == lp.line && !(scope.names.any fun (n, k) => n == x && (k == .local || k == .cell))) with
            | true => rw [hb, hc]
            | false => rw [hc] at hb; exact absurd hb hsw
          have hyl : X.env.scope.names.lookup x = some .local := by
            cases hc : (X.env.blockKind == .function && X.env.kindOf x == some .local && p.line == lp.line && !(scope.names.any fun (n, k) => n == x && (k == .local || k == .cell))) with
            | true =>
              simp only [Bool.and_eq_true, beq_iff_eq] at hc
              exact hc.1.1.2
            | false => rw [hc] at hb; exact absurd hb hsw
          have bad : PS X (.Assign [.Name x p] (.ListComp elt gs scope lp) pos) (tS R noX g (sAsg mBad (gPat (.nm i)))) := ⟨fun _ _ _ _ _ _ ⟨_, _, _, _, _, q⟩ => q.elim⟩
          rw [compE.eq_def]
          simp only
          split
          · rename_i tg iter ifs async
            split <;> rename_i ha
            · simp only [Bool.and_eq_true, beq_iff_eq, Bool.not_eq_true'] at ha
              obtain ⟨ha1, ha2⟩ := ha
              subst ha1
              split
              · rename_i own ho
                split
                · rename_i t ht
                  split <;> rename_i hsl
                  · have S' : Snd R g j k := Snd.all k
                    exact bs_setLc F.calm F.xnd h1 hyl hsw2 (S'.i X T F tg iter) (F.blkOk ho) (fun i hi => by simpa using List.all_eq_true.mp hsl i hi)
                      (fun s H C cl fp => (tg_ok k).1 _ _ F.blk tg t ht) (fun s H C cl fp => S'.c _ _ F.blk ifs) (fun s H C cl fp => S'.e _ _ F.blk elt) (set_fold ha2)
                  · exact bad
                · exact bad
              · exact bad
            · exact bad
          · exact bad
      | SetComp _ _ _ _ => rw [compE.eq_def]; exact ⟨fun _ _ _ _ _ _ ⟨_, _, _, _, _, q⟩ => q.elim⟩
      | DictComp _ _ _ _ _ => rw [compE.eq_def]; exact ⟨fun _ _ _ _ _ _ ⟨_, _, _, _, _, q⟩ => q.elim⟩
      | _ => cases hl
  · exact bs_set F.xnd h1 h2 (S.e X T F e) (sw_plain (by simpa using hl)) h3
end
end Bp
end

section
set_option linter.all false
set_option maxRecDepth 100000
set_option maxHeartbeats 0
set_option linter.all false
set_option maxRecDepth 100000
set_option autoImplicit false
set_option maxHeartbeats 4000000
namespace Bp
open PySem PySem.Spec PyProof.Rows L2
structure SndS (R : Rx) (g : Gm) (j k : Nat) : Prop where
  s : ∀ X T, Fit X T R g j → T.fn = true → ∀ st, PS X st (tS R noX g (compS k T st))
  ss : ∀ X T, Fit X T R g j → T.fn = true → ∀ st, PSs X st (tS R noX g (compSs k T st))
section
variable {X : Cx} {T : CT} {R : Rx} {g : Gm} {j k : Nat}
theorem swNames_loc {ts : List Expr} {x : Str} {p : Pos} (hm : Expr.Name x p ∈ ts) (hl : (swNames T ts).length = ts.length) : T.kind x = some .local := by
  have key : ∀ (l : List Expr) (f : Expr → Option Str), (l.filterMap f).length = l.length → ∀ e ∈ l, (f e).isSome = true := by
    intro l f
    induction l with
    | nil => intro _ e he; cases he
    | cons a r ih =>
      intro h e he
      have hle := List.length_filterMap_le f r
      rw [List.filterMap_cons] at h
      cases ha : f a with
      | none => rw [ha] at h; simp at h; omega
      | some b =>
        rw [ha] at h
        simp at h
        rcases List.mem_cons.mp he with rfl | he
        · rw [ha]; rfl
        · first | exact ih h e he | exact h e he
  have := key ts _ hl _ hm
  simp only at this
  split at this
  · rename_i hx
    simp only [Bool.and_eq_true, beq_iff_eq] at hx
    exact hx.1
  · cases this
theorem snd_par2 (S : Snd R g j k) (F : Fit X T R g j) (hk : T.sc.kind = .function) {x y : Str} {px py : Pos} {n m : Nat} {p q pos : Pos} {a b : Expr} {i l : Nat} (hw : swKind T [.Name x px, .Name y py] [a, b] = 1) (hi : ixOf T.N x = some i) (hj : ixOf T.N y = some l) (hne : i ≠ l) :
    PS X (.Assign [.Tuple [.Name x px, .Name y py] n p] (.Tuple [a, b] m q) pos) (tS R noX g (sPar [i, l] (compA k T [a, b]))) := by
  obtain ⟨h1, h2⟩ := (swKind_ok F hk (n := n) (m := m) (p := p) (q := q)).2 hw
  have l1 := swNames_loc (T := T) (x := x) (p := px) (by simp) h2
  have l2 := swNames_loc (T := T) (x := y) (p := py) (by simp) h2
  have hn : swNames T [.Name x px, .Name y py] = [x, y] := by
    unfold swNames at h2 ⊢
    simp only [List.filterMap_cons, List.filterMap_nil] at h2 ⊢
    split at h2 <;> split at h2 <;> simp_all
  rw [hn] at h1
  exact bs_par2 F.calm F.xnd (F.ix hi) (F.ix hj) hne (by rw [F.kind]; exact l1) (by rw [F.kind]; exact l2) (S.a X T F _) h1 (swsole (.inl rfl))
theorem snd_par3 (S : Snd R g j k) (F : Fit X T R g j) (hk : T.sc.kind = .function) {x y z : Str} {px py pz : Pos} {n m : Nat} {p q pos : Pos} {a b c : Expr} {i l o : Nat} (hw : swKind T [.Name x px, .Name y py, .Name z pz] [a, b, c] = 1) (hi : ixOf T.N x = some i) (hj : ixOf T.N y = some l) (ho : ixOf T.N z = some o) (hne : i ≠ l) (hne2 : i ≠ o) (hne3 : l ≠ o) :
    PS X (.Assign [.Tuple [.Name x px, .Name y py, .Name z pz] n p] (.Tuple [a, b, c] m q) pos) (tS R noX g (sPar [i, l, o] (compA k T [a, b, c]))) := by
  obtain ⟨h1, h2⟩ := (swKind_ok F hk (n := n) (m := m) (p := p) (q := q)).2 hw
  have l1 := swNames_loc (T := T) (x := x) (p := px) (by simp) h2
  have l2 := swNames_loc (T := T) (x := y) (p := py) (by simp) h2
  have l3 := swNames_loc (T := T) (x := z) (p := pz) (by simp) h2
  have hn : swNames T [.Name x px, .Name y py, .Name z pz] = [x, y, z] := by
    unfold swNames at h2 ⊢
    simp only [List.filterMap_cons, List.filterMap_nil] at h2 ⊢
    split at h2 <;> split at h2 <;> split at h2 <;> simp_all
  rw [hn] at h1
  exact bs_par3 F.calm F.xnd (F.ix hi) (F.ix hj) (F.ix ho) hne hne2 hne3 (by rw [F.kind]; exact l1) (by rw [F.kind]; exact l2) (by rw [F.kind]; exact l3) (S.a X T F _) h1 (swsole (.inl rfl))
theorem snd_s (Z : SndS R g j k) (F : Fit X T R g j) (hf : T.fn = true) (st : Stmt) : PS X st (tS R noX g (compS (k + 1) T st)) := by
  have S : Snd R g j k := Snd.all k
  rw [compS.eq_def]
  cases st with
  | Expr e p =>
    simp only
    split <;> rename_i hl
    · exact bs_bad
    · exact bs_expr (S.e X T F e) (sw_plain (by simpa using hl))
  | Return e p =>
    cases e with
    | none => exact bs_retN
    | some e => exact bs_ret (S.e X T F e)
  | Pass p => exact bs_pass
  | Break p => exact bs_brk
  | Continue p => exact bs_cnt
  | If c a b p => exact bs_if (S.t X T F c) (Z.ss X T F hf a) (Z.ss X T F hf b)
  | For tg iter body els p =>
    simp only
    split
    · split <;> rename_i hs
      · exact bs_bad
      · split
        · rename_i t ht
          split
          · rename_i x px
            split
            · rename_i i hi
              obtain ⟨v1, v2, v3, v4⟩ := F.see hi
              exact b_forV (F.own hf) F.calm v1 v2 v3 v4 ((tg_ok k).1 X T F tg t ht) (Z.ss X T F hf body) (set_fold (by simpa using hs))
            · exact bs_bad
          · exact bs_for (F.own hf) F.calm (S.i X T F tg _) ((tg_ok k).1 X T F tg t ht) (Z.ss X T F hf body) (set_fold (by simpa using hs))
        · exact bs_bad
    · exact bs_bad
  | While c body els p =>
    simp only
    split
    · exact bs_while (F.own hf) (S.t X T F c) (Z.ss X T F hf body)
    · exact bs_bad
  | AugAssign tg op e p =>
    simp only
    split
    · split
      · rename_i i hi
        obtain ⟨h1, h2, h3⟩ := F.slot hi
        exact bs_aug F.xnd h1 h2 (S.e X T F e) h3
      · exact bs_bad
    · split <;> rename_i hs
      · exact bs_bad
      · exact bs_augS F.u65 (S.e X T F _) (S.e X T F _) (S.e X T F e) (sub_aug (by simpa using hs))
    · exact bs_bad
  | Assign tgs e p =>
    simp only
    split
    · rename_i tg
      split
      · split
        · rename_i i hi
          split <;> rename_i hk
          · exact snd_set S F _ _ e p i hi (by simpa using hk)
          · exact bs_bad
        · exact bs_bad
      · rename_i ts n q
        split <;> rename_i hk
        · have hk : T.sc.kind = .function := by simpa using hk
          split
          · rename_i vs m q2
            split
            · rename_i hw
              split
              · rename_i t ht
                exact bs_pat (S.e X T F _) ((tg_ok k).1 X T F _ t ht) (swsole (.inl rfl)) ((swKind_ok F hk).1 hw) rfl
              · exact bs_bad
            · rename_i hw
              split
              · split
                · rename_i i l hi hj
                  split <;> rename_i hne
                  · exact bs_bad
                  · exact snd_par2 S F hk hw hi hj (by simpa using hne)
                · exact bs_bad
              · split
                · rename_i i l o hi hj ho
                  split <;> rename_i hne
                  · exact bs_bad
                  · simp only [Bool.or_eq_true, beq_iff_eq, not_or] at hne
                    exact snd_par3 S F hk hw hi hj ho hne.1 hne.2.1 hne.2.2
                · exact bs_bad
              · exact bs_bad
            · exact bs_bad
          · rename_i hnt
            split
            · rename_i t ht
              exact bs_pat (S.e X T F _) ((tg_ok k).1 X T F _ t ht) (swsole (.inr fun x p z => by cases z)) (swap_none (.inr fun vs n p z => hnt vs n p z)) rfl
            · exact bs_bad
        · exact bs_bad
      · split <;> rename_i hs
        · exact bs_bad
        · exact bs_sub F.u65 (S.e X T F e) (S.e X T F _) (S.e X T F _) (swsole (.inr fun x p z => by cases z)) (swap_none (.inl ⟨fun ts n p z => (by cases z), fun ts p z => (by cases z)⟩)) rfl (sub_asg (by simpa using hs))
      · split
        · rename_i c fi hl
          obtain ⟨hc, h1, h2⟩ := F.ok.f _ c fi hl
          refine bs_fld F.ok.nd h1 hc h2 (S.e X T F e) (S.e X T F _) ?_
          cases e <;> rfl
        · exact bs_bad
      · exact bs_bad
    · exact bs_bad
  | _ => exact bs_bad
theorem SndS.zero : SndS R g j 0 := ⟨fun X T F hf st => by rw [compS]; exact bs_bad, fun X T F hf st => by rw [compSs]; exact bss_bad⟩
theorem snd_ss (Z : SndS R g j k) (F : Fit X T R g j) (hf : T.fn = true) (sts : List Stmt) : PSs X sts (tS R noX g (compSs (k + 1) T sts)) := by
  rw [compSs.eq_def]
  simp only
  split
  · exact bss_nil
  · exact bss_cons (Z.s X T F hf _) (Z.ss X T F hf _)
theorem SndS.all : ∀ k, SndS R g j k
  | 0 => .zero
  | k + 1 => ⟨fun X T F hf st => snd_s (SndS.all k) F hf st, fun X T F hf st => snd_ss (SndS.all k) F hf st⟩
end
end Bp
end

section
set_option linter.all false
set_option maxRecDepth 100000
set_option maxHeartbeats 0
set_option linter.all false
set_option maxRecDepth 100000
set_option autoImplicit false
set_option maxHeartbeats 2000000
namespace Bp
open PySem PySem.Spec PyProof.Rows L2
section
variable {R : Rx} {φ φ' φ2 : List Addr} {H H' : Hp} {n : Nat} {seen : List Nat}
structure Pl (n : Nat) (seen : List Nat) (φ φ2 : List Addr) : Prop where
  lo : ∀ k, k < n → ∀ a, φ[k]? = some a → φ2[k]? = some a
  hi : ∀ k ∈ seen, ∀ a, φ[k]? = some a → φ2[n + seen.idxOf k]? = some a
mutual
theorem Pl.rp (P : Pl n seen φ φ2) : ∀ (d : D) (v : V), Rp φ H d v → (∀ k ∈ d.refs n, k ∈ seen) → Rp φ2 H (d.ren (place n seen)) v
  | .non, _, r, _ => r
  | .bl _, _, r, _ => r
  | .int _, _, r, _ => r
  | .str _, _, r, _ => r
  | .tup l, v, r, h => by
    obtain ⟨a, xs, rfl, h1, h2⟩ := r
    exact ⟨a, xs, rfl, h1, Pl.rpL P l xs h2 (by simpa only [D.refs] using h)⟩
  | .ref k, v, r, h => by
    obtain ⟨a, h1, rfl⟩ := r
    refine ⟨a, ?_, rfl⟩
    unfold place
    by_cases hk : k < n
    · rw [if_pos hk]; exact P.lo k hk a h1
    · rw [if_neg hk]
      exact P.hi k (h k (by simp [D.refs, hk])) a h1
  | .exc _ _, _, r, _ => r.elim
  | .clo _ _, _, r, _ => r.elim
theorem Pl.rpL (P : Pl n seen φ φ2) : ∀ (l : List D) (xs : List V), RpL φ H l xs → (∀ k ∈ D.refsL n l, k ∈ seen) → RpL φ2 H (D.renL (place n seen) l) xs
  | [], _, r, _ => r
  | d :: l, xs, r, h => by
    obtain ⟨x, r', rfl, h1, h2⟩ := r
    refine ⟨x, r', rfl, Pl.rp P d x h1 fun k hk => h k ?_, Pl.rpL P l r' h2 fun k hk => h k ?_⟩
    · simp only [D.refsL, List.mem_append]; exact .inl hk
    · simp only [D.refsL, List.mem_append]; exact .inr hk
end
mutual
theorem ren_key : ∀ (f : Nat → Nat) (d : D) (k : Key), keyOf d = some k → keyOf (d.ren f) = some k
  | f, .int i, k, h => h
  | f, .str s, k, h => h
  | f, .non, k, h => by cases h
  | f, .bl _, k, h => by cases h
  | f, .tup _, k, h => by cases h
  | f, .ref _, k, h => by cases h
  | f, .exc _ _, k, h => by cases h
  | f, .clo _ _, k, h => by cases h
end
theorem ren_tkeyL (f : Nat → Nat) : ∀ (l : List D) (ks : List Key), mapO keyOf l = some ks → mapO keyOf (D.renL f l) = some ks
  | [], ks, h => h
  | d :: l, ks, h => by
    obtain ⟨b, s, e1, e2, rfl⟩ := mapO_some h
    simp only [D.renL, mapO, ren_key f d b e1, ren_tkeyL f l s e2]
theorem ren_tkey (f : Nat → Nat) (d : D) (k : List Key) (h : tkeyOf d = some k) : tkeyOf (d.ren f) = some k := by
  cases d with
  | tup l => exact ren_tkeyL f l k h
  | _ => cases h
theorem Pl.rpK (P : Pl n seen φ φ2) : ∀ (l : List (D × D)) (xs : List (Key × V)), RpK φ H l xs → (∀ k ∈ refsP n l, k ∈ seen) → RpK φ2 H (renP (place n seen) l) xs
  | [], _, r, _ => r
  | (a, b) :: l, xs, r, h => by
    obtain ⟨x, r', rfl, h1, h2, h3⟩ := r
    refine ⟨x, r', rfl, ren_key _ a _ h1, Pl.rp P b x.2 h2 fun k hk => h k ?_, Pl.rpK P l r' h3 fun k hk => h k ?_⟩
    · simp only [refsP, List.mem_append]; exact .inr (.inl hk)
    · simp only [refsP, List.mem_append]; exact .inr (.inr hk)
theorem Pl.rpT (P : Pl n seen φ φ2) : ∀ (l : List (D × D)) (xs : List (List Key × V)), RpT φ H l xs → (∀ k ∈ refsP n l, k ∈ seen) → RpT φ2 H (renP (place n seen) l) xs
  | [], _, r, _ => r
  | (a, b) :: l, xs, r, h => by
    obtain ⟨x, r', rfl, h1, h2, h3⟩ := r
    refine ⟨x, r', rfl, ren_tkey _ a _ h1, Pl.rp P b x.2 h2 fun k hk => h k ?_, Pl.rpT P l r' h3 fun k hk => h k ?_⟩
    · simp only [refsP, List.mem_append]; exact .inr (.inl hk)
    · simp only [refsP, List.mem_append]; exact .inr (.inr hk)
theorem Pl.rpF (P : Pl n seen φ φ2) : ∀ (l : List (Nat × D)) (xs : List (Str × V)), RpF R φ H l xs → (∀ k ∈ refsF n l, k ∈ seen) → RpF R φ2 H (renF (place n seen) l) xs
  | [], _, r, _ => r
  | (a, b) :: l, xs, r, h => by
    obtain ⟨x, r', rfl, h1, h2, h3⟩ := r
    refine ⟨x, r', rfl, h1, Pl.rp P b x.2 h2 fun k hk => h k ?_, Pl.rpF P l r' h3 fun k hk => h k ?_⟩
    · simp only [refsF, List.mem_append]; exact .inl hk
    · simp only [refsF, List.mem_append]; exact .inr hk
theorem Pl.ro (P : Pl n seen φ φ2) {o : DO} {a : Addr} (r : RO R φ H o a) (h : ∀ k ∈ o.refs n, k ∈ seen) : RO R φ2 H (o.ren (place n seen)) a := by
  cases o with
  | lst l => obtain ⟨xs, h1, h2⟩ := r; exact ⟨xs, h1, P.rpL l xs h2 h⟩
  | frz l => obtain ⟨o, xs, h1, h2⟩ := r; exact ⟨o, xs, h1, P.rpL l xs h2 h⟩
  | tpl l => obtain ⟨o, xs, h1, h2⟩ := r; exact ⟨o, xs, h1, P.rpL l xs h2 h⟩
  | dk l => obtain ⟨xs, h1, h2⟩ := r; exact ⟨xs, h1, P.rpK l xs h2 h⟩
  | dt l => obtain ⟨xs, h1, h2⟩ := r; exact ⟨xs, h1, P.rpT l xs h2 h⟩
  | lk l => obtain ⟨o, xs, h1, h2⟩ := r; exact ⟨o, xs, h1, P.rpK l xs h2 h⟩
  | lt l => obtain ⟨o, xs, h1, h2⟩ := r; exact ⟨o, xs, h1, P.rpT l xs h2 h⟩
  | ins c fs => obtain ⟨dx, fv, h1, h2⟩ := r; exact ⟨dx, fv, h1, P.rpF fs fv h2 h⟩
mutual
theorem low_rp (hp : ∀ k, k < n → ∀ a, φ[k]? = some a → φ2[k]? = some a) : ∀ (d : D) (v : V), Rp φ H d v → d.blw n = true → Rp φ2 H d v
  | .non, _, r, _ => r
  | .bl _, _, r, _ => r
  | .int _, _, r, _ => r
  | .str _, _, r, _ => r
  | .tup l, v, r, h => by
    obtain ⟨a, xs, rfl, h1, h2⟩ := r
    exact ⟨a, xs, rfl, h1, low_rpL hp l xs h2 (by simpa only [D.blw] using h)⟩
  | .ref k, v, r, h => by
    obtain ⟨a, h1, rfl⟩ := r
    exact ⟨a, hp k (by simpa [D.blw] using h) a h1, rfl⟩
  | .exc _ _, _, r, _ => r.elim
  | .clo _ _, _, r, _ => r.elim
theorem low_rpL (hp : ∀ k, k < n → ∀ a, φ[k]? = some a → φ2[k]? = some a) : ∀ (l : List D) (xs : List V), RpL φ H l xs → D.blwL n l = true → RpL φ2 H l xs
  | [], _, r, _ => r
  | d :: l, xs, r, h => by
    obtain ⟨x, r', rfl, h1, h2⟩ := r
    simp only [D.blwL, Bool.and_eq_true] at h
    exact ⟨x, r', rfl, low_rp hp d x h1 h.1, low_rpL hp l r' h2 h.2⟩
end
theorem low_rpK (hp : ∀ k, k < n → ∀ a, φ[k]? = some a → φ2[k]? = some a) : ∀ (l : List (D × D)) (xs : List (Key × V)), RpK φ H l xs → blwP n l = true → RpK φ2 H l xs
  | [], _, r, _ => r
  | (a, b) :: l, xs, r, h => by
    obtain ⟨x, r', rfl, h1, h2, h3⟩ := r
    simp only [blwP, Bool.and_eq_true] at h
    exact ⟨x, r', rfl, h1, low_rp hp b x.2 h2 h.2.1, low_rpK hp l r' h3 h.2.2⟩
theorem low_rpT (hp : ∀ k, k < n → ∀ a, φ[k]? = some a → φ2[k]? = some a) : ∀ (l : List (D × D)) (xs : List (List Key × V)), RpT φ H l xs → blwP n l = true → RpT φ2 H l xs
  | [], _, r, _ => r
  | (a, b) :: l, xs, r, h => by
    obtain ⟨x, r', rfl, h1, h2, h3⟩ := r
    simp only [blwP, Bool.and_eq_true] at h
    exact ⟨x, r', rfl, h1, low_rp hp b x.2 h2 h.2.1, low_rpT hp l r' h3 h.2.2⟩
theorem low_rpF (hp : ∀ k, k < n → ∀ a, φ[k]? = some a → φ2[k]? = some a) : ∀ (l : List (Nat × D)) (xs : List (Str × V)), RpF R φ H l xs → blwF n l = true → RpF R φ2 H l xs
  | [], _, r, _ => r
  | (a, b) :: l, xs, r, h => by
    obtain ⟨x, r', rfl, h1, h2, h3⟩ := r
    simp only [blwF, Bool.and_eq_true] at h
    exact ⟨x, r', rfl, h1, low_rp hp b x.2 h2 h.1, low_rpF hp l r' h3 h.2⟩
theorem low_ro (hp : ∀ k, k < n → ∀ a, φ[k]? = some a → φ2[k]? = some a) {o : DO} {a : Addr} (r : RO R φ H o a) (h : o.blw n = true) : RO R φ2 H o a := by
  cases o with
  | lst l => obtain ⟨xs, h1, h2⟩ := r; exact ⟨xs, h1, low_rpL hp l xs h2 h⟩
  | frz l => obtain ⟨o, xs, h1, h2⟩ := r; exact ⟨o, xs, h1, low_rpL hp l xs h2 h⟩
  | tpl l => obtain ⟨o, xs, h1, h2⟩ := r; exact ⟨o, xs, h1, low_rpL hp l xs h2 h⟩
  | dk l => obtain ⟨xs, h1, h2⟩ := r; exact ⟨xs, h1, low_rpK hp l xs h2 h⟩
  | dt l => obtain ⟨xs, h1, h2⟩ := r; exact ⟨xs, h1, low_rpT hp l xs h2 h⟩
  | lk l => obtain ⟨o, xs, h1, h2⟩ := r; exact ⟨o, xs, h1, low_rpK hp l xs h2 h⟩
  | lt l => obtain ⟨o, xs, h1, h2⟩ := r; exact ⟨o, xs, h1, low_rpT hp l xs h2 h⟩
  | ins c fs => obtain ⟨dx, fv, h1, h2⟩ := r; exact ⟨dx, fv, h1, low_rpF hp fs fv h2 h⟩
mutual
theorem rp_low : ∀ (d : D) (v : V), Rp φ H d v → d.blw φ.length = true
  | .non, _, _ => rfl
  | .bl _, _, _ => rfl
  | .int _, _, _ => rfl
  | .str _, _, _ => rfl
  | .tup l, v, r => by obtain ⟨a, xs, rfl, h1, h2⟩ := r; exact rpL_low l xs h2
  | .ref k, v, r => by
    obtain ⟨a, h1, rfl⟩ := r
    have := (List.getElem?_eq_some_iff.mp h1).1
    simpa [D.blw] using this
  | .exc _ _, _, r => r.elim
  | .clo _ _, _, r => r.elim
theorem rpL_low : ∀ (l : List D) (xs : List V), RpL φ H l xs → D.blwL φ.length l = true
  | [], _, _ => rfl
  | d :: l, xs, r => by
    obtain ⟨x, r', rfl, h1, h2⟩ := r
    simp only [D.blwL, Bool.and_eq_true]
    exact ⟨rp_low d x h1, rpL_low l r' h2⟩
end
theorem key_low {d : D} {k : Key} (h : keyOf d = some k) : d.blw n = true := by cases d <;> first | rfl | cases h
theorem keys_low : ∀ {l : List D} {k : List Key}, mapO keyOf l = some k → D.blwL n l = true
  | [], _, _ => rfl
  | d :: l, k, h => by
    obtain ⟨b, s, e1, e2, rfl⟩ := mapO_some h
    simp only [D.blwL, Bool.and_eq_true]
    exact ⟨key_low e1, keys_low e2⟩
theorem rpK_low : ∀ (l : List (D × D)) (xs : List (Key × V)), RpK φ H l xs → blwP φ.length l = true
  | [], _, _ => rfl
  | (a, b) :: l, xs, r => by
    obtain ⟨x, r', rfl, h1, h2, h3⟩ := r
    simp only [blwP, Bool.and_eq_true]
    exact ⟨key_low h1, rp_low b x.2 h2, rpK_low l r' h3⟩
theorem rpT_low : ∀ (l : List (D × D)) (xs : List (List Key × V)), RpT φ H l xs → blwP φ.length l = true
  | [], _, _ => rfl
  | (a, b) :: l, xs, r => by
    obtain ⟨x, r', rfl, h1, h2, h3⟩ := r
    simp only [blwP, Bool.and_eq_true]
    refine ⟨?_, rp_low b x.2 h2, rpT_low l r' h3⟩
    cases a with
    | tup ds => exact keys_low (show mapO keyOf ds = some x.1 from h1)
    | _ => cases h1
theorem rpF_low : ∀ (l : List (Nat × D)) (xs : List (Str × V)), RpF R φ H l xs → blwF φ.length l = true
  | [], _, _ => rfl
  | (a, b) :: l, xs, r => by
    obtain ⟨x, r', rfl, h1, h2, h3⟩ := r
    simp only [blwF, Bool.and_eq_true]
    exact ⟨rp_low b x.2 h2, rpF_low l r' h3⟩
theorem ro_low {o : DO} {a : Addr} (r : RO R φ H o a) : o.blw φ.length = true := by
  cases o with
  | lst l => obtain ⟨xs, h1, h2⟩ := r; exact rpL_low l xs h2
  | frz l => obtain ⟨o, xs, h1, h2⟩ := r; exact rpL_low l xs h2
  | tpl l => obtain ⟨o, xs, h1, h2⟩ := r; exact rpL_low l xs h2
  | dk l => obtain ⟨xs, h1, h2⟩ := r; exact rpK_low l xs h2
  | dt l => obtain ⟨xs, h1, h2⟩ := r; exact rpT_low l xs h2
  | lk l => obtain ⟨o, xs, h1, h2⟩ := r; exact rpK_low l xs h2
  | lt l => obtain ⟨o, xs, h1, h2⟩ := r; exact rpT_low l xs h2
  | ins c fs => obtain ⟨dx, fv, h1, h2⟩ := r; exact rpF_low fs fv h2
theorem closed_get : ∀ {h : DH} {i : Nat} {o : DO}, closed n h = true → h[i]? = some o → o.blw n = true
  | [], _, _, _, e => by simp at e
  | a :: h, 0, o, c, e => by
    simp only [closed, Bool.and_eq_true] at c
    simp at e
    rw [← e]; exact c.1
  | a :: h, i + 1, o, c, e => by
    simp only [closed, Bool.and_eq_true] at c
    exact closed_get c.2 (by simpa using e)
theorem pick_len {h : DH} {f : Nat → Nat} : ∀ {l : List Nat}, (∀ i ∈ l, ∃ o, h[i]? = some o) → (pick h f l).length = l.length
  | [], _ => rfl
  | i :: l, hl => by
    obtain ⟨o, e⟩ := hl i (by simp)
    unfold pick
    rw [e]
    simp [pick_len fun j hj => hl j (List.mem_cons_of_mem _ hj)]
theorem pick_get {h : DH} {f : Nat → Nat} : ∀ {l : List Nat} {m i : Nat}, (∀ i ∈ l, ∃ o, h[i]? = some o) → l[m]? = some i → ∃ o, h[i]? = some o ∧ (pick h f l)[m]? = some (o.ren f)
  | [], m, i, _, e => by simp at e
  | a :: l, 0, i, hl, e => by
    simp at e
    subst e
    obtain ⟨o, e⟩ := hl a (by simp)
    refine ⟨o, e, ?_⟩
    unfold pick
    rw [e]
    simp
  | a :: l, m + 1, i, hl, e => by
    obtain ⟨o, e1⟩ := hl a (by simp)
    obtain ⟨o2, e2, e3⟩ := pick_get (m := m) (fun j hj => hl j (List.mem_cons_of_mem _ hj)) (by simpa using e)
    refine ⟨o2, e2, ?_⟩
    unfold pick
    rw [e1]
    simpa using e3
theorem pre_take {φ φ' : List Addr} (h : φ <+: φ') : φ'.take φ.length = φ := by
  obtain ⟨t, rfl⟩ := h
  simp
theorem rpL_refs : ∀ {l : List Nat}, (∀ k ∈ l, k ∈ seen) → l.all (fun j => seen.contains j) = true := fun h => List.all_eq_true.mpr fun k hk => by simpa using h k hk
theorem trim_rel {h h' : DH} {v : D} {x : V} (x1 : Ext φ H φ' H') (hr : HRel R φ H h) (r1 : HRel R φ' H' h') (rv : Rp φ' H' v x) :
    ∃ φ2, Ext φ H φ2 H' ∧ HRel R φ2 H' (trim h h' v).2 ∧ Rp φ2 H' (trim h h' v).1 x := by
  unfold trim
  split
  · exact ⟨φ', x1, r1, rv⟩
  · split <;> rename_i hc
    · generalize hse : reach h' h.length 64 (v.refs h.length) [] = seen
      simp only
      split <;> rename_i hw
      · rw [Bool.and_eq_true] at hw
        obtain ⟨hv, hw⟩ := hw
        unfold wholeSeen at hw
        simp only [Bool.and_eq_true, decide_eq_true_eq, List.all_eq_true] at hw
        obtain ⟨nd, hw⟩ := hw
        have hn : φ.length = h.length := hr.len
        have hle : φ.length ≤ φ'.length := x1.pre.length_le
        have hle' : h.length ≤ h'.length := by rw [← hn, ← r1.len]; exact hle
        have hsome : ∀ i ∈ seen, ∃ o, h'[i]? = some o ∧ h.length ≤ i ∧ ∀ k ∈ o.refs h.length, k ∈ seen := fun i hi => by
          obtain ⟨w1, w2⟩ := hw i hi
          split at w2
          · rename_i o e
            exact ⟨o, e, w1, fun k hk => by simpa using List.all_eq_true.mp w2 k hk⟩
          · cases w2
        have hphi : ∀ i ∈ seen, ∃ a, φ'[i]? = some a := fun i hi => by
          obtain ⟨o, e, _⟩ := hsome i hi
          have := (List.getElem?_eq_some_iff.mp e).1
          exact ⟨φ'[i]'(by rw [r1.len]; exact this), List.getElem?_eq_getElem _⟩
        -- the addresses of what is kept
        let ψ := seen.map fun i => φ'.getD i 0
        have hψ : ∀ (m i : Nat), seen[m]? = some i → ∀ a, φ'[i]? = some a → (φ ++ ψ)[h.length + m]? = some a := fun m i e a ha => by
          rw [List.getElem?_append_right (by rw [hn]; omega), hn, Nat.add_sub_cancel_left, List.getElem?_map, e]
          show some (φ'.getD i 0) = some a
          rw [List.getD_eq_getElem?_getD, ha]
          rfl
        have P : Pl h.length seen φ' (φ ++ ψ) := ⟨fun k hk a ha => by
            rw [List.getElem?_append_left (by rw [hn]; exact hk)]
            have := pre_take x1.pre
            rw [← this, List.getElem?_take_of_lt (by rw [hn]; exact hk)]
            exact ha, fun k hk a ha => by
            have hl := List.idxOf_lt_length_of_mem hk
            exact hψ (seen.idxOf k) k (by rw [List.getElem?_eq_getElem hl, List.getElem_idxOf]) a ha⟩
        have ext2 : Ext φ H (φ ++ ψ) H' := ⟨List.prefix_append _ _, x1.tup, x1.frz⟩
        have ext3 : Ext φ H φ H' := ⟨List.prefix_rfl, x1.tup, x1.frz⟩
        have ext4 : Ext φ H' (φ ++ ψ) H' := ⟨List.prefix_append _ _, fun _ _ z => z, fun _ _ _ z => z⟩
        have lowphi : ∀ k, k < h.length → ∀ a, φ'[k]? = some a → (φ ++ ψ)[k]? = some a := P.lo
        have htl : (h'.take h.length).length = h.length := by rw [List.length_take]; omega
        have hpl : (pick h' (place h.length seen) seen).length = seen.length := pick_len fun i hi => let ⟨o, e, _⟩ := hsome i hi; ⟨o, e⟩
        refine ⟨φ ++ ψ, ext2, ⟨?_, ?_, ?_, fun p hp => (hr.cst p hp).ext ext2⟩, ?_⟩
        · simp only [List.length_append, htl, hpl, hn, ψ, List.length_map]
        · refine List.nodup_append.mpr ⟨hr.nd, ?_, fun a ha b hb e => ?_⟩
          · refine List.pairwise_map.mpr (List.Pairwise.imp_of_mem (fun {i k} hi hk hne e => hne ?_) nd)
            obtain ⟨a, ea⟩ := hphi i hi
            obtain ⟨b, eb⟩ := hphi k hk
            rw [List.getD_eq_getElem?_getD, List.getD_eq_getElem?_getD, ea, eb] at e
            have e : a = b := e
            subst e
            obtain ⟨l1, g1⟩ := List.getElem?_eq_some_iff.mp ea
            obtain ⟨l2, g2⟩ := List.getElem?_eq_some_iff.mp eb
            exact (List.getElem_inj r1.nd).mp (g1.trans g2.symm)
          · subst e
            obtain ⟨i, hi, ei⟩ := List.mem_map.mp hb
            obtain ⟨b, eb⟩ := hphi i hi
            rw [List.getD_eq_getElem?_getD, eb] at ei
            have ei : b = a := ei
            subst ei
            obtain ⟨m, hm, em⟩ := List.mem_iff_getElem.mp ha
            have e2 : φ'[m]? = some b := by
              rw [← em]
              exact pre_get x1.pre (List.getElem?_eq_getElem hm)
            obtain ⟨l1, g1⟩ := List.getElem?_eq_some_iff.mp eb
            obtain ⟨l2, g2⟩ := List.getElem?_eq_some_iff.mp e2
            have := (List.getElem_inj r1.nd).mp (g1.trans g2.symm)
            obtain ⟨_, _, hge, _⟩ := hsome i hi
            omega
        · intro i o a h1 h2
          by_cases hi : i < h.length
          · rw [List.getElem?_append_left (by rw [htl]; exact hi)] at h1
            have h1' : h'[i]? = some o := by rw [List.getElem?_take_of_lt hi] at h1; exact h1
            have h2' : φ'[i]? = some a := by
              rw [List.getElem?_append_left (by rw [hn]; exact hi)] at h2
              exact pre_get x1.pre h2
            refine low_ro lowphi (r1.obj i o a h1' h2') ?_
            rcases hc with hc | hc
            · rw [hc] at h1
              rw [List.getElem?_append_left (by rw [hn]; exact hi)] at h2
              have := ro_low (hr.obj i o a h1 h2)
              rw [hn] at this
              exact this
            · exact closed_get hc h1
          · have hi : h.length ≤ i := Nat.le_of_not_lt hi
            rw [List.getElem?_append_right (by rw [htl]; exact hi), htl] at h1
            have hm : i - h.length < seen.length := by
              have := (List.getElem?_eq_some_iff.mp h1).1
              rw [hpl] at this
              exact this
            have hsm : seen[i - h.length]? = some seen[i - h.length] := List.getElem?_eq_getElem hm
            obtain ⟨o2, e2, e3⟩ := pick_get (h := h') (f := place h.length seen) (fun i hi => let ⟨o, e, _⟩ := hsome i hi; ⟨o, e⟩) hsm
            rw [e3] at h1
            cases h1
            have hmem : seen[i - h.length] ∈ seen := List.getElem_mem hm
            obtain ⟨o3, e4, _, hcl⟩ := hsome _ hmem
            rw [e2] at e4
            cases e4
            obtain ⟨b, eb⟩ := hphi _ hmem
            have := hψ (i - h.length) _ hsm b eb
            rw [show h.length + (i - h.length) = i by omega, h2] at this
            cases this
            exact P.ro (r1.obj _ _ _ e2 eb) hcl
        · exact P.rp v x rv fun k hk => by simpa using List.all_eq_true.mp hv k hk
      · exact ⟨φ', x1, r1, rv⟩
    · exact ⟨φ', x1, r1, rv⟩
theorem OutE.finish {Q : VK} {σ : L2.St} {h : DH} {r : RE} (hr : HRel R φ H h) (q : OutE R noX φ H σ Q (finish h r)) : OutE R noX φ H σ Q r := by
  cases r with
  | bad => exact q
  | ex c l h' =>
    have q' : ∀ φ' H', Ext φ H φ' H' → HRel R φ' H' (if h'.take h.length = h ∧ D.blwL h.length l = true then h else h') → False := q
    split at q'
    · exact (q' φ H .refl hr).elim
    · exact q'
  | ok v h' =>
    intro φ' H' x x1 r1 rv
    obtain ⟨φ2, e2, r2, rv2⟩ := trim_rel x1 hr r1 rv
    exact q φ2 H' x e2 r2 rv2
end
end Bp
end

section
set_option linter.all false
set_option maxRecDepth 100000
set_option maxHeartbeats 0
set_option linter.all false
set_option maxRecDepth 100000
set_option autoImplicit false
set_option maxHeartbeats 2000000
namespace Bp
open PySem PySem.Spec PyProof.Rows L2
structure Fn where
  ps : List Str
  N : List Str
  sc : Scope
  body : List Stmt
def Fn.np (f : Fn) : Nat := f.ps.length
def fuel : Nat := 80
def bodyM (G : GT) (f : Fn) (g : Gm) (vs : List D) (h : DH) : RE := defD f.np f.N.length (compSs fuel ⟨f.N, f.sc, true, G, noCells⟩ f.body) g vs h
abbrev Bd := Nat → Gm → List D → DH → RE
def gmN (bd : Bd) : Nat → Gm
  | 0 => ⟨fun _ _ _ => .bad, fun _ _ _ => .bad⟩
  | j + 1 => ⟨fun i vs h => match j with
    | 0 => .bad
    | _ + 1 => bd i (gmN bd j) vs h, (gmN bd j).call⟩
structure FnAt (K : PySem.W.Frag) (fn : Fn) (f : Addr) (fd : FuncData) : Prop where
  ex : ∃ x qual params dvs kws, FunD K x qual params fn.body fn.sc dvs kws f fd
  S : FnScope fn.N fn.ps fn.sc
def MoreAt (K : PySem.W.Frag) (fn : Fn) (f : Addr) (ks : List Str) : Prop := FnScope fn.N fn.ps fn.sc ∧ ks.Nodup ∧ ks.length ≤ 1000 ∧ ∃ (name qual : Str) (params : Arguments) (dV kV doc pm cdv ct oc : Value) (an od : Option Addr) (osl : Array (Option Value)) (ps : List Str) (pd : Str),
  K.lookup f = some ⟨oc, od, .func (PySem.W.fnOf name qual params fn.body fn.sc dV kV doc pm an cdv ct), osl⟩ ∧ PySem.W.codeIn K cdv qual = true ∧ fn.ps = ps ++ [pd] ∧ ps.length = 1 ∧
  ∀ us ws : List Value, us.length = ps.length → ws.length = ks.length → bindArgs (PySem.W.fnOf name qual params fn.body fn.sc dV kV doc pm an cdv ct) ⟨us, ks.zip ws⟩ =
      ((PySem.alloc ({ cls := .type "dict", data := .dict #[] } : Obj) : Sem Addr) >>= fun d => (forIn (ks.zip ws) PUnit.unit fun x _ => (nsSet d x.1 x.2 >>= fun _ => pure (ForInStep.yield PUnit.unit))) >>= fun _ => pure (ps.zip us ++ [(pd, Value.ref d)]))
structure WOk (K : PySem.W.Frag) (mg : Str → Option Value) (R : Rx) (G : GT) (ft : Nat → Fn) : Prop where
  nd : R.an.Nodup
  sub : SubOk K R G.sub
  cst : ∀ x d, G.g.lookup x = some (.cst d) → ∃ u v, mg x = some u ∧ RelV v u ∧ ∀ φ H h, HRel R φ H h → Rp φ H d v
  fn : ∀ x i np, G.g.lookup x = some (.fn i np) → ∃ f fd, FnAt K (ft i) f fd ∧ L2.Binds K fd (ft i).ps [] ∧ (ft i).np = np ∧ mg x = some (.ref f) ∧ PySem.W.keepIn K (.ref f) = true
  cls : ∀ x c i np, G.g.lookup x = some (.cls c i np) → mg x = some (.ref (R.ca c)) ∧ ∃ f fd, Mk K (R.ca c) f ∧ FnAt K (ft i) f fd ∧ L2.Binds K fd (ft i).ps [] ∧ (ft i).np = np + 1
  ty : ∀ x c, G.g.lookup x = some (.ty c) → mg x = some (.ref (R.ca c))
  bl : ∀ x, G.bl.contains x = true → mg x = none
  m : ∀ x c i np mi, G.m.lookup x = some (c, i, np, mi) → Cls K (R.ca c) ∧ R.an[mi]? = some x ∧ ∃ f fd, Meth K (R.ca c) x f ∧ FnAt K (ft i) f fd ∧ L2.Binds K fd (ft i).ps [] ∧ (ft i).np = np + 1
  p : ∀ x c i fi, G.p.lookup x = some (c, i, fi) → Cls K (R.ca c) ∧ ∃ pr f fd, PropOf K (R.ca c) x pr f ∧ FnAt K (ft i) f fd ∧ L2.Binds K fd (ft i).ps [] ∧ (ft i).np = 1
  f : ∀ x c fi, G.f.lookup x = some (c, fi) → Cls K (R.ca c) ∧ R.an[fi]? = some x ∧ NoAttr K (R.ca c) x
  km : ∀ x ks c i sl, G.km.lookup (x, ks) = some (c, i, sl) → mg x = some (.ref (R.ca c)) ∧ ∃ f fd np, ∃ (gg : List Value → List Value → List Value) (gV : List V → List V → List V), Mk K (R.ca c) f ∧ FnAt K (ft i) f fd ∧ (ft i).np = np + 1 ∧ KBn K fd (ft i).ps 1 ks gg gV ∧ ArrOk ks np sl gV
  ms : ∀ x c i ks sl, G.ms.lookup x = some (c, i, ks, sl) → mg x = some (.ref (R.ca c)) ∧ ∃ f fd np, ∃ (gg : List Value → List Value → List Value) (gV : List V → List V → List V), Mk K (R.ca c) f ∧ FnAt K (ft i) f fd ∧ (ft i).np = np + 1 ∧ KBn K fd (ft i).ps 1 ks gg gV ∧ ArrOk ks np sl gV
  mm : ∀ x ks c i mi, G.mm.lookup (x, ks) = some (c, i, mi) → Cls K (R.ca c) ∧ R.an[mi]? = some x ∧ ∃ f, Meth K (R.ca c) x f ∧ MoreAt K (ft i) f ks
section
variable {P : Program} {w : World} {K : PySem.W.Frag} {mg : Str → Option Value} {base : Heap} {R : Rx} {G : GT} {ft : Nat → Fn} {bd : Bd}
def Lev (P : Program) (w : World) (K : PySem.W.Frag) (mg : Str → Option Value) (base : Heap) (R : Rx) (ft : Nat → Fn) (bd : Bd) (j : Nat) : Prop :=
  (∀ i f fd, FnAt K (ft i) f fd → FnOk P w K mg base CX0 j f fd (ft i).ps (spF R (ft i).np ((gmN bd j).call i))) ∧
  ∀ i f ks, MoreAt K (ft i) f ks → FnM P w K mg base j f 1 ks (spF R 2 ((gmN bd j).call i))
theorem fnm_bad {k n m : Nat} {f : Addr} {ks : List Str} : FnM P w K mg base k f n ks (spF R m fun _ _ => .bad) :=
  fun A outer s H us ws vs zs Q _ e0 _ _ _ _ z => by
    obtain ⟨_, _, _, _, _, _, q⟩ := z s.heap.objs.size (e0.hok.fresh (Nat.le_refl _))
    exact q.elim
theorem fnok_bad {k np : Nat} {f : Addr} {fd : FuncData} {ps : List Str} (hn : ps.length = np) : FnOk P w K mg base CX0 k f fd ps (spF R np fun _ _ => .bad) :=
  ⟨fun vs H Q E h => by rw [hn]; exact h.1, fun A outer s H args us vs Q E _ _ _ _ ⟨_, _, _, _, _, _, q⟩ => q.elim⟩
theorem Lev.zero : Lev P w K mg base R ft bd 0 := ⟨fun i f fd _ => fnok_bad rfl, fun i f ks _ => fnm_bad⟩
theorem Lev.one : Lev P w K mg base R ft bd 1 := ⟨fun i f fd _ => fnok_bad rfl, fun i f ks _ => fnm_bad⟩
theorem WOk.gok (W : WOk K mg R G ft) {j : Nat} (l1 : Lev P w K mg base R ft bd (j + 1)) (l0 : Lev P w K mg base R ft bd j) : GOk P w K mg base R G (gmN bd (j + 1)) j where
  nd := W.nd
  sub := W.sub
  cst := W.cst
  fn := fun x i np hl => by
    obtain ⟨f, fd, h1, hB, h2, h3, h4⟩ := W.fn x i np hl
    subst h2
    exact ⟨f, fd, _, l1.1 i f fd h1, h3, h4, hB⟩
  cls := fun x c i np hl => by
    obtain ⟨h0, f, fd, h1, h2, hB, h3⟩ := W.cls x c i np hl
    refine ⟨h0, f, fd, _, h1, ?_, hB⟩
    have := l0.1 i f fd h2
    rw [h3] at this
    exact this
  ty := W.ty
  bl := W.bl
  m := fun x c i np mi hl => by
    obtain ⟨h0, h1, f, fd, h2, h3, hB, h4⟩ := W.m x c i np mi hl
    refine ⟨h0, h1, f, fd, _, h2, ?_, hB⟩
    have := l1.1 i f fd h3
    rw [h4] at this
    exact this
  p := fun x c i fi hl => by
    obtain ⟨h0, pr, f, fd, h2, h3, hB, h4⟩ := W.p x c i fi hl
    refine ⟨h0, pr, f, fd, _, h2, ?_, hB⟩
    have := l0.1 i f fd h3
    rw [h4] at this
    exact this
  f := W.f
  km := fun x ks c i sl hl => by
    obtain ⟨h0, f, fd, np, gg, gV, h1, h2, h3, h4, h5⟩ := W.km x ks c i sl hl
    have := l0.1 i f fd h2
    rw [h3] at this
    exact ⟨h0, f, fd, _, np, gg, gV, h1, this, h4, h5⟩
  ms := fun x c i ks sl hl => by
    obtain ⟨h0, f, fd, np, gg, gV, h1, h2, h3, h4, h5⟩ := W.ms x c i ks sl hl
    have := l0.1 i f fd h2
    rw [h3] at this
    exact ⟨h0, f, fd, _, np, gg, gV, h1, this, h4, h5⟩
  mm := fun x ks c i mi hl => by
    obtain ⟨h0, h1, f, h2, h3⟩ := W.mm x ks c i mi hl
    exact ⟨h0, h1, f, h2, l1.2 i f ks h3⟩
theorem OutS.ofOut {φ : List Addr} {H : Hp} {σ : L2.St} {Q : VK} {r : RS} (q : OutE R noX φ H σ Q r.out) : OutS R noX φ H { nx := fun _ H' => Q .non H', rt := Q } r := by
  cases r with
  | nx e h => exact fun φ' H' σ' x hr _ => q φ' H' .non x hr rfl
  | rt v h => exact q
  | ex c l e h => exact fun φ' H' σ' x hr _ => q φ' H' x hr
  | bk e h => exact q.elim
  | ct e h => exact q.elim
  | bad => exact q.elim
theorem start_rel {φ : List Addr} {H : Hp} {N : List Str} {ds : List D} {vs : List V} (rl : RpL φ H ds vs) : ERel φ H (startE N.length ds) (start N vs) := by
  have hl := rl.length
  refine ⟨?_, fun i d h => ?_⟩
  · unfold startE L2.start
    simp only [List.length_append, List.length_map, List.length_replicate, hl]
  · unfold startE at h
    unfold L2.start
    by_cases hi : i < ds.length
    · rw [List.getElem?_append_left (by simpa using hi), List.getElem?_map] at h
      cases hd : ds[i]? with
      | none => rw [hd] at h; cases h
      | some d' =>
        rw [hd] at h
        have : d' = d := by simpa using h
        subst this
        obtain ⟨x, hx, rx⟩ := rl.get hd
        refine ⟨x, ?_, rx⟩
        rw [List.getElem?_append_left (by simp only [List.length_map]; omega), List.getElem?_map, hx]
        rfl
    · rw [List.getElem?_append_right (by simpa using hi)] at h
      rw [List.getElem?_replicate] at h
      split at h <;> cases h
theorem body_ok (W : WOk K mg R G ft) (hb : ∀ i, bd i = bodyM G (ft i)) {j : Nat} (l1 : Lev P w K mg base R ft bd (j + 1)) (l0 : Lev P w K mg base R ft bd j) {i : Nat} {f : Addr} {qual : Str} {cdv : Value} (hS : FnScope (ft i).N (ft i).ps (ft i).sc) (A : Around) (outer : List PySem.Env) (s : Shared) (H : Hp) (vs : List V) (Q : VK) (E : XK)
    (hr : Room (j + 1) (A.deeper (envOfC qual (ft i).sc s.heap.objs.size f cdv))) (hsp : spF R (ft i).np ((gmN bd (j + 2)).call i) vs H Q E) :
    ∃ t, PSs (cxOf CX0 P w K mg base (ft i).N qual (ft i).sc f cdv A outer s H E) (ft i).body t ∧ t { nx := fun _ H' => Q .non H', rt := Q } (L2.start (ft i).N vs) H := by
  obtain ⟨hl, φ, h0, ds, r1, rl, q⟩ := hsp
  refine ⟨tS R noX (gmN bd (j + 1)) (compSs fuel ⟨(ft i).N, (ft i).sc, true, G, noCells⟩ (ft i).body), ?_, φ, startE (ft i).N.length ds, h0, start_rel rl, r1, ?_⟩
  · exact (SndS.all fuel).ss _ _ { N := rfl, nd := hS.nd, sc := rfl, fn := fun _ _ => rfl, cb := fun _ _ => rfl, calm := rfl, room := hr, own := fun _ => passes_of (K := fun e s'' => CX0 outer H s E e s'') rfl, ok := W.gok l1 l0 } rfl _
  · have q1 : OutE R noX φ H [] Q (bd i (gmN bd (j + 1)) ds h0) := q
    rw [hb] at q1
    unfold bodyM defD at q1
    split at q1
    · exact OutS.ofOut (OutE.finish r1 q1)
    · exact q1.elim
theorem Lev.succ (W : WOk K mg R G ft) (hb : ∀ i, bd i = bodyM G (ft i)) {j : Nat} (l1 : Lev P w K mg base R ft bd (j + 1)) (l0 : Lev P w K mg base R ft bd j) : Lev P w K mg base R ft bd (j + 2) := by
  refine ⟨fun i f fd h => ?_, fun i f ks h => ?_⟩
  · obtain ⟨x, qual, params, dvs, kws, F⟩ := h.ex
    exact F.ok h.S (fun vs H Q E z => z.1) fun cdv A outer s H vs Q E hr z => body_ok W hb l1 l0 h.S A outer s H vs Q E hr z
  · obtain ⟨hS, hk1, hk2, name, qual, params, dV, kV, doc, pm, cdv, ct, oc, an, od, osl, ps, pd, lk, hcd, hps, hl1, hbd⟩ := h
    intro A outer s H us ws vs zs Q hr e0 r rz l1' l2' hsp
    have hnp : (ft i).np = 2 := by unfold Fn.np; rw [hps, List.length_append, hl1]; rfl
    refine fn_more (sp := spF R 2 ((gmN bd (j + 2)).call i)) lk hcd (hps ▸ hS) (fun _ _ _ _ _ _ _ _ _ _ _ z => z) hk1 hk2 hbd (fun A outer s H vs Q E hr z => body_ok W hb l1 l0 hS A outer s H vs Q E hr (hnp ▸ z)) A outer s H us ws vs zs Q E0 hr e0 r rz (l1'.trans hl1.symm) l2' hsp
theorem Lev.all (W : WOk K mg R G ft) (hb : ∀ i, bd i = bodyM G (ft i)) : ∀ j, Lev P w K mg base R ft bd j ∧ Lev P w K mg base R ft bd (j + 1)
  | 0 => ⟨.zero, .one⟩
  | j + 1 => ⟨(Lev.all W hb j).2, Lev.succ W hb (Lev.all W hb j).2 (Lev.all W hb j).1⟩
end
end Bp
end

section
set_option linter.all false
set_option maxRecDepth 100000
set_option maxHeartbeats 0
set_option linter.all false
set_option maxRecDepth 100000
set_option autoImplicit false
set_option maxHeartbeats 2000000
namespace Bp
open PySem PySem.Spec PyProof.Rows L2
inductive Lit where
  | non | bl (b : Bool) | int (i : Int) | str (s : Str) | ref (k : Nat)
def Lit.d : Lit → D
  | .non => .non
  | .bl b => .bl b
  | .int i => .int i
  | .str s => .str s
  | .ref k => .ref k
def Lit.v (as : List Addr) : Lit → V
  | .non => .non
  | .bl b => .bl b
  | .int i => .int i
  | .str s => .str s
  | .ref k => .ref (as.getD k 0)
def Lit.ok (as : List Addr) : Lit → Value → Bool
  | .non, .none => true
  | .bl b, .bool c => b == c
  | .int i, .int j _ => decide (i = j)
  | .str s, .str t _ => decide (s = t)
  | .ref k, .ref a => decide (as[k]? = some a)
  | _, _ => false
def litsOk (as : List Addr) : List Lit → List Value → Bool
  | [], [] => true
  | l :: ls, v :: vs => l.ok as v && litsOk as ls vs
  | _, _ => false
inductive Wh where
  | nm (x : Str) | it (k j : Nat)
abbrev Cst := Wh × List Lit
def whAd (K : PySem.W.Frag) (as : List Addr) : Wh → Addr
  | .nm x => He.ga K x
  | .it k j => match K.lookup (as.getD k 0) with
    | some ⟨_, _, .seq its _, _⟩ => match its[j]? with
      | some (.ref a) => a
      | _ => 0
    | _ => 0
def adrs (K : PySem.W.Frag) (cs : List Cst) : List Addr := cs.foldl (fun as c => as ++ [whAd K as c.1]) []
def tupOk (K : PySem.W.Frag) (as : List Addr) (a : Addr) (ls : List Lit) : Bool := match K.lookup a with
  | some ⟨.type c, none, .seq its 0, sl⟩ => decide (c = "tuple") && (decide (sl.size = 0) && (decide (its.size ≤ sizeLine) && litsOk as ls its.toList))
  | _ => false
def tupsOk (K : PySem.W.Frag) (as : List Addr) : List Addr → List Cst → Bool
  | [], [] => true
  | a :: r, c :: cs => tupOk K as a c.2 && tupsOk K as r cs
  | _, _ => false
def cstOk (K : PySem.W.Frag) (cs : List Cst) : Bool := (decide (adrs K cs).Nodup && tupsOk K (adrs K cs) (adrs K cs) cs) && ((List.range cs.length).all fun k => match cs[k]? with
  | some (.nm x, _) => (He.Fa.glo x).ok K && decide (He.ga K x = (adrs K cs).getD k 0)
  | _ => true)
def cutK (K : PySem.W.Frag) (as : List Addr) : PySem.W.Frag := K.filter fun p => !(as.contains p.1) && !(p.2.cls == .type "list")
theorem lookup_filter {K : PySem.W.Frag} {f : Addr × Obj → Bool} {a : Addr} {o : Obj} (e : (K.filter f).lookup a = some o) : (a, o) ∈ K ∧ f (a, o) = true := by
  have : ∀ l : PySem.W.Frag, l.lookup a = some o → (a, o) ∈ l := by
    intro l
    induction l with
    | nil => intro h; cases h
    | cons p l ih =>
      intro h
      obtain ⟨b, q⟩ := p
      rw [List.lookup_cons] at h
      split at h
      · rename_i hb
        cases h
        have : a = b := by simpa using hb
        subst this
        exact List.mem_cons_self
      · exact List.mem_cons_of_mem _ (ih h)
  exact List.mem_filter.mp (this _ e)
theorem lookup_mem {K : PySem.W.Frag} {a : Addr} {o : Obj} (e : K.lookup a = some o) : (a, o) ∈ K := by
  have := lookup_filter (K := K) (f := fun _ => true) (a := a) (o := o) (by rw [List.filter_eq_self.mpr (by simp)]; exact e)
  exact this.1
def AllIn (K : PySem.W.Frag) (h : Heap) : Prop := ∀ p ∈ K, h.get? p.1 = some p.2
theorem AllIn.in_ {K : PySem.W.Frag} {h : Heap} (x : AllIn K h) : K.In h := fun a o e => x (a, o) (lookup_mem e)
theorem AllIn.cut {K : PySem.W.Frag} {h : Heap} {as : List Addr} (x : AllIn K h) : (cutK K as).In h := fun a o e => x (a, o) (lookup_filter e).1
theorem cut_none {K : PySem.W.Frag} {as : List Addr} {a : Addr} (ha : a ∈ as) : (cutK K as).lookup a = none := by
  cases e : (cutK K as).lookup a with
  | none => rfl
  | some o =>
    have := (lookup_filter e).2
    simp only [Bool.and_eq_true, Bool.not_eq_true'] at this
    have h1 : as.contains a = true := by simpa using ha
    rw [h1] at this
    exact absurd this.1 (by simp)
theorem cut_list {K : PySem.W.Frag} {as : List Addr} {h : Heap} {a : Addr} {vs : List Value} (x : AllIn K h) (e : h.get? a = some { cls := .type "list", data := .seq vs.toArray }) : (cutK K as).lookup a = none := by
  cases q : (cutK K as).lookup a with
  | none => rfl
  | some o =>
    obtain ⟨h1, h2⟩ := lookup_filter q
    have := x _ h1
    rw [e] at this
    cases this
    simp at h2
inductive FW where
  | glo (x : Str) | meth (c m : Str) | prop (c f : Str)
def FW.ad (K : PySem.W.Frag) : FW → Addr
  | .glo x => He.ga K x
  | .meth c m => He.ma K (He.ga K c) m
  | .prop c f => match PySem.W.recIn K (He.ma K (He.ga K c) f) "property" with
    | some (.ref g :: _) => g
    | _ => 0
structure Fd where
  at_ : FW
  name : Str
  qual : Str
  params : Arguments
  body : List Stmt
  scope : Scope
  kwd : List (Str × He.Dv)
def Fd.val (d : Fd) : He.FnW := some (d.name, d.qual, d.params, .stmts d.body, d.scope, mainGlobals, [], builtinsNs)
def Fd.kws (K : PySem.W.Frag) (d : Fd) : List (Str × V) := d.kwd.map fun q => (q.1, q.2.v K)
def fnWA (K : PySem.W.Frag) (a : Addr) : He.FnW := match K.lookup a with
  | some ⟨_, _, .func fd, _⟩ => some (fd.name, fd.qualname, fd.params, fd.body, fd.scope, fd.globals, fd.closure, fd.builtins)
  | _ => none
def Fd.ok (K : PySem.W.Frag) (d : Fd) : Bool := PySem.W.keepIn K (.ref (d.at_.ad K)) && (match K.lookup (d.at_.ad K) with
  | some ⟨_, _, .func fd, _⟩ => PySem.W.codeIn K fd.code d.qual && (He.dflB K fd.defaults [] && He.kwdB K fd.kwdefaults (d.kws K))
  | _ => false)
theorem Fd.funD {K : PySem.W.Frag} {d : Fd} (e : fnWA K (d.at_.ad K) = d.val) (c : d.ok K = true) : ∃ fd, FunD K d.name d.qual d.params d.body d.scope [] (d.kws K) (d.at_.ad K) fd := by
  obtain ⟨kp, c2⟩ := He.ba c
  unfold fnWA at e
  cases q : K.lookup (d.at_.ad K) with
  | none =>
    rw [q] at c2
    cases c2
  | some o =>
    obtain ⟨oc, od, dt, osl⟩ := o
    rw [q] at c2 e
    cases dt with
    | func fd =>
      obtain ⟨n1, n2, n3, n4, n5, n6, n7, n8, n9, n10, n11, n12, n13, n14, n15⟩ := fd
      have e2 : (some (n1, n2, n3, n4, n5, n6, n7, n15) : He.FnW) = some (d.name, d.qual, d.params, .stmts d.body, d.scope, mainGlobals, [], builtinsNs) := e
      simp only [Option.some.injEq, Prod.mk.injEq] at e2
      obtain ⟨h1, h2, h3, h4, h5, h6, h7, h8⟩ := e2
      subst h1 h2 h3 h4 h5 h6 h7 h8
      have c3 : (PySem.W.codeIn K n13 d.qual && (He.dflB K n8 [] && He.kwdB K n9 (d.kws K))) = true := c2
      obtain ⟨k1, k2⟩ := He.ba c3
      obtain ⟨k3, k4⟩ := He.ba k2
      exact ⟨_, ⟨oc, od, n8, n9, n10, n11, n12, n13, n14, osl, rfl, q, k1, He.dflB_ok k3, He.kwdB_ok k4⟩, kp⟩
    | _ => cases c2
def obsK (chk : PySem.W.Frag → Bool) (fs : List Fd) (K : PySem.W.Frag) : He.AlD := (chk K && fs.all fun d => d.ok K, fs.map fun d => fnWA K (d.at_.ad K))
def valK (fs : List Fd) : He.AlD := (true, fs.map Fd.val)
def SaysK (chk : PySem.W.Frag → Bool) (fs : List Fd) (K : PySem.W.Frag) : Prop := obsK chk fs K = valK fs
theorem SaysK.chk {chk : PySem.W.Frag → Bool} {fs : List Fd} {K : PySem.W.Frag} (c : SaysK chk fs K) : chk K = true :=
  (He.ba (show (chk K && fs.all fun d => d.ok K) = true from congrArg (fun z : He.AlD => z.1) c)).1
theorem SaysK.fn {chk : PySem.W.Frag → Bool} {fs : List Fd} {K : PySem.W.Frag} (c : SaysK chk fs K) {i : Nat} {d : Fd} (h : fs[i]? = some d) : ∃ fd, FunD K d.name d.qual d.params d.body d.scope [] (d.kws K) (d.at_.ad K) fd := by
  have c2 := (He.ba (show (chk K && fs.all fun d => d.ok K) = true from congrArg (fun z : He.AlD => z.1) c)).2
  have e : fs.map (fun d => fnWA K (d.at_.ad K)) = fs.map Fd.val := congrArg (fun z : He.AlD => z.2) c
  have e2 : (fs.map fun d => fnWA K (d.at_.ad K))[i]? = (fs.map Fd.val)[i]? := by rw [e]
  rw [List.getElem?_map, List.getElem?_map, h] at e2
  exact Fd.funD (Option.some.inj e2) (List.all_eq_true.mp c2 d (List.mem_of_getElem? h))
def obsT (n : Nat) (chk : PySem.W.Frag → Bool) (fs : List Fd) (cs : List Cst) (g : Addr → Option Obj) : He.AlD × Bool :=
  (obsK chk fs (cutK (He.frG g (He.asD g n)) (adrs (He.frG g (He.asD g n)) cs)), cstOk (He.frG g (He.asD g n)) cs)
def hookT (n : Nat) (chk : PySem.W.Frag → Bool) (fs : List Fd) (cs : List Cst) : PySem.W.Hook where
  α := He.AlD × Bool
  obs := fun s => obsT n chk fs cs s.heap.get?
  val := fun _ => (valK fs, true)
  says := fun _ h => ∃ K : PySem.W.Frag, AllIn K h ∧ SaysK chk fs (cutK K (adrs K cs)) ∧ cstOk K cs = true
  of := fun w s e => ⟨He.frG s.heap.get? (He.asD s.heap.get? n), fun p hp => by
    unfold He.frG at hp
    obtain ⟨a, _, ha⟩ := List.mem_filterMap.mp hp
    cases hg : s.heap.get? a with
    | none => rw [hg] at ha; cases ha
    | some o =>
      rw [hg] at ha
      have : (a, o) = p := by simpa using ha
      rw [← this]
      exact hg, congrArg Prod.fst e, congrArg Prod.snd e⟩
  keeps := fun _ _ _ ⟨K, hK, c⟩ k => ⟨K, fun p hp => k _ _ (hK p hp), c⟩
theorem obsT_eq {n : Nat} {chk : PySem.W.Frag → Bool} {fs : List Fd} {cs : List Cst} {g : Addr → Option Obj} {s : Shared} (h : ∀ a, g a = s.heap.get? a) : obsT n chk fs cs g = (hookT n chk fs cs).obs s := by
  have e : g = s.heap.get? := funext h
  rw [e] <;> rfl
theorem litsOk_v {as : List Addr} : ∀ {ls : List Lit} {vs : List Value}, litsOk as ls vs = true → vs.map toV = ls.map (Lit.v as) ∧ ∀ u ∈ vs, OkU as u
  | [], [], _ => ⟨rfl, fun u hu => by cases hu⟩
  | [], _ :: _, h => by cases h
  | _ :: _, [], h => by cases h
  | l :: ls, v :: vs, h => by
    simp only [litsOk, Bool.and_eq_true] at h
    obtain ⟨h1, h2⟩ := litsOk_v h.2
    have key : toV v = l.v as ∧ OkU as v := by
      have h0 := h.1
      cases l <;> cases v <;> first | (cases h0; done) | skip
      · exact ⟨rfl, trivial⟩
      · simp only [Lit.ok, beq_iff_eq] at h0; subst h0; exact ⟨rfl, trivial⟩
      · simp only [Lit.ok, decide_eq_true_eq] at h0; subst h0; exact ⟨rfl, trivial⟩
      · simp only [Lit.ok, decide_eq_true_eq] at h0; subst h0; exact ⟨rfl, trivial⟩
      · rename_i k a
        simp only [Lit.ok, decide_eq_true_eq] at h0
        refine ⟨?_, List.mem_of_getElem? h0⟩
        show V.ref a = V.ref _
        rw [List.getD_eq_getElem?_getD, h0]
        rfl
    exact ⟨by simp [key.1, h1], fun u hu => by
      rcases List.mem_cons.mp hu with rfl | hu
      · exact key.2
      · exact h2 u hu⟩
theorem lits_rel {as : List Addr} {φ : List Addr} {H : Hp} (hp : as <+: φ) : ∀ {ls : List Lit} {vs : List Value}, litsOk as ls vs = true → RpL φ H (ls.map Lit.d) (ls.map (Lit.v as))
  | [], _, _ => rfl
  | l :: ls, [], h => by cases h
  | l :: ls, v :: vs, h => by
    simp only [litsOk, Bool.and_eq_true] at h
    refine ⟨_, _, rfl, ?_, lits_rel hp h.2⟩
    have h0 := h.1
    cases l with
    | non => exact rfl
    | bl b => exact rfl
    | int i => exact rfl
    | str s => exact rfl
    | ref k =>
      cases v with
      | ref a =>
        simp only [Lit.ok, decide_eq_true_eq] at h0
        refine ⟨a, pre_get hp h0, ?_⟩
        show V.ref _ = V.ref a
        rw [List.getD_eq_getElem?_getD, h0]
        rfl
      | _ => cases h0
theorem tupOk_at {K : PySem.W.Frag} {as : List Addr} {a : Addr} {ls : List Lit} (h : tupOk K as a ls = true) : ∃ vs : List Value, K.lookup a = some { cls := .type "tuple", data := .seq vs.toArray } ∧ vs.length ≤ sizeLine ∧ litsOk as ls vs = true := by
  unfold tupOk at h
  split at h
  · rename_i c its sl e
    simp only [Bool.and_eq_true, decide_eq_true_eq] at h
    obtain ⟨rfl, h1, h2, h3⟩ := h
    have hs : sl = #[] := Array.eq_empty_of_size_eq_zero h1
    subst hs
    refine ⟨its.toList, ?_, ?_, h3⟩
    · rw [e, Array.toArray_toList]
    · simpa using h2
  · cases h
theorem tupsOk_at {K : PySem.W.Frag} {as : List Addr} : ∀ {bs : List Addr} {cs : List Cst}, tupsOk K as bs cs = true → bs.length = cs.length ∧ ∀ (i : Nat) (a : Addr), bs[i]? = some a → ∃ c, cs[i]? = some c ∧ tupOk K as a c.2 = true
  | [], [], _ => ⟨rfl, fun i a e => by simp at e⟩
  | [], _ :: _, h => by cases h
  | _ :: _, [], h => by cases h
  | b :: bs, c :: cs, h => by
    simp only [tupsOk, Bool.and_eq_true] at h
    obtain ⟨h1, h2⟩ := tupsOk_at h.2
    refine ⟨by simp [h1], fun i a e => ?_⟩
    cases i with
    | zero => simp at e; subst e; exact ⟨c, by simp, h.1⟩
    | succ i => simpa using h2 i a (by simpa using e)
def entryH (cs : List Cst) (ns : List Int) : DH := cs.map (fun c => .tpl (c.2.map Lit.d)) ++ [.frz (ns.map D.int)]
theorem law_end {P : Program} {w : World} {K : PySem.W.Frag} {mg mb : Str → Option Value} {k : Nat} {fa a : Addr} {fd : FuncData} {x : Str} {s₁ : Shared} {vs : List Value} {ns : List Int} {R : Rx} {cs : List Cst} {m : List D → DH → RE}
    (KX : AllIn K s₁.heap) (hcs : cstOk K cs = true) (hns : s₁.heap.Ns mainGlobals mg) (hb : s₁.heap.Ns builtinsNs mb) (hbb : ∀ x : Str, x ≠ "__name__" → mb x = bootBuiltins x) (hlim : s₁.heap.NoLimit) (hg : s₁.gens = #[])
    (ha : s₁.heap.get? a = some { cls := .type "list", data := .seq vs.toArray }) (hi : IntsAre vs ns) (hl : ns.length ≤ sizeLine) (hr : Room k callerA)
    (hco : ∀ p ∈ R.co, ∃ i, p.1 = D.ref i ∧ (adrs K cs)[i]? = some p.2)
    (F : ∀ base : Heap, (cutK K (adrs K cs)).In base → base.Ns mainGlobals mg → FnOk P w (cutK K (adrs K cs)) mg base CX0 k fa fd [x] (spF R 1 m)) (hbind : ∀ (s : Shared) (u : Value), BindsTo s fd ⟨[u], []⟩ [(x, u)])
    (hm : ∃ h', m [.ref cs.length] (entryH cs ns) = .ok (.bl true) h') :
    codeAny (model P w) callerA (.call (.ref fa) ⟨[.ref a], []⟩) (fun r s' => r = .ok (.ret (.bool true)) ∧ OldK s₁.heap s'.heap ∧ s'.os = s₁.os ∧ AllBare s'.gens) s₁ := by
  unfold cstOk at hcs
  simp only [Bool.and_eq_true, decide_eq_true_eq] at hcs
  obtain ⟨⟨nd, htp⟩, _⟩ := hcs
  generalize has : adrs K cs = as at *
  obtain ⟨hlen, hat⟩ := tupsOk_at htp
  have tobj : ∀ (i : Nat) (b : Addr), as[i]? = some b → ∃ c us, cs[i]? = some c ∧ s₁.heap.get? b = some { cls := .type "tuple", data := .seq us.toArray } ∧ us.length ≤ sizeLine ∧ litsOk as c.2 us = true := fun i b e => by
    obtain ⟨c, h1, h2⟩ := hat i b e
    obtain ⟨us, h3, h4, h5⟩ := tupOk_at h2
    exact ⟨c, us, h1, KX _ (lookup_mem h3), h4, h5⟩
  have hna : a ∉ as := fun hm => by
    obtain ⟨i, hi, e⟩ := List.mem_iff_getElem.mp hm
    obtain ⟨c, us, _, h2, _⟩ := tobj i a (by rw [← e]; exact List.getElem?_eq_getElem hi)
    rw [ha] at h2
    have := (seq_inj h2).1
    exact absurd (Value.type.inj this) (by decide)
  have KC : (cutK K as).In s₁.heap := KX.cut
  have ar : ∀ b ∈ as ++ [a], ArgOb s₁.heap (as ++ [a]) b := fun b hb => by
    rcases List.mem_append.mp hb with hb | hb
    · obtain ⟨i, hi, e⟩ := List.mem_iff_getElem.mp hb
      obtain ⟨c, us, _, h2, h3, h4⟩ := tobj i b (by rw [← e]; exact List.getElem?_eq_getElem hi)
      exact ⟨us, h3, fun u hu => ((litsOk_v h4).2 u hu).mono fun b hb => List.mem_append_left _ hb, .inr h2⟩
    · have : b = a := by simpa using hb
      subst this
      refine ⟨vs, by rw [hi.length]; exact hl, fun u hu => ?_, .inl ha⟩
      have : ∀ {vs : List Value} {ns : List Int}, IntsAre vs ns → ∀ u ∈ vs, OkU (as ++ [b]) u := by
        intro vs ns hi
        induction hi with
        | nil => intro u hu; cases hu
        | cons n t h ih =>
          intro u hu
          rcases List.mem_cons.mp hu with rfl | hu
          · trivial
          · exact ih u hu
      exact this hi u hu
  have nK : ∀ b ∈ as ++ [a], (cutK K as).lookup b = none := fun b hb => by
    rcases List.mem_append.mp hb with hb | hb
    · exact cut_none hb
    · have : b = a := by simpa using hb
      subst this
      exact cut_list KX ha
  have hO : OnlyF (argH (cutK K as) s₁.heap (as ++ [a])) := argH_only ar
  have hok : HOk P w (argH (cutK K as) s₁.heap (as ++ [a])) s₁.heap := argH_ok ar
  have hK : ∀ b u, argH (cutK K as) s₁.heap (as ++ [a]) b = some u → (cutK K as).lookup b = none := fun b u q => (argH_is ar q).1
  have noA : ∀ {b : Addr} {o : Obj} {es : Array DictEntry} {ep : Nat}, s₁.heap.get? b = some o → o.data = .dict es ep → argH (cutK K as) s₁.heap (as ++ [a]) b = none := fun {b o es ep} e d => by
    cases q : argH (cutK K as) s₁.heap (as ++ [a]) b with
    | none => rfl
    | some u =>
      obtain ⟨_, vs, _, _, ⟨e2, _⟩ | ⟨e2, _⟩⟩ := argH_is ar q
      · rw [e2] at e
        cases e
        have d' : Data.seq vs.toArray _ = Data.dict es ep := d
        cases d'
      · rw [e2] at e
        cases e
        have d' : Data.seq vs.toArray _ = Data.dict es ep := d
        cases d'
  -- the relation at the entry
  have toI : ∀ {vs : List Value} {ns : List Int}, IntsAre vs ns → vs.map toV = (ns.map D.int).map (fun d => match d with | .int i => V.int i | _ => .non) := by
    intro vs ns hi
    induction hi with
    | nil => rfl
    | cons n t h ih => simp only [List.map_cons, ih]; rfl
  have rl0 : ∀ (φ : List Addr) (H : Hp) (ns : List Int), RpL φ H (ns.map D.int) ((ns.map D.int).map (fun d => match d with | .int i => V.int i | _ => .non)) := by
    intro φ H ns
    induction ns with
    | nil => exact rfl
    | cons n ns ih => exact ⟨_, _, rfl, rfl, ih⟩
  have rel : HRel R (as ++ [a]) (argH (cutK K as) s₁.heap (as ++ [a])) (entryH cs ns) := by
    refine ⟨by simp [entryH, hlen], ?_, fun i o b h1 h2 => ?_, fun p hp => ?_⟩
    · refine List.nodup_append.mpr ⟨nd, by simp, fun b hb c hc e => ?_⟩
      have : c = a := by simpa using hc
      subst this e
      exact hna hb
    · unfold entryH at h1
      by_cases hi' : i < as.length
      · rw [List.getElem?_append_left hi'] at h2
        rw [List.getElem?_append_left (by rw [List.length_map, ← hlen]; exact hi'), List.getElem?_map] at h1
        obtain ⟨c, us, k1, k2, k3, k4⟩ := tobj i b h2
        rw [k1] at h1
        cases h1
        have hb : b ∈ as ++ [a] := List.mem_append_left _ (List.mem_of_getElem? h2)
        refine ⟨_, us.map toV, (argH_at hb (nK b hb) k2).trans (hoOf_tup us), ?_⟩
        rw [(litsOk_v k4).1]
        exact lits_rel (List.prefix_append _ _) k4
      · have hi' : as.length ≤ i := Nat.le_of_not_lt hi'
        rw [List.getElem?_append_right hi'] at h2
        rw [List.getElem?_append_right (by rw [List.length_map, ← hlen]; exact hi'), List.length_map, ← hlen] at h1
        cases e : i - as.length with
        | zero =>
          rw [e] at h1 h2
          simp at h1 h2
          subst h1 h2
          have hb : a ∈ as ++ [a] := by simp
          refine ⟨_, vs.map toV, (argH_at hb (nK a hb) ha).trans (hoOf_lst vs), ?_⟩
          rw [toI hi]
          exact rl0 _ _ ns
        | succ j => rw [e] at h1; simp at h1
    · obtain ⟨i, e1, e2⟩ := hco p hp
      rw [e1]
      exact ⟨p.2, pre_get (List.prefix_append _ _) e2, rfl⟩
  generalize hH : argH (cutK K as) s₁.heap (as ++ [a]) = H at hO hok hK noA rel
  have base_of : ∀ {b : Addr} {o : Obj}, s₁.heap.get? b = some o → H b = none → (hidT s₁.heap H).get? b = some o := fun e n => hidT_get e n
  have nsK : ∀ {b : Addr} {m : Str → Option Value}, s₁.heap.Ns b m → (hidT s₁.heap H).Ns b m := fun {b m} ⟨o, es, ep, e, d, r⟩ => ⟨o, es, ep, base_of e (noA e d), d, r⟩
  have nK2 : ∀ b o, (cutK K as).lookup b = some o → H b = none := fun b o e => by
    cases q : H b with
    | none => rfl
    | some u =>
      rw [hK b u q] at e
      cases e
  have hKb : (cutK K as).In (hidT s₁.heap H) := fun b o e => base_of (KC b o e) (nK2 b o e)
  have hM : Mod (cutK K as) mg (hidT s₁.heap H) := ⟨hKb, nsK hns, ⟨mb, nsK hb, hbb⟩, let ⟨mc, h1, h2⟩ := hlim; ⟨mc, nsK h1, h2⟩⟩
  have e0 : Env0 P w (cutK K as) mg (hidT s₁.heap H) callerA [] s₁ H := ⟨rfl, hM, fun b o e => of_hidT e, Nat.le_of_eq (hidT_size _ _), trivial, fun b hb => absurd (show b ∈ ([] : List Addr) from hb) (by simp), hok, .of_eq hg⟩
  obtain ⟨h', hm⟩ := hm
  have hsp : spF R 1 m [.ref a] H (fun v _ => v = .bl true) fun _ _ _ => False := by
    refine ⟨rfl, as ++ [a], entryH cs ns, [.ref cs.length], rel, ⟨_, _, rfl, ⟨a, by rw [← hlen]; simp, rfl⟩, rfl⟩, ?_⟩
    rw [hm]
    exact fun φ' H' x _ _ rp => rp
  refine codeAny_mono ((F _ hKb (nsK hns)).run callerA [] s₁ H ⟨[.ref a], []⟩ [.ref a] [.ref a] _ _ hr e0 (hbind s₁ (.ref a)) (.cons rfl .nil) hsp) fun r s' x => ?_
  cases r with
  | error e => exact False.elim x
  | ok fl =>
    cases fl with
    | next => exact False.elim x
    | brk => exact False.elim x
    | cont => exact False.elim x
    | ret u =>
      obtain ⟨v, H', os, bare, un, hok', r', q⟩ := x
      have q' : v = .bl true := q
      subst q'
      obtain rfl : u = Value.bool true := r'
      have kept : ∀ b o, s₁.heap.get? b = some o → s'.heap.get? b = some o := fun b o e => by
        cases q2 : H b with
        | none => exact un.keep b o e q2 (by intro z; exact absurd (show b ∈ ([] : List Addr) from z) (by simp)) (by simp)
        | some u2 =>
          rcases hO b with z | ⟨ob, u3, z⟩
          · rw [q2] at z
            cases z
          · have z2 := un.frzs b ob _ z
            obtain ⟨e1, _⟩ := hok b _ z
            obtain ⟨e2, _⟩ := hok' b _ z2
            rw [e] at e1
            cases e1
            exact e2
      exact ⟨rfl, OldK.of_keep kept, os, bare⟩
theorem walk_end {l : PySem.W.OpenLaw} {n k : Nat} {q : Program} {loose : List Str} {XP : (Str → Option Value) → Heap → Prop} {chk : PySem.W.Frag → Bool} {fs : List Fd} {cs : List Cst} {dn : Nat} {d : DefRec} {x : Str} {m : List D → DH → RE}
    (hn : l.most = some n) (hn2 : n ≤ sizeLine) (hdf : d.params.defaults = []) (hr : Room k callerA)
    (F : ∀ (w : World) (mg : Str → Option Value) (fad : Addr) (K : PySem.W.Frag) (h : Heap), AllIn K h → h.Ns mainGlobals mg → mg d.name = some (.ref fad) → SaysK chk fs (cutK K (adrs K cs)) → cstOk K cs = true →
      ∃ (R : Rx) (fd : FuncData), (∀ p ∈ R.co, ∃ i, p.1 = D.ref i ∧ (adrs K cs)[i]? = some p.2) ∧ (∀ (s : Shared) (u : Value), BindsTo s fd ⟨[u], []⟩ [(x, u)]) ∧
        ∀ base : Heap, (cutK K (adrs K cs)).In base → base.Ns mainGlobals mg → FnOk l.prog w (cutK K (adrs K cs)) mg base CX0 k fad fd [x] (spF R 1 m))
    (hm : ∀ ns : List Int, ns.length ≤ n → ∃ h', m [.ref cs.length] (entryH cs ns) = .ok (.bl true) h') :
    PySem.W.WalkO q loose XP (hookT dn chk fs cs).says l.row.toRowW d [] (fun f vs => PySem.call f vs) := by
  refine Att.attach_call hn hdf fun w s₀ s₁ mg mb fad o pm cd doc a vs ns G Y ho hd hcd hmg hobj hints hlen hg => ?_
  obtain ⟨K, KX, hsd, hcs⟩ := Y
  obtain ⟨R, fd, hco, hb, hF⟩ := F w mg fad K _ KX G.T.g hmg hsd hcs
  exact law_end KX hcs G.T.g G.T.b G.T.builtins G.T.nolimit hg hobj hints (Nat.le_trans hlen hn2) hr hco hF hb (hm ns hlen)
end Bp
end

section
set_option linter.all false
set_option maxRecDepth 100000
set_option maxHeartbeats 0
set_option linter.all false
set_option maxRecDepth 100000
set_option autoImplicit false
set_option maxHeartbeats 2000000
namespace Bp
open PySem PySem.Spec PyProof.Rows L2
structure LawD where
  an : List Str
  cn : List Str
  G : GT
  fs : List Fd
  ns : List (List Str × List Str)
  cs : List Cst
  pl : List Nat
def LawD.cnm (L : LawD) (c : Nat) : Str := L.cn.getD c Str.empty
def noFd : Fd := ⟨.glo Str.empty, Str.empty, Str.empty, { posonlyargs := [], args := [], vararg := none, kwonlyargs := [], kw_defaults := [], kwarg := none, defaults := [] }, [], { kind := .function, names := [], isGenerator := false, isCoroutine := false }, []⟩
def LawD.fd (L : LawD) (i : Nat) : Fd := L.fs.getD i noFd
def LawD.ft (L : LawD) (i : Nat) : Fn := ⟨(L.ns.getD i ([], [])).1, (L.ns.getD i ([], [])).2, (L.fd i).scope, (L.fd i).body⟩
def LawD.rx (L : LawD) (K : PySem.W.Frag) (as : List Addr) : Rx := ⟨fun c => He.ga K (L.cnm c), L.an, (List.range L.cs.length).map fun k => (D.ref k, as.getD k 0)⟩
instance : DecidableEq FW := fun a b => match a, b with
  | .glo x, .glo y => if h : x = y then isTrue (by rw [h]) else isFalse fun z => by cases z; exact h rfl
  | .meth x m, .meth y n => if h : x = y ∧ m = n then isTrue (by rw [h.1, h.2]) else isFalse fun z => by cases z; exact h ⟨rfl, rfl⟩
  | .prop x m, .prop y n => if h : x = y ∧ m = n then isTrue (by rw [h.1, h.2]) else isFalse fun z => by cases z; exact h ⟨rfl, rfl⟩
  | .glo _, .meth _ _ => isFalse fun z => by cases z
  | .glo _, .prop _ _ => isFalse fun z => by cases z
  | .meth _ _, .glo _ => isFalse fun z => by cases z
  | .meth _ _, .prop _ _ => isFalse fun z => by cases z
  | .prop _ _, .glo _ => isFalse fun z => by cases z
  | .prop _ _, .meth _ _ => isFalse fun z => by cases z
def scopeB (N ps : List Str) (sc : Scope) : Bool := decide (sc.kind = .function) && (decide (sc.isCoroutine = false) && (decide (sc.isGenerator = false) && (decide N.Nodup && (decide (N.take ps.length = ps) &&
  ((ps.all fun x => decide (sc.names.lookup x = some .local) || decide (sc.names.lookup x = some .cell)) && sc.names.all fun y => decide (y.2 ≠ .free))))))
theorem scopeB_ok {N ps : List Str} {sc : Scope} (h : scopeB N ps sc = true) : FnScope N ps sc := by
  unfold scopeB at h
  simp only [Bool.and_eq_true, decide_eq_true_eq, List.all_eq_true, Bool.or_eq_true] at h
  obtain ⟨h1, h2, h3, h4, h5, h6, h7⟩ := h
  exact ⟨h1, h2, h3, h4, h5, h6, h7⟩
def LawD.statG (L : LawD) (p : Str × GI) : Bool := match p.2 with
  | .fn i np => decide ((L.fd i).at_ = .glo p.1) && (decide ((L.ft i).ps.length = np) && (decide (i < L.fs.length) && L.pl.contains i))
  | .cls c i np => decide (L.cnm c = p.1) && (decide ((L.fd i).at_ = .meth p.1 "__init__") && (decide ((L.ft i).ps.length = np + 1) && (decide (i < L.fs.length) && L.pl.contains i)))
  | .cst d => match d with
    | .ref k => match L.cs[k]? with
      | some (.nm x, _) => decide (x = p.1)
      | _ => false
    | .int _ => true
    | .str _ => true
    | _ => false
  | .ty c => decide (L.cnm c = p.1)
def LawD.stat0 (L : LawD) : Bool := decide L.an.Nodup && ((L.G.g.all L.statG) && ((L.G.m.all fun p => decide ((L.fd p.2.2.1).at_ = .meth (L.cnm p.2.1) p.1) && (decide ((L.ft p.2.2.1).ps.length = p.2.2.2.1 + 1) && (decide (L.an[p.2.2.2.2]? = some p.1) && (decide (p.2.2.1 < L.fs.length) && L.pl.contains p.2.2.1)))) &&
  ((L.G.p.all fun p => decide ((L.fd p.2.2.1).at_ = .prop (L.cnm p.2.1) p.1) && (decide ((L.ft p.2.2.1).ps.length = 1) && (decide (p.2.2.1 < L.fs.length) && L.pl.contains p.2.2.1))) && ((L.G.f.all fun p => decide (L.an[p.2.2]? = some p.1)) &&
  ((List.range L.fs.length).all fun i => scopeB (L.ft i).N (L.ft i).ps (L.ft i).sc)))))
def LawD.statK (L : LawD) : Bool := (L.G.km.all fun p => decide (L.cnm p.2.1 = p.1.1) && (decide ((L.fd p.2.2.1).at_ = .meth p.1.1 "__init__") && decide (p.2.2.1 < L.fs.length))) &&
  ((L.G.ms.all fun p => decide (L.cnm p.2.1 = p.1) && (decide ((L.fd p.2.2.1).at_ = .meth p.1 "__init__") && decide (p.2.2.1 < L.fs.length))) &&
  (L.G.mm.all fun p => decide ((L.fd p.2.2.1).at_ = .meth (L.cnm p.2.1) p.1.1) && (decide (L.an[p.2.2.2]? = some p.1.1) && decide (p.2.2.1 < L.fs.length))))
def LawD.stat (L : LawD) : Bool := L.stat0 && L.statK
def insB (K : PySem.W.Frag) (x : Str) : Bool := (He.Fa.cls x).ok K && (He.eqO (PySem.W.findIn K (.ref (He.ga K x)) "__class__") (some (some (.builtin "object.__class__"))) && (He.eqO (PySem.W.specialIn K (.builtin "object.__class__") "__get__") (some (some (.builtin "getset_descriptor.__get__"))) &&
  (decide (PySem.W.takesIn K (.builtin "object.__class__") = some true) && (decide (PySem.W.mroIn K (He.ga K x) (.type "object") = some true) && decide (PySem.W.kitOne K (.ref (He.ga K x)) (.ref (He.ga K x)) = some true)))))
theorem insB_ok {K : PySem.W.Frag} {x : Str} (h : insB K x = true) : C8.InsC K (He.ga K x) := by
  unfold insB at h
  simp only [Bool.and_eq_true, decide_eq_true_eq] at h
  obtain ⟨h1, h2, h3, h4, h5, h6⟩ := h
  exact ⟨He.cls_ok h1, He.eqO_ok h2, He.eqO_ok h3, h4, h5, h6⟩
def propB (K : PySem.W.Frag) (c f : Str) : Bool := He.eqO (PySem.W.findIn K (.ref (He.ga K c)) f) (some (some (.ref (He.ma K (He.ga K c) f)))) && (He.eqO (PySem.W.specialIn K (.ref (He.ma K (He.ga K c) f)) "__get__") (some (some (.builtin "property.__get__"))) &&
  (decide (PySem.W.takesIn K (.ref (He.ma K (He.ga K c) f)) = some true) && (match PySem.W.recIn K (He.ma K (He.ga K c) f) "property" with
    | some (.ref _ :: _) => true
    | _ => false)))
theorem propB_ok {K : PySem.W.Frag} {c f : Str} (h : propB K c f = true) : PropOf K (He.ga K c) f (He.ma K (He.ga K c) f) ((FW.prop c f).ad K) := by
  unfold propB at h
  simp only [Bool.and_eq_true, decide_eq_true_eq] at h
  obtain ⟨h1, h2, h3, h4⟩ := h
  refine ⟨He.eqO_ok h1, He.eqO_ok h2, h3, ?_⟩
  split at h4
  · rename_i g r e
    exact ⟨r, by simp only [FW.ad, e]⟩
  · cases h4
def LawD.chkG (L : LawD) (K : PySem.W.Frag) (p : Str × GI) : Bool := match p.2 with
  | .fn _ _ => (He.Fa.glo p.1).ok K && PySem.W.keepIn K (.ref (He.ga K p.1))
  | .cls _ _ _ => (He.Fa.glo p.1).ok K && (He.Fa.mkr p.1).ok K
  | .cst d => match d with
    | .int i => (He.Fa.int p.1 i).ok K
    | .str s => (He.Fa.str p.1 s).ok K
    | _ => true
  | .ty _ => (He.Fa.glo p.1).ok K
def LawD.chk0 (L : LawD) (K : PySem.W.Frag) : Bool := (L.G.g.all (L.chkG K)) && ((L.G.bl.all fun x => (He.Fa.free x).ok K) && ((L.G.m.all fun p => (He.Fa.cls (L.cnm p.2.1)).ok K && (He.Fa.meth (L.cnm p.2.1) p.1).ok K) &&
  ((L.G.p.all fun p => (He.Fa.cls (L.cnm p.2.1)).ok K && propB K (L.cnm p.2.1) p.1) && ((L.G.f.all fun p => (He.Fa.cls (L.cnm p.2.1)).ok K && (He.Fa.noat (L.cnm p.2.1) p.1).ok K) &&
  (L.G.sub.all fun r => decide (PySem.W.kitOne K (kV (L.rx K []) (r.1, r.2.1)) (tV (L.rx K []) r.2.2.1) = some r.2.2.2) && (match r.1 with
    | some c => insB K (L.cnm c)
    | none => true))))))
def LawD.chkW (L : LawD) (K : PySem.W.Frag) : Bool := (L.G.km.all fun p => (He.Fa.glo p.1.1).ok K && (He.Fa.mkr p.1.1).ok K) && ((L.G.ms.all fun p => (He.Fa.glo p.1).ok K && (He.Fa.mkr p.1).ok K) &&
  (L.G.mm.all fun p => (He.Fa.cls (L.cnm p.2.1)).ok K && (He.Fa.meth (L.cnm p.2.1) p.1.1).ok K))
def LawD.chk (L : LawD) (K : PySem.W.Frag) : Bool := L.chk0 K && L.chkW K
theorem look_mem {α β : Type} [BEq α] [LawfulBEq α] {l : List (α × β)} {x : α} {y : β} (h : l.lookup x = some y) : (x, y) ∈ l := by
  induction l with
  | nil => cases h
  | cons p l ih =>
    obtain ⟨a, b⟩ := p
    rw [List.lookup_cons] at h
    split at h
    · rename_i hx
      cases h
      have : x = a := by simpa using hx
      subst this
      exact List.mem_cons_self
    · exact List.mem_cons_of_mem _ (ih h)
theorem LawD.ft_at (L : LawD) {K : PySem.W.Frag} {i : Nat} (hi : i < L.fs.length) (hs : L.stat = true) (c : SaysK L.chk L.fs K) : ∃ fd, FnAt K (L.ft i) ((L.fd i).at_.ad K) fd ∧ FunD K (L.fd i).name (L.fd i).qual (L.fd i).params (L.fd i).body (L.fd i).scope [] ((L.fd i).kws K) ((L.fd i).at_.ad K) fd := by
  have hg : L.fs[i]? = some (L.fd i) := by
    unfold LawD.fd
    rw [List.getD_eq_getElem?_getD, List.getElem?_eq_getElem hi]
    rfl
  obtain ⟨fd, F⟩ := c.fn hg
  unfold LawD.stat LawD.stat0 at hs
  simp only [Bool.and_eq_true] at hs
  obtain ⟨⟨_, _, _, _, _, h6⟩, _⟩ := hs
  have := List.all_eq_true.mp h6 i (List.mem_range.mpr hi)
  exact ⟨fd, ⟨⟨_, _, _, _, _, F⟩, scopeB_ok this⟩, F⟩
theorem LawD.wok (L : LawD) {K0 : PySem.W.Frag} {h : Heap} {mg : Str → Option Value} (hs : L.stat = true) (hK : AllIn K0 h) (hG : h.Ns mainGlobals mg) (hc : cstOk K0 L.cs = true) (c : SaysK L.chk L.fs (cutK K0 (adrs K0 L.cs)))
    (hB : ∀ (K : PySem.W.Frag) (i : Nat), i ∈ L.pl → ∀ f fd, FunD K (L.fd i).name (L.fd i).qual (L.fd i).params (L.fd i).body (L.fd i).scope [] ((L.fd i).kws K) f fd → L2.Binds K fd (L.ft i).ps [])
    (hKM : ∀ (K : PySem.W.Frag) p, p ∈ L.G.km → ∀ f fd, FunD K (L.fd p.2.2.1).name (L.fd p.2.2.1).qual (L.fd p.2.2.1).params (L.fd p.2.2.1).body (L.fd p.2.2.1).scope [] ((L.fd p.2.2.1).kws K) f fd → ∃ np, ∃ (gg : List Value → List Value → List Value) (gV : List V → List V → List V), (L.ft p.2.2.1).np = np + 1 ∧ KBn K fd (L.ft p.2.2.1).ps 1 p.1.2 gg gV ∧ ArrOk p.1.2 np p.2.2.2 gV)
    (hMS : ∀ (K : PySem.W.Frag) p, p ∈ L.G.ms → ∀ f fd, FunD K (L.fd p.2.2.1).name (L.fd p.2.2.1).qual (L.fd p.2.2.1).params (L.fd p.2.2.1).body (L.fd p.2.2.1).scope [] ((L.fd p.2.2.1).kws K) f fd → ∃ np, ∃ (gg : List Value → List Value → List Value) (gV : List V → List V → List V), (L.ft p.2.2.1).np = np + 1 ∧ KBn K fd (L.ft p.2.2.1).ps 1 p.2.2.2.1 gg gV ∧ ArrOk p.2.2.2.1 np p.2.2.2.2 gV)
    (hMM : ∀ (K : PySem.W.Frag) p, p ∈ L.G.mm → ∀ f fd, FnScope (L.ft p.2.2.1).N (L.ft p.2.2.1).ps (L.ft p.2.2.1).sc → FunD K (L.fd p.2.2.1).name (L.fd p.2.2.1).qual (L.fd p.2.2.1).params (L.fd p.2.2.1).body (L.fd p.2.2.1).scope [] ((L.fd p.2.2.1).kws K) f fd → MoreAt K (L.ft p.2.2.1) f p.1.2) :
    WOk (cutK K0 (adrs K0 L.cs)) mg (L.rx (cutK K0 (adrs K0 L.cs)) (adrs K0 L.cs)) L.G L.ft := by
  have hs0 := hs
  have hchk := c.chk
  generalize has : adrs K0 L.cs = as at *
  generalize hKe : cutK K0 as = K at *
  have X : K.In h := by rw [← hKe]; exact hK.cut
  unfold LawD.stat LawD.stat0 LawD.statK at hs
  simp only [Bool.and_eq_true, decide_eq_true_eq] at hs
  obtain ⟨⟨sA, sG, sM, sP, sF, sS⟩, sKM, sMS, sMM⟩ := hs
  unfold LawD.chk LawD.chk0 LawD.chkW at hchk
  simp only [Bool.and_eq_true] at hchk
  obtain ⟨⟨cG, cB, cM, cP, cF, cS⟩, cKM, cMS, cMM⟩ := hchk
  have at_ : ∀ i, i < L.fs.length → L.pl.contains i = true → ∃ fd, FnAt K (L.ft i) ((L.fd i).at_.ad K) fd ∧ L2.Binds K fd (L.ft i).ps [] := fun i hi hp => by
    obtain ⟨fd, h1, h2⟩ := L.ft_at hi hs0 c
    exact ⟨fd, h1, hB K i (by simpa using hp) _ fd h2⟩
  refine ⟨sA, ⟨fun r hr => ?_, fun r hr k hk => ?_⟩, fun x d hl => ?_, fun x i np hl => ?_, fun x k i np hl => ?_, fun x k hl => ?_, fun x hl => ?_, fun x k i np mi hl => ?_, fun x k i fi hl => ?_, fun x k fi hl => ?_, fun x ks k i sl hl => ?_, fun x k i ks sl hl => ?_, fun x ks k i mi hl => ?_⟩
  · have := List.all_eq_true.mp cS r hr
    simp only [Bool.and_eq_true, decide_eq_true_eq] at this
    exact this.1
  · have := List.all_eq_true.mp cS r hr
    simp only [Bool.and_eq_true] at this
    have h2 := this.2
    rw [hk] at h2
    exact insB_ok h2
  · have h1 := List.all_eq_true.mp sG _ (look_mem hl)
    have h2 := List.all_eq_true.mp cG _ (look_mem hl)
    unfold LawD.statG at h1
    unfold LawD.chkG at h2
    simp only at h1 h2
    cases d with
    | int i =>
      obtain ⟨t, e⟩ := He.int_ok X hG h2
      exact ⟨_, .int i, e, ⟨t, rfl⟩, fun _ _ _ _ => rfl⟩
    | str s =>
      obtain ⟨t, e⟩ := He.str_ok X hG h2
      exact ⟨_, .str s, e, ⟨t, rfl⟩, fun _ _ _ _ => rfl⟩
    | ref k =>
      simp only at h1
      split at h1
      · rename_i y ls e
        have hx : y = x := by simpa using h1
        subst hx
        unfold cstOk at hc
        simp only [Bool.and_eq_true] at hc
        have hk : k < L.cs.length := (List.getElem?_eq_some_iff.mp e).1
        have := List.all_eq_true.mp hc.2 k (List.mem_range.mpr hk)
        rw [e] at this
        simp only [Bool.and_eq_true, decide_eq_true_eq] at this
        obtain ⟨g1, g2⟩ := this
        have hm := He.glo_ok hK.in_ hG g1
        refine ⟨_, .ref (as.getD k 0), by rw [hm, g2, has], rfl, fun φ H h hr => ?_⟩
        exact hr.cst (D.ref k, as.getD k 0) (List.mem_map.mpr ⟨k, List.mem_range.mpr hk, rfl⟩)
      · cases h1
    | _ => cases h1
  · have h1 := List.all_eq_true.mp sG _ (look_mem hl)
    have h2 := List.all_eq_true.mp cG _ (look_mem hl)
    unfold LawD.statG at h1
    unfold LawD.chkG at h2
    simp only [Bool.and_eq_true, decide_eq_true_eq] at h1 h2
    obtain ⟨g1, g2, g3, g4⟩ := h1
    obtain ⟨fd, k1, k2⟩ := at_ i g3 g4
    rw [g1] at k1
    exact ⟨_, fd, k1, k2, g2, He.glo_ok X hG h2.1, h2.2⟩
  · have h1 := List.all_eq_true.mp sG _ (look_mem hl)
    have h2 := List.all_eq_true.mp cG _ (look_mem hl)
    unfold LawD.statG at h1
    unfold LawD.chkG at h2
    simp only [Bool.and_eq_true, decide_eq_true_eq] at h1 h2
    obtain ⟨g0, g1, g2, g3, g4⟩ := h1
    obtain ⟨fd, k1, k2⟩ := at_ i g3 g4
    rw [g1] at k1
    have hca : (L.rx K as).ca k = He.ga K x := by
      show He.ga K (L.cnm k) = _
      rw [g0]
    rw [hca]
    exact ⟨He.glo_ok X hG h2.1, _, fd, He.mkr_ok h2.2, k1, k2, g2⟩
  · have h1 := List.all_eq_true.mp sG _ (look_mem hl)
    have h2 := List.all_eq_true.mp cG _ (look_mem hl)
    unfold LawD.statG at h1
    unfold LawD.chkG at h2
    simp only [decide_eq_true_eq] at h1 h2
    have hca : (L.rx K as).ca k = He.ga K x := by
      show He.ga K (L.cnm k) = _
      rw [h1]
    rw [hca]
    exact He.glo_ok X hG h2
  · exact He.free_ok X hG (List.all_eq_true.mp cB x (by simpa using hl))
  · have h1 := List.all_eq_true.mp sM _ (look_mem hl)
    have h2 := List.all_eq_true.mp cM _ (look_mem hl)
    simp only [Bool.and_eq_true, decide_eq_true_eq] at h1 h2
    obtain ⟨g1, g2, g3, g4, g5⟩ := h1
    obtain ⟨fd, k1, k2⟩ := at_ i g4 g5
    rw [g1] at k1
    exact ⟨He.cls_ok h2.1, g3, _, fd, He.meth_ok h2.2, k1, k2, g2⟩
  · have h1 := List.all_eq_true.mp sP _ (look_mem hl)
    have h2 := List.all_eq_true.mp cP _ (look_mem hl)
    simp only [Bool.and_eq_true, decide_eq_true_eq] at h1 h2
    obtain ⟨g1, g2, g3, g4⟩ := h1
    obtain ⟨fd, k1, k2⟩ := at_ i g3 g4
    rw [g1] at k1
    exact ⟨He.cls_ok h2.1, _, _, fd, propB_ok h2.2, k1, k2, g2⟩
  · have h1 := List.all_eq_true.mp sF _ (look_mem hl)
    have h2 := List.all_eq_true.mp cF _ (look_mem hl)
    simp only [Bool.and_eq_true, decide_eq_true_eq] at h1 h2
    exact ⟨He.cls_ok h2.1, h1, He.noat_ok h2.2⟩
  · have h1 := List.all_eq_true.mp sKM _ (look_mem hl)
    have h2 := List.all_eq_true.mp cKM _ (look_mem hl)
    simp only [Bool.and_eq_true, decide_eq_true_eq] at h1 h2
    obtain ⟨g0, g1, g3⟩ := h1
    obtain ⟨fd, k1, k2⟩ := L.ft_at g3 hs0 c
    obtain ⟨np, gg, gV, e1, e2, e3⟩ := hKM K _ (look_mem hl) _ fd k2
    rw [g1] at k1
    have hca : (L.rx K as).ca k = He.ga K x := by
      show He.ga K (L.cnm k) = _
      rw [g0]
    rw [hca]
    exact ⟨He.glo_ok X hG h2.1, _, fd, np, gg, gV, He.mkr_ok h2.2, k1, e1, e2, e3⟩
  · have h1 := List.all_eq_true.mp sMS _ (look_mem hl)
    have h2 := List.all_eq_true.mp cMS _ (look_mem hl)
    simp only [Bool.and_eq_true, decide_eq_true_eq] at h1 h2
    obtain ⟨g0, g1, g3⟩ := h1
    obtain ⟨fd, k1, k2⟩ := L.ft_at g3 hs0 c
    obtain ⟨np, gg, gV, e1, e2, e3⟩ := hMS K _ (look_mem hl) _ fd k2
    rw [g1] at k1
    have hca : (L.rx K as).ca k = He.ga K x := by
      show He.ga K (L.cnm k) = _
      rw [g0]
    rw [hca]
    exact ⟨He.glo_ok X hG h2.1, _, fd, np, gg, gV, He.mkr_ok h2.2, k1, e1, e2, e3⟩
  · have h1 := List.all_eq_true.mp sMM _ (look_mem hl)
    have h2 := List.all_eq_true.mp cMM _ (look_mem hl)
    simp only [Bool.and_eq_true, decide_eq_true_eq] at h1 h2
    obtain ⟨g1, g2, g3⟩ := h1
    obtain ⟨fd, k1, k2⟩ := L.ft_at g3 hs0 c
    have k3 := hMM K _ (look_mem hl) _ fd k1.S k2
    rw [g1] at k3
    exact ⟨He.cls_ok h2.1, g2, _, He.meth_ok h2.2, k3⟩
end Bp
end

section
set_option linter.all false
set_option maxRecDepth 100000
set_option maxHeartbeats 0
set_option linter.all false
set_option maxRecDepth 100000
set_option autoImplicit false
set_option maxHeartbeats 1000000
namespace Bp
open PySem
abbrev QD := D → DH → Prop
abbrev QL := List D → DH → Prop
abbrev QX := Nat → List D → DH → Prop
def wE (r : RE) (Q : QD) (X : QX) : Prop := match r with
  | .ok v h => Q v h
  | .ex c l h => X c l h
  | .bad => False
def wA (r : RA) (Q : QL) (X : QX) : Prop := match r with
  | .ok v h => Q v h
  | .ex c l h => X c l h
  | .bad => False
structure WK where
  nx : Env → DH → Prop
  rt : D → DH → Prop
  bk : Env → DH → Prop
  ct : Env → DH → Prop
  ex : Nat → List D → Env → DH → Prop
def wS (r : RS) (K : WK) : Prop := match r with
  | .nx e h => K.nx e h
  | .rt v h => K.rt v h
  | .bk e h => K.bk e h
  | .ct e h => K.ct e h
  | .ex c l e h => K.ex c l e h
  | .bad => False
abbrev RIQ := List D → List (Nat × DO) → Option Nat → DH → Prop
def wI (r : RI) (Q : RIQ) (X : QX) : Prop := match r with
  | .ok xs ds lk h => Q xs ds lk h
  | .ex c l h => X c l h
  | .bad => False
def nX : QX := fun _ _ _ => False
theorem wE.mono {r : RE} {Q Q' : QD} {X X' : QX} (h : wE r Q X) (hq : ∀ v h, Q v h → Q' v h) (hx : ∀ c l h, X c l h → X' c l h) : wE r Q' X' := by
  cases r with
  | ok v h' => exact hq _ _ h
  | ex c l h' => exact hx _ _ _ h
  | bad => exact h
theorem wE.use {r : RE} {Q Q' : QD} {X' : QX} (h : wE r Q nX) (hq : ∀ v h, Q v h → Q' v h) : wE r Q' X' := h.mono hq fun _ _ _ z => z.elim
theorem wA.mono {r : RA} {Q Q' : QL} {X X' : QX} (h : wA r Q X) (hq : ∀ v h, Q v h → Q' v h) (hx : ∀ c l h, X c l h → X' c l h) : wA r Q' X' := by
  cases r with
  | ok v h' => exact hq _ _ h
  | ex c l h' => exact hx _ _ _ h
  | bad => exact h
theorem wS.mono {r : RS} {K K' : WK} (h : wS r K) (h1 : ∀ e h, K.nx e h → K'.nx e h) (h2 : ∀ e h, K.rt e h → K'.rt e h) (h3 : ∀ e h, K.bk e h → K'.bk e h) (h4 : ∀ e h, K.ct e h → K'.ct e h) (h5 : ∀ c l e h, K.ex c l e h → K'.ex c l e h) : wS r K' := by
  cases r with
  | nx e h' => exact h1 _ _ h
  | rt e h' => exact h2 _ _ h
  | bk e h' => exact h3 _ _ h
  | ct e h' => exact h4 _ _ h
  | ex c l e h' => exact h5 _ _ _ _ h
  | bad => exact h
theorem wE_ok {v : D} {h : DH} {Q : QD} {X : QX} : wE (.ok v h) Q X = Q v h := propext ⟨fun z => z, fun z => z⟩
theorem wE_ex {c : Nat} {l : List D} {h : DH} {Q : QD} {X : QX} : wE (.ex c l h) Q X = X c l h := propext ⟨fun z => z, fun z => z⟩
theorem wE_bad {Q : QD} {X : QX} : wE .bad Q X = False := rfl
theorem wE_bind {r : RE} {f : D → DH → RE} {Q : QD} {X : QX} : wE (r.bind f) Q X = wE r (fun v h => wE (f v h) Q X) X := by cases r <;> rfl
theorem wE_bindA {r : RA} {f : List D → DH → RE} {Q : QD} {X : QX} : wE (r.bind f) Q X = wA r (fun v h => wE (f v h) Q X) X := by cases r <;> rfl
def selB : D → Prop → Prop → Prop
  | .bl b, A, B => (b = true → A) ∧ (b = false → B)
  | _, _, _ => False
theorem selB_t {A B : Prop} : selB (.bl true) A B = A := by simp [selB]
theorem selB_f {A B : Prop} : selB (.bl false) A B = B := by simp [selB]
theorem selB_b {b : Bool} {A B : Prop} : selB (.bl b) A B = ((b = true → A) ∧ (b = false → B)) := propext ⟨fun z => z, fun z => z⟩
def kRV (o : RV) (Q : QD) : Prop := match o with
  | some p => Q p.1 p.2
  | none => False
theorem kRV_s {v : D} {h : DH} {Q : QD} : kRV (some (v, h)) Q = Q v h := propext ⟨fun z => z, fun z => z⟩
theorem kRV_n {Q : QD} : kRV none Q = False := rfl
theorem wE_ofV {o : RV} {Q : QD} {X : QX} : wE (ofV o) Q X = kRV o Q := by cases o <;> rfl
theorem kRV_alloc {o : DO} {h : DH} {Q : QD} : kRV (alloc o h) Q = Q (.ref h.length) (h ++ [o]) := propext ⟨fun z => z, fun z => z⟩
theorem kRV_ite {c : Prop} [Decidable c] {a b : RV} {Q : QD} : kRV (if c then a else b) Q = ((c → kRV a Q) ∧ (¬ c → kRV b Q)) := by
  by_cases h : c <;> simp [h]
def kB (o : Option Bool) (h : DH) (Q : QD) : Prop := match o with
  | some b => Q (.bl b) h
  | none => False
theorem kB_s {b : Bool} {h : DH} {Q : QD} : kB (some b) h Q = Q (.bl b) h := propext ⟨fun z => z, fun z => z⟩
theorem wE_okB {o : Option Bool} {h : DH} {Q : QD} {X : QX} : wE (okB o h) Q X = kB o h Q := by cases o <;> rfl
def kVar (o : Option (Option D)) (Q : QD) (h : DH) : Prop := match o with
  | some (some v) => Q v h
  | _ => False
theorem kVar_s {v : D} {Q : QD} {h : DH} : kVar (some (some v)) Q h = Q v h := propext ⟨fun z => z, fun z => z⟩
section
variable {g : Gm} {e : Env} {h : DH} {Q : QD} {QA : QL} {X : QX} {K : WK}
theorem wE_mVar {i : Nat} : wE (mVar i g e h) Q X = kVar e[i]? Q h := by
  unfold mVar kVar
  split <;> simp_all [wE]
theorem wE_mK {d : D} : wE (mK d g e h) Q X = Q d h := propext ⟨fun z => z, fun z => z⟩
theorem wE_tYes : wE (tYes g e h) Q X = Q (.bl true) h := propext ⟨fun z => z, fun z => z⟩
theorem wE_mBad : wE (mBad g e h) Q X = False := rfl
theorem wA_nil : wA (aNil g e h) QA X = QA [] h := propext ⟨fun z => z, fun z => z⟩
def kA2 (v : D) (QA : QL) (vs : List D) (h : DH) : Prop := QA (v :: vs) h
def kA1 (a : MA) (g : Gm) (e : Env) (QA : QL) (X : QX) (v : D) (h : DH) : Prop := wA (a g e h) (kA2 v QA) X
theorem wA_cons {m : ME} {a : MA} : wA (aCons m a g e h) QA X = wE (m g e h) (kA1 a g e QA X) X := by
  unfold aCons
  cases m g e h with
  | ok v h1 =>
    show _ = wA (a g e h1) (kA2 v QA) X
    show wA (match a g e h1 with | .ok vs h2 => .ok (v :: vs) h2 | .ex c l h2 => .ex c l h2 | .bad => .bad) QA X = _
    cases a g e h1 <;> rfl
  | ex c l h1 => rfl
  | bad => rfl
def kTup (Q : QD) (vs : List D) (h : DH) : Prop := vs.length ≤ lim ∧ Q (.tup vs) h
theorem wE_mTup {a : MA} : wE (mTup a g e h) Q X = wA (a g e h) (kTup Q) X := by
  unfold mTup
  rw [wE_bindA]
  congr 1
  funext vs h1
  unfold kTup
  by_cases z : vs.length ≤ lim <;> simp [z, wE]
def kLst (Q : QD) (vs : List D) (h : DH) : Prop := vs.length ≤ lim ∧ Q (.ref h.length) (h ++ [.lst vs])
theorem wE_mLst {a : MA} : wE (mLst a g e h) Q X = wA (a g e h) (kLst Q) X := by
  unfold mLst
  rw [wE_bindA]
  congr 1
  funext vs h1
  unfold kLst
  by_cases z : vs.length ≤ lim <;> simp [z, wE, ofV, alloc]
def kDict (n : Nat) (ks : List Str) (Q : QD) (vs : List D) (h1 : DH) : Prop := h1[n]? = some (.dk []) ∧ Q (.ref n) (h1.set n (.dk (mergeD [] ks vs)))
theorem wE_mDict {ks : List Str} {ms : List ME} : wE (mDict ks ms g e h) Q X = (ms.length = ks.length ∧ ks.length ≤ 15 ∧ wA (aL ms g e (h ++ [.dk []])) (kDict h.length ks Q) X) := by
  unfold mDict
  by_cases z : ms.length = ks.length ∧ ks.length ≤ 15
  · rw [if_pos z, wE_bindA]
    have : (fun (v : List D) (h_1 : DH) => wE (if h_1[h.length]? = some (.dk []) then .ok (.ref h.length) (h_1.set h.length (.dk (mergeD [] ks v))) else .bad) Q X) = kDict h.length ks Q := by
      funext vs h1
      unfold kDict
      by_cases y : h1[h.length]? = some (.dk []) <;> simp [y, wE]
    rw [this]
    simp [z.1, z.2]
  · rw [if_neg z]
    simp only [wE, false_iff, eq_iff_iff]
    exact fun y => z ⟨y.1, y.2.1⟩
theorem aL_nil : aL [] = aNil := rfl
theorem aL_cons {m : ME} {r : List ME} : aL (m :: r) = aCons m (aL r) := rfl
def kBin2 (op : Operator) (x : D) (Q : QD) (y : D) (h : DH) : Prop := kRV (binD op h x y) Q
def kBin1 (op : Operator) (m2 : ME) (g : Gm) (e : Env) (Q : QD) (X : QX) (x : D) (h : DH) : Prop := wE (m2 g e h) (kBin2 op x Q) X
theorem wE_mBin {op : Operator} {m1 m2 : ME} : wE (mBin op m1 m2 g e h) Q X = wE (m1 g e h) (kBin1 op m2 g e Q X) X := by
  unfold mBin
  rw [wE_bind]
  congr 1
  funext x h1
  rw [wE_bind]
  unfold kBin1
  congr 1
  funext y h2
  exact wE_ofV
def kNeg (Q : QD) : QD
  | .int i, h => Q (.int (-i)) h
  | _, _ => False
theorem wE_mNeg {m : ME} : wE (mNeg m g e h) Q X = wE (m g e h) (kNeg Q) X := by
  unfold mNeg
  rw [wE_bind]
  congr 1
  funext x h1
  cases x <;> rfl
def kCmp2 (op : CmpOp) (x : D) (Q : QD) (y : D) (h : DH) : Prop := kB (cmpD op h x y) h Q
def kCmp1 (op : CmpOp) (m2 : ME) (g : Gm) (e : Env) (Q : QD) (X : QX) (x : D) (h : DH) : Prop := wE (m2 g e h) (kCmp2 op x Q) X
theorem wE_mCmp {op : CmpOp} {m1 m2 : ME} : wE (mCmp op m1 m2 g e h) Q X = wE (m1 g e h) (kCmp1 op m2 g e Q X) X := by
  unfold mCmp
  rw [wE_bind]
  congr 1
  funext x h1
  rw [wE_bind]
  unfold kCmp1
  congr 1
  funext y h2
  exact wE_okB
def kB2 (o : Option Bool) (A B : Prop) : Prop := match o with
  | some true => A
  | some false => B
  | none => False
theorem kB2_s {b : Bool} {A B : Prop} : kB2 (some b) A B = ((b = true → A) ∧ (b = false → B)) := by cases b <;> simp [kB2]
def kCh2 (op op' : CmpOp) (m3 : ME) (g : Gm) (e : Env) (x : D) (Q : QD) (X : QX) (y : D) (h : DH) : Prop := kB2 (cmpD op h x y) (wE (m3 g e h) (kCmp2 op' y Q) X) (Q (.bl false) h)
def kCh1 (op op' : CmpOp) (m2 m3 : ME) (g : Gm) (e : Env) (Q : QD) (X : QX) (x : D) (h : DH) : Prop := wE (m2 g e h) (kCh2 op op' m3 g e x Q X) X
theorem wE_mChain {op op' : CmpOp} {m1 m2 m3 : ME} : wE (mChain op op' m1 m2 m3 g e h) Q X = wE (m1 g e h) (kCh1 op op' m2 m3 g e Q X) X := by
  unfold mChain
  rw [wE_bind]
  congr 1
  funext x h1
  rw [wE_bind]
  unfold kCh1
  congr 1
  funext y h2
  unfold kCh2
  cases cmpD op h2 x y with
  | none => rfl
  | some b =>
    cases b with
    | false => rfl
    | true =>
      show wE ((m3 g e h2).bind _) Q X = _
      rw [wE_bind]
      show _ = wE (m3 g e h2) (kCmp2 op' y Q) X
      congr 1
      funext z h3
      exact wE_okB
def kOf (Q : QD) (x : D) (h : DH) : Prop := kB (truD h x) h Q
theorem wE_tOf {m : ME} : wE (tOf m g e h) Q X = wE (m g e h) (kOf Q) X := by
  unfold tOf
  rw [wE_bind]
  congr 1
  funext x h1
  exact wE_okB
theorem wE_onB {r : RE} {f : Bool → DH → RE} : wE (onB r f) Q X = wE r (fun v h => selB v (wE (f true h) Q X) (wE (f false h) Q X)) X := by
  unfold onB
  rw [wE_bind]
  congr 1
  funext v h1
  cases v with
  | bl b => cases b <;> simp [selB]
  | _ => rfl
def kNot (Q : QD) : QD
  | .bl b, h => Q (.bl (!b)) h
  | _, _ => False
theorem wE_tNot {t : ME} : wE (tNot t g e h) Q X = wE (t g e h) (kNot Q) X := by
  unfold tNot
  rw [wE_onB]
  congr 1
  funext v h1
  cases v with
  | bl b => cases b <;> simp [selB, kNot, wE]
  | _ => rfl
def kAnd (u : ME) (g : Gm) (e : Env) (Q : QD) (X : QX) (v : D) (h : DH) : Prop := selB v (wE (u g e h) Q X) (Q (.bl false) h)
theorem wE_tAnd {t u : ME} : wE (tAnd t u g e h) Q X = wE (t g e h) (kAnd u g e Q X) X := by
  unfold tAnd
  rw [wE_onB]
  rfl
def kOr (u : ME) (g : Gm) (e : Env) (Q : QD) (X : QX) (v : D) (h : DH) : Prop := selB v (Q (.bl true) h) (wE (u g e h) Q X)
theorem wE_tOr {t u : ME} : wE (tOr t u g e h) Q X = wE (t g e h) (kOr u g e Q X) X := by
  unfold tOr
  rw [wE_onB]
  rfl
def kMAnd (m2 : ME) (g : Gm) (e : Env) (Q : QD) (X : QX) (x : D) (h : DH) : Prop := kB2 (truD h x) (wE (m2 g e h) Q X) (Q x h)
theorem wE_mAnd {m1 m2 : ME} : wE (mAnd m1 m2 g e h) Q X = wE (m1 g e h) (kMAnd m2 g e Q X) X := by
  unfold mAnd
  rw [wE_bind]
  congr 1
  funext x h1
  unfold kMAnd
  cases truD h1 x with
  | none => rfl
  | some b => cases b <;> rfl
def kMOr (m2 : ME) (g : Gm) (e : Env) (Q : QD) (X : QX) (x : D) (h : DH) : Prop := kB2 (truD h x) (Q x h) (wE (m2 g e h) Q X)
theorem wE_mOr {m1 m2 : ME} : wE (mOr m1 m2 g e h) Q X = wE (m1 g e h) (kMOr m2 g e Q X) X := by
  unfold mOr
  rw [wE_bind]
  congr 1
  funext x h1
  unfold kMOr
  cases truD h1 x with
  | none => rfl
  | some b => cases b <;> rfl
def kMNot (Q : QD) (x : D) (h : DH) : Prop := kB ((truD h x).map (!·)) h Q
theorem wE_mNot {m : ME} : wE (mNot m g e h) Q X = wE (m g e h) (kMNot Q) X := by
  unfold mNot
  rw [wE_bind]
  congr 1
  funext x h1
  exact wE_okB
def kIf (m1 m2 : ME) (g : Gm) (e : Env) (Q : QD) (X : QX) (v : D) (h : DH) : Prop := selB v (wE (m1 g e h) Q X) (wE (m2 g e h) Q X)
theorem wE_mIf {t m1 m2 : ME} : wE (mIf t m1 m2 g e h) Q X = wE (t g e h) (kIf m1 m2 g e Q X) X := by
  unfold mIf
  rw [wE_onB]
  rfl
def kSub2 (x : D) (Q : QD) (y : D) (h : DH) : Prop := kRV (subD h x y) Q
def kSub1 (m2 : ME) (g : Gm) (e : Env) (Q : QD) (X : QX) (x : D) (h : DH) : Prop := wE (m2 g e h) (kSub2 x Q) X
theorem wE_mSub {m1 m2 : ME} : wE (mSub m1 m2 g e h) Q X = wE (m1 g e h) (kSub1 m2 g e Q X) X := by
  unfold mSub
  rw [wE_bind]
  congr 1
  funext x h1
  rw [wE_bind]
  unfold kSub1
  congr 1
  funext y h2
  exact wE_ofV
abbrev QO := Option Int → DH → Prop
def wP (p : (Option Int → DH → RE) → RE) (k : Option Int → DH → RE) (Q : QD) (X : QX) : Prop := wE (p k) Q X
def kPs (k : Option Int → DH → RE) (Q : QD) (X : QX) : QD
  | .int i, h => wE (k (some i) h) Q X
  | _, _ => False
theorem wE_pNone {k : Option Int → DH → RE} : wE (pNone g e h k) Q X = wE (k none h) Q X := propext ⟨fun z => z, fun z => z⟩
theorem wE_pSome {m : ME} {k : Option Int → DH → RE} : wE (pSome m g e h k) Q X = wE (m g e h) (kPs k Q X) X := by
  unfold pSome
  rw [wE_bind]
  congr 1
  funext x h1
  cases x <;> rfl
def slEnd (x : D) (a : Option Int) (b : Option Int) (h : DH) : RE := ofV (sliceD h x a b)
theorem wE_slEnd {x : D} {a b : Option Int} : wE (slEnd x a b h) Q X = kRV (sliceD h x a b) Q := wE_ofV
def slHi (hi : Gm → Env → DH → (Option Int → DH → RE) → RE) (g : Gm) (e : Env) (x : D) (a : Option Int) (h : DH) : RE := hi g e h (slEnd x a)
def kSl (lo hi : Gm → Env → DH → (Option Int → DH → RE) → RE) (g : Gm) (e : Env) (Q : QD) (X : QX) (x : D) (h : DH) : Prop := wE (lo g e h (slHi hi g e x)) Q X
theorem wE_mSlice {m : ME} {lo hi : Gm → Env → DH → (Option Int → DH → RE) → RE} : wE (mSlice m lo hi g e h) Q X = wE (m g e h) (kSl lo hi g e Q X) X := by
  unfold mSlice
  rw [wE_bind]
  rfl
def kRev (Q : QD) (x : D) (h : DH) : Prop := kRV (revD h x) Q
theorem wE_mRev {m : ME} : wE (mRev m g e h) Q X = wE (m g e h) (kRev Q) X := by
  unfold mRev
  rw [wE_bind]
  congr 1
  funext x h1
  exact wE_ofV
def kBf (b : Bf) (Q : QD) (vs : List D) (h : DH) : Prop := kRV (bfD b h vs) Q
theorem wE_mBf {b : Bf} {a : MA} : wE (mBf b a g e h) Q X = wA (a g e h) (kBf b Q) X := by
  unfold mBf
  rw [wE_bindA]
  congr 1
  funext x h1
  exact wE_ofV
def kMf2 (m : Mf) (x : D) (Q : QD) (vs : List D) (h : DH) : Prop := kRV (mfD m h x vs) Q
def kMf1 (m : Mf) (a : MA) (g : Gm) (e : Env) (Q : QD) (X : QX) (x : D) (h : DH) : Prop := mfTy m h x = true ∧ wA (a g e h) (kMf2 m x Q) X
theorem wE_mMf {m : Mf} {o : ME} {a : MA} : wE (mMf m o a g e h) Q X = wE (o g e h) (kMf1 m a g e Q X) X := by
  unfold mMf
  rw [wE_bind]
  congr 1
  funext x h1
  unfold kMf1
  by_cases z : mfTy m h1 x = true
  · rw [if_pos z, wE_bindA]
    have : (fun (v : List D) (h_1 : DH) => wE (ofV (mfD m h_1 x v)) Q X) = kMf2 m x Q := by
      funext v h2
      exact wE_ofV
    rw [this]
    simp [z]
  · rw [if_neg z]
    simp [z, wE]
def kCall (f : Nat) (g : Gm) (Q : QD) (X : QX) (vs : List D) (h : DH) : Prop := wE (g.call f vs h) Q X
theorem wE_mCall {f : Nat} {a : MA} : wE (mCall f a g e h) Q X = wA (a g e h) (kCall f g Q X) X := by
  unfold mCall
  rw [wE_bindA]
  rfl
def kMk (n : Nat) (Q : QD) : QD
  | .non, h => Q (.ref n) h
  | _, _ => False
theorem wE_mkD {c : Nat} {init : List D → DH → RE} {vs : List D} : wE (mkD c init vs h) Q X = wE (init (.ref h.length :: vs) (h ++ [.ins c []])) (kMk h.length Q) X := by
  unfold mkD
  cases init (.ref h.length :: vs) (h ++ [.ins c []]) with
  | ok v h' => cases v <;> rfl
  | ex c l h' => rfl
  | bad => rfl
def kMake (c f : Nat) (g : Gm) (Q : QD) (X : QX) (vs : List D) (h : DH) : Prop := wE (g.low f (.ref h.length :: vs) (h ++ [.ins c []])) (kMk h.length Q) X
theorem wE_mMake {c f : Nat} {a : MA} : wE (mMake c f a g e h) Q X = wA (a g e h) (kMake c f g Q X) X := by
  unfold mMake
  rw [wE_bindA]
  congr 1
  funext x h1
  exact wE_mkD
def kMakeK2 (c f : Nat) (g : Gm) (Q : QD) (X : QX) (h : DH) : Option (List D) → Prop
  | some vs => wE (g.low f (.ref h.length :: vs) (h ++ [.ins c []])) (kMk h.length Q) X
  | none => False
def kMakeK (c f : Nat) (sl : List Sl) (g : Gm) (Q : QD) (X : QX) (zs : List D) (h : DH) : Prop := kMakeK2 c f g Q X h (arrange sl [] zs)
theorem wE_mMakeK {c f : Nat} {sl : List Sl} {a : MA} : wE (mMakeK c f sl a g e h) Q X = wA (a g e h) (kMakeK c f sl g Q X) X := by
  unfold mMakeK
  rw [wE_bindA]
  congr 1
  funext x h1
  unfold kMakeK
  cases arrange sl [] x with
  | none => rfl
  | some vs => exact wE_mkD
def kMakeS3 (c f : Nat) (sl : List Sl) (g : Gm) (Q : QD) (X : QX) (h : DH) : Option (List D) → Prop
  | some zs => kMakeK2 c f g Q X h (arrange sl [] zs)
  | none => False
def kMakeS2 (c f : Nat) (ks : List Str) (sl : List Sl) (g : Gm) (Q : QD) (X : QX) (h : DH) : Option DO → Prop
  | some (.dk l) => kMakeS3 c f sl g Q X h (valsOf ks l)
  | _ => False
def kMakeS (c f : Nat) (ks : List Str) (sl : List Sl) (g : Gm) (Q : QD) (X : QX) : QD
  | .ref n, h => kMakeS2 c f ks sl g Q X h h[n]?
  | _, _ => False
theorem wE_mMakeS {c f : Nat} {ks : List Str} {sl : List Sl} {i : Nat} : wE (mMakeS c f ks sl i g e h) Q X = kVar e[i]? (kMakeS c f ks sl g Q X) h := by
  unfold mMakeS
  rw [wE_bind, wE_mVar]
  congr 1
  funext x h1
  cases x with
  | ref n =>
    unfold kMakeS
    dsimp only
    cases h1[n]? with
    | none => rfl
    | some o =>
      cases o with
      | dk l =>
        unfold kMakeS2
        dsimp only
        cases valsOf ks l with
        | none => rfl
        | some zs =>
          unfold kMakeS3
          dsimp only
          cases arrange sl [] zs with
          | none => rfl
          | some vs => exact wE_mkD
      | _ => rfl
  | _ => rfl
def kMeth2 (f : Nat) (x : D) (g : Gm) (Q : QD) (X : QX) (vs : List D) (h : DH) : Prop := wE (g.call f (x :: vs) h) Q X
def kMeth1 (tb : List (Nat × Nat)) (m : Nat) (x : D) (a : MA) (g : Gm) (e : Env) (h : DH) (Q : QD) (X : QX) : Option DO → Prop
  | some (.ins c fs) => ∃ f, tb.lookup c = some f ∧ fs.lookup m = none ∧ wA (a g e h) (kMeth2 f x g Q X) X
  | _ => False
def kMeth (tb : List (Nat × Nat)) (m : Nat) (a : MA) (g : Gm) (e : Env) (Q : QD) (X : QX) : QD
  | .ref n, h => kMeth1 tb m (.ref n) a g e h Q X h[n]?
  | _, _ => False
theorem wE_mMeth {tb : List (Nat × Nat)} {m : Nat} {o : ME} {a : MA} : wE (mMeth tb m o a g e h) Q X = wE (o g e h) (kMeth tb m a g e Q X) X := by
  unfold mMeth
  rw [wE_bind]
  congr 1
  funext x h1
  cases x with
  | ref n =>
    unfold kMeth
    dsimp only
    cases h1[n]? with
    | none => rfl
    | some o =>
      cases o with
      | ins c fs =>
        unfold kMeth1
        dsimp only
        cases hc : tb.lookup c with
        | none => simp [wE]
        | some f =>
          dsimp only
          cases hf : fs.lookup m with
          | none =>
            dsimp only
            rw [wE_bindA]
            simp
            rfl
          | some z => simp [wE]
      | _ => rfl
  | _ => rfl
def kMore2 (f : Nat) (x : D) (ks : List Str) (g : Gm) (Q : QD) (X : QX) (vs : List D) (h : DH) : Prop := wE (g.call f [x, .ref h.length] (h ++ [.dk (kwD ks vs)])) Q X
def kMore1 (tb : List (Nat × Nat)) (m : Nat) (ks : List Str) (x : D) (a : MA) (g : Gm) (e : Env) (h : DH) (Q : QD) (X : QX) : Option DO → Prop
  | some (.ins c fs) => ∃ f, tb.lookup c = some f ∧ fs.lookup m = none ∧ wA (a g e h) (kMore2 f x ks g Q X) X
  | _ => False
def kMore (tb : List (Nat × Nat)) (m : Nat) (ks : List Str) (a : MA) (g : Gm) (e : Env) (Q : QD) (X : QX) : QD
  | .ref n, h => kMore1 tb m ks (.ref n) a g e h Q X h[n]?
  | _, _ => False
theorem wE_mMethMore {tb : List (Nat × Nat)} {m : Nat} {ks : List Str} {o : ME} {a : MA} : wE (mMethMore tb m ks o a g e h) Q X = wE (o g e h) (kMore tb m ks a g e Q X) X := by
  unfold mMethMore
  rw [wE_bind]
  congr 1
  funext x h1
  cases x with
  | ref n =>
    unfold kMore
    dsimp only
    cases h1[n]? with
    | none => rfl
    | some o =>
      cases o with
      | ins c fs =>
        unfold kMore1
        dsimp only
        cases hc : tb.lookup c with
        | none => simp [wE]
        | some f =>
          dsimp only
          cases hf : fs.lookup m with
          | none =>
            dsimp only
            rw [wE_bindA]
            simp
            rfl
          | some z => simp [wE]
      | _ => rfl
  | _ => rfl
def kAttr1 (tb : List (Nat × Nat)) (fl : List Nat) (f : Nat) (x : D) (g : Gm) (h : DH) (Q : QD) (X : QX) : Option DO → Prop
  | some (.ins c fs) => match tb.lookup c with
    | some p => wE (g.low p [x] h) Q X
    | none => fl.contains c = true ∧ match fs.lookup f with
      | some v => Q v h
      | none => False
  | _ => False
def kAttr (tb : List (Nat × Nat)) (fl : List Nat) (f : Nat) (g : Gm) (Q : QD) (X : QX) : QD
  | .ref n, h => kAttr1 tb fl f (.ref n) g h Q X h[n]?
  | _, _ => False
theorem wE_mAttr {tb : List (Nat × Nat)} {fl : List Nat} {f : Nat} {o : ME} : wE (mAttr tb fl f o g e h) Q X = wE (o g e h) (kAttr tb fl f g Q X) X := by
  unfold mAttr
  rw [wE_bind]
  congr 1
  funext x h1
  cases x with
  | ref n =>
    unfold kAttr
    dsimp only
    cases h1[n]? with
    | none => rfl
    | some o =>
      cases o with
      | ins c fs =>
        unfold kAttr1
        dsimp only
        cases hc : tb.lookup c with
        | none =>
          dsimp only
          by_cases z : fl.contains c = true
          · rw [if_pos z]
            have : (fl.contains c = true) = True := eq_true z
            rw [this, true_and]
            cases fs.lookup f <;> rfl
          · rw [if_neg z]
            have : (fl.contains c = true) = False := eq_false z
            rw [this, false_and]
            rfl
        | some f => rfl
      | _ => rfl
  | _ => rfl
def kIsi (sub : List (Option Nat × String × Ty × Bool)) (ts : List Ty) (Q : QD) (x : D) (h : DH) : Prop := match kindD h x with
  | some k => kB (anyTy sub k ts) h Q
  | none => False
theorem wE_mIsi {sub : List (Option Nat × String × Ty × Bool)} {ts : List Ty} {m : ME} : wE (mIsi sub ts m g e h) Q X = wE (m g e h) (kIsi sub ts Q) X := by
  unfold mIsi
  rw [wE_bind]
  congr 1
  funext x h1
  unfold kIsi
  cases kindD h1 x with
  | none => rfl
  | some k => exact wE_okB
theorem wI_ok {xs : List D} {ds : List (Nat × DO)} {lk : Option Nat} {QI : RIQ} : wI (.ok xs ds lk h) QI X = QI xs ds lk h := rfl
theorem wI_toI {r : RE} {f : D → DH → RI} {QI : RIQ} : wI (r.toI f) QI X = wE r (fun v h => wI (f v h) QI X) X := by cases r <;> rfl
theorem wI_toIA {r : RA} {f : List D → DH → RI} {QI : RIQ} : wI (r.toI f) QI X = wA r (fun v h => wI (f v h) QI X) X := by cases r <;> rfl
def kIV (QI : RIQ) (v : D) (h : DH) : Prop := match iterD h v with
  | some p => QI p.1 p.2 none h
  | none => False
theorem wI_val {m : ME} {QI : RIQ} (z : wE (m g e h) (kIV QI) X) : wI (iVal m g e h) QI X := by
  unfold iVal
  rw [wI_toI]
  refine z.mono (fun v h1 q => ?_) fun _ _ _ q => q
  unfold kIV at q
  cases hi : iterD h1 v with
  | none => rw [hi] at q; exact q.elim
  | some p => rw [hi] at q; exact q
def kRange (QI : RIQ) : QL
  | [.int j], h => inR j = true ∧ QI (rangeL 0 j.toNat 1) [] none h
  | [.int i, .int j], h => (inR i = true ∧ inR j = true) ∧ QI (rangeL i (j - i).toNat 1) [] none h
  | _, _ => False
theorem wI_range {a : MA} {QI : RIQ} : wI (iRange a g e h) QI X = wA (a g e h) (kRange QI) X := by
  unfold iRange
  rw [wI_toIA]
  congr 1
  funext vs h1
  unfold kRange
  split
  · dsimp only
    split <;> simp_all [wI]
  · dsimp only
    split <;> simp_all [wI]
  · split <;> simp_all [wI]
def kEnum1 (n : Nat) (h : DH) (QI : RIQ) : Option DO → Prop
  | some (.lst l) => QI (enumL 0 l) [(n, .lst l)] none h
  | _ => False
def kEnum (QI : RIQ) : QD
  | .ref n, h => kEnum1 n h QI h[n]?
  | _, _ => False
theorem wI_enum {m : ME} {QI : RIQ} : wI (iEnum m g e h) QI X = wE (m g e h) (kEnum QI) X := by
  unfold iEnum
  rw [wI_toI]
  congr 1
  funext v h1
  cases v with
  | ref n =>
    unfold kEnum
    dsimp only
    cases h1[n]? with
    | none => rfl
    | some o => cases o <;> rfl
  | _ => rfl
def wC (r : RC) (P : QD) (S : DH → Prop) : Prop := match r with
  | .keep y h => P y h
  | .skip h => S h
  | .bad => False
def kLC (vs : List Nat) (tg : Tg) (t m : ME) (g : Gm) (e : Env) (Q : QD) (xs : List D) (ds : List (Nat × DO)) (lk : Option Nat) (h : DH) : Prop := lk = none ∧ wE (loopC h.length ds (stepC tg t m g (wipeE e vs)) xs (h ++ [.lst []])) Q nX
theorem wE_mLC {mi : MI} {vs : List Nat} {tg : Tg} {t m : ME} (z : wI (mi g e h) (kLC vs tg t m g e Q) X) : wE (mLC mi vs tg t m g e h) Q X := by
  unfold mLC
  cases hi : mi g e h with
  | bad => rw [hi] at z; exact z
  | ex c l h1 => rw [hi] at z; exact z
  | ok xs ds lk h1 =>
    rw [hi] at z
    obtain ⟨z1, z2⟩ := z
    subst z1
    dsimp only
    cases hl : loopC h1.length ds (stepC tg t m g (wipeE e vs)) xs (h1 ++ [.lst []]) with
    | ok v h2 => rw [hl] at z2; exact z2
    | ex c l h2 => rw [hl] at z2; exact z2.elim
    | bad => rw [hl] at z2; exact z2.elim
def kStep2 (m : ME) (g : Gm) (e1 : Env) (P : QD) (S : DH → Prop) (v : D) (h : DH) : Prop := selB v (wE (m g e1 h) P nX) (S h)
def kStep (t m : ME) (g : Gm) (P : QD) (S : DH → Prop) : Option Env → DH → Prop
  | some e1, h => wE (t g e1 h) (kStep2 m g e1 P S) nX
  | none, _ => False
theorem wC_step {tg : Tg} {t m : ME} {x : D} {P : QD} {S : DH → Prop} : wC (stepC tg t m g e x h) P S = kStep t m g P S (tg.bind x e) h := by
  unfold stepC kStep
  cases tg.bind x e with
  | none => rfl
  | some e1 =>
    dsimp only
    cases t g e1 h with
    | bad => rfl
    | ex c l h2 => rfl
    | ok v h2 =>
      cases v with
      | bl b =>
        cases b with
        | false => simp [wE, selB, wC, kStep2]
        | true =>
          simp only [wE, selB_t, kStep2]
          cases m g e1 h2 <;> rfl
      | _ => rfl
theorem wE_loopC {n : Nat} {deps : List (Nat × DO)} {step : D → DH → RC} {xs : List D} (Inv : List D → List D → DH → Prop) (hn : ∀ pre acc h, Inv pre acc h → h[n]? = some (.lst acc) ∧ depsOk h deps = true)
    (h0 : Inv [] [] h) (hl : xs.length < lim) (hlen : ∀ pre acc h, Inv pre acc h → acc.length ≤ pre.length)
    (hs : ∀ pre x suf acc h, xs = pre ++ x :: suf → Inv pre acc h → wC (step x h) (fun y h' => h'[n]? = some (.lst acc) ∧ Inv (pre ++ [x]) (acc ++ [y]) (h'.set n (.lst (acc ++ [y])))) (fun h' => Inv (pre ++ [x]) acc h'))
    (hE : ∀ acc h, Inv xs acc h → Q (.ref n) h) : wE (loopC n deps step xs h) Q X := by
  have key : ∀ (suf pre acc : List D) (h : DH), xs = pre ++ suf → Inv pre acc h → wE (loopC n deps step suf h) Q X := by
    intro suf
    induction suf with
    | nil =>
      intro pre acc h e i
      have : pre = xs := by simpa using e.symm
      subst this
      unfold loopC
      rw [if_pos (hn _ _ _ i).2]
      exact hE acc h i
    | cons x suf ih =>
      intro pre acc h e i
      have hst := hs pre x suf acc h e i
      unfold loopC
      rw [if_pos (hn _ _ _ i).2]
      cases hx : step x h with
      | bad => rw [hx] at hst; exact hst.elim
      | skip h' =>
        rw [hx] at hst
        exact ih (pre ++ [x]) acc h' (by simp [e]) hst
      | keep y h' =>
        rw [hx] at hst
        obtain ⟨e1, i2⟩ := hst
        dsimp only
        rw [e1]
        have h3 : acc.length < lim := by
          have := hlen _ _ _ i
          have h5 : xs.length = pre.length + (suf.length + 1) := by rw [e]; simp
          omega
        dsimp only
        rw [if_pos h3]
        exact ih (pre ++ [x]) (acc ++ [y]) _ (by simp [e]) i2
  exact key xs [] [] h rfl h0
theorem wS_nx {e : Env} : wS (.nx e h) K = K.nx e h := propext ⟨fun z => z, fun z => z⟩
theorem wS_toS {r : RE} {f : D → DH → RS} : wS (r.toS e f) K = wE r (fun v h => wS (f v h) K) (fun c l h => K.ex c l e h) := by cases r <;> rfl
def kEx (e : Env) (K : WK) : QX := fun c l h => K.ex c l e h
theorem wS_nil : wS (sNil g e h) K = K.nx e h := propext ⟨fun z => z, fun z => z⟩
def kSeq (t : MS) (g : Gm) (K : WK) : WK := ⟨fun e h => wS (t g e h) K, K.rt, K.bk, K.ct, K.ex⟩
theorem kSeq_nx {t : MS} : (kSeq t g K).nx e h = wS (t g e h) K := propext ⟨fun z => z, fun z => z⟩
theorem kSeq_rt {t : MS} : (kSeq t g K).rt = K.rt := rfl
theorem kSeq_bk {t : MS} : (kSeq t g K).bk = K.bk := rfl
theorem kSeq_ct {t : MS} : (kSeq t g K).ct = K.ct := rfl
theorem kSeq_ex {t : MS} : (kSeq t g K).ex = K.ex := rfl
theorem wS_seq {s t : MS} : wS (sSeq s t g e h) K = wS (s g e h) (kSeq t g K) := by
  unfold sSeq
  cases s g e h <;> rfl
def kExpr (e : Env) (K : WK) (v : D) (h : DH) : Prop := K.nx e h
theorem wS_expr {m : ME} : wS (sExpr m g e h) K = wE (m g e h) (kExpr e K) (kEx e K) := by
  unfold sExpr
  rw [wS_toS]
  rfl
theorem wS_ret {m : ME} : wS (sRet m g e h) K = wE (m g e h) K.rt (kEx e K) := by
  unfold sRet
  rw [wS_toS]
  rfl
theorem wS_retN : wS (sRetN g e h) K = K.rt .non h := propext ⟨fun z => z, fun z => z⟩
def kAsg (tg : MG) (g : Gm) (e : Env) (K : WK) (v : D) (h : DH) : Prop := wS (tg g v e h) K
theorem wS_asg {m : ME} {tg : MG} : wS (sAsg m tg g e h) K = wE (m g e h) (kAsg tg g e K) (kEx e K) := by
  unfold sAsg
  rw [wS_toS]
  rfl
def kEnv (o : Option Env) (h : DH) (K : WK) : Prop := match o with
  | some e => K.nx e h
  | none => False
theorem kEnv_s {e : Env} : kEnv (some e) h K = K.nx e h := propext ⟨fun z => z, fun z => z⟩
theorem wS_pat {t : Tg} {v : D} : wS (gPat t g v e h) K = kEnv (t.bind v e) h K := by
  unfold gPat
  cases t.bind v e <;> rfl
def kGs2 (x v : D) (e : Env) (K : WK) (y : D) (h : DH) : Prop := match putD h x y v with
  | some h3 => K.nx e h3
  | none => False
def kGs1 (i : ME) (g : Gm) (v : D) (e : Env) (K : WK) (x : D) (h : DH) : Prop := wE (i g e h) (kGs2 x v e K) (kEx e K)
theorem wS_gSub {o i : ME} {v : D} : wS (gSub o i g v e h) K = wE (o g e h) (kGs1 i g v e K) (kEx e K) := by
  unfold gSub
  rw [wS_toS]
  unfold kEx
  congr 1
  funext x h1
  rw [wS_toS]
  unfold kGs1
  congr 1
  funext y h2
  unfold kGs2
  cases putD h2 x y v <;> rfl
def kGa (k f : Nat) (v : D) (e : Env) (K : WK) (x : D) (h : DH) : Prop := match setF k h x f v with
  | some h2 => K.nx e h2
  | none => False
theorem wS_gAttr {k f : Nat} {o : ME} {v : D} : wS (gAttr k f o g v e h) K = wE (o g e h) (kGa k f v e K) (kEx e K) := by
  unfold gAttr
  rw [wS_toS]
  unfold kEx
  congr 1
  funext x h1
  unfold kGa
  cases setF k h1 x f v <;> rfl
def setsE : Env → List Nat → List D → Env
  | e, i :: is, v :: vs => setsE (e.set i (some v)) is vs
  | e, _, _ => e
theorem setsE_eq : ∀ (l : List Nat) (vs : List D) (e : Env), (l.zip vs).foldl (fun e p => e.set p.1 (some p.2)) e = setsE e l vs
  | [], vs, e => by cases vs <;> rfl
  | i :: l, [], e => rfl
  | i :: l, v :: vs, e => by
    rw [List.zip_cons_cons, List.foldl_cons, setsE_eq l vs]
    rfl
def kPar (l : List Nat) (e : Env) (K : WK) (vs : List D) (h : DH) : Prop := vs.length = l.length ∧ K.nx (setsE e l vs) h
theorem wS_par {l : List Nat} {a : MA} : wS (sPar l a g e h) K = wA (a g e h) (kPar l e K) (kEx e K) := by
  unfold sPar
  cases a g e h with
  | bad => rfl
  | ex c l h1 => rfl
  | ok vs h1 =>
    show wS (if vs.length = l.length then _ else _) K = kPar l e K vs h1
    unfold kPar
    rw [setsE_eq]
    by_cases z : vs.length = l.length <;> simp [z, wS]
def kSIf (s u : MS) (g : Gm) (e : Env) (K : WK) (v : D) (h : DH) : Prop := selB v (wS (s g e h) K) (wS (u g e h) K)
theorem wS_if {t : ME} {s u : MS} : wS (sIf t s u g e h) K = wE (t g e h) (kSIf s u g e K) (kEx e K) := by
  unfold sIf
  rw [wS_toS]
  unfold kEx
  congr 1
  funext v h1
  cases v with
  | bl b => cases b <;> simp [kSIf, selB]
  | _ => rfl
def kAug (i : Nat) (op : Operator) (x : D) (e : Env) (K : WK) (y : D) (h : DH) : Prop := kRV (augD op h x y) (fun z h2 => K.nx (e.set i (some z)) h2)
def kAug0 (i : Nat) (op : Operator) (m : ME) (g : Gm) (e : Env) (K : WK) (x : D) (h : DH) : Prop := wE (m g e h) (kAug i op x e K) (kEx e K)
theorem wS_aug {i : Nat} {op : Operator} {m : ME} : wS (sAug i op m g e h) K = kVar e[i]? (kAug0 i op m g e K) h := by
  unfold sAug kVar
  cases hx : e[i]? with
  | none => rfl
  | some o =>
    cases o with
    | none => rfl
    | some x =>
      dsimp only
      rw [wS_toS]
      unfold kAug0 kEx
      congr 1
      funext y h1
      rw [wS_toS, wE_ofV]
      rfl
def kAs5 (x y : D) (e : Env) (K : WK) (z : D) (h : DH) : Prop := match putD h x y z with
  | some h6 => K.nx e h6
  | none => False
def kAs4 (x y u : D) (op : Operator) (e : Env) (K : WK) (v : D) (h : DH) : Prop := kRV (augD op h u v) (kAs5 x y e K)
def kAs3 (x y : D) (op : Operator) (m : ME) (g : Gm) (e : Env) (K : WK) (u : D) (h : DH) : Prop := wE (m g e h) (kAs4 x y u op e K) (kEx e K)
def kAs2 (x : D) (op : Operator) (m : ME) (g : Gm) (e : Env) (K : WK) (y : D) (h : DH) : Prop := kRV (subR h x y) (kAs3 x y op m g e K)
def kAs1 (i : ME) (op : Operator) (m : ME) (g : Gm) (e : Env) (K : WK) (x : D) (h : DH) : Prop := wE (i g e h) (kAs2 x op m g e K) (kEx e K)
theorem wS_augS {o i m : ME} {op : Operator} : wS (sAugS o i op m g e h) K = wE (o g e h) (kAs1 i op m g e K) (kEx e K) := by
  unfold sAugS
  rw [wS_toS]
  unfold kEx
  congr 1
  funext x h1
  rw [wS_toS]
  unfold kAs1
  congr 1
  funext y h2
  rw [wS_toS, wE_ofV]
  unfold kAs2
  congr 1
  funext u h3
  rw [wS_toS]
  unfold kAs3
  congr 1
  funext v h4
  rw [wS_toS, wE_ofV]
  unfold kAs4
  congr 1
  funext z h5
  unfold kAs5
  cases putD h5 x y z <;> rfl
def kFor (tg : MG) (s : MS) (g : Gm) (e : Env) (K : WK) (xs : List D) (ds : List (Nat × DO)) (lk : Option Nat) (h : DH) : Prop := lk = none ∧ wS (loopS ds (stepS tg s g) xs e h) K
theorem wS_for {mi : MI} {tg : MG} {s : MS} (z : wI (mi g e h) (kFor tg s g e K) (kEx e K)) : wS (sFor mi tg s g e h) K := by
  unfold sFor
  cases hi : mi g e h with
  | bad => rw [hi] at z; exact z
  | ex c l h1 => rw [hi] at z; exact z
  | ok xs ds lk h1 =>
    rw [hi] at z
    obtain ⟨z1, z2⟩ := z
    subst z1
    exact z2
def noDk (h : DH) : D → Bool
  | .ref n => match h[n]? with
    | some (.dk _) => false
    | _ => true
  | _ => true
theorem wS_forV {i : Nat} {tg : MG} {s : MS} {x : D} (hx : e[i]? = some (some x)) (hd : noDk h x = true) (z : wI (iVal (mVar i) g e h) (kFor tg s g e K) (kEx e K)) : wS (sForV i tg s g e h) K := by
  unfold sForV
  rw [hx]
  cases x with
  | ref n =>
    dsimp only
    unfold noDk at hd
    split
    · rename_i l e1
      simp only [e1] at hd
      cases hd
    · exact wS_for z
  | _ => exact wS_for z
def kBody (s : MS) (g : Gm) (K : WK) : WK := kSeq s g K
theorem wS_step {tg : MG} {s : MS} {x : D} : wS (stepS tg s g x e h) K = wS (tg g x e h) (kSeq s g K) := by
  unfold stepS
  cases tg g x e h <;> rfl
theorem wS_loop {deps : List (Nat × DO)} {body : D → Env → DH → RS} {xs : List D} (Inv : List D → Env → DH → Prop) (h0 : Inv [] e h) (hd : ∀ pre e h, Inv pre e h → depsOk h deps = true)
    (hs : ∀ pre x suf e h, xs = pre ++ x :: suf → Inv pre e h → wS (body x e h) ⟨Inv (pre ++ [x]), K.rt, K.nx, Inv (pre ++ [x]), K.ex⟩)
    (hE : ∀ e h, Inv xs e h → K.nx e h) : wS (loopS deps body xs e h) K := by
  have key : ∀ (suf pre : List D) (e : Env) (h : DH), xs = pre ++ suf → Inv pre e h → wS (loopS deps body suf e h) K := by
    intro suf
    induction suf with
    | nil =>
      intro pre e h eq i
      have : pre = xs := by simpa using eq.symm
      subst this
      unfold loopS
      rw [if_pos (hd _ _ _ i)]
      exact hE e h i
    | cons x suf ih =>
      intro pre e h eq i
      have hst := hs pre x suf e h eq i
      unfold loopS
      rw [if_pos (hd _ _ _ i)]
      cases hx : body x e h with
      | bad => rw [hx] at hst; exact hst.elim
      | nx e1 h1 => rw [hx] at hst; exact ih (pre ++ [x]) e1 h1 (by simp [eq]) hst
      | ct e1 h1 => rw [hx] at hst; exact ih (pre ++ [x]) e1 h1 (by simp [eq]) hst
      | bk e1 h1 => rw [hx] at hst; exact hst
      | rt v h1 => rw [hx] at hst; exact hst
      | ex c l e1 h1 => rw [hx] at hst; exact hst
  exact key xs [] e h rfl h0
theorem wS_while {t : ME} {s : MS} (Inv : Nat → Env → DH → Prop) (n : Nat) (hn : n < wFuel) (h0 : Inv n e h)
    (ht : ∀ n e h, Inv n e h → wE (t g e h) (fun v h1 => selB v (∃ k, n = k + 1 ∧ wS (s g e h1) ⟨Inv k, K.rt, K.nx, Inv k, K.ex⟩) (K.nx e h1)) (kEx e K)) : wS (sWhile t s g e h) K := by
  unfold sWhile
  have key : ∀ (f n : Nat) (e : Env) (h : DH), n < f → Inv n e h → wS (loopW (t g) (s g) f e h) K := by
    intro f
    induction f with
    | zero => intro n e h hf; omega
    | succ f ih =>
      intro n e h hf i
      have := ht n e h i
      unfold loopW
      cases hx : t g e h with
      | bad => rw [hx] at this; exact this.elim
      | ex c l h1 => rw [hx] at this; exact this
      | ok v h1 =>
        rw [hx] at this
        cases v with
        | bl b =>
          cases b with
          | false =>
            simp only [wE, selB_f] at this
            exact this
          | true =>
            simp only [wE, selB_t] at this
            obtain ⟨k, rfl, hb⟩ := this
            dsimp only
            cases hy : s g e h1 with
            | bad => rw [hy] at hb; exact hb.elim
            | nx e1 h2 => rw [hy] at hb; exact ih k e1 h2 (by omega) hb
            | ct e1 h2 => rw [hy] at hb; exact ih k e1 h2 (by omega) hb
            | bk e1 h2 => rw [hy] at hb; exact hb
            | rt v h2 => rw [hy] at hb; exact hb
            | ex c l e1 h2 => rw [hy] at hb; exact hb
        | _ => exact this.elim
  exact key wFuel n e h hn h0
theorem wS_brk : wS (sBrk g e h) K = K.bk e h := propext ⟨fun z => z, fun z => z⟩
theorem wS_cnt : wS (sCnt g e h) K = K.ct e h := propext ⟨fun z => z, fun z => z⟩
def kRaise (c : Nat) (e : Env) (K : WK) (vs : List D) (h : DH) : Prop := K.ex c vs e h
theorem wS_raise {c : Nat} {a : MA} : wS (sRaise c a g e h) K = wA (a g e h) (kRaise c e K) (kEx e K) := by
  unfold sRaise
  cases a g e h <;> rfl
def kDef (Q : QD) (X : QX) : WK := ⟨fun _ h => Q .non h, Q, fun _ _ => False, fun _ _ => False, fun c l _ h => X c l h⟩
theorem kDef_rt {v : D} : (kDef Q X).rt v h = Q v h := propext ⟨fun z => z, fun z => z⟩
theorem kDef_nx {e : Env} : (kDef Q X).nx e h = Q .non h := propext ⟨fun z => z, fun z => z⟩
theorem wE_out {r : RS} (z : wS r (kDef Q X)) : wE r.out Q X := by
  cases r <;> exact z
end
theorem kRV_ap {o : RV} {Q : QD} : kRV o Q = (match o with
  | some p => Q p.1 p.2
  | none => False) := propext ⟨fun z => z, fun z => z⟩
theorem kB_ap {o : Option Bool} {h : DH} {Q : QD} : kB o h Q = (match o with
  | some b => Q (.bl b) h
  | none => False) := propext ⟨fun z => z, fun z => z⟩
theorem kVar_ap {o : Option (Option D)} {Q : QD} {h : DH} : kVar o Q h = (match o with
  | some (some v) => Q v h
  | _ => False) := propext ⟨fun z => z, fun z => z⟩
theorem kA2_ap {v : D} {QA : QL} {vs : List D} {h : DH} : kA2 v QA vs h = (QA (v :: vs) h) := propext ⟨fun z => z, fun z => z⟩
theorem kA1_ap {a : MA} {g : Gm} {e : Env} {QA : QL} {X : QX} {v : D} {h : DH} : kA1 a g e QA X v h = (wA (a g e h) (kA2 v QA) X) := propext ⟨fun z => z, fun z => z⟩
theorem kTup_ap {Q : QD} {vs : List D} {h : DH} : kTup Q vs h = (vs.length ≤ lim ∧ Q (.tup vs) h) := propext ⟨fun z => z, fun z => z⟩
theorem kLst_ap {Q : QD} {vs : List D} {h : DH} : kLst Q vs h = (vs.length ≤ lim ∧ Q (.ref h.length) (h ++ [.lst vs])) := propext ⟨fun z => z, fun z => z⟩
theorem kDict_ap {n : Nat} {ks : List Str} {Q : QD} {vs : List D} {h1 : DH} : kDict n ks Q vs h1 = (h1[n]? = some (.dk []) ∧ Q (.ref n) (h1.set n (.dk (mergeD [] ks vs)))) := propext ⟨fun z => z, fun z => z⟩
theorem kBin2_ap {op : Operator} {x : D} {Q : QD} {y : D} {h : DH} : kBin2 op x Q y h = (kRV (binD op h x y) Q) := propext ⟨fun z => z, fun z => z⟩
theorem kBin1_ap {op : Operator} {m2 : ME} {g : Gm} {e : Env} {Q : QD} {X : QX} {x : D} {h : DH} : kBin1 op m2 g e Q X x h = (wE (m2 g e h) (kBin2 op x Q) X) := propext ⟨fun z => z, fun z => z⟩
theorem kCmp2_ap {op : CmpOp} {x : D} {Q : QD} {y : D} {h : DH} : kCmp2 op x Q y h = (kB (cmpD op h x y) h Q) := propext ⟨fun z => z, fun z => z⟩
theorem kCmp1_ap {op : CmpOp} {m2 : ME} {g : Gm} {e : Env} {Q : QD} {X : QX} {x : D} {h : DH} : kCmp1 op m2 g e Q X x h = (wE (m2 g e h) (kCmp2 op x Q) X) := propext ⟨fun z => z, fun z => z⟩
theorem kB2_ap {o : Option Bool} {A B : Prop} : kB2 o A B = (match o with
  | some true => A
  | some false => B
  | none => False) := propext ⟨fun z => z, fun z => z⟩
theorem kCh2_ap {op op' : CmpOp} {m3 : ME} {g : Gm} {e : Env} {x : D} {Q : QD} {X : QX} {y : D} {h : DH} : kCh2 op op' m3 g e x Q X y h = (kB2 (cmpD op h x y) (wE (m3 g e h) (kCmp2 op' y Q) X) (Q (.bl false) h)) := propext ⟨fun z => z, fun z => z⟩
theorem kCh1_ap {op op' : CmpOp} {m2 m3 : ME} {g : Gm} {e : Env} {Q : QD} {X : QX} {x : D} {h : DH} : kCh1 op op' m2 m3 g e Q X x h = (wE (m2 g e h) (kCh2 op op' m3 g e x Q X) X) := propext ⟨fun z => z, fun z => z⟩
theorem kOf_ap {Q : QD} {x : D} {h : DH} : kOf Q x h = (kB (truD h x) h Q) := propext ⟨fun z => z, fun z => z⟩
theorem kAnd_ap {u : ME} {g : Gm} {e : Env} {Q : QD} {X : QX} {v : D} {h : DH} : kAnd u g e Q X v h = (selB v (wE (u g e h) Q X) (Q (.bl false) h)) := propext ⟨fun z => z, fun z => z⟩
theorem kOr_ap {u : ME} {g : Gm} {e : Env} {Q : QD} {X : QX} {v : D} {h : DH} : kOr u g e Q X v h = (selB v (Q (.bl true) h) (wE (u g e h) Q X)) := propext ⟨fun z => z, fun z => z⟩
theorem kMAnd_ap {m2 : ME} {g : Gm} {e : Env} {Q : QD} {X : QX} {x : D} {h : DH} : kMAnd m2 g e Q X x h = (kB2 (truD h x) (wE (m2 g e h) Q X) (Q x h)) := propext ⟨fun z => z, fun z => z⟩
theorem kMOr_ap {m2 : ME} {g : Gm} {e : Env} {Q : QD} {X : QX} {x : D} {h : DH} : kMOr m2 g e Q X x h = (kB2 (truD h x) (Q x h) (wE (m2 g e h) Q X)) := propext ⟨fun z => z, fun z => z⟩
theorem kMNot_ap {Q : QD} {x : D} {h : DH} : kMNot Q x h = (kB ((truD h x).map (!·)) h Q) := propext ⟨fun z => z, fun z => z⟩
theorem kIf_ap {m1 m2 : ME} {g : Gm} {e : Env} {Q : QD} {X : QX} {v : D} {h : DH} : kIf m1 m2 g e Q X v h = (selB v (wE (m1 g e h) Q X) (wE (m2 g e h) Q X)) := propext ⟨fun z => z, fun z => z⟩
theorem kSub2_ap {x : D} {Q : QD} {y : D} {h : DH} : kSub2 x Q y h = (kRV (subD h x y) Q) := propext ⟨fun z => z, fun z => z⟩
theorem kSub1_ap {m2 : ME} {g : Gm} {e : Env} {Q : QD} {X : QX} {x : D} {h : DH} : kSub1 m2 g e Q X x h = (wE (m2 g e h) (kSub2 x Q) X) := propext ⟨fun z => z, fun z => z⟩
theorem kSl_ap {lo hi : Gm → Env → DH → (Option Int → DH → RE) → RE} {g : Gm} {e : Env} {Q : QD} {X : QX} {x : D} {h : DH} : kSl lo hi g e Q X x h = (wE (lo g e h (slHi hi g e x)) Q X) := propext ⟨fun z => z, fun z => z⟩
theorem kRev_ap {Q : QD} {x : D} {h : DH} : kRev Q x h = (kRV (revD h x) Q) := propext ⟨fun z => z, fun z => z⟩
theorem kBf_ap {b : Bf} {Q : QD} {vs : List D} {h : DH} : kBf b Q vs h = (kRV (bfD b h vs) Q) := propext ⟨fun z => z, fun z => z⟩
theorem kMf2_ap {m : Mf} {x : D} {Q : QD} {vs : List D} {h : DH} : kMf2 m x Q vs h = (kRV (mfD m h x vs) Q) := propext ⟨fun z => z, fun z => z⟩
theorem kMf1_ap {m : Mf} {a : MA} {g : Gm} {e : Env} {Q : QD} {X : QX} {x : D} {h : DH} : kMf1 m a g e Q X x h = (mfTy m h x = true ∧ wA (a g e h) (kMf2 m x Q) X) := propext ⟨fun z => z, fun z => z⟩
theorem kCall_ap {f : Nat} {g : Gm} {Q : QD} {X : QX} {vs : List D} {h : DH} : kCall f g Q X vs h = (wE (g.call f vs h) Q X) := propext ⟨fun z => z, fun z => z⟩
theorem kMake_ap {c f : Nat} {g : Gm} {Q : QD} {X : QX} {vs : List D} {h : DH} : kMake c f g Q X vs h = (wE (g.low f (.ref h.length :: vs) (h ++ [.ins c []])) (kMk h.length Q) X) := propext ⟨fun z => z, fun z => z⟩
theorem kMakeK_ap {c f : Nat} {sl : List Sl} {g : Gm} {Q : QD} {X : QX} {zs : List D} {h : DH} : kMakeK c f sl g Q X zs h = (kMakeK2 c f g Q X h (arrange sl [] zs)) := propext ⟨fun z => z, fun z => z⟩
theorem kMeth2_ap {f : Nat} {x : D} {g : Gm} {Q : QD} {X : QX} {vs : List D} {h : DH} : kMeth2 f x g Q X vs h = (wE (g.call f (x :: vs) h) Q X) := propext ⟨fun z => z, fun z => z⟩
theorem kMore2_ap {f : Nat} {x : D} {ks : List Str} {g : Gm} {Q : QD} {X : QX} {vs : List D} {h : DH} : kMore2 f x ks g Q X vs h = (wE (g.call f [x, .ref h.length] (h ++ [.dk (kwD ks vs)])) Q X) := propext ⟨fun z => z, fun z => z⟩
theorem kIsi_ap {sub : List (Option Nat × String × Ty × Bool)} {ts : List Ty} {Q : QD} {x : D} {h : DH} : kIsi sub ts Q x h = (match kindD h x with
  | some k => kB (anyTy sub k ts) h Q
  | none => False) := propext ⟨fun z => z, fun z => z⟩
theorem kIV_ap {QI : RIQ} {v : D} {h : DH} : kIV QI v h = (match iterD h v with
  | some p => QI p.1 p.2 none h
  | none => False) := propext ⟨fun z => z, fun z => z⟩
theorem kLC_ap {vs : List Nat} {tg : Tg} {t m : ME} {g : Gm} {e : Env} {Q : QD} {xs : List D} {ds : List (Nat × DO)} {lk : Option Nat} {h : DH} : kLC vs tg t m g e Q xs ds lk h = (lk = none ∧ wE (loopC h.length ds (stepC tg t m g (wipeE e vs)) xs (h ++ [.lst []])) Q nX) := propext ⟨fun z => z, fun z => z⟩
theorem kExpr_ap {e : Env} {K : WK} {v : D} {h : DH} : kExpr e K v h = (K.nx e h) := propext ⟨fun z => z, fun z => z⟩
theorem kAsg_ap {tg : MG} {g : Gm} {e : Env} {K : WK} {v : D} {h : DH} : kAsg tg g e K v h = (wS (tg g v e h) K) := propext ⟨fun z => z, fun z => z⟩
theorem kEnv_ap {o : Option Env} {h : DH} {K : WK} : kEnv o h K = (match o with
  | some e => K.nx e h
  | none => False) := propext ⟨fun z => z, fun z => z⟩
theorem kGs2_ap {x v : D} {e : Env} {K : WK} {y : D} {h : DH} : kGs2 x v e K y h = (match putD h x y v with
  | some h3 => K.nx e h3
  | none => False) := propext ⟨fun z => z, fun z => z⟩
theorem kGs1_ap {i : ME} {g : Gm} {v : D} {e : Env} {K : WK} {x : D} {h : DH} : kGs1 i g v e K x h = (wE (i g e h) (kGs2 x v e K) (kEx e K)) := propext ⟨fun z => z, fun z => z⟩
theorem kGa_ap {k f : Nat} {v : D} {e : Env} {K : WK} {x : D} {h : DH} : kGa k f v e K x h = (match setF k h x f v with
  | some h2 => K.nx e h2
  | none => False) := propext ⟨fun z => z, fun z => z⟩
theorem kPar_ap {l : List Nat} {e : Env} {K : WK} {vs : List D} {h : DH} : kPar l e K vs h = (vs.length = l.length ∧ K.nx (setsE e l vs) h) := propext ⟨fun z => z, fun z => z⟩
theorem kSIf_ap {s u : MS} {g : Gm} {e : Env} {K : WK} {v : D} {h : DH} : kSIf s u g e K v h = (selB v (wS (s g e h) K) (wS (u g e h) K)) := propext ⟨fun z => z, fun z => z⟩
theorem kAug_ap {i : Nat} {op : Operator} {x : D} {e : Env} {K : WK} {y : D} {h : DH} : kAug i op x e K y h = (kRV (augD op h x y) (fun z h2 => K.nx (e.set i (some z)) h2)) := propext ⟨fun z => z, fun z => z⟩
theorem kAug0_ap {i : Nat} {op : Operator} {m : ME} {g : Gm} {e : Env} {K : WK} {x : D} {h : DH} : kAug0 i op m g e K x h = (wE (m g e h) (kAug i op x e K) (kEx e K)) := propext ⟨fun z => z, fun z => z⟩
theorem kAs5_ap {x y : D} {e : Env} {K : WK} {z : D} {h : DH} : kAs5 x y e K z h = (match putD h x y z with
  | some h6 => K.nx e h6
  | none => False) := propext ⟨fun z => z, fun z => z⟩
theorem kAs4_ap {x y u : D} {op : Operator} {e : Env} {K : WK} {v : D} {h : DH} : kAs4 x y u op e K v h = (kRV (augD op h u v) (kAs5 x y e K)) := propext ⟨fun z => z, fun z => z⟩
theorem kAs3_ap {x y : D} {op : Operator} {m : ME} {g : Gm} {e : Env} {K : WK} {u : D} {h : DH} : kAs3 x y op m g e K u h = (wE (m g e h) (kAs4 x y u op e K) (kEx e K)) := propext ⟨fun z => z, fun z => z⟩
theorem kAs2_ap {x : D} {op : Operator} {m : ME} {g : Gm} {e : Env} {K : WK} {y : D} {h : DH} : kAs2 x op m g e K y h = (kRV (subR h x y) (kAs3 x y op m g e K)) := propext ⟨fun z => z, fun z => z⟩
theorem kAs1_ap {i : ME} {op : Operator} {m : ME} {g : Gm} {e : Env} {K : WK} {x : D} {h : DH} : kAs1 i op m g e K x h = (wE (i g e h) (kAs2 x op m g e K) (kEx e K)) := propext ⟨fun z => z, fun z => z⟩
theorem kFor_ap {tg : MG} {s : MS} {g : Gm} {e : Env} {K : WK} {xs : List D} {ds : List (Nat × DO)} {lk : Option Nat} {h : DH} : kFor tg s g e K xs ds lk h = (lk = none ∧ wS (loopS ds (stepS tg s g) xs e h) K) := propext ⟨fun z => z, fun z => z⟩
theorem kRaise_ap {c : Nat} {e : Env} {K : WK} {vs : List D} {h : DH} : kRaise c e K vs h = (K.ex c vs e h) := propext ⟨fun z => z, fun z => z⟩
theorem kNeg_ap {Q : QD} {i : Int} {h : DH} : kNeg Q (.int i) h = Q (.int (-i)) h := propext ⟨fun z => z, fun z => z⟩
theorem kNot_ap {Q : QD} {b : Bool} {h : DH} : kNot Q (.bl b) h = Q (.bl (!b)) h := propext ⟨fun z => z, fun z => z⟩
theorem kPs_ap {k : Option Int → DH → RE} {Q : QD} {X : QX} {i : Int} {h : DH} : kPs k Q X (.int i) h = wE (k (some i) h) Q X := propext ⟨fun z => z, fun z => z⟩
theorem kMk_ap {n : Nat} {Q : QD} {h : DH} : kMk n Q .non h = Q (.ref n) h := propext ⟨fun z => z, fun z => z⟩
theorem kMakeK2_ap {c f : Nat} {g : Gm} {Q : QD} {X : QX} {h : DH} {vs : List D} : kMakeK2 c f g Q X h (some vs) = wE (g.low f (.ref h.length :: vs) (h ++ [.ins c []])) (kMk h.length Q) X := propext ⟨fun z => z, fun z => z⟩
theorem kMakeS3_ap {c f : Nat} {sl : List Sl} {g : Gm} {Q : QD} {X : QX} {h : DH} {zs : List D} : kMakeS3 c f sl g Q X h (some zs) = kMakeK2 c f g Q X h (arrange sl [] zs) := propext ⟨fun z => z, fun z => z⟩
theorem kMakeS2_ap {c f : Nat} {ks : List Str} {sl : List Sl} {g : Gm} {Q : QD} {X : QX} {h : DH} {l : List (D × D)} : kMakeS2 c f ks sl g Q X h (some (.dk l)) = kMakeS3 c f sl g Q X h (valsOf ks l) := propext ⟨fun z => z, fun z => z⟩
theorem kMakeS_ap {c f : Nat} {ks : List Str} {sl : List Sl} {g : Gm} {Q : QD} {X : QX} {h : DH} {n : Nat} : kMakeS c f ks sl g Q X (.ref n) h = kMakeS2 c f ks sl g Q X h h[n]? := propext ⟨fun z => z, fun z => z⟩
theorem kMeth1_ap {tb : List (Nat × Nat)} {m : Nat} {x : D} {a : MA} {g : Gm} {e : Env} {h : DH} {Q : QD} {X : QX} {c : Nat} {fs : List (Nat × D)} : kMeth1 tb m x a g e h Q X (some (.ins c fs)) = (∃ f, tb.lookup c = some f ∧ fs.lookup m = none ∧ wA (a g e h) (kMeth2 f x g Q X) X) := propext ⟨fun z => z, fun z => z⟩
theorem kMeth_ap {tb : List (Nat × Nat)} {m : Nat} {a : MA} {g : Gm} {e : Env} {Q : QD} {X : QX} {n : Nat} {h : DH} : kMeth tb m a g e Q X (.ref n) h = kMeth1 tb m (.ref n) a g e h Q X h[n]? := propext ⟨fun z => z, fun z => z⟩
theorem kMore1_ap {tb : List (Nat × Nat)} {m : Nat} {ks : List Str} {x : D} {a : MA} {g : Gm} {e : Env} {h : DH} {Q : QD} {X : QX} {c : Nat} {fs : List (Nat × D)} : kMore1 tb m ks x a g e h Q X (some (.ins c fs)) = (∃ f, tb.lookup c = some f ∧ fs.lookup m = none ∧ wA (a g e h) (kMore2 f x ks g Q X) X) := propext ⟨fun z => z, fun z => z⟩
theorem kMore_ap {tb : List (Nat × Nat)} {m : Nat} {ks : List Str} {a : MA} {g : Gm} {e : Env} {Q : QD} {X : QX} {n : Nat} {h : DH} : kMore tb m ks a g e Q X (.ref n) h = kMore1 tb m ks (.ref n) a g e h Q X h[n]? := propext ⟨fun z => z, fun z => z⟩
def kAttr2 (fl : List Nat) (f c : Nat) (x : D) (fs : List (Nat × D)) (g : Gm) (h : DH) (Q : QD) (X : QX) : Option Nat → Prop
  | some p => wE (g.low p [x] h) Q X
  | none => fl.contains c = true ∧ match fs.lookup f with
      | some v => Q v h
      | none => False
theorem kAttr1_ap {tb : List (Nat × Nat)} {fl : List Nat} {f : Nat} {x : D} {g : Gm} {h : DH} {Q : QD} {X : QX} {c : Nat} {fs : List (Nat × D)} : kAttr1 tb fl f x g h Q X (some (.ins c fs)) = kAttr2 fl f c x fs g h Q X (tb.lookup c) := by
  unfold kAttr1 kAttr2
  rfl
theorem kAttr2_p {fl : List Nat} {f c p : Nat} {x : D} {fs : List (Nat × D)} {g : Gm} {h : DH} {Q : QD} {X : QX} : kAttr2 fl f c x fs g h Q X (some p) = wE (g.low p [x] h) Q X := propext ⟨fun z => z, fun z => z⟩
theorem kAttr2_f {fl : List Nat} {f c : Nat} {x : D} {fs : List (Nat × D)} {g : Gm} {h : DH} {Q : QD} {X : QX} : kAttr2 fl f c x fs g h Q X none = (fl.contains c = true ∧ match fs.lookup f with
      | some v => Q v h
      | none => False) := propext ⟨fun z => z, fun z => z⟩
theorem kAttr_ap {tb : List (Nat × Nat)} {fl : List Nat} {f : Nat} {g : Gm} {Q : QD} {X : QX} {n : Nat} {h : DH} : kAttr tb fl f g Q X (.ref n) h = kAttr1 tb fl f (.ref n) g h Q X h[n]? := propext ⟨fun z => z, fun z => z⟩
theorem kRange_1 {QI : RIQ} {j : Int} {h : DH} : kRange QI [.int j] h = (inR j = true ∧ QI (rangeL 0 j.toNat 1) [] none h) := propext ⟨fun z => z, fun z => z⟩
theorem kRange_2 {QI : RIQ} {i j : Int} {h : DH} : kRange QI [.int i, .int j] h = ((inR i = true ∧ inR j = true) ∧ QI (rangeL i (j - i).toNat 1) [] none h) := propext ⟨fun z => z, fun z => z⟩
theorem kEnum1_ap {n : Nat} {h : DH} {QI : RIQ} {l : List D} : kEnum1 n h QI (some (.lst l)) = QI (enumL 0 l) [(n, .lst l)] none h := propext ⟨fun z => z, fun z => z⟩
theorem kEnum_ap {QI : RIQ} {n : Nat} {h : DH} : kEnum QI (.ref n) h = kEnum1 n h QI h[n]? := propext ⟨fun z => z, fun z => z⟩
theorem kStep_ap {t m : ME} {g : Gm} {P : QD} {S : DH → Prop} {e1 : Env} {h : DH} : kStep t m g P S (some e1) h = wE (t g e1 h) (kStep2 m g e1 P S) nX := propext ⟨fun z => z, fun z => z⟩
theorem kStep2_ap {m : ME} {g : Gm} {e1 : Env} {P : QD} {S : DH → Prop} {v : D} {h : DH} : kStep2 m g e1 P S v h = selB v (wE (m g e1 h) P nX) (S h) := propext ⟨fun z => z, fun z => z⟩
theorem kSeq_rtv {t : MS} {g : Gm} {K : WK} {v : D} {h : DH} : (kSeq t g K).rt v h = K.rt v h := propext ⟨fun z => z, fun z => z⟩
end Bp
end

section
set_option linter.all false
set_option maxRecDepth 100000
set_option maxHeartbeats 0
set_option linter.all false
set_option maxRecDepth 100000
set_option autoImplicit false
set_option maxHeartbeats 1000000
namespace Bp
open PySem
structure Fr (S : List Nat) (h h' : DH) : Prop where
  len : h.length ≤ h'.length
  at_ : ∀ i, i < h.length → i ∉ S → h'[i]? = h[i]?
theorem Fr.refl {S : List Nat} {h : DH} : Fr S h h := ⟨Nat.le_refl _, fun _ _ _ => rfl⟩
theorem Fr.trans {S : List Nat} {h h1 h2 : DH} (a : Fr S h h1) (b : Fr S h1 h2) : Fr S h h2 :=
  ⟨Nat.le_trans a.len b.len, fun i hi hs => (b.at_ i (Nat.lt_of_lt_of_le hi a.len) hs).trans (a.at_ i hi hs)⟩
theorem Fr.push {S : List Nat} {h t : DH} : Fr S h (h ++ t) := ⟨by simp, fun i hi _ => List.getElem?_append_left hi⟩
theorem Fr.more {S T : List Nat} {h h' : DH} (a : Fr S h h') (st : ∀ i ∈ S, i ∈ T) : Fr T h h' := ⟨a.len, fun i hi hs => a.at_ i hi fun z => hs (st i z)⟩
theorem Fr.nil {S : List Nat} {h h' : DH} (a : Fr [] h h') : Fr S h h' := a.more fun i z => by simp at z
theorem Fr.pushed {S : List Nat} {h h' t : DH} (a : Fr S h h') : Fr S h (h' ++ t) := a.trans .push
theorem Fr.get {S : List Nat} {h h' : DH} (a : Fr S h h') {i : Nat} {o : DO} (e : h[i]? = some o) (hi : i ∉ S) : h'[i]? = some o := by
  rw [a.at_ i (List.getElem?_eq_some_iff.mp e).1 hi, e]
theorem Fr.get0 {h h' : DH} (a : Fr [] h h') {i : Nat} {o : DO} (e : h[i]? = some o) : h'[i]? = some o := a.get e (by simp)
theorem Fr.set {S : List Nat} {h h' : DH} (a : Fr S h h') {i : Nat} {o : DO} (hi : i ∈ S ∨ h.length ≤ i) : Fr S h (h'.set i o) := by
  refine ⟨by simpa using a.len, fun j hj hs => ?_⟩
  rw [List.getElem?_set_ne, a.at_ j hj hs]
  intro e
  subst e
  rcases hi with z | z
  · exact hs z
  · omega
theorem Fr.append {h h' : DH} (a : Fr [] h h') : ∃ t, h' = h ++ t := by
  refine ⟨h'.drop h.length, ?_⟩
  apply List.ext_getElem?
  intro i
  by_cases hi : i < h.length
  · rw [List.getElem?_append_left hi]
    exact a.at_ i hi (by simp)
  · rw [List.getElem?_append_right (by omega), List.getElem?_drop]
    congr 1
    omega
theorem lt_of_get {h : DH} {i : Nat} {o : DO} (e : h[i]? = some o) : i < h.length := (List.getElem?_eq_some_iff.mp e).1
theorem get_end {h : DH} {o : DO} : (h ++ [o])[h.length]? = some o := by simp
theorem get_app {h t : DH} {i : Nat} {o : DO} (e : h[i]? = some o) : (h ++ t)[i]? = some o := by
  rw [List.getElem?_append_left (lt_of_get e), e]
theorem get_set {h : DH} {i : Nat} {o u : DO} (e : h[i]? = some u) : (h.set i o)[i]? = some o := by
  rw [List.getElem?_set_self (lt_of_get e)]
theorem get_set_ne {h : DH} {i j : Nat} {o u : DO} (e : h[j]? = some u) (hn : i ≠ j) : (h.set i o)[j]? = some u := by
  rw [List.getElem?_set_ne hn, e]
mutual
theorem refs_zero (n : Nat) : ∀ v : D, D.refs 0 v = [] → D.refs n v = []
  | .non, _ => by simp [D.refs]
  | .bl _, _ => by simp [D.refs]
  | .int _, _ => by simp [D.refs]
  | .str _, _ => by simp [D.refs]
  | .ref k, h => by simp [D.refs] at h
  | .tup l, h => by
    simp only [D.refs] at h ⊢
    exact refsL_zero n l h
  | .exc c l, h => by
    simp only [D.refs] at h ⊢
    exact refsL_zero n l h
  | .clo c l, h => by
    simp only [D.refs] at h ⊢
    exact refsL_zero n l h
theorem refsL_zero (n : Nat) : ∀ l : List D, D.refsL 0 l = [] → D.refsL n l = []
  | [], _ => by simp [D.refsL]
  | a :: r, h => by
    simp only [D.refsL, List.append_eq_nil_iff] at h ⊢
    exact ⟨refs_zero n a h.1, refsL_zero n r h.2⟩
end
mutual
theorem ren_same (n : Nat) (seen : List Nat) : ∀ v : D, D.refs n v = [] → D.ren (place n seen) v = v
  | .non, _ => by simp [D.ren]
  | .bl _, _ => by simp [D.ren]
  | .int _, _ => by simp [D.ren]
  | .str _, _ => by simp [D.ren]
  | .ref k, h => by
    simp only [D.refs] at h
    split at h
    · rename_i hk
      simp [D.ren, place, hk]
    · cases h
  | .tup l, h => by
    simp only [D.refs] at h
    simp [D.ren, renL_same n seen l h]
  | .exc c l, h => by
    simp only [D.refs] at h
    simp [D.ren, renL_same n seen l h]
  | .clo c l, h => by
    simp only [D.refs] at h
    simp [D.ren, renL_same n seen l h]
theorem renL_same (n : Nat) (seen : List Nat) : ∀ l : List D, D.refsL n l = [] → D.renL (place n seen) l = l
  | [], _ => by simp [D.renL]
  | a :: r, h => by
    simp only [D.refsL, List.append_eq_nil_iff] at h
    simp [D.renL, ren_same n seen a h.1, renL_same n seen r h.2]
end
theorem refsL_mem {n : Nat} : ∀ {l : List D}, (∀ v ∈ l, D.refs n v = []) → D.refsL n l = []
  | [], _ => by simp [D.refsL]
  | a :: r, h => by
    simp only [D.refsL, List.append_eq_nil_iff]
    exact ⟨h a (by simp), refsL_mem fun v hv => h v (by simp [hv])⟩
theorem refsL_of {n : Nat} : ∀ {l : List D}, D.refsL n l = [] → ∀ v ∈ l, D.refs n v = []
  | [], _, v, hv => by simp at hv
  | a :: r, h, v, hv => by
    simp only [D.refsL, List.append_eq_nil_iff] at h
    rcases List.mem_cons.mp hv with rfl | hv
    · exact h.1
    · exact refsL_of h.2 v hv
theorem refs_int {n : Nat} {i : Int} : D.refs n (.int i) = [] := by simp [D.refs]
theorem refs_bl {n : Nat} {i : Bool} : D.refs n (.bl i) = [] := by simp [D.refs]
theorem refs_str {n : Nat} {i : Str} : D.refs n (.str i) = [] := by simp [D.refs]
theorem refs_non {n : Nat} : D.refs n .non = [] := by simp [D.refs]
theorem refs_tup {n : Nat} {l : List D} : D.refs n (.tup l) = D.refsL n l := by simp [D.refs]
theorem refsL_nil {n : Nat} : D.refsL n [] = [] := by simp [D.refsL]
theorem refsL_cons {n : Nat} {a : D} {r : List D} : D.refsL n (a :: r) = D.refs n a ++ D.refsL n r := by simp [D.refsL]
theorem refs_ref {n k : Nat} (h : k < n) : D.refs n (.ref k) = [] := by simp [D.refs, h]
theorem take_of_fr {h h' : DH} (f : Fr [] h h') : h'.take h.length = h := by
  obtain ⟨t, rfl⟩ := f.append
  simp
theorem reach_nil {h : DH} {n k : Nat} {seen : List Nat} : reach h n k [] seen = seen := by
  cases k <;> rfl
theorem trim_pure {h h' : DH} {v : D} (hv : D.refs h.length v = []) (f : Fr [] h h') : trim h h' v = (v, h) := by
  unfold trim
  have ht := take_of_fr f
  by_cases hl : h'.length = h.length
  · rw [if_pos hl]
    rw [← hl, List.take_length] at ht
    rw [ht]
  · rw [if_neg hl, if_pos (.inl ht), hv]
    simp only [reach_nil, List.all_nil, Bool.true_and]
    have : wholeSeen h' h.length [] = true := by simp [wholeSeen]
    simp only [this, if_true, pick, List.append_nil, ht, ren_same _ _ v hv]
theorem trim_mut {S : List Nat} {h h' : DH} {v : D} (hv : D.refs h.length v = []) (f : Fr S h h') : (trim h h' v).1 = v ∧ Fr S h (trim h h' v).2 ∧ ∀ i, i < h.length → (trim h h' v).2[i]? = h'[i]? := by
  unfold trim
  by_cases hl : h'.length = h.length
  · rw [if_pos hl]
    exact ⟨rfl, f, fun _ _ => rfl⟩
  · rw [if_neg hl]
    split
    · dsimp only
      split
      · dsimp only
        rw [hv]
        simp only [reach_nil, pick, List.append_nil]
        have g : ∀ i, i < h.length → (h'.take h.length)[i]? = h'[i]? := fun i hi => by rw [List.getElem?_take_of_lt hi]
        refine ⟨ren_same _ _ v hv, ⟨?_, fun i hi hs => ?_⟩, g⟩
        · have := f.len
          simp
          omega
        · rw [g i hi]
          exact f.at_ i hi hs
      · exact ⟨rfl, f, fun _ _ => rfl⟩
    · exact ⟨rfl, f, fun _ _ => rfl⟩
theorem trim_lst {h h' : DH} {n : Nat} {l : List D} (hn : h.length ≤ n) (he : h'[n]? = some (.lst l)) (hl : D.refsL h.length l = []) (f : Fr [] h h') : trim h h' (.ref n) = (.ref h.length, h ++ [.lst l]) := by
  unfold trim
  have hlt := lt_of_get he
  rw [if_neg (by omega), if_pos (.inl (take_of_fr f))]
  have hnn : ¬ n < h.length := by omega
  have hr : D.refs h.length (.ref n) = [n] := by simp [D.refs, hnn]
  rw [hr]
  have h1 : reach h' h.length 64 [n] [] = [n] := by
    show (if ([] : List Nat).contains n then _ else match h'[n]? with | some o => reach h' h.length 63 ([] ++ o.refs h.length) ([] ++ [n]) | none => _) = [n]
    rw [if_neg (by simp), he]
    simp only [DO.refs, hl, List.append_nil, List.nil_append, reach_nil]
  rw [h1]
  have h2 : wholeSeen h' h.length [n] = true := by
    simp [wholeSeen, he, DO.refs, hl, hn]
  simp only [h2, List.all_cons, List.all_nil, List.contains_cons, Bool.and_true, beq_self_eq_true, Bool.true_or, if_true, take_of_fr f]
  have h3 : pick h' (place h.length [n]) [n] = [.lst l] := by
    simp [pick, he, DO.ren, renL_same _ _ l hl]
  rw [h3]
  simp [D.ren, place, hnn]
section
variable {h : DH} {r : RE} {Q : QD} {X : QX}
theorem fin_any (z : wE r (fun v h' => Q (trim h h' v).1 (trim h h' v).2) (fun c l h' => X c l (if h'.take h.length = h ∧ D.blwL h.length l = true then h else h'))) : wE (finish h r) Q X := by
  cases r <;> exact z
theorem fin_pure (z : wE r (fun v h' => D.refs h.length v = [] ∧ Fr [] h h' ∧ Q v h) nX) : wE (finish h r) Q X := by
  refine fin_any (z.use fun v h' ⟨a, b, c⟩ => ?_)
  rw [trim_pure a b]
  exact c
theorem fin_mut {S : List Nat} (z : wE r (fun v h' => D.refs h.length v = [] ∧ Fr S h h' ∧ ∀ h2, Fr S h h2 → (∀ i, i < h.length → h2[i]? = h'[i]?) → Q v h2) nX) : wE (finish h r) Q X := by
  refine fin_any (z.use fun v h' ⟨a, b, c⟩ => ?_)
  obtain ⟨t1, t2, t3⟩ := trim_mut a b
  rw [t1]
  exact c _ t2 t3
theorem fin_lst (z : wE r (fun v h' => Fr [] h h' ∧ ∃ n l, v = .ref n ∧ h.length ≤ n ∧ h'[n]? = some (.lst l) ∧ D.refsL h.length l = [] ∧ Q (.ref h.length) (h ++ [.lst l])) nX) : wE (finish h r) Q X := by
  refine fin_any (z.use fun v h' ⟨b, n, l, e, hn, he, hl, c⟩ => ?_)
  subst e
  rw [trim_lst hn he hl b]
  exact c
theorem wE_eq {v : D} {h' : DH} (z : wE r (fun a b => a = v ∧ b = h') nX) : r = .ok v h' := by
  cases r with
  | ok a b => rw [z.1, z.2]
  | ex c l b => exact z.elim
  | bad => exact z.elim
theorem wE_of {v : D} {h' : DH} (e : r = .ok v h') (q : Q v h') : wE r Q X := by rw [e]; exact q
end
theorem depsOk_fr {h h' : DH} {ds : List (Nat × DO)} (f : Fr [] h h') (e : depsOk h ds = true) : depsOk h' ds = true := by
  unfold depsOk at *
  rw [List.all_eq_true] at *
  intro p hp
  have := e p hp
  simp only [decide_eq_true_eq] at *
  exact f.get0 this
theorem depsOk_nil {h : DH} : depsOk h [] = true := rfl
theorem depsOk_one {h : DH} {n : Nat} {o : DO} (e : h[n]? = some o) : depsOk h [(n, o)] = true := by simp [depsOk, e]
theorem iterD_deps {h : DH} {v : D} {p : List D × List (Nat × DO)} (e : iterD h v = some p) : depsOk h p.2 = true := by
  unfold iterD at e
  split at e
  · cases e; rfl
  · cases e; rfl
  · split at e <;> first | (rename_i he; cases e; exact depsOk_one he) | cases e
  · cases e
theorem lc_pure {h1 : DH} {ds : List (Nat × DO)} {step : D → DH → RC} {xs : List D} {Q : QD} {X : QX} (f : D → Option D) (hd : depsOk h1 ds = true) (hl : xs.length < lim)
    (hs : ∀ x ∈ xs, ∀ h, Fr [] h1 h → wC (step x h) (fun y h' => f x = some y ∧ Fr [] h h') (fun h' => f x = none ∧ Fr [] h h'))
    (hQ : ∀ h', Fr [] h1 h' → h'[h1.length]? = some (.lst (xs.filterMap f)) → Q (.ref h1.length) h') : wE (loopC h1.length ds step xs (h1 ++ [.lst []])) Q X := by
  refine wE_loopC (fun pre acc h => acc = pre.filterMap f ∧ Fr [] h1 h ∧ h[h1.length]? = some (.lst acc)) (fun pre acc h ⟨_, b, c⟩ => ⟨c, depsOk_fr b hd⟩) ⟨rfl, .push, get_end⟩ hl
    (fun pre acc h ⟨a, _, _⟩ => by rw [a]; exact List.length_filterMap_le _ _) ?_ fun acc h ⟨a, b, c⟩ => hQ h b (by rw [← a]; exact c)
  intro pre x suf acc h e ⟨a, b, c⟩
  have := hs x (by rw [e]; simp) h b
  revert this
  cases step x h with
  | bad => exact id
  | skip h' =>
    intro ⟨q1, q2⟩
    refine ⟨?_, b.trans q2, q2.get0 c⟩
    rw [List.filterMap_append, a]
    simp [q1]
  | keep y h' =>
    intro ⟨q1, q2⟩
    refine ⟨q2.get0 c, ?_, (b.trans q2).set (.inr (Nat.le_refl _)), get_set (q2.get0 c)⟩
    rw [List.filterMap_append, a]
    simp [q1]
theorem atI_lit {α : Type} {l : List α} {n : Nat} : atI l (@OfNat.ofNat Int n _) = l[n]? := by
  show L2.atI l (n : Int) = l[n]?
  unfold L2.atI L2.ixN
  rw [if_pos (by omega)]
  by_cases h : n < l.length
  · rw [if_pos (by omega)]
    simp
  · rw [if_neg (by omega)]
    simp only [Option.bind_none]
    rw [List.getElem?_eq_none (by omega)]
theorem atI_0 {α : Type} {l : List α} : atI l 0 = l[0]? := atI_lit
theorem atI_1 {α : Type} {l : List α} : atI l 1 = l[1]? := atI_lit
theorem atI_2 {α : Type} {l : List α} : atI l 2 = l[2]? := atI_lit
theorem atI_3 {α : Type} {l : List α} : atI l 3 = l[3]? := atI_lit
theorem atI_4 {α : Type} {l : List α} : atI l 4 = l[4]? := atI_lit
theorem atI_5 {α : Type} {l : List α} : atI l 5 = l[5]? := atI_lit
theorem atI_6 {α : Type} {l : List α} : atI l 6 = l[6]? := atI_lit
theorem atI_7 {α : Type} {l : List α} : atI l 7 = l[7]? := atI_lit
theorem atI_8 {α : Type} {l : List α} : atI l 8 = l[8]? := atI_lit
theorem atI_9 {α : Type} {l : List α} : atI l 9 = l[9]? := atI_lit
theorem atI_10 {α : Type} {l : List α} : atI l 10 = l[10]? := atI_lit
theorem atI_nat {α : Type} {l : List α} {n : Nat} : atI l (n : Int) = l[n]? := atI_lit
theorem atI_int {α : Type} {l : List α} {i : Int} (h : 0 ≤ i) : atI l i = l[i.toNat]? := by
  obtain ⟨n, rfl⟩ := Int.eq_ofNat_of_zero_le h
  exact atI_nat
theorem ixN_lit {n k : Nat} (h : k < n) : ixN n (@OfNat.ofNat Int k _) = some k := by
  show L2.ixN n (k : Int) = some k
  unfold L2.ixN
  rw [if_pos (by omega), if_pos (by omega)]
  simp
theorem ixN_0 {n : Nat} (h : 0 < n) : ixN n 0 = some 0 := ixN_lit h
theorem ixN_1 {n : Nat} (h : 1 < n) : ixN n 1 = some 1 := ixN_lit h
theorem ixN_2 {n : Nat} (h : 2 < n) : ixN n 2 = some 2 := ixN_lit h
theorem ixN_3 {n : Nat} (h : 3 < n) : ixN n 3 = some 3 := ixN_lit h
theorem ixN_4 {n : Nat} (h : 4 < n) : ixN n 4 = some 4 := ixN_lit h
theorem ixN_5 {n : Nat} (h : 5 < n) : ixN n 5 = some 5 := ixN_lit h
theorem ixN_6 {n : Nat} (h : 6 < n) : ixN n 6 = some 6 := ixN_lit h
theorem ixN_7 {n : Nat} (h : 7 < n) : ixN n 7 = some 7 := ixN_lit h
theorem ixN_8 {n : Nat} (h : 8 < n) : ixN n 8 = some 8 := ixN_lit h
theorem ixN_9 {n : Nat} (h : 9 < n) : ixN n 9 = some 9 := ixN_lit h
theorem ixN_10 {n : Nat} (h : 10 < n) : ixN n 10 = some 10 := ixN_lit h
theorem ixN_int {n : Nat} {i : Int} (h : 0 ≤ i) (hn : i < n) : ixN n i = some i.toNat := by
  show L2.ixN n i = some i.toNat
  unfold L2.ixN
  rw [if_pos (by omega), if_pos (by omega)]
theorem rangeL_len {a : Int} {n : Nat} {c : Int} : (rangeL a n c).length = n := by simp [rangeL]
theorem rangeL_mem {a : Int} {n : Nat} {x : D} (h : x ∈ rangeL a n 1) : ∃ k : Nat, k < n ∧ x = .int (a + k) := by
  unfold rangeL at h
  obtain ⟨k, hk, rfl⟩ := List.mem_map.mp h
  exact ⟨k, List.mem_range.mp hk, by simp⟩
theorem mulOk_r {i j : Int} (h : small64 j = true) : mulOk i j = true := by simp [mulOk, h]
theorem mulOk_l {i j : Int} (h : small64 i = true) : mulOk i j = true := by simp [mulOk, h]
theorem small64_of {i : Int} (h1 : -18446744073709551616 < i) (h2 : i < 18446744073709551616) : small64 i = true := by simp [small64, h1, h2]
theorem divOk_of {j : Int} (h1 : 0 < j) (h2 : j < 1073741824) : divOk j = true := by simp [divOk, h1, h2]
theorem inR_of {i : Int} (h1 : -4611686018427387904 ≤ i) (h2 : i < 4611686018427387904) : inR i = true := by simp [inR, h1, h2]
theorem look_self {α β : Type} [BEq α] [LawfulBEq α] {a : α} {b : β} {l : List (α × β)} : List.lookup a ((a, b) :: l) = some b := List.lookup_cons_self
end Bp
end

section
set_option linter.all false
set_option maxRecDepth 100000
set_option maxHeartbeats 0
set_option linter.all false
set_option maxRecDepth 100000
set_option autoImplicit false
set_option maxHeartbeats 1000000
namespace Bp
open PySem
mutual
theorem ren_id : ∀ v : D, D.ren (fun i => i) v = v
  | .non => rfl
  | .bl _ => rfl
  | .int _ => rfl
  | .str _ => rfl
  | .ref _ => rfl
  | .tup l => by simp [D.ren, renL_id l]
  | .exc _ l => by simp [D.ren, renL_id l]
  | .clo _ l => by simp [D.ren, renL_id l]
theorem renL_id : ∀ v : List D, D.renL (fun i => i) v = v
  | [] => rfl
  | a :: r => by simp [D.renL, ren_id a, renL_id r]
end
theorem renP_id : ∀ v : List (D × D), renP (fun i => i) v = v
  | [] => rfl
  | (a, b) :: r => by simp [renP, ren_id, renP_id r]
theorem renF_id : ∀ v : List (Nat × D), renF (fun i => i) v = v
  | [] => rfl
  | (a, b) :: r => by simp [renF, ren_id, renF_id r]
theorem DO.ren_id (o : DO) : o.ren (fun i => i) = o := by
  cases o <;> simp [DO.ren, renL_id, renP_id, renF_id]
theorem pickAt {h : DH} {f : Nat → Nat} : ∀ {seen : List Nat} {i : Nat} {o : DO}, (∀ j ∈ seen, ∃ u, h[j]? = some u) → i ∈ seen → h[i]? = some o → (pick h f seen)[seen.idxOf i]? = some (o.ren f)
  | [], i, o, _, hi, _ => by simp at hi
  | j :: r, i, o, ha, hi, e => by
    obtain ⟨u, hu⟩ := ha j (by simp)
    unfold pick
    rw [hu]
    by_cases hj : j = i
    · subst hj
      rw [e] at hu
      cases hu
      simp
    · have hi' : i ∈ r := by
        rcases List.mem_cons.mp hi with z | z
        · exact absurd z.symm hj
        · exact z
      have := pickAt (f := f) (fun j hj => ha j (by simp [hj])) hi' e
      rw [List.idxOf_cons]
      have hb : (j == i) = false := by simpa using hj
      rw [hb]
      simpa using this
structure TR (S : List Nat) (h h' : DH) (v v' : D) (h2 : DH) (f : Nat → Nat) (P : Nat → Prop) : Prop where
  old : ∀ i, i < h.length → f i = i
  new : ∀ i, h.length ≤ i → P i → h.length ≤ f i
  val : v' = D.ren f v
  fr : Fr S h h2
  at_ : ∀ i, i < h.length → h2[i]? = h'[i]?
  ref : ∀ k ∈ D.refs h.length v, P k
  obj : ∀ i o, P i → h'[i]? = some o → h2[f i]? = some (o.ren f) ∧ ∀ k ∈ o.refs h.length, P k
theorem trim_gen {S : List Nat} {h h' : DH} {v : D} (fr : Fr S h h') : ∃ f P, TR S h h' v (trim h h' v).1 (trim h h' v).2 f P := by
  have un : ∃ f P, TR S h h' v v h' f P := ⟨fun i => i, fun _ => True, fun _ _ => rfl, fun _ z _ => z, (ren_id v).symm, fr, fun _ _ => rfl, fun _ _ => trivial, fun i o _ e => ⟨by rw [DO.ren_id]; exact e, fun _ _ => trivial⟩⟩
  unfold trim
  split
  · exact un
  · split
    · dsimp only
      split
      · rename_i hw
        generalize hse : reach h' h.length 64 (v.refs h.length) [] = seen at hw ⊢
        dsimp only
        simp only [Bool.and_eq_true, List.all_eq_true] at hw
        obtain ⟨w1, w2⟩ := hw
        unfold wholeSeen at w2
        simp only [Bool.and_eq_true, List.all_eq_true, decide_eq_true_eq] at w2
        obtain ⟨nd, w2⟩ := w2
        have there : ∀ j ∈ seen, ∃ u, h'[j]? = some u := fun j hj => by
          have := (w2 j hj).2
          split at this
          · rename_i u hu
            exact ⟨u, hu⟩
          · cases this
        have g : ∀ i, i < h.length → (h'.take h.length)[i]? = h'[i]? := fun i hi => by rw [List.getElem?_take_of_lt hi]
        have hlen : (h'.take h.length).length = h.length := by
          have := fr.len
          simp
          omega
        have g2 : ∀ i, i < h.length → (h'.take h.length ++ pick h' (place h.length seen) seen)[i]? = h'[i]? := fun i hi => by
          rw [List.getElem?_append_left (by omega)]
          exact g i hi
        refine ⟨place h.length seen, fun i => i ∈ seen, fun i hi => by simp [place, hi], fun i hi hp => ?_, rfl, ⟨?_, fun i hi hs => ?_⟩, g2, fun k hk => by simpa using w1 k hk, fun i o hp e => ?_⟩
        · simp only [place, if_neg (show ¬ i < h.length by omega)]
          omega
        · rw [List.length_append, hlen]
          omega
        · rw [g2 i hi]
          exact fr.at_ i hi hs
        · have hi := (w2 i hp).1
          refine ⟨?_, fun k hk => ?_⟩
          · simp only [place, if_neg (show ¬ i < h.length by omega)]
            rw [List.getElem?_append_right (by omega), hlen, Nat.add_sub_cancel_left]
            exact pickAt there hp e
          · have := (w2 i hp).2
            rw [e] at this
            simp only [List.all_eq_true] at this
            simpa using this k hk
      · exact un
    · exact un
theorem fin_gen {h : DH} {r : RE} {Q : QD} {X : QX} {S : List Nat} (z : wE r (fun v h' => Fr S h h' ∧ ∀ v' h2 f P, TR S h h' v v' h2 f P → Q v' h2) nX) : wE (finish h r) Q X := by
  refine fin_any (z.use fun v h' ⟨a, b⟩ => ?_)
  obtain ⟨f, P, t⟩ := trim_gen (v := v) a
  exact b _ _ f P t
mutual
theorem ren_free (f : Nat → Nat) : ∀ v : D, D.refs 0 v = [] → D.ren f v = v
  | .non, _ => by simp [D.ren]
  | .bl _, _ => by simp [D.ren]
  | .int _, _ => by simp [D.ren]
  | .str _, _ => by simp [D.ren]
  | .ref k, h => by simp [D.refs] at h
  | .tup l, h => by
    simp only [D.refs] at h
    simp [D.ren, renL_free f l h]
  | .exc c l, h => by
    simp only [D.refs] at h
    simp [D.ren, renL_free f l h]
  | .clo c l, h => by
    simp only [D.refs] at h
    simp [D.ren, renL_free f l h]
theorem renL_free (f : Nat → Nat) : ∀ l : List D, D.refsL 0 l = [] → D.renL f l = l
  | [], _ => by simp [D.renL]
  | a :: r, h => by
    simp only [D.refsL, List.append_eq_nil_iff] at h
    simp [D.renL, ren_free f a h.1, renL_free f r h.2]
end
theorem blt_self {n : Nat} : Nat.blt n n = false := Bool.eq_false_iff.mpr fun z => by have := Nat.le_of_ble_eq_true z; omega
theorem getA0 {h l : DH} : (h ++ l)[h.length]? = l[0]? := by
  rw [List.getElem?_append_right (Nat.le_refl _), Nat.sub_self]
theorem getAk {h l : DH} {k : Nat} : (h ++ l)[h.length + k]? = l[k]? := by
  rw [List.getElem?_append_right (by omega), Nat.add_sub_cancel_left]
theorem setA0 {h l : DH} {o : DO} : (h ++ l).set h.length o = h ++ l.set 0 o := by
  rw [List.set_append_right _ _ (Nat.le_refl _), Nat.sub_self]
theorem setAk {h l : DH} {k : Nat} {o : DO} : (h ++ l).set (h.length + k) o = h ++ l.set k o := by
  rw [List.set_append_right _ _ (by omega), Nat.add_sub_cancel_left]
theorem closed_not {n : Nat} : ∀ {l : DH} {o : DO}, o ∈ l → o.blw n = false → closed n l = false
  | [], o, h, _ => by simp at h
  | a :: r, o, h, e => by
    unfold closed
    rcases List.mem_cons.mp h with rfl | h
    · rw [e]; rfl
    · rw [closed_not h e, Bool.and_false]
theorem trim_open {h h' : DH} {v : D} {i : Nat} {o : DO} (hi : i < h.length) (e : h'[i]? = some o) (hb : o.blw h.length = false) (hc : h[i]? ≠ some o) : trim h h' v = (v, h') := by
  unfold trim
  split
  · rfl
  · have h1 : (h'.take h.length)[i]? = some o := by rw [List.getElem?_take_of_lt hi, e]
    rw [if_neg]
    rintro (z | z)
    · rw [z] at h1
      exact hc h1
    · rw [closed_not (List.mem_of_getElem? h1) hb] at z
      cases z
theorem TR.lst {S : List Nat} {h h' h2 : DH} {v' : D} {f : Nat → Nat} {P : Nat → Prop} {n : Nat} {l : List D} (t : TR S h h' (.ref n) v' h2 f P) (e : h'[n]? = some (.lst l)) (hl : D.refsL h.length l = []) : ∃ m, v' = .ref m ∧ h2[m]? = some (.lst l) ∧ (h.length ≤ n → h.length ≤ m) := by
  have same : ∀ l : List D, D.refsL h.length l = [] → D.renL f l = l := by
    have key : ∀ m : Nat, (∀ v : D, sizeOf v < m → D.refs h.length v = [] → D.ren f v = v) ∧ (∀ l : List D, sizeOf l < m → D.refsL h.length l = [] → D.renL f l = l) := by
      intro m
      induction m with
      | zero => exact ⟨fun _ z => absurd z (by omega), fun _ z => absurd z (by omega)⟩
      | succ m ih =>
        refine ⟨fun v hz hv => ?_, fun l hz hl => ?_⟩
        · cases v with
          | ref k =>
            simp only [D.refs] at hv
            split at hv
            · rename_i hk
              simp [D.ren, t.old k hk]
            · cases hv
          | tup l => simp only [D.refs] at hv; simp only [D.ren, ih.2 l (by simp at hz; omega) hv]
          | exc c l => simp only [D.refs] at hv; simp only [D.ren, ih.2 l (by simp at hz; omega) hv]
          | clo c l => simp only [D.refs] at hv; simp only [D.ren, ih.2 l (by simp at hz; omega) hv]
          | _ => simp [D.ren]
        · cases l with
          | nil => rfl
          | cons a r =>
            simp only [D.refsL, List.append_eq_nil_iff] at hl
            simp only [D.renL, ih.1 a (by simp at hz; omega) hl.1, ih.2 r (by simp at hz; omega) hl.2]
    intro l
    exact (key (sizeOf l + 1)).2 l (by omega)
  refine ⟨f n, t.val, ?_, fun hn => ?_⟩
  · by_cases hn : n < h.length
    · rw [t.old n hn, t.at_ n hn]
      exact e
    · have hp : P n := t.ref n (by simp [D.refs, hn])
      have := (t.obj n _ hp e).1
      rw [this]
      simp [DO.ren, same l hl]
  · exact t.new n hn (t.ref n (by simp [D.refs, Nat.not_lt.mpr hn]))
theorem set_same {h : DH} {m : Nat} {o : DO} (e : h[m]? = some o) : h.set m o = h := by
  apply List.ext_getElem?
  intro i
  by_cases hi : m = i
  · subst hi
    rw [get_set e, e]
  · rw [List.getElem?_set_ne hi]
theorem wS_forK {i n : Nat} {tg : MG} {s : MS} {g : Gm} {e : Env} {h : DH} {K : WK} {l : List (D × D)} (hx : e[i]? = some (some (.ref n))) (hn : h[n]? = some (.dk l))
    (z : wS (loopS [] (stepS tg s g) (l.map (·.1)) e (h.set n (.lk l))) ⟨fun e1 h1 => K.nx e1 (h1.set n (.dk l)), fun e1 h1 => K.rt e1 (h1.set n (.dk l)), fun e1 h1 => K.bk e1 (h1.set n (.dk l)), fun e1 h1 => K.ct e1 (h1.set n (.dk l)), fun _ _ _ _ => False⟩) : wS (sForV i tg s g e h) K := by
  unfold sForV
  rw [hx]
  dsimp only
  rw [hn]
  dsimp only
  unfold sForK
  rw [hx]
  dsimp only
  rw [hn]
  dsimp only
  have e1 : sFor (iKeysL i) tg s g e (h.set n (.lk l)) = loopS [] (stepS tg s g) (l.map (·.1)) e (h.set n (.lk l)) := by
    unfold sFor iKeysL
    rw [hx]
    dsimp only
    rw [get_set hn]
  rw [e1]
  revert z
  cases loopS [] (stepS tg s g) (l.map (·.1)) e (h.set n (.lk l)) with
  | ex c l e h => exact fun z => z.elim
  | _ => exact id
end Bp
end

section
set_option linter.all false
set_option maxRecDepth 100000
set_option maxHeartbeats 0
set_option linter.all false
set_option maxRecDepth 100000
set_option autoImplicit false
set_option maxHeartbeats 1000000
namespace Bp
open PySem PySem.W PyProof.Rows
theorem mapO_map {α β γ : Type} {F : β → Option γ} {f : α → β} {g : α → γ} : ∀ {l : List α}, (∀ a ∈ l, F (f a) = some (g a)) → mapO F (l.map f) = some (l.map g)
  | [], _ => rfl
  | a :: r, h => by
    show (match F (f a) with | some b => _ | none => _) = _
    rw [h a (by simp)]
    dsimp only
    rw [mapO_map fun a ha => h a (by simp [ha])]
    rfl
def dI (k : List Int) : D := .tup (k.map .int)
def pI (k : List Int) : PyData := .tuple (k.map .int)
theorem toPD_int {h : DH} {n : Nat} {i : Int} : toPD h (n + 1) (.int i) = some (.int i) := rfl
theorem toPD_tup {h : DH} {n : Nat} {l : List D} : toPD h (n + 1) (.tup l) = (mapO (toPD h n) l).map .tuple := rfl
theorem toPD_dI {h : DH} {n : Nat} {k : List Int} : toPD h (n + 2) (dI k) = some (pI k) := by
  unfold dI
  rw [toPD_tup, mapO_map (g := PyData.int) fun a _ => toPD_int]
  rfl
theorem refs_dI {n : Nat} {k : List Int} : D.refs n (dI k) = [] := by
  unfold dI
  rw [refs_tup]
  exact refsL_mem fun v hv => by obtain ⟨i, _, rfl⟩ := List.mem_map.mp hv; exact refs_int
theorem refsL_dI {n : Nat} {l : List (List Int)} : D.refsL n (l.map dI) = [] := refsL_mem fun v hv => by obtain ⟨i, _, rfl⟩ := List.mem_map.mp hv; exact refs_dI
theorem refsL_int {n : Nat} {l : List Int} : D.refsL n (l.map .int) = [] := refsL_mem fun v hv => by obtain ⟨i, _, rfl⟩ := List.mem_map.mp hv; exact refs_int
def leP_ (a b : PyData) : Bool := !dataLt b a
theorem leP_trans (a b c : PyData) (h1 : leP_ a b = true) (h2 : leP_ b c = true) : leP_ a c = true := by
  unfold leP_ dataLt at *
  cases h : lexLt itemOrd (keyToks c) (keyToks a) with
  | false => rfl
  | true =>
    rcases lex_negTrans _ (keyToks b) _ h with z | z
    · rw [z] at h2; cases h2
    · rw [z] at h1; cases h1
theorem leP_total (a b : PyData) : (leP_ a b || leP_ b a) = true := by
  unfold leP_ dataLt
  cases h : lexLt itemOrd (keyToks b) (keyToks a) with
  | false => rfl
  | true =>
    cases h2 : lexLt itemOrd (keyToks a) (keyToks b) with
    | false => rfl
    | true =>
      have := lex_trans _ _ _ h h2
      rw [lex_irrefl] at this
      cases this
theorem zip_self {α β : Type} {g : α → β} : ∀ {l : List α}, l.zip (l.map g) = l.map (fun a => (a, g a))
  | [] => rfl
  | a :: r => by simp [zip_self]
theorem sortP_map {α : Type} {h : DH} {f : α → D} {g : α → PyData} {l : List α} (hfg : ∀ a ∈ l, toPD h 64 (f a) = some (g a)) (hok : sortOk (l.map g) = true) :
    sortP h (l.map f) = some ((l.mergeSort fun a b => leP_ (g a) (g b)).map f) := by
  unfold sortP
  rw [mapO_map hfg]
  dsimp only
  rw [if_pos hok]
  have e : (l.map f).zip (l.map g) = l.map (fun a => (f a, g a)) := by
    clear hfg hok
    induction l with
    | nil => rfl
    | cons a r ih => simp [ih]
  rw [e, ← List.map_mergeSort (r := fun a b => leP_ (g a) (g b)) (s := fun (p q : D × PyData) => !dataLt q.2 p.2) (fun a _ b _ => rfl), List.map_map]
  rfl
theorem dataLt_pI (a b : List Int) : dataLt (pI a) (pI b) = decide (a < b) := by
  unfold pI
  rw [dataLt_tuple]
  exact dataLt_ints a b
theorem leP_pI (a b : List Int) : leP_ (pI a) (pI b) = decide (a ≤ b) := by
  unfold leP_
  rw [dataLt_pI]
  by_cases h : b < a
  · have h' : ¬ a ≤ b := fun r => List.not_lt.mpr r h
    simp [h, h']
  · have h' : a ≤ b := List.not_lt.mp h
    simp [h, h']
theorem depth_pI (a : List Int) : (pI a).depth = 1 := by
  unfold pI
  rw [PyData.depth, depth_ints]
theorem alike_pI (a b : List Int) : alike (pI a) (pI b) = true := by
  unfold pI
  rw [alike, alike_ints]
theorem sortOk_pI {l : List (List Int)} (hl : ∀ k ∈ l, k ≠ []) : sortOk (l.map pI) = true := by
  unfold sortOk
  simp only [Bool.and_eq_true, Bool.or_eq_true, List.all_eq_true, List.mem_map, forall_exists_index, and_imp, forall_apply_eq_imp_iff₂, decide_eq_true_eq]
  refine ⟨⟨fun a _ b _ => alike_pI a b, .inl fun a ha => ?_⟩, fun a _ => by rw [depth_pI]; omega⟩
  cases a with
  | nil => exact absurd rfl (hl _ ha)
  | cons x r => rfl
def srtI (l : List (List Int)) : List (List Int) := l.mergeSort fun a b => decide (a ≤ b)
theorem sortP_dI {h : DH} {l : List (List Int)} (hl : ∀ k ∈ l, k ≠ []) : sortP h (l.map dI) = some ((srtI l).map dI) := by
  rw [sortP_map (g := pI) (fun a _ => toPD_dI) (sortOk_pI hl)]
  unfold srtI
  simp only [leP_pI]
theorem srtI_perm {l : List (List Int)} : (srtI l).Perm l := List.mergeSort_perm _ _
theorem srtI_pw {l : List (List Int)} : (srtI l).Pairwise (· ≤ ·) := by
  have := List.pairwise_mergeSort (le := fun a b : List Int => decide (a ≤ b)) (fun a b c h1 h2 => by simp only [decide_eq_true_eq] at *; exact List.le_trans h1 h2) (fun a b => by simp only [Bool.or_eq_true, decide_eq_true_eq]; exact List.le_total a b) l
  unfold srtI
  exact this.imp fun {a b} h => by simpa using h
theorem srt_unique {l1 l2 : List (List Int)} (p : l1.Perm l2) (h1 : l1.Pairwise (· ≤ ·)) (h2 : l2.Pairwise (· ≤ ·)) : l1 = l2 :=
  List.Perm.eq_of_pairwise (le := (· ≤ ·)) (fun a b _ _ x y => List.le_antisymm x y) h1 h2 p
theorem srtI_congr {l1 l2 : List (List Int)} (p : l1.Perm l2) : srtI l1 = srtI l2 := srt_unique (srtI_perm.trans (p.trans srtI_perm.symm)) srtI_pw srtI_pw
theorem srtI_eq {l1 l2 : List (List Int)} (p : l1.Perm l2) (h2 : l2.Pairwise (· ≤ ·)) : srtI l1 = l2 := srt_unique (srtI_perm.trans p) srtI_pw h2
theorem eqv_ints : ∀ a b : List Int, PyData.eqvAll (a.map .int) (b.map .int) = decide (a = b)
  | [], [] => by simp [PyData.eqvAll]
  | [], b :: s => by simp [PyData.eqvAll]
  | a :: r, [] => by simp [PyData.eqvAll]
  | a :: r, b :: s => by
    rw [List.map_cons, List.map_cons, PyData.eqvAll, eqv_ints r s]
    simp only [PyData.eqv]
    by_cases h1 : a = b <;> by_cases h2 : r = s <;> simp [h1, h2]
theorem eqv_pI (a b : List Int) : PyData.eqv (pI a) (pI b) = decide (a = b) := by
  unfold pI
  rw [PyData.eqv]
  exact eqv_ints a b
theorem eqvAll_pI : ∀ a b : List (List Int), PyData.eqvAll (a.map pI) (b.map pI) = decide (a = b)
  | [], [] => by simp [PyData.eqvAll]
  | [], b :: s => by simp [PyData.eqvAll]
  | a :: r, [] => by simp [PyData.eqvAll]
  | a :: r, b :: s => by
    rw [List.map_cons, List.map_cons, PyData.eqvAll, eqvAll_pI r s, eqv_pI]
    by_cases h1 : a = b <;> by_cases h2 : r = s <;> simp [h1, h2]
theorem canLay_ints : ∀ a : List Int, PyData.canLayAll0 (a.map .int) = true
  | [] => by simp [PyData.canLayAll0]
  | a :: r => by rw [List.map_cons, PyData.canLayAll0, canLay_ints r]; simp [PyData.canLay0]
theorem canLay_pI (a : List Int) : PyData.canLay0 (pI a) = true := by
  unfold pI
  rw [PyData.canLay0]
  exact canLay_ints a
theorem canLayAll_pI : ∀ a : List (List Int), PyData.canLayAll0 (a.map pI) = true
  | [] => by simp [PyData.canLayAll0]
  | a :: r => by rw [List.map_cons, PyData.canLayAll0, canLayAll_pI r, canLay_pI]; rfl
theorem depthAll_pI : ∀ a : List (List Int), PyData.depthAll (a.map pI) ≤ 1
  | [] => by simp [PyData.depthAll]
  | a :: r => by
    rw [List.map_cons, PyData.depthAll, depth_pI]
    have := depthAll_pI r
    omega
theorem shaped_pI (a : List Int) : SeqAt.shaped (pI a) = true := by
  unfold SeqAt.shaped
  rw [canLay_pI, depth_pI]
  rfl
theorem shaped_lI (a : List (List Int)) : SeqAt.shaped (.list (a.map pI)) = true := by
  unfold SeqAt.shaped
  rw [PyData.canLay0, canLayAll_pI, PyData.depth]
  have := depthAll_pI a
  simp
  omega
theorem toPD_ref {h : DH} {n a : Nat} {l : List D} (e : h[a]? = some (.lst l)) : toPD h (n + 1) (.ref a) = (mapO (toPD h n) l).map .list := by
  show (match h[a]? with | some (.lst l) => _ | some (.frz l) => _ | some (.tpl l) => _ | _ => _) = _
  rw [e]
theorem eqP_ref {h : DH} {a b : Nat} : eqP h (.ref a) (.ref b) = match toPD h 65 (.ref a), toPD h 65 (.ref b) with
    | some a, some b => if SeqAt.shaped a && SeqAt.shaped b then some (PyData.eqv a b) else none
    | _, _ => none := rfl
theorem eqP_lI {h : DH} {a b : Nat} {l m : List (List Int)} (ha : h[a]? = some (.lst (l.map dI))) (hb : h[b]? = some (.lst (m.map dI))) : eqP h (.ref a) (.ref b) = some (decide (l = m)) := by
  rw [eqP_ref, toPD_ref ha, toPD_ref hb, mapO_map (g := pI) fun a _ => toPD_dI, mapO_map (g := pI) fun a _ => toPD_dI]
  simp only [Option.map_some, shaped_lI, Bool.and_self, if_true]
  rw [PyData.eqv, eqvAll_pI]
def dII (p : List Int × List Int) : D := .tup [dI p.1, dI p.2]
def pII (p : List Int × List Int) : PyData := .tuple [pI p.1, pI p.2]
theorem toPD_dII {h : DH} {n : Nat} {p : List Int × List Int} : toPD h (n + 3) (dII p) = some (pII p) := by
  unfold dII
  rw [toPD_tup]
  simp only [mapO, toPD_dI, Option.map_some]
  rfl
theorem refs_dII {n : Nat} {p : List Int × List Int} : D.refs n (dII p) = [] := by
  unfold dII
  rw [refs_tup, refsL_cons, refsL_cons, refs_dI, refs_dI, refsL_nil]
  rfl
theorem leP_pII (p q : List Int × List Int) (h : leP_ (pII p) (pII q) = true) : p.1 ≤ q.1 := by
  unfold leP_ pII at h
  rw [dataLt_tuple] at h
  have e : rowLt [pI q.1, pI q.2] [pI p.1, pI p.2] = if PyData.eqv (pI q.1) (pI p.1) = true then rowLt [pI q.2] [pI p.2] else dataLt (pI q.1) (pI p.1) := by
    unfold rowLt
    rw [dataLt_cons (alike_pI _ _)]
  have h' : (!rowLt [pI q.1, pI q.2] [pI p.1, pI p.2]) = true := h
  rw [e, eqv_pI, dataLt_pI] at h'
  by_cases z : q.1 = p.1
  · rw [z]
    exact List.le_refl _
  · rw [if_neg (by simp [z])] at h'
    simp only [Bool.not_eq_true', decide_eq_false_iff_not] at h'
    exact List.not_lt.mp h'
theorem sortOk_pII {l : List (List Int × List Int)} : sortOk (l.map pII) = true := by
  unfold sortOk
  simp only [Bool.and_eq_true, Bool.or_eq_true, List.all_eq_true, List.mem_map, forall_exists_index, and_imp, forall_apply_eq_imp_iff₂, decide_eq_true_eq]
  refine ⟨⟨fun a _ b _ => ?_, .inl fun a ha => rfl⟩, fun a _ => ?_⟩
  · unfold pII
    simp only [alike, alikeAll, alike_pI]
    rfl
  · unfold pII
    simp only [PyData.depth, PyData.depthAll, depth_pI]
    omega
theorem sortP_dII {h : DH} {l : List (List Int × List Int)} : sortP h (l.map dII) = some ((l.mergeSort fun a b => leP_ (pII a) (pII b)).map dII) :=
  sortP_map (fun a _ => toPD_dII) sortOk_pII
theorem sort_fst {l : List (List Int × List Int)} : ((l.mergeSort fun a b => leP_ (pII a) (pII b)).map Prod.fst) = srtI (l.map Prod.fst) := by
  refine (srtI_eq ((List.mergeSort_perm _ _).symm.map _) ?_).symm
  have := List.pairwise_mergeSort (le := fun a b : List Int × List Int => leP_ (pII a) (pII b)) (fun a b c h1 h2 => leP_trans _ _ _ h1 h2) (fun a b => leP_total _ _) l
  rw [List.pairwise_map]
  exact this.imp fun {a b} h => leP_pII a b h
end Bp
end

section
set_option linter.all false
set_option maxRecDepth 100000
set_option maxHeartbeats 0
set_option linter.all false
set_option maxRecDepth 100000
set_option autoImplicit false
set_option maxHeartbeats 1000000
namespace Bp
open PySem
def dP (p : Int × Int) : D := .tup [.int p.1, .int p.2]
def posP (start stop size : Int) (k : Nat) : Int := min stop (max start ((start / size + k) * size))
def cntP (start stop size : Int) : Nat := if start = stop then 0 else ((stop - 1) / size + 1 - start / size).toNat
def spanP (start stop size : Int) : List (Int × Int) := (List.range (cntP start stop size)).map fun k => (posP start stop size k, posP start stop size (k + 1))
section
variable {start stop size : Int}
theorem div_lo (hs : 0 < size) (x : Int) : x / size * size ≤ x := Int.ediv_mul_le x (by omega)
theorem div_hi (hs : 0 < size) (x : Int) : x < x / size * size + size := by
  have := Int.lt_ediv_add_one_mul_self x hs
  rw [Int.add_mul, Int.one_mul] at this
  exact this
theorem div_at (hs : 0 < size) {q x : Int} (h1 : q * size ≤ x) (h2 : x < q * size + size) : x / size = q := by
  apply Int.le_antisymm
  · have : x / size < q + 1 := Int.ediv_lt_of_lt_mul hs (by rw [Int.add_mul, Int.one_mul]; exact h2)
    omega
  · exact Int.le_ediv_of_mul_le hs h1
theorem posP_zero (hs : 0 < size) (hl : start ≤ stop) : posP start stop size 0 = start := by
  have := div_lo hs start
  unfold posP
  simp only [Int.natCast_zero, Int.add_zero]
  omega
theorem cnt_lt (hs : 0 < size) (hl : start < stop) {k : Nat} (hk : k < cntP start stop size) : (start / size + k) * size ≤ stop - 1 := by
  unfold cntP at hk
  rw [if_neg (by omega)] at hk
  have h1 : start / size + k ≤ (stop - 1) / size := by omega
  exact Int.le_trans (Int.mul_le_mul_of_nonneg_right h1 (by omega)) (div_lo hs _)
theorem cnt_end (hs : 0 < size) (hl : start < stop) : stop ≤ (start / size + cntP start stop size) * size := by
  unfold cntP
  rw [if_neg (by omega)]
  have h0 : start / size ≤ (stop - 1) / size := Int.ediv_le_ediv hs (by omega)
  have h1 : start / size + (((stop - 1) / size + 1 - start / size).toNat : Int) = (stop - 1) / size + 1 := by omega
  rw [h1]
  have := div_hi hs (stop - 1)
  rw [Int.add_mul, Int.one_mul]
  omega
theorem posP_end (hs : 0 < size) (hl : start ≤ stop) : posP start stop size (cntP start stop size) = stop := by
  by_cases e : start = stop
  · have : cntP start stop size = 0 := by unfold cntP; rw [if_pos e]
    rw [this, posP_zero hs hl, e]
  · have := cnt_end hs (show start < stop by omega)
    unfold posP
    omega
theorem succ_mul {q : Int} {k : Nat} : (q + ((k + 1 : Nat) : Int)) * size = (q + k) * size + size := by
  rw [show (((k + 1 : Nat) : Int)) = (k : Int) + 1 by omega, ← Int.add_assoc, Int.add_mul (q + k), Int.one_mul]
theorem first_mul (hs : 0 < size) (k : Nat) : start < (start / size + k) * size + size := by
  have h1 := div_hi hs start
  have h2 : start / size * size ≤ (start / size + k) * size := Int.mul_le_mul_of_nonneg_right (by omega) (by omega)
  omega
theorem posP_lt (hs : 0 < size) (hl : start < stop) {k : Nat} (hk : k < cntP start stop size) : posP start stop size k = max start ((start / size + k) * size) ∧ posP start stop size k < stop := by
  have := cnt_lt hs hl hk
  unfold posP
  omega
theorem posP_succ (hs : 0 < size) {k : Nat} : posP start stop size (k + 1) = min stop ((start / size + k) * size + size) := by
  have := first_mul (start := start) hs k
  unfold posP
  rw [succ_mul]
  omega
theorem posP_next (hs : 0 < size) (hl : start < stop) {k : Nat} (hk : k < cntP start stop size) : posP start stop size (k + 1) = min stop (posP start stop size k / size * size + size) := by
  have e : posP start stop size k / size = start / size + k := by
    obtain ⟨h1, h2⟩ := posP_lt hs hl hk
    have h3 := first_mul (start := start) hs k
    have h4 : start / size * size ≤ (start / size + k) * size := Int.mul_le_mul_of_nonneg_right (by omega) (by omega)
    exact div_at hs (by omega) (by omega)
  rw [posP_succ hs, e]
theorem posP_mono (hs : 0 < size) (hl : start ≤ stop) {k : Nat} : posP start stop size k ≤ posP start stop size (k + 1) := by
  unfold posP
  rw [succ_mul]
  omega
theorem posP_bd (hs : 0 < size) (hl : start ≤ stop) {k : Nat} : start ≤ posP start stop size k ∧ posP start stop size k ≤ stop := by
  unfold posP
  omega
theorem posP_strict (hs : 0 < size) (hl : start < stop) {k : Nat} (hk : k < cntP start stop size) : posP start stop size k < posP start stop size (k + 1) := by
  obtain ⟨h1, h2⟩ := posP_lt hs hl hk
  rw [posP_succ hs]
  have h3 := first_mul (start := start) hs k
  omega
theorem cnt_le (hs : 0 < size) (hl : start ≤ stop) : (cntP start stop size : Int) ≤ stop - start := by
  by_cases e : start = stop
  · have : cntP start stop size = 0 := by unfold cntP; rw [if_pos e]
    omega
  · have key : ∀ k, k ≤ cntP start stop size → (k : Int) ≤ posP start stop size k - start := by
      intro k
      induction k with
      | zero => intro _; have := posP_bd (k := 0) hs hl; omega
      | succ k ih =>
        intro hk
        have h1 := ih (by omega)
        have h2 := posP_strict hs (show start < stop by omega) (show k < cntP start stop size by omega)
        omega
    have := key _ (Nat.le_refl _)
    rw [posP_end hs hl] at this
    exact this
theorem spanP_len : (spanP start stop size).length = cntP start stop size := by simp [spanP]
end
theorem wS_app {deps : List (Nat × DO)} {body : D → Env → DH → RS} {xs : List D} {K : WK} {e : Env} {h : DH} {k B : Nat} {L0 : List D} (E : Env → Prop) (G : D → List D) (he : E e) (hk : h[k]? = some (.lst L0)) (hB : L0.length + ((xs.map G).flatten).length ≤ B)
    (hd : ∀ p ∈ deps, h[p.1]? = some p.2 ∧ p.1 ≠ k)
    (hb : ∀ x ∈ xs, ∀ e h' L, E e → Fr [k] h h' → h'[k]? = some (.lst L) → L.length + (G x).length ≤ B → wS (body x e h') ⟨fun e1 h1 => E e1 ∧ Fr [k] h h1 ∧ h1[k]? = some (.lst (L ++ G x)), K.rt, fun _ _ => False, fun _ _ => False, K.ex⟩)
    (hE : ∀ e h', E e → Fr [k] h h' → h'[k]? = some (.lst (L0 ++ (xs.map G).flatten)) → K.nx e h') : wS (loopS deps body xs e h) K := by
  refine wS_loop (fun pre e h' => E e ∧ Fr [k] h h' ∧ h'[k]? = some (.lst (L0 ++ (pre.map G).flatten))) ⟨he, .refl, by simpa using hk⟩ (fun pre e h' ⟨_, f, _⟩ => ?_) ?_ fun e h' ⟨a, b, c⟩ => hE e h' a b c
  · unfold depsOk
    rw [List.all_eq_true]
    intro p hp
    obtain ⟨q1, q2⟩ := hd p hp
    simp only [decide_eq_true_eq]
    exact f.get q1 (by simpa using q2)
  · intro pre x suf e h' ex ⟨a, f, c⟩
    have hle : (L0 ++ (pre.map G).flatten).length + (G x).length ≤ B := by
      rw [ex] at hB
      simp only [List.map_append, List.map_cons, List.flatten_append, List.flatten_cons, List.length_append] at hB ⊢
      omega
    refine (hb x (by rw [ex]; simp) e h' _ a f c hle).mono (fun e1 h1 ⟨q1, q2, q3⟩ => ⟨q1, q2, ?_⟩) (fun _ _ z => z) (fun _ _ z => z.elim) (fun _ _ z => z.elim) (fun _ _ _ _ z => z)
    rw [q3]
    simp
theorem map_rangeL {α : Type} {n : Nat} {G : D → α} : (rangeL 0 n 1).map G = (List.range n).map fun (k : Nat) => G (.int (k : Int)) := by
  unfold rangeL
  rw [List.map_map]
  apply List.map_congr_left
  intro k _
  simp
theorem wS_cat {deps : List (Nat × DO)} {body : D → Env → DH → RS} {xs : List D} {K : WK} {e : Env} {h : DH} {q0 B : Nat} {L0 : List D} (E : Nat → Env → Prop) (G : D → List D) (he : E q0 e) (hk : h[q0]? = some (.lst L0)) (hB : L0.length + ((xs.map G).flatten).length ≤ B)
    (hd : depsOk h deps = true)
    (hb : ∀ x ∈ xs, ∀ e h' q L, E q e → Fr [] h h' → h'[q]? = some (.lst L) → L.length + (G x).length ≤ B → wS (body x e h') ⟨fun e1 h1 => ∃ q', E q' e1 ∧ Fr [] h h1 ∧ h1[q']? = some (.lst (L ++ G x)), K.rt, fun _ _ => False, fun _ _ => False, K.ex⟩)
    (hE : ∀ e h' q, E q e → Fr [] h h' → h'[q]? = some (.lst (L0 ++ (xs.map G).flatten)) → K.nx e h') : wS (loopS deps body xs e h) K := by
  refine wS_loop (fun pre e h' => ∃ q, E q e ∧ Fr [] h h' ∧ h'[q]? = some (.lst (L0 ++ (pre.map G).flatten))) ⟨q0, he, .refl, by simpa using hk⟩ (fun pre e h' ⟨_, _, f, _⟩ => depsOk_fr f hd) ?_ fun e h' ⟨q, a, b, c⟩ => hE e h' q a b c
  intro pre x suf e h' ex ⟨q, a, f, c⟩
  have hle : (L0 ++ (pre.map G).flatten).length + (G x).length ≤ B := by
    rw [ex] at hB
    simp only [List.map_append, List.map_cons, List.flatten_append, List.flatten_cons, List.length_append] at hB ⊢
    omega
  refine (hb x (by rw [ex]; simp) e h' q _ a f c hle).mono (fun e1 h1 ⟨q', q1, q2, q3⟩ => ⟨q', q1, q2, ?_⟩) (fun _ _ z => z) (fun _ _ z => z.elim) (fun _ _ z => z.elim) (fun _ _ _ _ z => z)
  rw [q3]
  simp
theorem lc_pure2 {h1 hh : DH} {n : Nat} {ds : List (Nat × DO)} {step : D → DH → RC} {xs : List D} {Q : QD} {X : QX} (eh : hh = h1 ++ [.lst []]) (en : n = h1.length) (f : D → Option D) (hd : depsOk h1 ds = true) (hl : xs.length < lim)
    (hs : ∀ x ∈ xs, ∀ h, Fr [] h1 h → wC (step x h) (fun y h' => f x = some y ∧ Fr [] h h') (fun h' => f x = none ∧ Fr [] h h'))
    (hQ : ∀ h', Fr [] h1 h' → h'[n]? = some (.lst (xs.filterMap f)) → Q (.ref n) h') : wE (loopC n ds step xs hh) Q X := by
  subst eh en
  exact lc_pure f hd hl hs hQ
theorem wS_appT {α : Type} {l : List α} {enc : α → D} {deps : List (Nat × DO)} {body : D → Env → DH → RS} {K : WK} {e : Env} {h : DH} {k B : Nat} {L0 : List D} (E : Env → Prop) (G : α → List D) (he : E e) (hk : h[k]? = some (.lst L0)) (hB : L0.length + ((l.map G).flatten).length ≤ B)
    (hd : ∀ p ∈ deps, h[p.1]? = some p.2 ∧ p.1 ≠ k)
    (hb : ∀ a ∈ l, ∀ e h' L, E e → Fr [k] h h' → h'[k]? = some (.lst L) → L.length + (G a).length ≤ B → wS (body (enc a) e h') ⟨fun e1 h1 => E e1 ∧ Fr [k] h h1 ∧ h1[k]? = some (.lst (L ++ G a)), K.rt, fun _ _ => False, fun _ _ => False, K.ex⟩)
    (hE : ∀ e h', E e → Fr [k] h h' → h'[k]? = some (.lst (L0 ++ (l.map G).flatten)) → K.nx e h') : wS (loopS deps body (l.map enc) e h) K := by
  refine wS_loop (fun pre e h' => ∃ l1 l2, l = l1 ++ l2 ∧ pre = l1.map enc ∧ E e ∧ Fr [k] h h' ∧ h'[k]? = some (.lst (L0 ++ (l1.map G).flatten))) ⟨[], l, rfl, rfl, he, .refl, by simpa using hk⟩ (fun pre e h' ⟨_, _, _, _, _, f, _⟩ => ?_) ?_ ?_
  · unfold depsOk
    rw [List.all_eq_true]
    intro p hp
    obtain ⟨q1, q2⟩ := hd p hp
    simp only [decide_eq_true_eq]
    exact f.get q1 (by simpa using q2)
  · rintro pre x suf e h' ex ⟨l1, l2, rfl, rfl, a, f, c⟩
    cases l2 with
    | nil =>
      exfalso
      have := congrArg List.length ex
      simp at this
    | cons y l2 =>
      have hx : x = enc y := by
        rw [List.map_append, List.map_cons] at ex
        have := List.append_cancel_left ex
        exact (List.cons.inj this).1.symm
      subst hx
      have hle : (L0 ++ (l1.map G).flatten).length + (G y).length ≤ B := by
        simp only [List.map_append, List.map_cons, List.flatten_append, List.flatten_cons, List.length_append] at hB ⊢
        omega
      refine (hb y (by simp) e h' _ a f c hle).mono (fun e1 h1 ⟨q1, q2, q3⟩ => ⟨l1 ++ [y], l2, by simp, by simp, q1, q2, ?_⟩) (fun _ _ z => z) (fun _ _ z => z.elim) (fun _ _ z => z.elim) (fun _ _ _ _ z => z)
      rw [q3]
      simp
  · rintro e h' ⟨l1, l2, rfl, hp, a, f, c⟩
    have : l2 = [] := by
      have := congrArg List.length hp
      simp at this
      exact this
    subst this
    exact hE e h' a f (by simpa using c)
theorem enumL_map {α : Type} {f : α → D} : ∀ {l : List α} {k : Nat}, enumL k (l.map f) = (l.zipIdx k).map fun x => .tup [.int x.2, f x.1]
  | [], k => rfl
  | a :: r, k => by
    rw [List.map_cons, List.zipIdx_cons, List.map_cons, ← enumL_map]
    rfl
theorem range_zip {α : Type} : ∀ {l : List α}, rangeL 0 l.length 1 = l.zipIdx.map fun x => .int x.2 := by
  intro l
  apply List.ext_getElem?
  intro i
  unfold rangeL
  rw [List.getElem?_map, List.getElem?_map, List.getElem?_zipIdx]
  by_cases hi : i < l.length
  · rw [List.getElem?_range hi, List.getElem?_eq_getElem hi]
    simp
  · rw [List.getElem?_eq_none (by simp; omega), List.getElem?_eq_none (by omega)]
    rfl
theorem range_map' {n : Nat} : rangeL 0 n 1 = (List.range n).map fun (k : Nat) => .int (k : Int) := by
  unfold rangeL
  apply List.map_congr_left
  intro k _
  simp
theorem zip_at {α : Type} {l : List α} {x : α × Nat} (h : x ∈ l.zipIdx) : l[x.2]? = some x.1 := by
  obtain ⟨a, i⟩ := x
  exact List.mem_zipIdx_iff_getElem?.mp h
end Bp
end

section
set_option linter.all false
set_option maxRecDepth 100000
set_option maxHeartbeats 0
set_option linter.all false
set_option maxRecDepth 100000
set_option autoImplicit false
set_option maxHeartbeats 1000000
namespace Bp
open PySem PySem.Spec PyProof.Rows L2
theorem mapO_append {α β : Type} {f : α → Option β} : ∀ {l m : List α} {r s : List β}, mapO f l = some r → mapO f m = some s → mapO f (l ++ m) = some (r ++ s)
  | [], m, r, s, h, h2 => by cases h; exact h2
  | a :: l, m, r, s, h, h2 => by
    unfold mapO at h
    show (match f a with | some b => (match mapO f (l ++ m) with | some s => some (b :: s) | none => none) | none => none) = _
    cases hf : f a with
    | none => rw [hf] at h; cases h
    | some b =>
      rw [hf] at h
      dsimp only at h ⊢
      cases hm : mapO f l with
      | none => rw [hm] at h; cases h
      | some t =>
        rw [hm] at h
        cases h
        rw [mapO_append hm h2]
        rfl
theorem arr_ok (n : Nat) (cs : List D) (vs : List V) (hc : ∀ φ H, RpL φ H cs vs) {ks : List Str} (hk : ks.length = n) : ArrOk ks (n + cs.length) ((List.range n).map Sl.k ++ cs.map Sl.c) (fun us zs => us ++ (zs ++ vs)) := by
  intro φ H x zs es ws hl hr ha
  have hes : es.length = n := by rw [← hr.length, hl, hk]
  have e1 : mapO (Sl.get [] es) ((List.range n).map Sl.k) = some es := by
    rw [mapO_map (g := fun i => es.getD i .non)]
    · congr 1
      apply List.ext_getElem?
      intro i
      by_cases hi : i < n
      · rw [List.getElem?_map, List.getElem?_range hi]
        simp [List.getD_eq_getElem?_getD, show i < es.length by omega]
      · rw [List.getElem?_eq_none (by simp; omega), List.getElem?_eq_none (by omega)]
    · intro i hi
      have hi := List.mem_range.mp hi
      show es[i]? = some (es.getD i .non)
      rw [List.getD_eq_getElem?_getD, List.getElem?_eq_getElem (by omega)]
      rfl
  have e2 : mapO (Sl.get [] es) (cs.map Sl.c) = some cs := by
    have := mapO_map (F := Sl.get [] es) (f := Sl.c) (g := fun d => d) (l := cs) fun a _ => rfl
    rw [this, List.map_id']
  unfold arrange at ha
  rw [mapO_append e1 e2] at ha
  cases ha
  refine ⟨by simp [hes], zs ++ vs, rfl, hr.append (hc φ H)⟩
end Bp
end

section
set_option linter.all false
set_option maxRecDepth 100000
set_option maxHeartbeats 0
set_option Elab.async false
set_option linter.all false
set_option maxRecDepth 100000
set_option maxHeartbeats 0
namespace Law
open PySem PySem.Spec PyProof.Rows L2 Bp
def top (i : Nat) : Stmt := PySem.Challenge.pw_bandpress_k76_whole_blocks_cover.main.body.getD i (.Pass ⟨0, 0, 0, 0⟩)
def cbody (s : Stmt) (j : Nat) : Stmt := match s with
  | .ClassDef _ _ _ b _ _ _ _ _ _ _ => b.getD j (.Pass ⟨0, 0, 0, 0⟩)
  | _ => .Pass ⟨0, 0, 0, 0⟩
abbrev s0 : Stmt := top 8
def f0 : Fd := ⟨.glo "is_integer", "is_integer", "is_integer", defArgs s0, defBody s0, defScope s0, []⟩
def n0 : List Str × List Str := ((["value"] : List Str), (["value"] : List Str))
abbrev s1 : Stmt := top 9
def f1 : Fd := ⟨.glo "is_in", "is_in", "is_in", defArgs s1, defBody s1, defScope s1, []⟩
def n1 : List Str × List Str := ((["value", "least", "most"] : List Str), (["value", "least", "most"] : List Str))
abbrev s2 : Stmt := top 10
def f2 : Fd := ⟨.glo "is_list", "is_list", "is_list", defArgs s2, defBody s2, defScope s2, []⟩
def n2 : List Str × List Str := ((["value", "least", "most"] : List Str), (["value", "least", "most"] : List Str))
abbrev s3 : Stmt := top 21
def f3 : Fd := ⟨.glo "are_cuts", "are_cuts", "are_cuts", defArgs s3, defBody s3, defScope s3, []⟩
def n3 : List Str × List Str := ((["value"] : List Str), (["value", "most", "cut"] : List Str))
abbrev s4 : Stmt := top 22
def f4 : Fd := ⟨.glo "is_order", "is_order", "is_order", defArgs s4, defBody s4, defScope s4, []⟩
def n4 : List Str × List Str := ((["value"] : List Str), (["value"] : List Str))
abbrev s5 : Stmt := top 23
def f5 : Fd := ⟨.glo "is_region", "is_region", "is_region", defArgs s5, defBody s5, defScope s5, []⟩
def n5 : List Str × List Str := ((["value"] : List Str), (["value", "one"] : List Str))
abbrev s6 : Stmt := top 24
def f6 : Fd := ⟨.glo "is_known", "is_known", "is_known", defArgs s6, defBody s6, defScope s6, []⟩
def n6 : List Str × List Str := ((["value", "words"] : List Str), (["value", "words"] : List Str))
abbrev s7 : Stmt := top 25
def f7 : Fd := ⟨.glo "first_bad", "first_bad", "first_bad", defArgs s7, defBody s7, defScope s7, []⟩
def n7 : List Str × List Str := ((["told"] : List Str), (["told", "checks", "name", "is_good"] : List Str))
abbrev s8 : Stmt := cbody (top 26) 0
def f8 : Fd := ⟨.meth "Options" "__init__", "__init__", "Options.__init__", defArgs s8, defBody s8, defScope s8, [("kernel", .str "short"), ("levels", .int 2), ("side", .int 4), ("order", .str "tlrc"), ("tile_height", .int 16), ("tile_width", .int 16), ("colors", .bl false), ("region", .non), ("shift", .int 0)]⟩
def n8 : List Str × List Str := ((["self", "kernel", "levels", "side", "cuts", "order", "tile_height", "tile_width", "colors", "region", "shift"] : List Str), (["self", "kernel", "levels", "side", "cuts", "order", "tile_height", "tile_width", "colors", "region", "shift", "told", "name"] : List Str))
abbrev s9 : Stmt := cbody (top 26) 1
def f9 : Fd := ⟨.prop "Options" "kernel", "kernel", "Options.kernel", defArgs s9, defBody s9, defScope s9, []⟩
def n9 : List Str × List Str := ((["self"] : List Str), (["self"] : List Str))
abbrev s10 : Stmt := cbody (top 26) 2
def f10 : Fd := ⟨.prop "Options" "levels", "levels", "Options.levels", defArgs s10, defBody s10, defScope s10, []⟩
def n10 : List Str × List Str := ((["self"] : List Str), (["self"] : List Str))
abbrev s11 : Stmt := cbody (top 26) 3
def f11 : Fd := ⟨.prop "Options" "side", "side", "Options.side", defArgs s11, defBody s11, defScope s11, []⟩
def n11 : List Str × List Str := ((["self"] : List Str), (["self"] : List Str))
abbrev s12 : Stmt := cbody (top 26) 4
def f12 : Fd := ⟨.prop "Options" "cuts", "cuts", "Options.cuts", defArgs s12, defBody s12, defScope s12, []⟩
def n12 : List Str × List Str := ((["self"] : List Str), (["self"] : List Str))
abbrev s13 : Stmt := cbody (top 26) 5
def f13 : Fd := ⟨.prop "Options" "order", "order", "Options.order", defArgs s13, defBody s13, defScope s13, []⟩
def n13 : List Str × List Str := ((["self"] : List Str), (["self"] : List Str))
abbrev s14 : Stmt := cbody (top 26) 6
def f14 : Fd := ⟨.prop "Options" "tile_height", "tile_height", "Options.tile_height", defArgs s14, defBody s14, defScope s14, []⟩
def n14 : List Str × List Str := ((["self"] : List Str), (["self"] : List Str))
abbrev s15 : Stmt := cbody (top 26) 7
def f15 : Fd := ⟨.prop "Options" "tile_width", "tile_width", "Options.tile_width", defArgs s15, defBody s15, defScope s15, []⟩
def n15 : List Str × List Str := ((["self"] : List Str), (["self"] : List Str))
abbrev s16 : Stmt := cbody (top 26) 8
def f16 : Fd := ⟨.prop "Options" "colors", "colors", "Options.colors", defArgs s16, defBody s16, defScope s16, []⟩
def n16 : List Str × List Str := ((["self"] : List Str), (["self"] : List Str))
abbrev s17 : Stmt := cbody (top 26) 9
def f17 : Fd := ⟨.prop "Options" "region", "region", "Options.region", defArgs s17, defBody s17, defScope s17, []⟩
def n17 : List Str × List Str := ((["self"] : List Str), (["self"] : List Str))
abbrev s18 : Stmt := cbody (top 26) 10
def f18 : Fd := ⟨.prop "Options" "shift", "shift", "Options.shift", defArgs s18, defBody s18, defScope s18, []⟩
def n18 : List Str × List Str := ((["self"] : List Str), (["self"] : List Str))
abbrev s19 : Stmt := cbody (top 26) 11
def f19 : Fd := ⟨.meth "Options" "__eq__", "__eq__", "Options.__eq__", defArgs s19, defBody s19, defScope s19, []⟩
def n19 : List Str × List Str := ((["self", "other"] : List Str), (["self", "other"] : List Str))
abbrev s20 : Stmt := cbody (top 26) 12
def f20 : Fd := ⟨.meth "Options" "changed", "changed", "Options.changed", defArgs s20, defBody s20, defScope s20, []⟩
def n20 : List Str × List Str := ((["self", "more"] : List Str), (["self", "more", "told", "name"] : List Str))
abbrev s21 : Stmt := top 27
def f21 : Fd := ⟨.glo "need_options", "need_options", "need_options", defArgs s21, defBody s21, defScope s21, []⟩
def n21 : List Str × List Str := ((["value"] : List Str), (["value"] : List Str))
abbrev s22 : Stmt := top 32
def f22 : Fd := ⟨.glo "need_frame", "need_frame", "need_frame", defArgs s22, defBody s22, defScope s22, []⟩
def n22 : List Str × List Str := ((["value"] : List Str), (["value", "at", "one"] : List Str))
abbrev s23 : Stmt := top 36
def f23 : Fd := ⟨.glo "is_span", "is_span", "is_span", defArgs s23, defBody s23, defScope s23, []⟩
def n23 : List Str × List Str := ((["value"] : List Str), (["value"] : List Str))
abbrev s24 : Stmt := top 37
def f24 : Fd := ⟨.glo "need_span", "need_span", "need_span", defArgs s24, defBody s24, defScope s24, []⟩
def n24 : List Str × List Str := ((["value"] : List Str), (["value"] : List Str))
abbrev s25 : Stmt := top 38
def f25 : Fd := ⟨.glo "low_start", "low_start", "low_start", defArgs s25, defBody s25, defScope s25, []⟩
def n25 : List Str × List Str := ((["start"] : List Str), (["start"] : List Str))
abbrev s26 : Stmt := top 39
def f26 : Fd := ⟨.glo "high_start", "high_start", "high_start", defArgs s26, defBody s26, defScope s26, []⟩
def n26 : List Str × List Str := ((["start"] : List Str), (["start"] : List Str))
abbrev s27 : Stmt := top 40
def f27 : Fd := ⟨.glo "low_span", "low_span", "low_span", defArgs s27, defBody s27, defScope s27, []⟩
def n27 : List Str × List Str := ((["span"] : List Str), (["span"] : List Str))
abbrev s28 : Stmt := top 41
def f28 : Fd := ⟨.glo "high_span", "high_span", "high_span", defArgs s28, defBody s28, defScope s28, []⟩
def n28 : List Str × List Str := ((["span"] : List Str), (["span"] : List Str))
abbrev s29 : Stmt := top 42
def f29 : Fd := ⟨.glo "low_span_after", "low_span_after", "low_span_after", defArgs s29, defBody s29, defScope s29, []⟩
def n29 : List Str × List Str := ((["span", "levels"] : List Str), (["span", "levels", "turn"] : List Str))
abbrev s30 : Stmt := top 44
def f30 : Fd := ⟨.glo "pieces", "pieces", "pieces", defArgs s30, defBody s30, defScope s30, []⟩
def n30 : List Str × List Str := ((["start", "stop", "size"] : List Str), (["start", "stop", "size", "at"] : List Str))
abbrev s31 : Stmt := top 45
def f31 : Fd := ⟨.glo "rectangles", "rectangles", "rectangles", defArgs s31, defBody s31, defScope s31, []⟩
def n31 : List Str × List Str := ((["top", "left", "height", "width", "sizes"] : List Str), (["top", "left", "height", "width", "sizes", "found", "upper", "lower", "first", "last"] : List Str))
abbrev s32 : Stmt := top 46
def f32 : Fd := ⟨.glo "tiles_in", "tiles_in", "tiles_in", defArgs s32, defBody s32, defScope s32, []⟩
def n32 : List Str × List Str := ((["frame", "options"] : List Str), (["frame", "options", "top", "left", "height", "width", "many"] : List Str))
abbrev s33 : Stmt := top 47
def f33 : Fd := ⟨.glo "bands_in", "bands_in", "bands_in", defArgs s33, defBody s33, defScope s33, []⟩
def n33 : List Str × List Str := ((["tile", "levels", "resolution"] : List Str), (["tile", "levels", "resolution", "rows", "columns", "pairs", "down", "right"] : List Str))
abbrev s34 : Stmt := top 48
def f34 : Fd := ⟨.glo "blocks_in", "blocks_in", "blocks_in", defArgs s34, defBody s34, defScope s34, []⟩
def n34 : List Str × List Str := ((["band", "side"] : List Str), (["band", "side"] : List Str))
abbrev s35 : Stmt := top 49
def f35 : Fd := ⟨.glo "tiles_of", "tiles_of", "tiles_of", defArgs s35, defBody s35, defScope s35, []⟩
def n35 : List Str × List Str := ((["frame", "options"] : List Str), (["frame", "options"] : List Str))
abbrev s36 : Stmt := top 50
def f36 : Fd := ⟨.glo "block_places", "block_places", "block_places", defArgs s36, defBody s36, defScope s36, []⟩
def n36 : List Str × List Str := ((["frame", "options"] : List Str), (["frame", "options", "found", "tile", "place", "component", "resolution", "band", "span", "number", "block"] : List Str))
abbrev s37 : Stmt := top 52
def f37 : Fd := ⟨.glo "_law_taken", "_law_taken", "_law_taken", defArgs s37, defBody s37, defScope s37, []⟩
def n37 : List Str × List Str := ((["row", "many"] : List Str), (["row", "many", "found", "cell"] : List Str))
abbrev s38 : Stmt := top 53
def f38 : Fd := ⟨.glo "_law_pick", "_law_pick", "_law_pick", defArgs s38, defBody s38, defScope s38, []⟩
def n38 : List Str × List Str := ((["row", "things"] : List Str), (["row", "things"] : List Str))
abbrev s39 : Stmt := top 54
def f39 : Fd := ⟨.glo "_law_alike", "_law_alike", "_law_alike", defArgs s39, defBody s39, defScope s39, []⟩
def n39 : List Str × List Str := ((["found", "due"] : List Str), (["found", "due", "k"] : List Str))
abbrev s40 : Stmt := top 55
def f40 : Fd := ⟨.glo "_law_order", "_law_order", "_law_order", defArgs s40, defBody s40, defScope s40, []⟩
def n40 : List Str × List Str := ((["row"] : List Str), (["row", "left", "found", "turn"] : List Str))
abbrev s41 : Stmt := top 56
def f41 : Fd := ⟨.glo "_law_options", "_law_options", "_law_options", defArgs s41, defBody s41, defScope s41, []⟩
def n41 : List Str × List Str := ((["row", "cuts"] : List Str), (["row", "cuts", "high", "wide", "kernel", "levels", "side", "order"] : List Str))
abbrev s42 : Stmt := top 57
def f42 : Fd := ⟨.glo "_law_grid", "_law_grid", "_law_grid", defArgs s42, defBody s42, defScope s42, []⟩
def n42 : List Str × List Str := ((["start", "stop", "size"] : List Str), (["start", "stop", "size", "found", "here", "last"] : List Str))
abbrev s43 : Stmt := top 58
def f43 : Fd := ⟨.glo "_law_halved", "_law_halved", "_law_halved", defArgs s43, defBody s43, defScope s43, []⟩
def n43 : List Str × List Str := ((["span", "times"] : List Str), (["span", "times", "turn"] : List Str))
abbrev s44 : Stmt := top 59
def f44 : Fd := ⟨.glo "_law_band_spans", "_law_band_spans", "_law_band_spans", defArgs s44, defBody s44, defScope s44, []⟩
def n44 : List Str × List Str := ((["rows", "columns", "levels", "resolution"] : List Str), (["rows", "columns", "levels", "resolution", "low", "high", "first", "last"] : List Str))
abbrev s45 : Stmt := top 60
def f45 : Fd := ⟨.glo "_law_tiles", "_law_tiles", "_law_tiles", defArgs s45, defBody s45, defScope s45, []⟩
def n45 : List Str × List Str := ((["frame", "options"] : List Str), (["frame", "options", "found", "rows", "columns"] : List Str))
abbrev s46 : Stmt := top 61
def f46 : Fd := ⟨.glo "_law_places", "_law_places", "_law_places", defArgs s46, defBody s46, defScope s46, []⟩
def n46 : List Str × List Str := ((["frame", "options"] : List Str), (["frame", "options", "found", "tiles", "tile", "component", "resolution", "bands", "band", "number", "top", "bottom", "left", "right", "place"] : List Str))
abbrev s47 : Stmt := top 62
def f47 : Fd := ⟨.glo "law", "law", "law", defArgs s47, defBody s47, defScope s47, []⟩
def n47 : List Str × List Str := ((["script"] : List Str), (["script", "row", "turn", "frame", "options", "due", "tiles", "places", "areas", "key", "place", "tile", "component", "rows", "columns"] : List Str))
def G : GT where
  g := ([("is_integer", .fn 0 1), ("is_in", .fn 1 3), ("is_list", .fn 2 3), ("are_cuts", .fn 3 1), ("is_order", .fn 4 1), ("is_region", .fn 5 1), ("is_known", .fn 6 2), ("first_bad", .fn 7 1), ("need_options", .fn 21 1), ("need_frame", .fn 22 1), ("is_span", .fn 23 1), ("need_span", .fn 24 1)] : List (Str × GI)) ++ ([("low_start", .fn 25 1), ("high_start", .fn 26 1), ("low_span", .fn 27 1), ("high_span", .fn 28 1), ("low_span_after", .fn 29 2), ("pieces", .fn 30 3), ("rectangles", .fn 31 5), ("tiles_in", .fn 32 2), ("bands_in", .fn 33 3), ("blocks_in", .fn 34 2), ("tiles_of", .fn 35 2), ("block_places", .fn 36 2)] : List (Str × GI)) ++ ([("_law_taken", .fn 37 2), ("_law_pick", .fn 38 2), ("_law_alike", .fn 39 2), ("_law_order", .fn 40 1), ("_law_options", .fn 41 2), ("_law_grid", .fn 42 3), ("_law_halved", .fn 43 2), ("_law_band_spans", .fn 44 4), ("_law_tiles", .fn 45 2), ("_law_places", .fn 46 2), ("law", .fn 47 1), ("Options", .ty 0)] : List (Str × GI)) ++ ([("KERNELS", .cst (.ref 0)), ("SIDES", .cst (.ref 1)), ("LETTERS", .cst (.str "tcrl")), ("MOST_LEVELS_options", .cst (.int 3)), ("MOST_LAYERS", .cst (.int 4)), ("MOST_CUT", .cst (.int 94)), ("MOST_TILE", .cst (.int 16)), ("MOST_SHIFT", .cst (.int 16)), ("FARTHEST_options", .cst (.int 100)), ("END", .cst (.int 100)), ("MOST_SIDE", .cst (.int 16)), ("MOST_COMPONENTS", .cst (.int 3))] : List (Str × GI)) ++ ([("FARTHEST_spans", .cst (.int 1000)), ("MOST_LEVELS_spans", .cst (.int 10))] : List (Str × GI))
  bl := (["isinstance", "len", "range", "enumerate", "sorted", "tuple", "list", "dict", "max", "min", "sum", "all", "any", "int", "bool", "str"] : List Str) ++ (["abs", "zip", "reversed", "set"] : List Str)
  m := []
  p := ([("kernel", (0, 9, 0)), ("levels", (0, 10, 1)), ("side", (0, 11, 2)), ("cuts", (0, 12, 3)), ("order", (0, 13, 4)), ("tile_height", (0, 14, 5)), ("tile_width", (0, 15, 6)), ("colors", (0, 16, 7)), ("region", (0, 17, 8)), ("shift", (0, 18, 9))] : List (Str × (Nat × Nat × Nat)))
  f := ([("table", (0, 10))] : List (Str × (Nat × Nat)))
  sub := ([(none, "NoneType", .cls 0, false), (none, "bool", .cls 0, false), (none, "int", .cls 0, false), (none, "str", .cls 0, false), (none, "tuple", .cls 0, false), (none, "list", .cls 0, false), (none, "dict", .cls 0, false), (some 0, "", .cls 0, true), (none, "NoneType", .ty "bool", false), (none, "bool", .ty "bool", true), (none, "int", .ty "bool", false), (none, "str", .ty "bool", false)] : List (Option Nat × String × Ty × Bool)) ++ ([(none, "tuple", .ty "bool", false), (none, "list", .ty "bool", false), (none, "dict", .ty "bool", false), (some 0, "", .ty "bool", false), (none, "NoneType", .ty "int", false), (none, "bool", .ty "int", true), (none, "int", .ty "int", true), (none, "str", .ty "int", false), (none, "tuple", .ty "int", false), (none, "list", .ty "int", false), (none, "dict", .ty "int", false), (some 0, "", .ty "int", false)] : List (Option Nat × String × Ty × Bool)) ++ ([(none, "NoneType", .ty "list", false), (none, "bool", .ty "list", false), (none, "int", .ty "list", false), (none, "str", .ty "list", false), (none, "tuple", .ty "list", false), (none, "list", .ty "list", true), (none, "dict", .ty "list", false), (some 0, "", .ty "list", false), (none, "NoneType", .ty "str", false), (none, "bool", .ty "str", false), (none, "int", .ty "str", false), (none, "str", .ty "str", true)] : List (Option Nat × String × Ty × Bool)) ++ ([(none, "tuple", .ty "str", false), (none, "list", .ty "str", false), (none, "dict", .ty "str", false), (some 0, "", .ty "str", false), (none, "NoneType", .ty "tuple", false), (none, "bool", .ty "tuple", false), (none, "int", .ty "tuple", false), (none, "str", .ty "tuple", false), (none, "tuple", .ty "tuple", true), (none, "list", .ty "tuple", false), (none, "dict", .ty "tuple", false), (some 0, "", .ty "tuple", false)] : List (Option Nat × String × Ty × Bool))
  km := ([(("Options", ["kernel", "levels", "side", "cuts", "order", "tile_height", "tile_width"]), (0, 8, [.k 0, .k 1, .k 2, .k 3, .k 4, .k 5, .k 6, .c (.bl false), .c (.non), .c (.int 0)]))] : List ((Str × List Str) × (Nat × Nat × List Sl)))
  ms := ([("Options", (0, 8, ["kernel", "levels", "side", "cuts", "order", "tile_height", "tile_width", "colors", "region", "shift"], [.k 0, .k 1, .k 2, .k 3, .k 4, .k 5, .k 6, .k 7, .k 8, .k 9]))] : List (Str × (Nat × Nat × List Str × List Sl)))
  mm := ([(("changed", ["tile_height", "tile_width"]), (0, 20, 11))] : List ((Str × List Str) × (Nat × Nat × Nat)))
def cs : List Cst := [(.nm "KERNELS", [.str "short", .str "long"]), (.nm "SIDES", [.int 4, .int 8])]
def D : LawD where
  an := (["kernel", "levels", "side", "cuts", "order", "tile_height", "tile_width", "colors", "region", "shift", "table", "changed"] : List Str)
  cn := (["Options"] : List Str)
  G := G
  fs := ([f0, f1, f2, f3, f4, f5, f6, f7, f8, f9, f10, f11] : List (Fd)) ++ ([f12, f13, f14, f15, f16, f17, f18, f19, f20, f21, f22, f23] : List (Fd)) ++ ([f24, f25, f26, f27, f28, f29, f30, f31, f32, f33, f34, f35] : List (Fd)) ++ ([f36, f37, f38, f39, f40, f41, f42, f43, f44, f45, f46, f47] : List (Fd))
  ns := ([n0, n1, n2, n3, n4, n5, n6, n7, n8, n9, n10, n11] : List (List Str × List Str)) ++ ([n12, n13, n14, n15, n16, n17, n18, n19, n20, n21, n22, n23] : List (List Str × List Str)) ++ ([n24, n25, n26, n27, n28, n29, n30, n31, n32, n33, n34, n35] : List (List Str × List Str)) ++ ([n36, n37, n38, n39, n40, n41, n42, n43, n44, n45, n46, n47] : List (List Str × List Str))
  cs := cs
  pl := ([0, 1, 2, 3, 4, 5, 6, 7, 9, 10, 11, 12] : List (Nat)) ++ ([13, 14, 15, 16, 17, 18, 21, 22, 23, 24, 25, 26] : List (Nat)) ++ ([27, 28, 29, 30, 31, 32, 33, 34, 35, 36, 37, 38] : List (Nat)) ++ ([39, 40, 41, 42, 43, 44, 45, 46, 47] : List (Nat))
abbrev Rw : PySem.W.OpenRow := PySem.W.OpenLaw.row PySem.Challenge.rw_bandpress_k76_whole_blocks_cover
abbrev qv : Program := PySem.W.view Rw.prog [62]
def names : List PySem.Str := (["PressError", "BadSpan", "BadLevels", "BadFrame", "BadOptions", "NotOptions", "is_integer", "is_in", "is_list", "KERNELS", "SIDES", "LETTERS", "MOST_LEVELS_options", "MOST_LAYERS", "MOST_CUT", "MOST_TILE"] : List PySem.Str) ++ (["MOST_SHIFT", "FARTHEST_options", "are_cuts", "is_order", "is_region", "is_known", "first_bad", "Options", "need_options", "END", "MOST_SIDE", "MOST_COMPONENTS", "need_frame", "FARTHEST_spans", "MOST_LEVELS_spans", "is_span"] : List PySem.Str) ++ (["need_span", "low_start", "high_start", "low_span", "high_span", "low_span_after", "pieces", "rectangles", "tiles_in", "bands_in", "blocks_in", "tiles_of", "block_places", "_law_taken", "_law_pick", "_law_alike"] : List PySem.Str) ++ (["_law_order", "_law_options", "_law_grid", "_law_halved", "_law_band_spans", "_law_tiles", "_law_places"] : List PySem.Str)
abbrev hk : PySem.W.Hook := hookT 6 D.chk D.fs D.cs
def ob (s : PySem.W.SharedT) : He.AlD × Bool := obsT 6 D.chk D.fs D.cs (HandSHeadRun.getT s)
theorem ob_eq (s : PySem.W.SharedT) : ob s = hk.obs s.abs := obsT_eq (HandSHeadRun.getT_eq s)
end Law
end

section
set_option linter.all false
set_option maxRecDepth 100000
set_option maxHeartbeats 0
namespace Law
open PySem PySem.Spec PyProof.Rows L2 Bp
def F_is_integer : Nat := 0
def F_is_in : Nat := 1
def F_is_list : Nat := 2
def F_are_cuts : Nat := 3
def F_is_order : Nat := 4
def F_is_region : Nat := 5
def F_is_known : Nat := 6
def F_first_bad : Nat := 7
def F_Options_init : Nat := 8
def F_Options_kernel : Nat := 9
def F_Options_levels : Nat := 10
def F_Options_side : Nat := 11
def F_Options_cuts : Nat := 12
def F_Options_order : Nat := 13
def F_Options_tile_height : Nat := 14
def F_Options_tile_width : Nat := 15
def F_Options_colors : Nat := 16
def F_Options_region : Nat := 17
def F_Options_shift : Nat := 18
def F_Options_eq : Nat := 19
def F_Options_changed : Nat := 20
def F_need_options : Nat := 21
def F_need_frame : Nat := 22
def F_is_span : Nat := 23
def F_need_span : Nat := 24
def F_low_start : Nat := 25
def F_high_start : Nat := 26
def F_low_span : Nat := 27
def F_high_span : Nat := 28
def F_low_span_after : Nat := 29
def F_pieces : Nat := 30
def F_rectangles : Nat := 31
def F_tiles_in : Nat := 32
def F_bands_in : Nat := 33
def F_blocks_in : Nat := 34
def F_tiles_of : Nat := 35
def F_block_places : Nat := 36
def F_law_taken : Nat := 37
def F_law_pick : Nat := 38
def F_law_alike : Nat := 39
def F_law_order : Nat := 40
def F_law_options : Nat := 41
def F_law_grid : Nat := 42
def F_law_halved : Nat := 43
def F_law_band_spans : Nat := 44
def F_law_tiles : Nat := 45
def F_law_places : Nat := 46
def F_law : Nat := 47
abbrev C_Options : Nat := 0
abbrev A_kernel : Nat := 0
abbrev A_levels : Nat := 1
abbrev A_side : Nat := 2
abbrev A_cuts : Nat := 3
abbrev A_order : Nat := 4
abbrev A_tile_height : Nat := 5
abbrev A_tile_width : Nat := 6
abbrev A_colors : Nat := 7
abbrev A_region : Nat := 8
abbrev A_shift : Nat := 9
abbrev A_table : Nat := 10
abbrev A_changed : Nat := 11
abbrev T_KERNELS : Nat := 0
def TD_KERNELS : List Bp.D := ([.str "short", .str "long"] : List Lit).map Lit.d
abbrev T_SIDES : Nat := 1
def TD_SIDES : List Bp.D := ([.int 4, .int 8] : List Lit).map Lit.d
def bd : Bd := fun i => bodyM D.G (D.ft i)
abbrev Cl (j : Nat) := (gmN bd j).call
theorem low_eq {j f : Nat} {vs : List Bp.D} {h : DH} : (gmN bd (j + 1)).low f vs h = Cl j f vs h := rfl
abbrev nT : Nat := 2
theorem I_NoneType_Options : isTy G.sub (none, "NoneType") (.cls C_Options) = some false := by decide +kernel
theorem I_bool_Options : isTy G.sub (none, "bool") (.cls C_Options) = some false := by decide +kernel
theorem I_int_Options : isTy G.sub (none, "int") (.cls C_Options) = some false := by decide +kernel
theorem I_str_Options : isTy G.sub (none, "str") (.cls C_Options) = some false := by decide +kernel
theorem I_tuple_Options : isTy G.sub (none, "tuple") (.cls C_Options) = some false := by decide +kernel
theorem I_list_Options : isTy G.sub (none, "list") (.cls C_Options) = some false := by decide +kernel
theorem I_dict_Options : isTy G.sub (none, "dict") (.cls C_Options) = some false := by decide +kernel
theorem I_Options_Options : isTy G.sub (some C_Options, "") (.cls C_Options) = some true := by decide +kernel
theorem I_NoneType_bool : isTy G.sub (none, "NoneType") (.ty "bool") = some false := by decide +kernel
theorem I_bool_bool : isTy G.sub (none, "bool") (.ty "bool") = some true := by decide +kernel
theorem I_int_bool : isTy G.sub (none, "int") (.ty "bool") = some false := by decide +kernel
theorem I_str_bool : isTy G.sub (none, "str") (.ty "bool") = some false := by decide +kernel
theorem I_tuple_bool : isTy G.sub (none, "tuple") (.ty "bool") = some false := by decide +kernel
theorem I_list_bool : isTy G.sub (none, "list") (.ty "bool") = some false := by decide +kernel
theorem I_dict_bool : isTy G.sub (none, "dict") (.ty "bool") = some false := by decide +kernel
theorem I_Options_bool : isTy G.sub (some C_Options, "") (.ty "bool") = some false := by decide +kernel
theorem I_NoneType_int : isTy G.sub (none, "NoneType") (.ty "int") = some false := by decide +kernel
theorem I_bool_int : isTy G.sub (none, "bool") (.ty "int") = some true := by decide +kernel
theorem I_int_int : isTy G.sub (none, "int") (.ty "int") = some true := by decide +kernel
theorem I_str_int : isTy G.sub (none, "str") (.ty "int") = some false := by decide +kernel
theorem I_tuple_int : isTy G.sub (none, "tuple") (.ty "int") = some false := by decide +kernel
theorem I_list_int : isTy G.sub (none, "list") (.ty "int") = some false := by decide +kernel
theorem I_dict_int : isTy G.sub (none, "dict") (.ty "int") = some false := by decide +kernel
theorem I_Options_int : isTy G.sub (some C_Options, "") (.ty "int") = some false := by decide +kernel
theorem I_NoneType_list : isTy G.sub (none, "NoneType") (.ty "list") = some false := by decide +kernel
theorem I_bool_list : isTy G.sub (none, "bool") (.ty "list") = some false := by decide +kernel
theorem I_int_list : isTy G.sub (none, "int") (.ty "list") = some false := by decide +kernel
theorem I_str_list : isTy G.sub (none, "str") (.ty "list") = some false := by decide +kernel
theorem I_tuple_list : isTy G.sub (none, "tuple") (.ty "list") = some false := by decide +kernel
theorem I_list_list : isTy G.sub (none, "list") (.ty "list") = some true := by decide +kernel
theorem I_dict_list : isTy G.sub (none, "dict") (.ty "list") = some false := by decide +kernel
theorem I_Options_list : isTy G.sub (some C_Options, "") (.ty "list") = some false := by decide +kernel
theorem I_NoneType_str : isTy G.sub (none, "NoneType") (.ty "str") = some false := by decide +kernel
theorem I_bool_str : isTy G.sub (none, "bool") (.ty "str") = some false := by decide +kernel
theorem I_int_str : isTy G.sub (none, "int") (.ty "str") = some false := by decide +kernel
theorem I_str_str : isTy G.sub (none, "str") (.ty "str") = some true := by decide +kernel
theorem I_tuple_str : isTy G.sub (none, "tuple") (.ty "str") = some false := by decide +kernel
theorem I_list_str : isTy G.sub (none, "list") (.ty "str") = some false := by decide +kernel
theorem I_dict_str : isTy G.sub (none, "dict") (.ty "str") = some false := by decide +kernel
theorem I_Options_str : isTy G.sub (some C_Options, "") (.ty "str") = some false := by decide +kernel
theorem I_NoneType_tuple : isTy G.sub (none, "NoneType") (.ty "tuple") = some false := by decide +kernel
theorem I_bool_tuple : isTy G.sub (none, "bool") (.ty "tuple") = some false := by decide +kernel
theorem I_int_tuple : isTy G.sub (none, "int") (.ty "tuple") = some false := by decide +kernel
theorem I_str_tuple : isTy G.sub (none, "str") (.ty "tuple") = some false := by decide +kernel
theorem I_tuple_tuple : isTy G.sub (none, "tuple") (.ty "tuple") = some true := by decide +kernel
theorem I_list_tuple : isTy G.sub (none, "list") (.ty "tuple") = some false := by decide +kernel
theorem I_dict_tuple : isTy G.sub (none, "dict") (.ty "tuple") = some false := by decide +kernel
theorem I_Options_tuple : isTy G.sub (some C_Options, "") (.ty "tuple") = some false := by decide +kernel
@[irreducible] def s_is_integer_0 : MS := sSeq (sRet (mAnd (mIsi G.sub [.ty "int"] (mVar 0)) (mNot (mIsi G.sub [.ty "bool"] (mVar 0))))) sNil
theorem c_is_integer : compSs fuel ⟨(D.ft F_is_integer).N, (D.ft F_is_integer).sc, true, D.G, noCells⟩ (D.ft F_is_integer).body = s_is_integer_0 := by kernel_rfl
theorem call_is_integer (j : Nat) (v0 : Bp.D) (h : DH) : Cl (j + 2) F_is_integer [v0] h = finish h (s_is_integer_0 (gmN bd (j + 1)) [some v0] h).out := by
  show bodyM D.G (D.ft F_is_integer) (gmN bd (j + 1)) [v0] h = _
  unfold bodyM
  rw [c_is_integer]
  rfl
@[irreducible] def s_is_in_0 : MS := sSeq (sRet (mAnd (mCall F_is_integer (aCons (mVar 0) aNil)) (mChain .LtE .LtE (mVar 1) (mVar 0) (mVar 2)))) sNil
theorem c_is_in : compSs fuel ⟨(D.ft F_is_in).N, (D.ft F_is_in).sc, true, D.G, noCells⟩ (D.ft F_is_in).body = s_is_in_0 := by kernel_rfl
theorem call_is_in (j : Nat) (v0 : Bp.D) (v1 : Bp.D) (v2 : Bp.D) (h : DH) : Cl (j + 2) F_is_in [v0, v1, v2] h = finish h (s_is_in_0 (gmN bd (j + 1)) [some v0, some v1, some v2] h).out := by
  show bodyM D.G (D.ft F_is_in) (gmN bd (j + 1)) [v0, v1, v2] h = _
  unfold bodyM
  rw [c_is_in]
  rfl
@[irreducible] def s_is_list_0 : MS := sSeq (sRet (mAnd (mIsi G.sub [.ty "tuple"] (mVar 0)) (mChain .LtE .LtE (mVar 1) (mBf .len (aCons (mVar 0) aNil)) (mVar 2)))) sNil
theorem c_is_list : compSs fuel ⟨(D.ft F_is_list).N, (D.ft F_is_list).sc, true, D.G, noCells⟩ (D.ft F_is_list).body = s_is_list_0 := by kernel_rfl
theorem call_is_list (j : Nat) (v0 : Bp.D) (v1 : Bp.D) (v2 : Bp.D) (h : DH) : Cl (j + 2) F_is_list [v0, v1, v2] h = finish h (s_is_list_0 (gmN bd (j + 1)) [some v0, some v1, some v2] h).out := by
  show bodyM D.G (D.ft F_is_list) (gmN bd (j + 1)) [v0, v1, v2] h = _
  unfold bodyM
  rw [c_is_list]
  rfl
@[irreducible] def s_are_cuts_3 : MS := sSeq (sRet (mK (.bl true))) sNil
@[irreducible] def s_are_cuts_5 : MS := sSeq (sAsg (mVar 2) (gPat (.nm 1))) sNil
@[irreducible] def s_are_cuts_6 : MS := sSeq (sRet (mK (.bl false))) sNil
@[irreducible] def s_are_cuts_4 : MS := sSeq (sIf (tNot (tOf (mCall F_is_in (aCons (mVar 2) (aCons (mK (.int 0)) (aCons (mVar 1) aNil)))))) (s_are_cuts_6) (sNil)) s_are_cuts_5
@[irreducible] def s_are_cuts_2 : MS := sSeq (sForV 0 (gPat (.nm 2)) (s_are_cuts_4)) s_are_cuts_3
@[irreducible] def s_are_cuts_1 : MS := sSeq (sAsg (mK (.int 94)) (gPat (.nm 1))) s_are_cuts_2
@[irreducible] def s_are_cuts_7 : MS := sSeq (sRet (mK (.bl false))) sNil
@[irreducible] def s_are_cuts_0 : MS := sSeq (sIf (tNot (tOf (mCall F_is_list (aCons (mVar 0) (aCons (mK (.int 1)) (aCons (mK (.int 4)) aNil)))))) (s_are_cuts_7) (sNil)) s_are_cuts_1
theorem c_are_cuts : compSs fuel ⟨(D.ft F_are_cuts).N, (D.ft F_are_cuts).sc, true, D.G, noCells⟩ (D.ft F_are_cuts).body = s_are_cuts_0 := by kernel_rfl
theorem call_are_cuts (j : Nat) (v0 : Bp.D) (h : DH) : Cl (j + 2) F_are_cuts [v0] h = finish h (s_are_cuts_0 (gmN bd (j + 1)) [some v0, none, none] h).out := by
  show bodyM D.G (D.ft F_are_cuts) (gmN bd (j + 1)) [v0] h = _
  unfold bodyM
  rw [c_are_cuts]
  rfl
@[irreducible] def s_is_order_1 : MS := sSeq (sRet (mCmp .Eq (mBf .sorted (aCons (mVar 0) aNil)) (mBf .sorted (aCons (mK (.str "tcrl")) aNil)))) sNil
@[irreducible] def s_is_order_2 : MS := sSeq (sRet (mK (.bl false))) sNil
@[irreducible] def s_is_order_0 : MS := sSeq (sIf (tOr (tNot (tOf (mIsi G.sub [.ty "str"] (mVar 0)))) (mCmp .NotEq (mBf .len (aCons (mVar 0) aNil)) (mBf .len (aCons (mK (.str "tcrl")) aNil)))) (s_is_order_2) (sNil)) s_is_order_1
theorem c_is_order : compSs fuel ⟨(D.ft F_is_order).N, (D.ft F_is_order).sc, true, D.G, noCells⟩ (D.ft F_is_order).body = s_is_order_0 := by kernel_rfl
theorem call_is_order (j : Nat) (v0 : Bp.D) (h : DH) : Cl (j + 2) F_is_order [v0] h = finish h (s_is_order_0 (gmN bd (j + 1)) [some v0] h).out := by
  show bodyM D.G (D.ft F_is_order) (gmN bd (j + 1)) [v0] h = _
  unfold bodyM
  rw [c_is_order]
  rfl
@[irreducible] def s_is_region_2 : MS := sSeq (sRet (mAnd (mCmp .Lt (mSub (mVar 0) (mK (.int 0))) (mSub (mVar 0) (mK (.int 2)))) (mCmp .Lt (mSub (mVar 0) (mK (.int 1))) (mSub (mVar 0) (mK (.int 3)))))) sNil
@[irreducible] def s_is_region_3 : MS := sSeq (sRet (mK (.bl false))) sNil
@[irreducible] def s_is_region_1 : MS := sSeq (sIf (tOr (tNot (tOf (mCall F_is_list (aCons (mVar 0) (aCons (mK (.int 4)) (aCons (mK (.int 4)) aNil)))))) (tNot (tOf (mBf .all (aCons (mLC (iVal (mVar 0)) [1] (.nm 1) (tYes) (mCall F_is_in (aCons (mVar 1) (aCons (mK (.int 0)) (aCons (mK (.int 100)) aNil))))) aNil))))) (s_is_region_3) (sNil)) s_is_region_2
@[irreducible] def s_is_region_4 : MS := sSeq (sRet (mK (.bl true))) sNil
@[irreducible] def s_is_region_0 : MS := sSeq (sIf (mCmp .Is (mVar 0) (mK .non)) (s_is_region_4) (sNil)) s_is_region_1
theorem c_is_region : compSs fuel ⟨(D.ft F_is_region).N, (D.ft F_is_region).sc, true, D.G, noCells⟩ (D.ft F_is_region).body = s_is_region_0 := by kernel_rfl
theorem call_is_region (j : Nat) (v0 : Bp.D) (h : DH) : Cl (j + 2) F_is_region [v0] h = finish h (s_is_region_0 (gmN bd (j + 1)) [some v0, none] h).out := by
  show bodyM D.G (D.ft F_is_region) (gmN bd (j + 1)) [v0] h = _
  unfold bodyM
  rw [c_is_region]
  rfl
@[irreducible] def s_is_known_0 : MS := sSeq (sRet (mAnd (mIsi G.sub [.ty "str"] (mVar 0)) (mCmp .In (mVar 0) (mVar 1)))) sNil
theorem c_is_known : compSs fuel ⟨(D.ft F_is_known).N, (D.ft F_is_known).sc, true, D.G, noCells⟩ (D.ft F_is_known).body = s_is_known_0 := by kernel_rfl
theorem call_is_known (j : Nat) (v0 : Bp.D) (v1 : Bp.D) (h : DH) : Cl (j + 2) F_is_known [v0, v1] h = finish h (s_is_known_0 (gmN bd (j + 1)) [some v0, some v1] h).out := by
  show bodyM D.G (D.ft F_is_known) (gmN bd (j + 1)) [v0, v1] h = _
  unfold bodyM
  rw [c_is_known]
  rfl
@[irreducible] def s_first_bad_2 : MS := sSeq (sRet (mK .non)) sNil
@[irreducible] def s_first_bad_4 : MS := sSeq (sRet (mVar 2)) sNil
@[irreducible] def s_first_bad_3 : MS := sSeq (sIf (tNot (tOf (mVar 3))) (s_first_bad_4) (sNil)) sNil
@[irreducible] def s_first_bad_1 : MS := sSeq (sForV 1 (gPat (.tp [.nm 2, .nm 3])) (s_first_bad_3)) s_first_bad_2
@[irreducible] def s_first_bad_0 : MS := sSeq (sAsg (mLst (aCons (mTup (aCons (mK (.str "kernel")) (aCons (mCall F_is_known (aCons (mSub (mVar 0) (mK (.str "kernel"))) (aCons (mK (.ref T_KERNELS)) aNil))) aNil))) (aCons (mTup (aCons (mK (.str "levels")) (aCons (mCall F_is_in (aCons (mSub (mVar 0) (mK (.str "levels"))) (aCons (mK (.int 0)) (aCons (mK (.int 3)) aNil)))) aNil))) (aCons (mTup (aCons (mK (.str "side")) (aCons (mAnd (mCall F_is_in (aCons (mSub (mVar 0) (mK (.str "side"))) (aCons (mK (.int 4)) (aCons (mK (.int 8)) aNil)))) (mCmp .In (mSub (mVar 0) (mK (.str "side"))) (mK (.ref T_SIDES)))) aNil))) (aCons (mTup (aCons (mK (.str "cuts")) (aCons (mCall F_are_cuts (aCons (mSub (mVar 0) (mK (.str "cuts"))) aNil)) aNil))) (aCons (mTup (aCons (mK (.str "order")) (aCons (mCall F_is_order (aCons (mSub (mVar 0) (mK (.str "order"))) aNil)) aNil))) (aCons (mTup (aCons (mK (.str "tile_height")) (aCons (mCall F_is_in (aCons (mSub (mVar 0) (mK (.str "tile_height"))) (aCons (mK (.int 1)) (aCons (mK (.int 16)) aNil)))) aNil))) (aCons (mTup (aCons (mK (.str "tile_width")) (aCons (mCall F_is_in (aCons (mSub (mVar 0) (mK (.str "tile_width"))) (aCons (mK (.int 1)) (aCons (mK (.int 16)) aNil)))) aNil))) (aCons (mTup (aCons (mK (.str "colors")) (aCons (mIsi G.sub [.ty "bool"] (mSub (mVar 0) (mK (.str "colors")))) aNil))) (aCons (mTup (aCons (mK (.str "region")) (aCons (mCall F_is_region (aCons (mSub (mVar 0) (mK (.str "region"))) aNil)) aNil))) (aCons (mTup (aCons (mK (.str "shift")) (aCons (mCall F_is_in (aCons (mSub (mVar 0) (mK (.str "shift"))) (aCons (mK (.int 0)) (aCons (mK (.int 16)) aNil)))) aNil))) aNil))))))))))) (gPat (.nm 1))) s_first_bad_1
theorem c_first_bad : compSs fuel ⟨(D.ft F_first_bad).N, (D.ft F_first_bad).sc, true, D.G, noCells⟩ (D.ft F_first_bad).body = s_first_bad_0 := by kernel_rfl
theorem call_first_bad (j : Nat) (v0 : Bp.D) (h : DH) : Cl (j + 2) F_first_bad [v0] h = finish h (s_first_bad_0 (gmN bd (j + 1)) [some v0, none, none, none] h).out := by
  show bodyM D.G (D.ft F_first_bad) (gmN bd (j + 1)) [v0] h = _
  unfold bodyM
  rw [c_first_bad]
  rfl
@[irreducible] def s_Options_init_5 : MS := sSeq (sAsg (mVar 11) (gAttr C_Options A_table (mVar 0))) sNil
@[irreducible] def s_Options_init_6 : MS := sSeq (sBad) sNil
@[irreducible] def s_Options_init_4 : MS := sSeq (sIf (mCmp .IsNot (mVar 12) (mK .non)) (s_Options_init_6) (sNil)) s_Options_init_5
@[irreducible] def s_Options_init_3 : MS := sSeq (sAsg (mCall F_first_bad (aCons (mVar 11) aNil)) (gPat (.nm 12))) s_Options_init_4
@[irreducible] def s_Options_init_2 : MS := sSeq (sExpr (mMf .update (mVar 11) (aCons (mDict ["region", "shift"] [mVar 9, mVar 10]) aNil))) s_Options_init_3
@[irreducible] def s_Options_init_1 : MS := sSeq (sExpr (mMf .update (mVar 11) (aCons (mDict ["tile_height", "tile_width", "colors"] [mVar 6, mVar 7, mVar 8]) aNil))) s_Options_init_2
@[irreducible] def s_Options_init_0 : MS := sSeq (sAsg (mDict ["kernel", "levels", "side", "cuts", "order"] [mVar 1, mVar 2, mVar 3, mVar 4, mVar 5]) (gPat (.nm 11))) s_Options_init_1
theorem c_Options_init : compSs fuel ⟨(D.ft F_Options_init).N, (D.ft F_Options_init).sc, true, D.G, noCells⟩ (D.ft F_Options_init).body = s_Options_init_0 := by kernel_rfl
theorem call_Options_init (j : Nat) (v0 : Bp.D) (v1 : Bp.D) (v2 : Bp.D) (v3 : Bp.D) (v4 : Bp.D) (v5 : Bp.D) (v6 : Bp.D) (v7 : Bp.D) (v8 : Bp.D) (v9 : Bp.D) (v10 : Bp.D) (h : DH) : Cl (j + 2) F_Options_init [v0, v1, v2, v3, v4, v5, v6, v7, v8, v9, v10] h = finish h (s_Options_init_0 (gmN bd (j + 1)) [some v0, some v1, some v2, some v3, some v4, some v5, some v6, some v7, some v8, some v9, some v10, none, none] h).out := by
  show bodyM D.G (D.ft F_Options_init) (gmN bd (j + 1)) [v0, v1, v2, v3, v4, v5, v6, v7, v8, v9, v10] h = _
  unfold bodyM
  rw [c_Options_init]
  rfl
@[irreducible] def s_Options_kernel_0 : MS := sSeq (sRet (mSub (mAttr [] [C_Options] A_table (mVar 0)) (mK (.str "kernel")))) sNil
theorem c_Options_kernel : compSs fuel ⟨(D.ft F_Options_kernel).N, (D.ft F_Options_kernel).sc, true, D.G, noCells⟩ (D.ft F_Options_kernel).body = s_Options_kernel_0 := by kernel_rfl
theorem call_Options_kernel (j : Nat) (v0 : Bp.D) (h : DH) : Cl (j + 2) F_Options_kernel [v0] h = finish h (s_Options_kernel_0 (gmN bd (j + 1)) [some v0] h).out := by
  show bodyM D.G (D.ft F_Options_kernel) (gmN bd (j + 1)) [v0] h = _
  unfold bodyM
  rw [c_Options_kernel]
  rfl
@[irreducible] def s_Options_levels_0 : MS := sSeq (sRet (mSub (mAttr [] [C_Options] A_table (mVar 0)) (mK (.str "levels")))) sNil
theorem c_Options_levels : compSs fuel ⟨(D.ft F_Options_levels).N, (D.ft F_Options_levels).sc, true, D.G, noCells⟩ (D.ft F_Options_levels).body = s_Options_levels_0 := by kernel_rfl
theorem call_Options_levels (j : Nat) (v0 : Bp.D) (h : DH) : Cl (j + 2) F_Options_levels [v0] h = finish h (s_Options_levels_0 (gmN bd (j + 1)) [some v0] h).out := by
  show bodyM D.G (D.ft F_Options_levels) (gmN bd (j + 1)) [v0] h = _
  unfold bodyM
  rw [c_Options_levels]
  rfl
@[irreducible] def s_Options_side_0 : MS := sSeq (sRet (mSub (mAttr [] [C_Options] A_table (mVar 0)) (mK (.str "side")))) sNil
theorem c_Options_side : compSs fuel ⟨(D.ft F_Options_side).N, (D.ft F_Options_side).sc, true, D.G, noCells⟩ (D.ft F_Options_side).body = s_Options_side_0 := by kernel_rfl
theorem call_Options_side (j : Nat) (v0 : Bp.D) (h : DH) : Cl (j + 2) F_Options_side [v0] h = finish h (s_Options_side_0 (gmN bd (j + 1)) [some v0] h).out := by
  show bodyM D.G (D.ft F_Options_side) (gmN bd (j + 1)) [v0] h = _
  unfold bodyM
  rw [c_Options_side]
  rfl
@[irreducible] def s_Options_cuts_0 : MS := sSeq (sRet (mSub (mAttr [] [C_Options] A_table (mVar 0)) (mK (.str "cuts")))) sNil
theorem c_Options_cuts : compSs fuel ⟨(D.ft F_Options_cuts).N, (D.ft F_Options_cuts).sc, true, D.G, noCells⟩ (D.ft F_Options_cuts).body = s_Options_cuts_0 := by kernel_rfl
theorem call_Options_cuts (j : Nat) (v0 : Bp.D) (h : DH) : Cl (j + 2) F_Options_cuts [v0] h = finish h (s_Options_cuts_0 (gmN bd (j + 1)) [some v0] h).out := by
  show bodyM D.G (D.ft F_Options_cuts) (gmN bd (j + 1)) [v0] h = _
  unfold bodyM
  rw [c_Options_cuts]
  rfl
@[irreducible] def s_Options_order_0 : MS := sSeq (sRet (mSub (mAttr [] [C_Options] A_table (mVar 0)) (mK (.str "order")))) sNil
theorem c_Options_order : compSs fuel ⟨(D.ft F_Options_order).N, (D.ft F_Options_order).sc, true, D.G, noCells⟩ (D.ft F_Options_order).body = s_Options_order_0 := by kernel_rfl
theorem call_Options_order (j : Nat) (v0 : Bp.D) (h : DH) : Cl (j + 2) F_Options_order [v0] h = finish h (s_Options_order_0 (gmN bd (j + 1)) [some v0] h).out := by
  show bodyM D.G (D.ft F_Options_order) (gmN bd (j + 1)) [v0] h = _
  unfold bodyM
  rw [c_Options_order]
  rfl
@[irreducible] def s_Options_tile_height_0 : MS := sSeq (sRet (mSub (mAttr [] [C_Options] A_table (mVar 0)) (mK (.str "tile_height")))) sNil
theorem c_Options_tile_height : compSs fuel ⟨(D.ft F_Options_tile_height).N, (D.ft F_Options_tile_height).sc, true, D.G, noCells⟩ (D.ft F_Options_tile_height).body = s_Options_tile_height_0 := by kernel_rfl
theorem call_Options_tile_height (j : Nat) (v0 : Bp.D) (h : DH) : Cl (j + 2) F_Options_tile_height [v0] h = finish h (s_Options_tile_height_0 (gmN bd (j + 1)) [some v0] h).out := by
  show bodyM D.G (D.ft F_Options_tile_height) (gmN bd (j + 1)) [v0] h = _
  unfold bodyM
  rw [c_Options_tile_height]
  rfl
@[irreducible] def s_Options_tile_width_0 : MS := sSeq (sRet (mSub (mAttr [] [C_Options] A_table (mVar 0)) (mK (.str "tile_width")))) sNil
theorem c_Options_tile_width : compSs fuel ⟨(D.ft F_Options_tile_width).N, (D.ft F_Options_tile_width).sc, true, D.G, noCells⟩ (D.ft F_Options_tile_width).body = s_Options_tile_width_0 := by kernel_rfl
theorem call_Options_tile_width (j : Nat) (v0 : Bp.D) (h : DH) : Cl (j + 2) F_Options_tile_width [v0] h = finish h (s_Options_tile_width_0 (gmN bd (j + 1)) [some v0] h).out := by
  show bodyM D.G (D.ft F_Options_tile_width) (gmN bd (j + 1)) [v0] h = _
  unfold bodyM
  rw [c_Options_tile_width]
  rfl
@[irreducible] def s_Options_colors_0 : MS := sSeq (sRet (mSub (mAttr [] [C_Options] A_table (mVar 0)) (mK (.str "colors")))) sNil
theorem c_Options_colors : compSs fuel ⟨(D.ft F_Options_colors).N, (D.ft F_Options_colors).sc, true, D.G, noCells⟩ (D.ft F_Options_colors).body = s_Options_colors_0 := by kernel_rfl
theorem call_Options_colors (j : Nat) (v0 : Bp.D) (h : DH) : Cl (j + 2) F_Options_colors [v0] h = finish h (s_Options_colors_0 (gmN bd (j + 1)) [some v0] h).out := by
  show bodyM D.G (D.ft F_Options_colors) (gmN bd (j + 1)) [v0] h = _
  unfold bodyM
  rw [c_Options_colors]
  rfl
@[irreducible] def s_Options_region_0 : MS := sSeq (sRet (mSub (mAttr [] [C_Options] A_table (mVar 0)) (mK (.str "region")))) sNil
theorem c_Options_region : compSs fuel ⟨(D.ft F_Options_region).N, (D.ft F_Options_region).sc, true, D.G, noCells⟩ (D.ft F_Options_region).body = s_Options_region_0 := by kernel_rfl
theorem call_Options_region (j : Nat) (v0 : Bp.D) (h : DH) : Cl (j + 2) F_Options_region [v0] h = finish h (s_Options_region_0 (gmN bd (j + 1)) [some v0] h).out := by
  show bodyM D.G (D.ft F_Options_region) (gmN bd (j + 1)) [v0] h = _
  unfold bodyM
  rw [c_Options_region]
  rfl
@[irreducible] def s_Options_shift_0 : MS := sSeq (sRet (mSub (mAttr [] [C_Options] A_table (mVar 0)) (mK (.str "shift")))) sNil
theorem c_Options_shift : compSs fuel ⟨(D.ft F_Options_shift).N, (D.ft F_Options_shift).sc, true, D.G, noCells⟩ (D.ft F_Options_shift).body = s_Options_shift_0 := by kernel_rfl
theorem call_Options_shift (j : Nat) (v0 : Bp.D) (h : DH) : Cl (j + 2) F_Options_shift [v0] h = finish h (s_Options_shift_0 (gmN bd (j + 1)) [some v0] h).out := by
  show bodyM D.G (D.ft F_Options_shift) (gmN bd (j + 1)) [v0] h = _
  unfold bodyM
  rw [c_Options_shift]
  rfl
@[irreducible] def s_Options_eq_0 : MS := sSeq (sRet (mAnd (mIsi G.sub [.cls C_Options] (mVar 1)) (mCmp .Eq (mAttr [] [C_Options] A_table (mVar 0)) (mAttr [] [C_Options] A_table (mVar 1))))) sNil
theorem c_Options_eq : compSs fuel ⟨(D.ft F_Options_eq).N, (D.ft F_Options_eq).sc, true, D.G, noCells⟩ (D.ft F_Options_eq).body = s_Options_eq_0 := by kernel_rfl
theorem call_Options_eq (j : Nat) (v0 : Bp.D) (v1 : Bp.D) (h : DH) : Cl (j + 2) F_Options_eq [v0, v1] h = finish h (s_Options_eq_0 (gmN bd (j + 1)) [some v0, some v1] h).out := by
  show bodyM D.G (D.ft F_Options_eq) (gmN bd (j + 1)) [v0, v1] h = _
  unfold bodyM
  rw [c_Options_eq]
  rfl
@[irreducible] def s_Options_changed_3 : MS := sSeq (sRet (mMakeS C_Options F_Options_init ["kernel", "levels", "side", "cuts", "order", "tile_height", "tile_width", "colors", "region", "shift"] [.k 0, .k 1, .k 2, .k 3, .k 4, .k 5, .k 6, .k 7, .k 8, .k 9] 2)) sNil
@[irreducible] def s_Options_changed_2 : MS := sSeq (sExpr (mMf .update (mVar 2) (aCons (mVar 1) aNil))) s_Options_changed_3
@[irreducible] def s_Options_changed_5 : MS := sSeq (sBad) sNil
@[irreducible] def s_Options_changed_4 : MS := sSeq (sIf (mCmp .NotIn (mVar 3) (mVar 2)) (s_Options_changed_5) (sNil)) sNil
@[irreducible] def s_Options_changed_1 : MS := sSeq (sForV 1 (gPat (.nm 3)) (s_Options_changed_4)) s_Options_changed_2
@[irreducible] def s_Options_changed_0 : MS := sSeq (sAsg (mBf .dict (aCons (mAttr [] [C_Options] A_table (mVar 0)) aNil)) (gPat (.nm 2))) s_Options_changed_1
theorem c_Options_changed : compSs fuel ⟨(D.ft F_Options_changed).N, (D.ft F_Options_changed).sc, true, D.G, noCells⟩ (D.ft F_Options_changed).body = s_Options_changed_0 := by kernel_rfl
theorem call_Options_changed (j : Nat) (v0 : Bp.D) (v1 : Bp.D) (h : DH) : Cl (j + 2) F_Options_changed [v0, v1] h = finish h (s_Options_changed_0 (gmN bd (j + 1)) [some v0, some v1, none, none] h).out := by
  show bodyM D.G (D.ft F_Options_changed) (gmN bd (j + 1)) [v0, v1] h = _
  unfold bodyM
  rw [c_Options_changed]
  rfl
@[irreducible] def s_need_options_1 : MS := sSeq (sBad) sNil
@[irreducible] def s_need_options_0 : MS := sSeq (sIf (tNot (tOf (mIsi G.sub [.cls C_Options] (mVar 0)))) (s_need_options_1) (sNil)) sNil
theorem c_need_options : compSs fuel ⟨(D.ft F_need_options).N, (D.ft F_need_options).sc, true, D.G, noCells⟩ (D.ft F_need_options).body = s_need_options_0 := by kernel_rfl
theorem call_need_options (j : Nat) (v0 : Bp.D) (h : DH) : Cl (j + 2) F_need_options [v0] h = finish h (s_need_options_0 (gmN bd (j + 1)) [some v0] h).out := by
  show bodyM D.G (D.ft F_need_options) (gmN bd (j + 1)) [v0] h = _
  unfold bodyM
  rw [c_need_options]
  rfl
@[irreducible] def s_need_frame_3 : MS := sSeq (sBad) sNil
@[irreducible] def s_need_frame_2 : MS := sSeq (sIf (tNot (tOf (mCall F_is_in (aCons (mSub (mVar 0) (mK (.int 4))) (aCons (mK (.int 1)) (aCons (mK (.int 3)) aNil)))))) (s_need_frame_3) (sNil)) sNil
@[irreducible] def s_need_frame_5 : MS := sSeq (sBad) sNil
@[irreducible] def s_need_frame_4 : MS := sSeq (sIf (tNot (tOf (mCall F_is_in (aCons (mSub (mVar 0) (mBin .Add (mK (.int 2)) (mVar 1))) (aCons (mK (.int 1)) (aCons (mBf .min2 (aCons (mK (.int 16)) (aCons (mBin .Sub (mK (.int 100)) (mSub (mVar 0) (mVar 1))) aNil))) aNil)))))) (s_need_frame_5) (sNil)) sNil
@[irreducible] def s_need_frame_1 : MS := sSeq (sFor (iVal (mTup (aCons (mK (.int 0)) (aCons (mK (.int 1)) aNil)))) (gPat (.nm 1)) (s_need_frame_4)) s_need_frame_2
@[irreducible] def s_need_frame_6 : MS := sSeq (sBad) sNil
@[irreducible] def s_need_frame_0 : MS := sSeq (sIf (tOr (tNot (tOf (mCall F_is_list (aCons (mVar 0) (aCons (mK (.int 5)) (aCons (mK (.int 5)) aNil)))))) (tNot (tOf (mBf .all (aCons (mLC (iVal (mSlice (mVar 0) (pNone) (pSome (mK (.int 2))))) [2] (.nm 2) (tYes) (mCall F_is_in (aCons (mVar 2) (aCons (mK (.int 0)) (aCons (mBin .Sub (mK (.int 100)) (mK (.int 1))) aNil))))) aNil))))) (s_need_frame_6) (sNil)) s_need_frame_1
theorem c_need_frame : compSs fuel ⟨(D.ft F_need_frame).N, (D.ft F_need_frame).sc, true, D.G, noCells⟩ (D.ft F_need_frame).body = s_need_frame_0 := by kernel_rfl
theorem call_need_frame (j : Nat) (v0 : Bp.D) (h : DH) : Cl (j + 2) F_need_frame [v0] h = finish h (s_need_frame_0 (gmN bd (j + 1)) [some v0, none, none] h).out := by
  show bodyM D.G (D.ft F_need_frame) (gmN bd (j + 1)) [v0] h = _
  unfold bodyM
  rw [c_need_frame]
  rfl
@[irreducible] def s_is_span_0 : MS := sSeq (sRet (mAnd (mCall F_is_list (aCons (mVar 0) (aCons (mK (.int 2)) (aCons (mK (.int 2)) aNil)))) (mAnd (mCall F_is_in (aCons (mSub (mVar 0) (mK (.int 0))) (aCons (mNeg (mK (.int 1000))) (aCons (mK (.int 1000)) aNil)))) (mCall F_is_in (aCons (mSub (mVar 0) (mK (.int 1))) (aCons (mSub (mVar 0) (mK (.int 0))) (aCons (mK (.int 1000)) aNil))))))) sNil
theorem c_is_span : compSs fuel ⟨(D.ft F_is_span).N, (D.ft F_is_span).sc, true, D.G, noCells⟩ (D.ft F_is_span).body = s_is_span_0 := by kernel_rfl
theorem call_is_span (j : Nat) (v0 : Bp.D) (h : DH) : Cl (j + 2) F_is_span [v0] h = finish h (s_is_span_0 (gmN bd (j + 1)) [some v0] h).out := by
  show bodyM D.G (D.ft F_is_span) (gmN bd (j + 1)) [v0] h = _
  unfold bodyM
  rw [c_is_span]
  rfl
@[irreducible] def s_need_span_1 : MS := sSeq (sBad) sNil
@[irreducible] def s_need_span_0 : MS := sSeq (sIf (tNot (tOf (mCall F_is_span (aCons (mVar 0) aNil)))) (s_need_span_1) (sNil)) sNil
theorem c_need_span : compSs fuel ⟨(D.ft F_need_span).N, (D.ft F_need_span).sc, true, D.G, noCells⟩ (D.ft F_need_span).body = s_need_span_0 := by kernel_rfl
theorem call_need_span (j : Nat) (v0 : Bp.D) (h : DH) : Cl (j + 2) F_need_span [v0] h = finish h (s_need_span_0 (gmN bd (j + 1)) [some v0] h).out := by
  show bodyM D.G (D.ft F_need_span) (gmN bd (j + 1)) [v0] h = _
  unfold bodyM
  rw [c_need_span]
  rfl
@[irreducible] def s_low_start_0 : MS := sSeq (sRet (mBin .FloorDiv (mBin .Add (mVar 0) (mK (.int 1))) (mK (.int 2)))) sNil
theorem c_low_start : compSs fuel ⟨(D.ft F_low_start).N, (D.ft F_low_start).sc, true, D.G, noCells⟩ (D.ft F_low_start).body = s_low_start_0 := by kernel_rfl
theorem call_low_start (j : Nat) (v0 : Bp.D) (h : DH) : Cl (j + 2) F_low_start [v0] h = finish h (s_low_start_0 (gmN bd (j + 1)) [some v0] h).out := by
  show bodyM D.G (D.ft F_low_start) (gmN bd (j + 1)) [v0] h = _
  unfold bodyM
  rw [c_low_start]
  rfl
@[irreducible] def s_high_start_0 : MS := sSeq (sRet (mBin .FloorDiv (mVar 0) (mK (.int 2)))) sNil
theorem c_high_start : compSs fuel ⟨(D.ft F_high_start).N, (D.ft F_high_start).sc, true, D.G, noCells⟩ (D.ft F_high_start).body = s_high_start_0 := by kernel_rfl
theorem call_high_start (j : Nat) (v0 : Bp.D) (h : DH) : Cl (j + 2) F_high_start [v0] h = finish h (s_high_start_0 (gmN bd (j + 1)) [some v0] h).out := by
  show bodyM D.G (D.ft F_high_start) (gmN bd (j + 1)) [v0] h = _
  unfold bodyM
  rw [c_high_start]
  rfl
@[irreducible] def s_low_span_1 : MS := sSeq (sRet (mTup (aCons (mCall F_low_start (aCons (mSub (mVar 0) (mK (.int 0))) aNil)) (aCons (mCall F_low_start (aCons (mSub (mVar 0) (mK (.int 1))) aNil)) aNil)))) sNil
@[irreducible] def s_low_span_0 : MS := sSeq (sExpr (mCall F_need_span (aCons (mVar 0) aNil))) s_low_span_1
theorem c_low_span : compSs fuel ⟨(D.ft F_low_span).N, (D.ft F_low_span).sc, true, D.G, noCells⟩ (D.ft F_low_span).body = s_low_span_0 := by kernel_rfl
theorem call_low_span (j : Nat) (v0 : Bp.D) (h : DH) : Cl (j + 2) F_low_span [v0] h = finish h (s_low_span_0 (gmN bd (j + 1)) [some v0] h).out := by
  show bodyM D.G (D.ft F_low_span) (gmN bd (j + 1)) [v0] h = _
  unfold bodyM
  rw [c_low_span]
  rfl
@[irreducible] def s_high_span_1 : MS := sSeq (sRet (mTup (aCons (mCall F_high_start (aCons (mSub (mVar 0) (mK (.int 0))) aNil)) (aCons (mCall F_high_start (aCons (mSub (mVar 0) (mK (.int 1))) aNil)) aNil)))) sNil
@[irreducible] def s_high_span_0 : MS := sSeq (sExpr (mCall F_need_span (aCons (mVar 0) aNil))) s_high_span_1
theorem c_high_span : compSs fuel ⟨(D.ft F_high_span).N, (D.ft F_high_span).sc, true, D.G, noCells⟩ (D.ft F_high_span).body = s_high_span_0 := by kernel_rfl
theorem call_high_span (j : Nat) (v0 : Bp.D) (h : DH) : Cl (j + 2) F_high_span [v0] h = finish h (s_high_span_0 (gmN bd (j + 1)) [some v0] h).out := by
  show bodyM D.G (D.ft F_high_span) (gmN bd (j + 1)) [v0] h = _
  unfold bodyM
  rw [c_high_span]
  rfl
@[irreducible] def s_low_span_after_3 : MS := sSeq (sRet (mVar 0)) sNil
@[irreducible] def s_low_span_after_4 : MS := sSeq (sAsg (mCall F_low_span (aCons (mVar 0) aNil)) (gPat (.nm 0))) sNil
@[irreducible] def s_low_span_after_2 : MS := sSeq (sFor (iRange (aCons (mVar 1) aNil)) (gPat (.nm 2)) (s_low_span_after_4)) s_low_span_after_3
@[irreducible] def s_low_span_after_5 : MS := sSeq (sBad) sNil
@[irreducible] def s_low_span_after_1 : MS := sSeq (sIf (tNot (tOf (mCall F_is_in (aCons (mVar 1) (aCons (mK (.int 0)) (aCons (mK (.int 10)) aNil)))))) (s_low_span_after_5) (sNil)) s_low_span_after_2
@[irreducible] def s_low_span_after_0 : MS := sSeq (sExpr (mCall F_need_span (aCons (mVar 0) aNil))) s_low_span_after_1
theorem c_low_span_after : compSs fuel ⟨(D.ft F_low_span_after).N, (D.ft F_low_span_after).sc, true, D.G, noCells⟩ (D.ft F_low_span_after).body = s_low_span_after_0 := by kernel_rfl
theorem call_low_span_after (j : Nat) (v0 : Bp.D) (v1 : Bp.D) (h : DH) : Cl (j + 2) F_low_span_after [v0, v1] h = finish h (s_low_span_after_0 (gmN bd (j + 1)) [some v0, some v1, none] h).out := by
  show bodyM D.G (D.ft F_low_span_after) (gmN bd (j + 1)) [v0, v1] h = _
  unfold bodyM
  rw [c_low_span_after]
  rfl
@[irreducible] def s_pieces_1 : MS := sSeq (sRet (mLC (iRange (aCons (mBin .FloorDiv (mVar 0) (mVar 2)) (aCons (mBin .Add (mBin .FloorDiv (mBin .Sub (mVar 1) (mK (.int 1))) (mVar 2)) (mK (.int 1))) aNil))) [3] (.nm 3) (tYes) (mTup (aCons (mBf .max2 (aCons (mVar 0) (aCons (mBin .Mult (mVar 3) (mVar 2)) aNil))) (aCons (mBf .min2 (aCons (mVar 1) (aCons (mBin .Add (mBin .Mult (mVar 3) (mVar 2)) (mVar 2)) aNil))) aNil))))) sNil
@[irreducible] def s_pieces_2 : MS := sSeq (sRet (mLst (aNil))) sNil
@[irreducible] def s_pieces_0 : MS := sSeq (sIf (mCmp .Eq (mVar 0) (mVar 1)) (s_pieces_2) (sNil)) s_pieces_1
theorem c_pieces : compSs fuel ⟨(D.ft F_pieces).N, (D.ft F_pieces).sc, true, D.G, noCells⟩ (D.ft F_pieces).body = s_pieces_0 := by kernel_rfl
theorem call_pieces (j : Nat) (v0 : Bp.D) (v1 : Bp.D) (v2 : Bp.D) (h : DH) : Cl (j + 2) F_pieces [v0, v1, v2] h = finish h (s_pieces_0 (gmN bd (j + 1)) [some v0, some v1, some v2, none] h).out := by
  show bodyM D.G (D.ft F_pieces) (gmN bd (j + 1)) [v0, v1, v2] h = _
  unfold bodyM
  rw [c_pieces]
  rfl
@[irreducible] def s_rectangles_2 : MS := sSeq (sRet (mVar 5)) sNil
@[irreducible] def s_rectangles_4 : MS := sSeq (sExpr (mMf .append (mVar 5) (aCons (mTup (aCons (mVar 6) (aCons (mVar 8) (aCons (mBin .Sub (mVar 7) (mVar 6)) (aCons (mBin .Sub (mVar 9) (mVar 8)) aNil))))) aNil))) sNil
@[irreducible] def s_rectangles_3 : MS := sSeq (sFor (iVal (mCall F_pieces (aCons (mVar 1) (aCons (mBin .Add (mVar 1) (mVar 3)) (aCons (mSub (mVar 4) (mK (.int 1))) aNil))))) (gPat (.tp [.nm 8, .nm 9])) (s_rectangles_4)) sNil
@[irreducible] def s_rectangles_1 : MS := sSeq (sFor (iVal (mCall F_pieces (aCons (mVar 0) (aCons (mBin .Add (mVar 0) (mVar 2)) (aCons (mSub (mVar 4) (mK (.int 0))) aNil))))) (gPat (.tp [.nm 6, .nm 7])) (s_rectangles_3)) s_rectangles_2
@[irreducible] def s_rectangles_0 : MS := sSeq (sAsg (mLst (aNil)) (gPat (.nm 5))) s_rectangles_1
theorem c_rectangles : compSs fuel ⟨(D.ft F_rectangles).N, (D.ft F_rectangles).sc, true, D.G, noCells⟩ (D.ft F_rectangles).body = s_rectangles_0 := by kernel_rfl
theorem call_rectangles (j : Nat) (v0 : Bp.D) (v1 : Bp.D) (v2 : Bp.D) (v3 : Bp.D) (v4 : Bp.D) (h : DH) : Cl (j + 2) F_rectangles [v0, v1, v2, v3, v4] h = finish h (s_rectangles_0 (gmN bd (j + 1)) [some v0, some v1, some v2, some v3, some v4, none, none, none, none, none] h).out := by
  show bodyM D.G (D.ft F_rectangles) (gmN bd (j + 1)) [v0, v1, v2, v3, v4] h = _
  unfold bodyM
  rw [c_rectangles]
  rfl
@[irreducible] def s_tiles_in_1 : MS := sSeq (sRet (mCall F_rectangles (aCons (mVar 2) (aCons (mVar 3) (aCons (mVar 4) (aCons (mVar 5) (aCons (mTup (aCons (mAttr [(C_Options, F_Options_tile_height)] [] A_tile_height (mVar 1)) (aCons (mAttr [(C_Options, F_Options_tile_width)] [] A_tile_width (mVar 1)) aNil))) aNil))))))) sNil
@[irreducible] def s_tiles_in_0 : MS := sSeq (sAsg (mVar 0) (gPat (.tp [.nm 2, .nm 3, .nm 4, .nm 5, .nm 6]))) s_tiles_in_1
theorem c_tiles_in : compSs fuel ⟨(D.ft F_tiles_in).N, (D.ft F_tiles_in).sc, true, D.G, noCells⟩ (D.ft F_tiles_in).body = s_tiles_in_0 := by kernel_rfl
theorem call_tiles_in (j : Nat) (v0 : Bp.D) (v1 : Bp.D) (h : DH) : Cl (j + 2) F_tiles_in [v0, v1] h = finish h (s_tiles_in_0 (gmN bd (j + 1)) [some v0, some v1, none, none, none, none, none] h).out := by
  show bodyM D.G (D.ft F_tiles_in) (gmN bd (j + 1)) [v0, v1] h = _
  unfold bodyM
  rw [c_tiles_in]
  rfl
@[irreducible] def s_bands_in_2 : MS := sSeq (sRet (mLC (iVal (mVar 5)) [6, 7] (.tp [.nm 6, .nm 7]) (tYes) (mTup (aCons (mSub (mVar 6) (mK (.int 0))) (aCons (mSub (mVar 7) (mK (.int 0))) (aCons (mBin .Sub (mSub (mVar 6) (mK (.int 1))) (mSub (mVar 6) (mK (.int 0)))) (aCons (mBin .Sub (mSub (mVar 7) (mK (.int 1))) (mSub (mVar 7) (mK (.int 0)))) aNil))))))) sNil
@[irreducible] def s_bands_in_3 : MS := sSeq (sAsg (mLst (aCons (mTup (aCons (mCall F_low_span_after (aCons (mVar 3) (aCons (mVar 1) aNil))) (aCons (mCall F_low_span_after (aCons (mVar 4) (aCons (mVar 1) aNil))) aNil))) aNil)) (gPat (.nm 5))) sNil
@[irreducible] def s_bands_in_6 : MS := sSeq (sExpr (mMf .append (mVar 5) (aCons (mTup (aCons (mCall F_high_span (aCons (mVar 3) aNil)) (aCons (mCall F_high_span (aCons (mVar 4) aNil)) aNil))) aNil))) sNil
@[irreducible] def s_bands_in_5 : MS := sSeq (sAsg (mLst (aCons (mTup (aCons (mCall F_low_span (aCons (mVar 3) aNil)) (aCons (mCall F_high_span (aCons (mVar 4) aNil)) aNil))) (aCons (mTup (aCons (mCall F_high_span (aCons (mVar 3) aNil)) (aCons (mCall F_low_span (aCons (mVar 4) aNil)) aNil))) aNil))) (gPat (.nm 5))) s_bands_in_6
@[irreducible] def s_bands_in_4 : MS := sSeq (sPar [3, 4] (aCons (mCall F_low_span_after (aCons (mVar 3) (aCons (mBin .Sub (mVar 1) (mVar 2)) aNil))) (aCons (mCall F_low_span_after (aCons (mVar 4) (aCons (mBin .Sub (mVar 1) (mVar 2)) aNil))) aNil))) s_bands_in_5
@[irreducible] def s_bands_in_1 : MS := sSeq (sIf (mCmp .Eq (mVar 2) (mK (.int 0))) (s_bands_in_3) (s_bands_in_4)) s_bands_in_2
@[irreducible] def s_bands_in_0 : MS := sSeq (sPar [3, 4] (aCons (mTup (aCons (mSub (mVar 0) (mK (.int 0))) (aCons (mBin .Add (mSub (mVar 0) (mK (.int 0))) (mSub (mVar 0) (mK (.int 2)))) aNil))) (aCons (mTup (aCons (mSub (mVar 0) (mK (.int 1))) (aCons (mBin .Add (mSub (mVar 0) (mK (.int 1))) (mSub (mVar 0) (mK (.int 3)))) aNil))) aNil))) s_bands_in_1
theorem c_bands_in : compSs fuel ⟨(D.ft F_bands_in).N, (D.ft F_bands_in).sc, true, D.G, noCells⟩ (D.ft F_bands_in).body = s_bands_in_0 := by kernel_rfl
theorem call_bands_in (j : Nat) (v0 : Bp.D) (v1 : Bp.D) (v2 : Bp.D) (h : DH) : Cl (j + 2) F_bands_in [v0, v1, v2] h = finish h (s_bands_in_0 (gmN bd (j + 1)) [some v0, some v1, some v2, none, none, none, none, none] h).out := by
  show bodyM D.G (D.ft F_bands_in) (gmN bd (j + 1)) [v0, v1, v2] h = _
  unfold bodyM
  rw [c_bands_in]
  rfl
@[irreducible] def s_blocks_in_0 : MS := sSeq (sRet (mCall F_rectangles (aCons (mSub (mVar 0) (mK (.int 0))) (aCons (mSub (mVar 0) (mK (.int 1))) (aCons (mSub (mVar 0) (mK (.int 2))) (aCons (mSub (mVar 0) (mK (.int 3))) (aCons (mTup (aCons (mVar 1) (aCons (mVar 1) aNil))) aNil))))))) sNil
theorem c_blocks_in : compSs fuel ⟨(D.ft F_blocks_in).N, (D.ft F_blocks_in).sc, true, D.G, noCells⟩ (D.ft F_blocks_in).body = s_blocks_in_0 := by kernel_rfl
theorem call_blocks_in (j : Nat) (v0 : Bp.D) (v1 : Bp.D) (h : DH) : Cl (j + 2) F_blocks_in [v0, v1] h = finish h (s_blocks_in_0 (gmN bd (j + 1)) [some v0, some v1] h).out := by
  show bodyM D.G (D.ft F_blocks_in) (gmN bd (j + 1)) [v0, v1] h = _
  unfold bodyM
  rw [c_blocks_in]
  rfl
@[irreducible] def s_tiles_of_2 : MS := sSeq (sRet (mCall F_tiles_in (aCons (mVar 0) (aCons (mVar 1) aNil)))) sNil
@[irreducible] def s_tiles_of_1 : MS := sSeq (sExpr (mCall F_need_options (aCons (mVar 1) aNil))) s_tiles_of_2
@[irreducible] def s_tiles_of_0 : MS := sSeq (sExpr (mCall F_need_frame (aCons (mVar 0) aNil))) s_tiles_of_1
theorem c_tiles_of : compSs fuel ⟨(D.ft F_tiles_of).N, (D.ft F_tiles_of).sc, true, D.G, noCells⟩ (D.ft F_tiles_of).body = s_tiles_of_0 := by kernel_rfl
theorem call_tiles_of (j : Nat) (v0 : Bp.D) (v1 : Bp.D) (h : DH) : Cl (j + 2) F_tiles_of [v0, v1] h = finish h (s_tiles_of_0 (gmN bd (j + 1)) [some v0, some v1] h).out := by
  show bodyM D.G (D.ft F_tiles_of) (gmN bd (j + 1)) [v0, v1] h = _
  unfold bodyM
  rw [c_tiles_of]
  rfl
@[irreducible] def s_block_places_4 : MS := sSeq (sRet (mVar 2)) sNil
@[irreducible] def s_block_places_9 : MS := sSeq (sExpr (mMf .append (mVar 2) (aCons (mTup (aCons (mTup (aCons (mVar 3) (aCons (mVar 5) (aCons (mVar 6) (aCons (mVar 7) (aCons (mVar 9) aNil)))))) (aCons (mVar 10) aNil))) aNil))) sNil
@[irreducible] def s_block_places_8 : MS := sSeq (sFor (iEnum (mCall F_blocks_in (aCons (mVar 8) (aCons (mAttr [(C_Options, F_Options_side)] [] A_side (mVar 1)) aNil)))) (gPat (.tp [.nm 9, .nm 10])) (s_block_places_9)) sNil
@[irreducible] def s_block_places_7 : MS := sSeq (sFor (iEnum (mCall F_bands_in (aCons (mVar 4) (aCons (mAttr [(C_Options, F_Options_levels)] [] A_levels (mVar 1)) (aCons (mVar 6) aNil))))) (gPat (.tp [.nm 7, .nm 8])) (s_block_places_8)) sNil
@[irreducible] def s_block_places_6 : MS := sSeq (sFor (iRange (aCons (mBin .Add (mAttr [(C_Options, F_Options_levels)] [] A_levels (mVar 1)) (mK (.int 1))) aNil)) (gPat (.nm 6)) (s_block_places_7)) sNil
@[irreducible] def s_block_places_5 : MS := sSeq (sFor (iRange (aCons (mSub (mVar 0) (mK (.int 4))) aNil)) (gPat (.nm 5)) (s_block_places_6)) sNil
@[irreducible] def s_block_places_3 : MS := sSeq (sFor (iEnum (mCall F_tiles_in (aCons (mVar 0) (aCons (mVar 1) aNil)))) (gPat (.tp [.nm 3, .nm 4])) (s_block_places_5)) s_block_places_4
@[irreducible] def s_block_places_2 : MS := sSeq (sAsg (mLst (aNil)) (gPat (.nm 2))) s_block_places_3
@[irreducible] def s_block_places_1 : MS := sSeq (sExpr (mCall F_need_options (aCons (mVar 1) aNil))) s_block_places_2
@[irreducible] def s_block_places_0 : MS := sSeq (sExpr (mCall F_need_frame (aCons (mVar 0) aNil))) s_block_places_1
theorem c_block_places : compSs fuel ⟨(D.ft F_block_places).N, (D.ft F_block_places).sc, true, D.G, noCells⟩ (D.ft F_block_places).body = s_block_places_0 := by kernel_rfl
theorem call_block_places (j : Nat) (v0 : Bp.D) (v1 : Bp.D) (h : DH) : Cl (j + 2) F_block_places [v0, v1] h = finish h (s_block_places_0 (gmN bd (j + 1)) [some v0, some v1, none, none, none, none, none, none, none, none, none] h).out := by
  show bodyM D.G (D.ft F_block_places) (gmN bd (j + 1)) [v0, v1] h = _
  unfold bodyM
  rw [c_block_places]
  rfl
@[irreducible] def s_law_taken_6 : MS := sSeq (sRet (mBin .Mod (mBf .int (aCons (mVar 3) aNil)) (mVar 1))) sNil
@[irreducible] def s_law_taken_7 : MS := sSeq (sAsg (mBin .FloorDiv (mVar 3) (mVar 1)) (gSub (mVar 0) (mK (.int 3)))) sNil
@[irreducible] def s_law_taken_5 : MS := sSeq (sIf (mCmp .GtE (mVar 3) (mBin .Pow (mK (.int 10)) (mK (.int 18)))) (s_law_taken_7) (sNil)) s_law_taken_6
@[irreducible] def s_law_taken_4 : MS := sSeq (sAsg (mBin .Mod (mBf .int (aCons (mBin .Add (mBin .Add (mBin .Mult (mSub (mVar 0) (mK (.int 2))) (mK (.int 48271))) (mVar 3)) (mK (.int 11))) aNil)) (mK (.int 2147483647))) (gSub (mVar 0) (mK (.int 2)))) s_law_taken_5
@[irreducible] def s_law_taken_3 : MS := sSeq (sAsg (mSub (mSub (mVar 0) (mK (.int 0))) (mBin .Sub (mSub (mVar 0) (mK (.int 1))) (mK (.int 1)))) (gPat (.nm 3))) s_law_taken_4
@[irreducible] def s_law_taken_9 : MS := sSeq (sRet (mBin .Mod (mBf .int (aCons (mBin .FloorDiv (mSub (mVar 0) (mK (.int 2))) (mK (.int 7))) aNil)) (mVar 1))) sNil
@[irreducible] def s_law_taken_8 : MS := sSeq (sAsg (mBin .Mod (mBf .int (aCons (mBin .Add (mBin .Mult (mSub (mVar 0) (mK (.int 2))) (mK (.int 48271))) (mK (.int 11))) aNil)) (mK (.int 2147483647))) (gSub (mVar 0) (mK (.int 2)))) s_law_taken_9
@[irreducible] def s_law_taken_2 : MS := sSeq (sIf (mCmp .Gt (mSub (mVar 0) (mK (.int 1))) (mBf .len (aCons (mSub (mVar 0) (mK (.int 0))) aNil))) (s_law_taken_8) (sNil)) s_law_taken_3
@[irreducible] def s_law_taken_1 : MS := sSeq (sAsg (mBin .Add (mSub (mVar 0) (mK (.int 1))) (mK (.int 1))) (gSub (mVar 0) (mK (.int 1)))) s_law_taken_2
@[irreducible] def s_law_taken_12 : MS := sSeq (sRet (mVar 2)) sNil
@[irreducible] def s_law_taken_11 : MS := sSeq (sAsg (mBin .FloorDiv (mSub (mVar 0) (mK (.int 3))) (mVar 1)) (gSub (mVar 0) (mK (.int 3)))) s_law_taken_12
@[irreducible] def s_law_taken_10 : MS := sSeq (sAsg (mBin .Mod (mBf .int (aCons (mSub (mVar 0) (mK (.int 3))) aNil)) (mVar 1)) (gPat (.nm 2))) s_law_taken_11
@[irreducible] def s_law_taken_0 : MS := sSeq (sIf (mCmp .Gt (mSub (mVar 0) (mK (.int 3))) (mK (.int 0))) (s_law_taken_10) (sNil)) s_law_taken_1
theorem c_law_taken : compSs fuel ⟨(D.ft F_law_taken).N, (D.ft F_law_taken).sc, true, D.G, noCells⟩ (D.ft F_law_taken).body = s_law_taken_0 := by kernel_rfl
theorem call_law_taken (j : Nat) (v0 : Bp.D) (v1 : Bp.D) (h : DH) : Cl (j + 2) F_law_taken [v0, v1] h = finish h (s_law_taken_0 (gmN bd (j + 1)) [some v0, some v1, none, none] h).out := by
  show bodyM D.G (D.ft F_law_taken) (gmN bd (j + 1)) [v0, v1] h = _
  unfold bodyM
  rw [c_law_taken]
  rfl
@[irreducible] def s_law_pick_0 : MS := sSeq (sRet (mSub (mVar 1) (mCall F_law_taken (aCons (mVar 0) (aCons (mBf .len (aCons (mVar 1) aNil)) aNil))))) sNil
theorem c_law_pick : compSs fuel ⟨(D.ft F_law_pick).N, (D.ft F_law_pick).sc, true, D.G, noCells⟩ (D.ft F_law_pick).body = s_law_pick_0 := by kernel_rfl
theorem call_law_pick (j : Nat) (v0 : Bp.D) (v1 : Bp.D) (h : DH) : Cl (j + 2) F_law_pick [v0, v1] h = finish h (s_law_pick_0 (gmN bd (j + 1)) [some v0, some v1] h).out := by
  show bodyM D.G (D.ft F_law_pick) (gmN bd (j + 1)) [v0, v1] h = _
  unfold bodyM
  rw [c_law_pick]
  rfl
@[irreducible] def s_law_alike_2 : MS := sSeq (sRet (mAnd (mIsi G.sub [.ty "int"] (mVar 0)) (mAnd (mCmp .Eq (mIsi G.sub [.ty "bool"] (mVar 0)) (mIsi G.sub [.ty "bool"] (mVar 1))) (mCmp .Eq (mVar 0) (mVar 1))))) sNil
@[irreducible] def s_law_alike_3 : MS := sSeq (sRet (mAnd (mCmp .Eq (mVar 0) (mVar 1)) (mCmp .Eq (mIsi G.sub [.ty "str"] (mVar 0)) (mIsi G.sub [.ty "str"] (mVar 1))))) sNil
@[irreducible] def s_law_alike_1 : MS := sSeq (sIf (tOr (mCmp .Is (mVar 1) (mK .non)) (tOf (mIsi G.sub [.ty "str"] (mVar 1)))) (s_law_alike_3) (sNil)) s_law_alike_2
@[irreducible] def s_law_alike_6 : MS := sSeq (sRet (mCmp .Eq (mLC (iRange (aCons (mBf .len (aCons (mVar 1) aNil)) aNil)) [2] (.nm 2) (tNot (tOf (mCall F_law_alike (aCons (mSub (mVar 0) (mVar 2)) (aCons (mSub (mVar 1) (mVar 2)) aNil))))) (mVar 2)) (mLst (aNil)))) sNil
@[irreducible] def s_law_alike_7 : MS := sSeq (sRet (mK (.bl false))) sNil
@[irreducible] def s_law_alike_5 : MS := sSeq (sIf (mCmp .NotEq (mBf .len (aCons (mVar 0) aNil)) (mBf .len (aCons (mVar 1) aNil))) (s_law_alike_7) (sNil)) s_law_alike_6
@[irreducible] def s_law_alike_8 : MS := sSeq (sRet (mK (.bl false))) sNil
@[irreducible] def s_law_alike_4 : MS := sSeq (sIf (tOr (tNot (tOf (mIsi G.sub [.ty "tuple", .ty "list"] (mVar 0)))) (mCmp .NotEq (mIsi G.sub [.ty "list"] (mVar 0)) (mIsi G.sub [.ty "list"] (mVar 1)))) (s_law_alike_8) (sNil)) s_law_alike_5
@[irreducible] def s_law_alike_0 : MS := sSeq (sIf (tOf (mIsi G.sub [.ty "tuple", .ty "list"] (mVar 1))) (s_law_alike_4) (sNil)) s_law_alike_1
theorem c_law_alike : compSs fuel ⟨(D.ft F_law_alike).N, (D.ft F_law_alike).sc, true, D.G, noCells⟩ (D.ft F_law_alike).body = s_law_alike_0 := by kernel_rfl
theorem call_law_alike (j : Nat) (v0 : Bp.D) (v1 : Bp.D) (h : DH) : Cl (j + 2) F_law_alike [v0, v1] h = finish h (s_law_alike_0 (gmN bd (j + 1)) [some v0, some v1, none] h).out := by
  show bodyM D.G (D.ft F_law_alike) (gmN bd (j + 1)) [v0, v1] h = _
  unfold bodyM
  rw [c_law_alike]
  rfl
@[irreducible] def s_law_order_2 : MS := sSeq (sRet (mVar 2)) sNil
@[irreducible] def s_law_order_3 : MS := sSeq (sAsg (mBin .Add (mVar 2) (mMf .pop1 (mVar 1) (aCons (mCall F_law_taken (aCons (mVar 0) (aCons (mBf .len (aCons (mVar 1) aNil)) aNil))) aNil))) (gPat (.nm 2))) sNil
@[irreducible] def s_law_order_1 : MS := sSeq (sFor (iRange (aCons (mK (.int 4)) aNil)) (gPat (.nm 3)) (s_law_order_3)) s_law_order_2
@[irreducible] def s_law_order_0 : MS := sSeq (sPar [1, 2] (aCons (mLst (aCons (mK (.str "t")) (aCons (mK (.str "c")) (aCons (mK (.str "r")) (aCons (mK (.str "l")) aNil))))) (aCons (mK (.str "")) aNil))) s_law_order_1
theorem c_law_order : compSs fuel ⟨(D.ft F_law_order).N, (D.ft F_law_order).sc, true, D.G, noCells⟩ (D.ft F_law_order).body = s_law_order_0 := by kernel_rfl
theorem call_law_order (j : Nat) (v0 : Bp.D) (h : DH) : Cl (j + 2) F_law_order [v0] h = finish h (s_law_order_0 (gmN bd (j + 1)) [some v0, none, none, none] h).out := by
  show bodyM D.G (D.ft F_law_order) (gmN bd (j + 1)) [v0] h = _
  unfold bodyM
  rw [c_law_order]
  rfl
@[irreducible] def s_law_options_3 : MS := sSeq (sRet (mMakeK C_Options F_Options_init [.k 0, .k 1, .k 2, .k 3, .k 4, .k 5, .k 6, .c (.bl false), .c (.non), .c (.int 0)] (aCons (mVar 4) (aCons (mVar 5) (aCons (mVar 6) (aCons (mVar 1) (aCons (mVar 7) (aCons (mVar 2) (aCons (mVar 3) aNil))))))))) sNil
@[irreducible] def s_law_options_2 : MS := sSeq (sAsg (mCall F_law_order (aCons (mVar 0) aNil)) (gPat (.nm 7))) s_law_options_3
@[irreducible] def s_law_options_1 : MS := sSeq (sPar [4, 5, 6] (aCons (mCall F_law_pick (aCons (mVar 0) (aCons (mLst (aCons (mK (.str "short")) (aCons (mK (.str "short")) (aCons (mK (.str "long")) aNil)))) aNil))) (aCons (mCall F_law_taken (aCons (mVar 0) (aCons (mK (.int 4)) aNil))) (aCons (mCall F_law_pick (aCons (mVar 0) (aCons (mLst (aCons (mK (.int 4)) (aCons (mK (.int 4)) (aCons (mK (.int 8)) aNil)))) aNil))) aNil)))) s_law_options_2
@[irreducible] def s_law_options_0 : MS := sSeq (sPar [2, 3] (aCons (mCall F_law_pick (aCons (mVar 0) (aCons (mLst (aCons (mK (.int 16)) (aCons (mK (.int 16)) (aCons (mBin .Add (mK (.int 1)) (mCall F_law_taken (aCons (mVar 0) (aCons (mK (.int 7)) aNil)))) aNil)))) aNil))) (aCons (mCall F_law_pick (aCons (mVar 0) (aCons (mLst (aCons (mK (.int 16)) (aCons (mK (.int 16)) (aCons (mBin .Add (mK (.int 1)) (mCall F_law_taken (aCons (mVar 0) (aCons (mK (.int 7)) aNil)))) aNil)))) aNil))) aNil))) s_law_options_1
theorem c_law_options : compSs fuel ⟨(D.ft F_law_options).N, (D.ft F_law_options).sc, true, D.G, noCells⟩ (D.ft F_law_options).body = s_law_options_0 := by kernel_rfl
theorem call_law_options (j : Nat) (v0 : Bp.D) (v1 : Bp.D) (h : DH) : Cl (j + 2) F_law_options [v0, v1] h = finish h (s_law_options_0 (gmN bd (j + 1)) [some v0, some v1, none, none, none, none, none, none] h).out := by
  show bodyM D.G (D.ft F_law_options) (gmN bd (j + 1)) [v0, v1] h = _
  unfold bodyM
  rw [c_law_options]
  rfl
@[irreducible] def s_law_grid_2 : MS := sSeq (sRet (mVar 3)) sNil
@[irreducible] def s_law_grid_5 : MS := sSeq (sAsg (mVar 5) (gPat (.nm 4))) sNil
@[irreducible] def s_law_grid_4 : MS := sSeq (sExpr (mMf .append (mVar 3) (aCons (mTup (aCons (mVar 4) (aCons (mVar 5) aNil))) aNil))) s_law_grid_5
@[irreducible] def s_law_grid_3 : MS := sSeq (sAsg (mBf .min2 (aCons (mVar 1) (aCons (mBin .Add (mBin .Mult (mBin .FloorDiv (mVar 4) (mVar 2)) (mVar 2)) (mVar 2)) aNil))) (gPat (.nm 5))) s_law_grid_4
@[irreducible] def s_law_grid_1 : MS := sSeq (sWhile (mCmp .Lt (mVar 4) (mVar 1)) (s_law_grid_3)) s_law_grid_2
@[irreducible] def s_law_grid_0 : MS := sSeq (sPar [3, 4] (aCons (mLst (aNil)) (aCons (mVar 0) aNil))) s_law_grid_1
theorem c_law_grid : compSs fuel ⟨(D.ft F_law_grid).N, (D.ft F_law_grid).sc, true, D.G, noCells⟩ (D.ft F_law_grid).body = s_law_grid_0 := by kernel_rfl
theorem call_law_grid (j : Nat) (v0 : Bp.D) (v1 : Bp.D) (v2 : Bp.D) (h : DH) : Cl (j + 2) F_law_grid [v0, v1, v2] h = finish h (s_law_grid_0 (gmN bd (j + 1)) [some v0, some v1, some v2, none, none, none] h).out := by
  show bodyM D.G (D.ft F_law_grid) (gmN bd (j + 1)) [v0, v1, v2] h = _
  unfold bodyM
  rw [c_law_grid]
  rfl
@[irreducible] def s_law_halved_1 : MS := sSeq (sRet (mVar 0)) sNil
@[irreducible] def s_law_halved_2 : MS := sSeq (sAsg (mTup (aCons (mBin .FloorDiv (mBin .Add (mSub (mVar 0) (mK (.int 0))) (mK (.int 1))) (mK (.int 2))) (aCons (mBin .FloorDiv (mBin .Add (mSub (mVar 0) (mK (.int 1))) (mK (.int 1))) (mK (.int 2))) aNil))) (gPat (.nm 0))) sNil
@[irreducible] def s_law_halved_0 : MS := sSeq (sFor (iRange (aCons (mVar 1) aNil)) (gPat (.nm 2)) (s_law_halved_2)) s_law_halved_1
theorem c_law_halved : compSs fuel ⟨(D.ft F_law_halved).N, (D.ft F_law_halved).sc, true, D.G, noCells⟩ (D.ft F_law_halved).body = s_law_halved_0 := by kernel_rfl
theorem call_law_halved (j : Nat) (v0 : Bp.D) (v1 : Bp.D) (h : DH) : Cl (j + 2) F_law_halved [v0, v1] h = finish h (s_law_halved_0 (gmN bd (j + 1)) [some v0, some v1, none] h).out := by
  show bodyM D.G (D.ft F_law_halved) (gmN bd (j + 1)) [v0, v1] h = _
  unfold bodyM
  rw [c_law_halved]
  rfl
@[irreducible] def s_law_band_spans_4 : MS := sSeq (sRet (mLst (aCons (mTup (aCons (mVar 4) (aCons (mVar 7) aNil))) (aCons (mTup (aCons (mVar 5) (aCons (mVar 6) aNil))) (aCons (mTup (aCons (mVar 5) (aCons (mVar 7) aNil))) aNil))))) sNil
@[irreducible] def s_law_band_spans_3 : MS := sSeq (sPar [6, 7] (aCons (mCall F_law_halved (aCons (mVar 1) (aCons (mK (.int 1)) aNil))) (aCons (mTup (aCons (mBin .FloorDiv (mSub (mVar 1) (mK (.int 0))) (mK (.int 2))) (aCons (mBin .FloorDiv (mSub (mVar 1) (mK (.int 1))) (mK (.int 2))) aNil))) aNil))) s_law_band_spans_4
@[irreducible] def s_law_band_spans_2 : MS := sSeq (sPar [4, 5] (aCons (mCall F_law_halved (aCons (mVar 0) (aCons (mK (.int 1)) aNil))) (aCons (mTup (aCons (mBin .FloorDiv (mSub (mVar 0) (mK (.int 0))) (mK (.int 2))) (aCons (mBin .FloorDiv (mSub (mVar 0) (mK (.int 1))) (mK (.int 2))) aNil))) aNil))) s_law_band_spans_3
@[irreducible] def s_law_band_spans_1 : MS := sSeq (sPar [0, 1] (aCons (mCall F_law_halved (aCons (mVar 0) (aCons (mBin .Sub (mVar 2) (mVar 3)) aNil))) (aCons (mCall F_law_halved (aCons (mVar 1) (aCons (mBin .Sub (mVar 2) (mVar 3)) aNil))) aNil))) s_law_band_spans_2
@[irreducible] def s_law_band_spans_5 : MS := sSeq (sRet (mLst (aCons (mTup (aCons (mCall F_law_halved (aCons (mVar 0) (aCons (mVar 2) aNil))) (aCons (mCall F_law_halved (aCons (mVar 1) (aCons (mVar 2) aNil))) aNil))) aNil))) sNil
@[irreducible] def s_law_band_spans_0 : MS := sSeq (sIf (mCmp .Eq (mVar 3) (mK (.int 0))) (s_law_band_spans_5) (sNil)) s_law_band_spans_1
theorem c_law_band_spans : compSs fuel ⟨(D.ft F_law_band_spans).N, (D.ft F_law_band_spans).sc, true, D.G, noCells⟩ (D.ft F_law_band_spans).body = s_law_band_spans_0 := by kernel_rfl
theorem call_law_band_spans (j : Nat) (v0 : Bp.D) (v1 : Bp.D) (v2 : Bp.D) (v3 : Bp.D) (h : DH) : Cl (j + 2) F_law_band_spans [v0, v1, v2, v3] h = finish h (s_law_band_spans_0 (gmN bd (j + 1)) [some v0, some v1, some v2, some v3, none, none, none, none] h).out := by
  show bodyM D.G (D.ft F_law_band_spans) (gmN bd (j + 1)) [v0, v1, v2, v3] h = _
  unfold bodyM
  rw [c_law_band_spans]
  rfl
@[irreducible] def s_law_tiles_2 : MS := sSeq (sRet (mVar 2)) sNil
@[irreducible] def s_law_tiles_4 : MS := sSeq (sExpr (mMf .append (mVar 2) (aCons (mTup (aCons (mVar 3) (aCons (mVar 4) aNil))) aNil))) sNil
@[irreducible] def s_law_tiles_3 : MS := sSeq (sFor (iVal (mCall F_law_grid (aCons (mSub (mVar 0) (mK (.int 1))) (aCons (mBin .Add (mSub (mVar 0) (mK (.int 1))) (mSub (mVar 0) (mK (.int 3)))) (aCons (mAttr [(C_Options, F_Options_tile_width)] [] A_tile_width (mVar 1)) aNil))))) (gPat (.nm 4)) (s_law_tiles_4)) sNil
@[irreducible] def s_law_tiles_1 : MS := sSeq (sFor (iVal (mCall F_law_grid (aCons (mSub (mVar 0) (mK (.int 0))) (aCons (mBin .Add (mSub (mVar 0) (mK (.int 0))) (mSub (mVar 0) (mK (.int 2)))) (aCons (mAttr [(C_Options, F_Options_tile_height)] [] A_tile_height (mVar 1)) aNil))))) (gPat (.nm 3)) (s_law_tiles_3)) s_law_tiles_2
@[irreducible] def s_law_tiles_0 : MS := sSeq (sAsg (mLst (aNil)) (gPat (.nm 2))) s_law_tiles_1
theorem c_law_tiles : compSs fuel ⟨(D.ft F_law_tiles).N, (D.ft F_law_tiles).sc, true, D.G, noCells⟩ (D.ft F_law_tiles).body = s_law_tiles_0 := by kernel_rfl
theorem call_law_tiles (j : Nat) (v0 : Bp.D) (v1 : Bp.D) (h : DH) : Cl (j + 2) F_law_tiles [v0, v1] h = finish h (s_law_tiles_0 (gmN bd (j + 1)) [some v0, some v1, none, none, none] h).out := by
  show bodyM D.G (D.ft F_law_tiles) (gmN bd (j + 1)) [v0, v1] h = _
  unfold bodyM
  rw [c_law_tiles]
  rfl
@[irreducible] def s_law_places_2 : MS := sSeq (sRet (mVar 2)) sNil
@[irreducible] def s_law_places_12 : MS := sSeq (sAsg (mBin .Add (mVar 9) (mK (.int 1))) (gPat (.nm 9))) sNil
@[irreducible] def s_law_places_11 : MS := sSeq (sExpr (mMf .append (mVar 2) (aCons (mTup (aCons (mTup (aCons (mVar 4) (aCons (mVar 5) (aCons (mVar 6) (aCons (mVar 8) (aCons (mVar 9) aNil)))))) (aCons (mVar 14) aNil))) aNil))) s_law_places_12
@[irreducible] def s_law_places_10 : MS := sSeq (sAsg (mTup (aCons (mVar 10) (aCons (mVar 12) (aCons (mBin .Sub (mVar 11) (mVar 10)) (aCons (mBin .Sub (mVar 13) (mVar 12)) aNil))))) (gPat (.nm 14))) s_law_places_11
@[irreducible] def s_law_places_9 : MS := sSeq (sFor (iVal (mCall F_law_grid (aCons (mSub (mSub (mSub (mVar 7) (mVar 8)) (mK (.int 1))) (mK (.int 0))) (aCons (mSub (mSub (mSub (mVar 7) (mVar 8)) (mK (.int 1))) (mK (.int 1))) (aCons (mAttr [(C_Options, F_Options_side)] [] A_side (mVar 1)) aNil))))) (gPat (.tp [.nm 12, .nm 13])) (s_law_places_10)) sNil
@[irreducible] def s_law_places_8 : MS := sSeq (sFor (iVal (mCall F_law_grid (aCons (mSub (mSub (mSub (mVar 7) (mVar 8)) (mK (.int 0))) (mK (.int 0))) (aCons (mSub (mSub (mSub (mVar 7) (mVar 8)) (mK (.int 0))) (mK (.int 1))) (aCons (mAttr [(C_Options, F_Options_side)] [] A_side (mVar 1)) aNil))))) (gPat (.tp [.nm 10, .nm 11])) (s_law_places_9)) sNil
@[irreducible] def s_law_places_7 : MS := sSeq (sAsg (mK (.int 0)) (gPat (.nm 9))) s_law_places_8
@[irreducible] def s_law_places_6 : MS := sSeq (sFor (iRange (aCons (mBf .len (aCons (mVar 7) aNil)) aNil)) (gPat (.nm 8)) (s_law_places_7)) sNil
@[irreducible] def s_law_places_5 : MS := sSeq (sAsg (mCall F_law_band_spans (aCons (mSub (mSub (mVar 3) (mVar 4)) (mK (.int 0))) (aCons (mSub (mSub (mVar 3) (mVar 4)) (mK (.int 1))) (aCons (mAttr [(C_Options, F_Options_levels)] [] A_levels (mVar 1)) (aCons (mVar 6) aNil))))) (gPat (.nm 7))) s_law_places_6
@[irreducible] def s_law_places_4 : MS := sSeq (sFor (iRange (aCons (mBin .Add (mAttr [(C_Options, F_Options_levels)] [] A_levels (mVar 1)) (mK (.int 1))) aNil)) (gPat (.nm 6)) (s_law_places_5)) sNil
@[irreducible] def s_law_places_3 : MS := sSeq (sFor (iRange (aCons (mSub (mVar 0) (mK (.int 4))) aNil)) (gPat (.nm 5)) (s_law_places_4)) sNil
@[irreducible] def s_law_places_1 : MS := sSeq (sFor (iRange (aCons (mBf .len (aCons (mVar 3) aNil)) aNil)) (gPat (.nm 4)) (s_law_places_3)) s_law_places_2
@[irreducible] def s_law_places_0 : MS := sSeq (sPar [2, 3] (aCons (mLst (aNil)) (aCons (mCall F_law_tiles (aCons (mVar 0) (aCons (mVar 1) aNil))) aNil))) s_law_places_1
theorem c_law_places : compSs fuel ⟨(D.ft F_law_places).N, (D.ft F_law_places).sc, true, D.G, noCells⟩ (D.ft F_law_places).body = s_law_places_0 := by kernel_rfl
theorem call_law_places (j : Nat) (v0 : Bp.D) (v1 : Bp.D) (h : DH) : Cl (j + 2) F_law_places [v0, v1] h = finish h (s_law_places_0 (gmN bd (j + 1)) [some v0, some v1, none, none, none, none, none, none, none, none, none, none, none, none, none] h).out := by
  show bodyM D.G (D.ft F_law_places) (gmN bd (j + 1)) [v0, v1] h = _
  unfold bodyM
  rw [c_law_places]
  rfl
@[irreducible] def s_law_2 : MS := sSeq (sRet (mK (.bl true))) sNil
@[irreducible] def s_law_16 : MS := sSeq (sRet (mK (.bl false))) sNil
@[irreducible] def s_law_15 : MS := sSeq (sIf (mCmp .NotEq (mMf .get2 (mVar 8) (aCons (mTup (aCons (mVar 11) (aCons (mVar 12) aNil))) (aCons (mK (.int 0)) aNil))) (mBin .Mult (mSub (mSub (mVar 6) (mVar 11)) (mK (.int 2))) (mSub (mSub (mVar 6) (mVar 11)) (mK (.int 3))))) (s_law_16) (sNil)) sNil
@[irreducible] def s_law_14 : MS := sSeq (sFor (iRange (aCons (mSub (mVar 3) (mK (.int 4))) aNil)) (gPat (.nm 12)) (s_law_15)) sNil
@[irreducible] def s_law_13 : MS := sSeq (sFor (iRange (aCons (mBf .len (aCons (mVar 6) aNil)) aNil)) (gPat (.nm 11)) (s_law_14)) sNil
@[irreducible] def s_law_19 : MS := sSeq (sRet (mK (.bl false))) sNil
@[irreducible] def s_law_18 : MS := sSeq (sIf (tOr (mCmp .Lt (mSub (mVar 10) (mK (.int 2))) (mK (.int 1))) (tOr (mCmp .Lt (mSub (mVar 10) (mK (.int 3))) (mK (.int 1))) (mCmp .Gt (mBf .max2 (aCons (mSub (mVar 10) (mK (.int 2))) (aCons (mSub (mVar 10) (mK (.int 3))) aNil))) (mAttr [(C_Options, F_Options_side)] [] A_side (mVar 4))))) (s_law_19) (sNil)) sNil
@[irreducible] def s_law_17 : MS := sSeq (sAsg (mBin .Add (mMf .get2 (mVar 8) (aCons (mSlice (mVar 9) (pNone) (pSome (mK (.int 2)))) (aCons (mK (.int 0)) aNil))) (mBin .Mult (mSub (mVar 10) (mK (.int 2))) (mSub (mVar 10) (mK (.int 3))))) (gSub (mVar 8) (mSlice (mVar 9) (pNone) (pSome (mK (.int 2)))))) s_law_18
@[irreducible] def s_law_12 : MS := sSeq (sForV 7 (gPat (.tp [.nm 9, .nm 10])) (s_law_17)) s_law_13
@[irreducible] def s_law_11 : MS := sSeq (sAsg (mDict [] []) (gPat (.nm 8))) s_law_12
@[irreducible] def s_law_20 : MS := sSeq (sRet (mK (.bl false))) sNil
@[irreducible] def s_law_10 : MS := sSeq (sIf (tOr (tNot (tOf (mCall F_law_alike (aCons (mVar 7) (aCons (mCall F_law_places (aCons (mVar 3) (aCons (mVar 4) aNil))) aNil))))) (mCmp .NotEq (mVar 7) (mBf .sorted (aCons (mVar 7) aNil)))) (s_law_20) (sNil)) s_law_11
@[irreducible] def s_law_9 : MS := sSeq (sAsg (mCall F_block_places (aCons (mVar 3) (aCons (mVar 4) aNil))) (gPat (.nm 7))) s_law_10
@[irreducible] def s_law_21 : MS := sSeq (sRet (mK (.bl false))) sNil
@[irreducible] def s_law_8 : MS := sSeq (sIf (tOr (tNot (tOf (mCall F_law_alike (aCons (mVar 6) (aCons (mVar 5) aNil))))) (mCmp .NotEq (mBf .sum (aCons (mLC (iVal (mVar 6)) [11] (.nm 11) (tYes) (mBin .Mult (mSub (mVar 11) (mK (.int 2))) (mSub (mVar 11) (mK (.int 3))))) aNil)) (mBin .Mult (mSub (mVar 3) (mK (.int 2))) (mSub (mVar 3) (mK (.int 3)))))) (s_law_21) (sNil)) s_law_9
@[irreducible] def s_law_7 : MS := sSeq (sAsg (mCall F_tiles_of (aCons (mVar 3) (aCons (mVar 4) aNil))) (gPat (.nm 6))) s_law_8
@[irreducible] def s_law_6 : MS := sSeq (sAsg (mLC (iVal (mCall F_law_tiles (aCons (mVar 3) (aCons (mVar 4) aNil)))) [13, 14] (.tp [.nm 13, .nm 14]) (tYes) (mTup (aCons (mSub (mVar 13) (mK (.int 0))) (aCons (mSub (mVar 14) (mK (.int 0))) (aCons (mBin .Sub (mSub (mVar 13) (mK (.int 1))) (mSub (mVar 13) (mK (.int 0)))) (aCons (mBin .Sub (mSub (mVar 14) (mK (.int 1))) (mSub (mVar 14) (mK (.int 0)))) aNil)))))) (gPat (.nm 5))) s_law_7
@[irreducible] def s_law_5 : MS := sSeq (sAsg (mMethMore [(C_Options, F_Options_changed)] A_changed ["tile_height", "tile_width"] (mVar 4) (aCons (mCall F_law_pick (aCons (mVar 1) (aCons (mLst (aCons (mK (.int 4)) (aCons (mK (.int 7)) (aCons (mK (.int 16)) aNil)))) aNil))) (aCons (mCall F_law_pick (aCons (mVar 1) (aCons (mLst (aCons (mK (.int 3)) (aCons (mK (.int 8)) (aCons (mK (.int 16)) aNil)))) aNil))) aNil))) (gPat (.nm 4))) s_law_6
@[irreducible] def s_law_4 : MS := sSeq (sAsg (mCall F_law_options (aCons (mVar 1) (aCons (mTup (aCons (mK (.int 0)) aNil)) aNil))) (gPat (.nm 4))) s_law_5
@[irreducible] def s_law_3 : MS := sSeq (sAsg (mTup (aCons (mCall F_law_taken (aCons (mVar 1) (aCons (mK (.int 65)) aNil))) (aCons (mCall F_law_taken (aCons (mVar 1) (aCons (mK (.int 65)) aNil))) (aCons (mBin .Add (mK (.int 1)) (mCall F_law_taken (aCons (mVar 1) (aCons (mK (.int 16)) aNil)))) (aCons (mBin .Add (mK (.int 1)) (mCall F_law_taken (aCons (mVar 1) (aCons (mK (.int 16)) aNil)))) (aCons (mBin .Add (mK (.int 1)) (mCall F_law_taken (aCons (mVar 1) (aCons (mK (.int 3)) aNil)))) aNil)))))) (gPat (.nm 3))) s_law_4
@[irreducible] def s_law_1 : MS := sSeq (sFor (iRange (aCons (mK (.int 2)) aNil)) (gPat (.nm 2)) (s_law_3)) s_law_2
@[irreducible] def s_law_0 : MS := sSeq (sAsg (mLst (aCons (mVar 0) (aCons (mK (.int 0)) (aCons (mK (.int 3176)) (aCons (mK (.int 0)) aNil))))) (gPat (.nm 1))) s_law_1
theorem c_law : compSs fuel ⟨(D.ft F_law).N, (D.ft F_law).sc, true, D.G, noCells⟩ (D.ft F_law).body = s_law_0 := by kernel_rfl
theorem call_law (j : Nat) (v0 : Bp.D) (h : DH) : Cl (j + 2) F_law [v0] h = finish h (s_law_0 (gmN bd (j + 1)) [some v0, none, none, none, none, none, none, none, none, none, none, none, none, none, none] h).out := by
  show bodyM D.G (D.ft F_law) (gmN bd (j + 1)) [v0] h = _
  unfold bodyM
  rw [c_law]
  rfl
end Law
end

section
set_option linter.all false
set_option maxRecDepth 100000
set_option maxHeartbeats 0
namespace Law
open PySem Bp
local macro_rules
  | `(tactic| simp_arith) => `(tactic| simp_arith [wE_ok])
  | `(tactic| simp_arith [$xs,*]) => `(tactic| simp only [wE_ok, wE_mVar, kVar_s, wE_mK, wA_nil, wA_cons, kA1_ap, kA2_ap, wE_mTup, kTup_ap, wE_mLst, kLst_ap, wE_mBin, kBin1_ap, kBin2_ap, wE_mNeg, kNeg_ap, wE_mCmp, kCmp1_ap, kCmp2_ap, wE_mChain, kCh1_ap, kCh2_ap, kB2_s, wE_tOf, kOf_ap, wE_tNot, kNot_ap, wE_tAnd, kAnd_ap, wE_tOr, kOr_ap, wE_mAnd, kMAnd_ap, wE_mOr, kMOr_ap, wE_mNot, kMNot_ap, wE_mIf, kIf_ap, wE_mSub, kSub1_ap, kSub2_ap, wE_mSlice, kSl_ap, wE_pNone, wE_pSome, kPs_ap, slHi, wE_slEnd, wE_mRev, kRev_ap, wE_mBf, kBf_ap, wE_mMf, kMf1_ap, kMf2_ap, wE_mCall, kCall_ap, wE_mMake, kMake_ap, kMk_ap, wE_mMakeK, kMakeK_ap, kMakeK2_ap, wE_mMakeS, kMakeS_ap, kMakeS2_ap, kMakeS3_ap, wE_mMeth, kMeth_ap, kMeth1_ap, kMeth2_ap, wE_mMethMore, kMore_ap, kMore1_ap, kMore2_ap, wE_mAttr, kAttr_ap, kAttr1_ap, kAttr2_p, kAttr2_f, wE_mIsi, kIsi_ap, wI_range, kRange_1, kRange_2, wI_enum, kEnum_ap, kEnum1_ap, wS_nx, wS_nil, kSeq_nx, kSeq_rtv, kSeq_bk, kSeq_ct, kSeq_ex, wS_seq, wS_expr, kExpr_ap, wS_ret, wS_retN, wS_asg, kAsg_ap, kEnv_s, wS_pat, wS_gSub, kGs1_ap, kGs2_ap, wS_gAttr, kGa_ap, setsE, wS_par, kPar_ap, wS_if, kSIf_ap, wS_aug, kAug0_ap, kAug_ap, wS_augS, kAs1_ap, kAs2_ap, kAs3_ap, kAs4_ap, kAs5_ap, wS_brk, wS_cnt, kDef_rt, kDef_nx, selB_t, selB_f, selB_b, kRV_s, kRV_alloc, kB_s, binD, opAdd, opI, opMul, fSub, fDiv, fMod, cmpD, ltP, leP, truD, subD, lsub, putD, mfTy, Tg.bind, Tg.binds, bfD, isP, decide_eq_true_eq, decide_eq_false_iff_not, List.getElem?_cons_zero, List.getElem?_cons_succ, List.set_cons_zero, List.set_cons_succ, List.length_cons, List.length_nil, atI_0, atI_1, atI_2, atI_3, atI_4, atI_5, atI_6, atI_7, atI_8, atI_9, atI_10, ixN_0, ixN_1, ixN_2, ixN_3, ixN_4, ixN_5, ixN_6, ixN_7, ixN_8, ixN_9, ixN_10, Nat.reduceLT, Nat.reduceAdd, Nat.reduceLeDiff, Int.reduceLT, Int.reduceLE, Int.reduceToNat,  Bool.not_true, Bool.not_false, Option.map_some, Option.map_none, forall_const, low_eq, lim, reduceCtorEq, not_true_eq_false, not_false_eq_true, ne_eq, implies_true, wC_step, kStep_ap, kStep2_ap, wE_tYes, wipeE, kIV_ap, iterD, kLC_ap, kFor_ap, List.set_set, wE_mDict, kDict_ap, aL_nil, aL_cons, List.append_assoc, List.cons_append, List.nil_append, getA0, getAk, setA0, setAk, List.length_append, Nat.add_zero, Nat.zero_add, true_and, and_true, Bool.not_eq_true', Bool.not_eq_false', Bool.true_eq_false, Bool.false_eq_true, false_implies, true_implies, if_true, if_false, reduceIte, I_NoneType_Options, I_bool_Options, I_int_Options, I_str_Options, I_tuple_Options, I_list_Options, I_dict_Options, I_Options_Options, I_NoneType_bool, I_bool_bool, I_int_bool, I_str_bool, I_tuple_bool, I_list_bool, I_dict_bool, I_Options_bool, I_NoneType_int, I_bool_int, I_int_int, I_str_int, I_tuple_int, I_list_int, I_dict_int, I_Options_int, I_NoneType_list, I_bool_list, I_int_list, I_str_list, I_tuple_list, I_list_list, I_dict_list, I_Options_list, I_NoneType_str, I_bool_str, I_int_str, I_str_str, I_tuple_str, I_list_str, I_dict_str, I_Options_str, I_NoneType_tuple, I_bool_tuple, I_int_tuple, I_str_tuple, I_tuple_tuple, I_list_tuple, I_dict_tuple, I_Options_tuple, $xs,*])
theorem jj {j d : Nat} (h : d + 2 ≤ j) : ∃ k, j = k + 2 ∧ d ≤ k := ⟨j - 2, by omega, by omega⟩
section
variable {j : Nat} {h : DH}
theorem is_integer_int (hj : 2 ≤ j) {i : Int} : Cl j F_is_integer [.int i] h = .ok (.bl true) h := by
  obtain ⟨j, rfl, hj⟩ := jj (d := 0) hj
  rw [call_is_integer]
  refine wE_eq (fin_pure (wE_out ?_))
  simp_arith [s_is_integer_0, kindD, anyTy, refs_bl]
  exact Fr.refl
theorem is_in_int (hj : 4 ≤ j) {i a b : Int} : Cl j F_is_in [.int i, .int a, .int b] h = .ok (.bl (decide (a ≤ i ∧ i ≤ b))) h := by
  obtain ⟨j, rfl, hj⟩ := jj (d := 2) hj
  rw [call_is_in]
  refine wE_eq (fin_pure (wE_out ?_))
  simp_arith [s_is_in_0, is_integer_int (show 2 ≤ j + 1 by omega), refs_bl]
  exact ⟨fun a => ⟨.refl, by simp [a]⟩, fun a => ⟨.refl, by simp [a]⟩⟩
theorem is_list_tup (hj : 2 ≤ j) {l : List Bp.D} {a b : Int} : Cl j F_is_list [.tup l, .int a, .int b] h = .ok (.bl (decide (a ≤ l.length ∧ (l.length : Int) ≤ b))) h := by
  obtain ⟨j, rfl, hj⟩ := jj (d := 0) hj
  rw [call_is_list]
  refine wE_eq (fin_pure (wE_out ?_))
  simp_arith [s_is_list_0, kindD, anyTy, refs_bl, lenD]
  exact ⟨fun a => ⟨.refl, by simp [a]⟩, fun a => ⟨.refl, by simp [a]⟩⟩
end
def RowAt (h : DH) (r s : Nat) (ns : List Int) : Prop := h[s]? = some (.frz (ns.map .int)) ∧ ∃ a b c : Int, h[r]? = some (.lst [.ref s, .int a, .int b, .int c]) ∧ 0 ≤ a ∧ 0 ≤ c
theorem taken_ok {j : Nat} (hj : 2 ≤ j) {h : DH} {r s : Nat} {ns : List Int} {many : Int} (R : RowAt h r s ns) (hm : 0 < many) (hm2 : many < 1073741824) :
    wE (Cl j F_law_taken [.ref r, .int many] h) (fun v h' => ∃ i : Int, v = .int i ∧ 0 ≤ i ∧ i < many ∧ RowAt h' r s ns ∧ Fr [r] h h') nX := by
  obtain ⟨j, rfl⟩ : ∃ k, j = k + 2 := ⟨j - 2, by omega⟩
  obtain ⟨hs, a, b, c, hr, ha, hc⟩ := R
  rw [call_law_taken]
  have hsr : ∀ o, (h.set r o)[r]? = some o := fun o => get_set hr
  have hne : r ≠ s := fun e => by rw [e, hs] at hr; cases hr
  have hss : ∀ o, (h.set r o)[s]? = some (.frz (ns.map .int)) := fun o => get_set_ne hs hne
  have hd : divOk many = true := divOk_of hm hm2
  have fin : ∀ (a b c v : Int), 0 ≤ a → 0 ≤ c → 0 ≤ v → v < many → ∀ h' : DH, h' = h.set r (.lst [.ref s, .int a, .int b, .int c]) →
      D.refs h.length (.int v) = [] ∧ Fr [r] h h' ∧ ∀ h2, Fr [r] h h2 → (∀ i, i < h.length → h2[i]? = h'[i]?) → ∃ i : Int, Bp.D.int v = .int i ∧ 0 ≤ i ∧ i < many ∧ RowAt h2 r s ns ∧ Fr [r] h h2 := by
    intro a b c v ha hc hv hv2 h' e
    subst e
    refine ⟨refs_int, Fr.refl.set (.inl (by simp)), fun h2 f e => ⟨v, rfl, hv, hv2, ⟨?_, a, b, c, ?_, ha, hc⟩, f⟩⟩
    · rw [e s (lt_of_get hs), hss]
    · rw [e r (lt_of_get hr), hsr]
  refine fin_mut (S := [r]) (wE_out ?_)
  simp_arith [s_law_taken_0, hr]
  have mp : ∀ x : Int, 0 ≤ x % many ∧ x % many < many := fun x => ⟨Int.emod_nonneg _ (by omega), Int.emod_lt_of_pos _ hm⟩
  refine ⟨fun h1 => ?_, fun h1 => ?_⟩
  · simp_arith [s_law_taken_10, hr, hm]
    simp_arith [s_law_taken_11, s_law_taken_12, hr, hm, hd]
    exact fin _ _ _ _ ha (Int.ediv_nonneg hc (by omega)) (mp c).1 (mp c).2 _ rfl
  · simp_arith [s_law_taken_1, hr]
    simp_arith [s_law_taken_2, hsr, hss, lenD]
    have m1 : mulOk b 48271 = true := mulOk_r (by decide +kernel)
    have d7 : divOk 7 = true := by decide +kernel
    refine ⟨fun h2 => ?_, fun h2 => ?_⟩
    · simp_arith [s_law_taken_8, s_law_taken_9, hsr, hss, m1, hm, d7]
      exact fin _ _ _ _ (by omega) hc (mp _).1 (mp _).2 _ rfl
    · have hl : a.toNat < ns.length := by simp at h2; omega
      have ha2 : (ns.map Bp.D.int)[a.toNat]? = some (.int ns[a.toNat]) := by simp [hl]
      have ea : a + 1 - 1 = a := by omega
      have p18 : fPow 10 18 = some 1000000000000000000 := by decide +kernel
      simp_arith [s_law_taken_3, s_law_taken_4, hsr, hss, m1, hm, ea, atI_int ha, ha2]
      simp_arith [s_law_taken_5, p18]
      refine ⟨fun h3 => ?_, fun h3 => ?_⟩
      · simp_arith [s_law_taken_7, s_law_taken_6, hsr, hss, hd, hm]
        exact fin _ _ _ _ (by omega) (Int.ediv_nonneg (by omega) (by omega)) (mp _).1 (mp _).2 _ rfl
      · simp_arith [s_law_taken_6, hsr, hss, hd, hm]
        exact fin _ _ _ _ (by omega) hc (mp _).1 (mp _).2 _ rfl
structure Opt where
  kernel : Str
  levels : Int
  side : Int
  cuts : List Int
  order : Str
  th : Int
  tw : Int
  colors : Bool
  region : Bp.D
  shift : Int
def intL (l : List Int) : List Bp.D := l.map .int
def optVals (x : Opt) : List Bp.D := [.str x.kernel, .int x.levels, .int x.side, .tup (intL x.cuts), .str x.order, .int x.th, .int x.tw, .bl x.colors, x.region, .int x.shift]
def optTab (x : Opt) : List (Bp.D × Bp.D) := [(.str "kernel", .str x.kernel), (.str "levels", .int x.levels), (.str "side", .int x.side), (.str "cuts", .tup (intL x.cuts)), (.str "order", .str x.order), (.str "tile_height", .int x.th), (.str "tile_width", .int x.tw), (.str "colors", .bl x.colors), (.str "region", x.region), (.str "shift", .int x.shift)]
def orders24 : List Str := (["tcrl", "tclr", "trcl", "trlc", "tlcr", "tlrc", "ctrl", "ctlr", "crtl", "crlt", "cltr", "clrt"] : List Str) ++ (["rtcl", "rtlc", "rctl", "rclt", "rltc", "rlct", "ltcr", "ltrc", "lctr", "lcrt", "lrtc", "lrct"] : List Str)
def RegOk (v : Bp.D) : Prop := v = .non ∨ ∃ a b c d : Int, v = .tup [.int a, .int b, .int c, .int d] ∧ 0 ≤ a ∧ a < c ∧ c ≤ 100 ∧ 0 ≤ b ∧ b < d ∧ d ≤ 100
def cutsOk : Int → List Int → Prop
  | _, [] => True
  | m, c :: r => 0 ≤ c ∧ c ≤ m ∧ cutsOk c r
structure OptOk (x : Opt) : Prop where
  kernel : x.kernel = "short" ∨ x.kernel = "long"
  levels : 0 ≤ x.levels ∧ x.levels ≤ 3
  side : x.side = 4 ∨ x.side = 8
  cuts : 1 ≤ x.cuts.length ∧ x.cuts.length ≤ 4
  cuts2 : cutsOk 94 x.cuts
  order : x.order ∈ orders24
  th : 1 ≤ x.th ∧ x.th ≤ 16
  tw : 1 ≤ x.tw ∧ x.tw ≤ 16
  region : RegOk x.region
  shift : 0 ≤ x.shift ∧ x.shift ≤ 16
def TB (h : DH) : Prop := h[T_KERNELS]? = some (.tpl [.str "short", .str "long"]) ∧ h[T_SIDES]? = some (.tpl [.int 4, .int 8])
def OptAt (h : DH) (n : Nat) (x : Opt) : Prop := ∃ t, h[n]? = some (.ins C_Options [(A_table, .ref t)]) ∧ h[t]? = some (.dk (optTab x))
theorem og_kernel {x : Opt} : dget (.dk (optTab x)) (.str "kernel") = some (some (.str x.kernel)) := by rfl
theorem og_levels {x : Opt} : dget (.dk (optTab x)) (.str "levels") = some (some (.int x.levels)) := by rfl
theorem og_side {x : Opt} : dget (.dk (optTab x)) (.str "side") = some (some (.int x.side)) := by rfl
theorem og_cuts {x : Opt} : dget (.dk (optTab x)) (.str "cuts") = some (some (.tup (intL x.cuts))) := by rfl
theorem og_order {x : Opt} : dget (.dk (optTab x)) (.str "order") = some (some (.str x.order)) := by rfl
theorem og_th {x : Opt} : dget (.dk (optTab x)) (.str "tile_height") = some (some (.int x.th)) := by rfl
theorem og_tw {x : Opt} : dget (.dk (optTab x)) (.str "tile_width") = some (some (.int x.tw)) := by rfl
theorem og_colors {x : Opt} : dget (.dk (optTab x)) (.str "colors") = some (some (.bl x.colors)) := by rfl
theorem og_region {x : Opt} : dget (.dk (optTab x)) (.str "region") = some (some x.region) := by rfl
theorem og_shift {x : Opt} : dget (.dk (optTab x)) (.str "shift") = some (some (.int x.shift)) := by rfl
section
variable {j : Nat} {h : DH}
theorem sort_letters {z : Str} (h : z.cps.toList.Perm [99, 108, 114, 116]) : sortStr z = [.str "c", .str "l", .str "r", .str "t"] := by
  unfold sortStr
  have e : (z.cps.toList.mergeSort fun a b => decide (a ≤ b)) = [99, 108, 114, 116] := by
    refine List.Perm.eq_of_pairwise (le := (· ≤ ·)) (fun a b _ _ x y => Nat.le_antisymm x y) ?_ (by decide) ((List.mergeSort_perm _ _).trans h)
    exact (List.pairwise_mergeSort (le := fun a b : Nat => decide (a ≤ b)) (fun a b c h1 h2 => by simp only [decide_eq_true_eq] at *; omega) (fun a b => by simp only [Bool.or_eq_true, decide_eq_true_eq]; omega) _).imp fun {a b} h => by simpa using h
  rw [e]
  rfl
theorem orders24_ok : ∀ z ∈ orders24, z.length = 4 ∧ z.cps.size = 4 ∧ z.cps.toList.Perm [99, 108, 114, 116] := by decide +kernel
theorem len_tcrl : Str.length ("tcrl" : Str) = 4 := by decide
theorem is_order_ok (hj : 2 ≤ j) {z : Str} (hz : z ∈ orders24) : Cl j F_is_order [.str z] h = .ok (.bl true) h := by
  obtain ⟨j, rfl, hj⟩ := jj (d := 0) hj
  rw [call_is_order]
  refine wE_eq (fin_pure (wE_out ?_))
  obtain ⟨h2, h3, h4⟩ := orders24_ok z hz
  have l5 : Array.size (Str.cps ("tcrl" : Str)) = 4 := by decide
  have l6 : sortStr "tcrl" = [.str "c", .str "l", .str "r", .str "t"] := sort_letters (by decide +kernel)
  have sh : SeqAt.shaped (.list [.str "c", .str "l", .str "r", .str "t"]) = true := by decide +kernel
  have ev : PyData.eqv (.list [.str "c", .str "l", .str "r", .str "t"]) (.list [.str "c", .str "l", .str "r", .str "t"]) = true := by decide +kernel
  simp_arith [s_is_order_0, kindD, anyTy, refs_bl, lenD, h2, len_tcrl, eqP]
  simp_arith [s_is_order_1, h3, l5, sort_letters h4, l6, eqP, toPD, mapO, decide_true, sh, ev, Bool.and_self, refs_bl]
  exact .push
theorem is_known_ok (hj : 2 ≤ j) (hT : TB h) {z : Str} (hz : z = "short" ∨ z = "long") : Cl j F_is_known [.str z, .ref T_KERNELS] h = .ok (.bl true) h := by
  obtain ⟨j, rfl, hj⟩ := jj (d := 0) hj
  rw [call_is_known]
  refine wE_eq (fin_pure (wE_out ?_))
  have sh1 : SeqAt.shaped (.list [.str "short", .str "long"]) = true := by decide +kernel
  have sh2 : SeqAt.shaped (.str "short") = true := by decide +kernel
  have sh3 : SeqAt.shaped (.str "long") = true := by decide +kernel
  have e1 : ([PyData.str "short", .str "long"].any fun p => PyData.eqv p (.str "short")) = true := by decide +kernel
  have e2 : ([PyData.str "short", .str "long"].any fun p => PyData.eqv p (.str "long")) = true := by decide +kernel
  rcases hz with rfl | rfl
  · simp_arith [s_is_known_0, kindD, anyTy, refs_bl, hT.1, inP, seqOf, tplAt, toPD, mapO, sh1, sh2, Bool.and_self, e1]
    exact .refl
  · simp_arith [s_is_known_0, kindD, anyTy, refs_bl, hT.1, inP, seqOf, tplAt, toPD, mapO, sh1, sh3, Bool.and_self, e2]
    exact .refl
theorem is_region_ok (hj : 6 ≤ j) {v : Bp.D} (hv : RegOk v) : Cl j F_is_region [v] h = .ok (.bl true) h := by
  obtain ⟨j, rfl, hj⟩ := jj (d := 4) hj
  rw [call_is_region]
  refine wE_eq (fin_pure (wE_out ?_))
  rcases hv with rfl | ⟨a, b, c, d, rfl, h1, h2, h3, h4, h5, h6⟩
  · simp_arith [s_is_region_0, s_is_region_4, decide_true, refs_bl]
    exact .refl
  · simp_arith [s_is_region_0]
    simp_arith [s_is_region_1, is_list_tup (show 2 ≤ j + 1 by omega)]
    refine ⟨fun z => absurd z (by decide), fun z => ?_⟩
    refine wE_mLC (wI_val ?_)
    simp_arith
    refine lc_pure (fun x => match x with | .int i => some (.bl (decide (0 ≤ i ∧ i ≤ 100))) | _ => none) depsOk_nil (by show 4 < lim; decide) ?_ ?_
    · intro x hx h' f
      have : ∃ i : Int, x = .int i := by simp at hx; rcases hx with rfl | rfl | rfl | rfl <;> exact ⟨_, rfl⟩
      obtain ⟨i, rfl⟩ := this
      simp_arith [is_in_int (show 4 ≤ j + 1 by omega)]
      exact .refl
    · intro h' f e
      simp_arith [one, listAt, e, List.filterMap_cons, List.filterMap_nil, Option.bind_some, blsOf, mapO, List.all_cons, List.all_nil]
      refine ⟨fun z => ?_, fun z => ?_⟩
      · exfalso
        simp at z
        omega
      · simp_arith [s_is_region_2, h2, h5, decide_true, refs_bl]
        exact f
theorem are_cuts_ok (hj : 6 ≤ j) {l : List Int} (h1 : 1 ≤ l.length) (h2 : l.length ≤ 4) (h3 : cutsOk 94 l) : Cl j F_are_cuts [.tup (intL l)] h = .ok (.bl true) h := by
  obtain ⟨j, rfl, hj⟩ := jj (d := 4) hj
  rw [call_are_cuts]
  refine wE_eq (fin_pure (wE_out ?_))
  have hl : (intL l).length = l.length := by simp [intL]
  simp_arith [s_are_cuts_0, is_list_tup (show 2 ≤ j + 1 by omega), hl]
  refine ⟨fun z => absurd z (by omega), fun z => ?_⟩
  simp_arith [s_are_cuts_1, s_are_cuts_2]
  refine wS_forV rfl rfl (wI_val ?_)
  simp_arith
  refine wS_loop (fun pre e h' => h' = h ∧ ∃ (m : Int) (u : Option Bp.D) (ws rest : List Int), e = [some (.tup (intL l)), some (.int m), u] ∧ l = ws ++ rest ∧ pre = intL ws ∧ cutsOk m rest) ⟨rfl, 94, none, [], l, rfl, rfl, rfl, h3⟩ (fun _ _ _ _ => depsOk_nil) ?_ ?_
  · rintro pre x suf e h' ex ⟨rfl, m, u, ws, rest, rfl, hl, rfl, hc⟩
    cases rest with
    | nil =>
      exfalso
      have := congrArg List.length ex
      simp [hl, intL] at this
    | cons c rest =>
      have : x = .int c := by
        rw [hl] at ex
        simp [intL] at ex
        exact ex.1.symm
      subst this
      obtain ⟨c1, c2, c3⟩ := hc
      simp_arith [wS_step, s_are_cuts_4, is_in_int (show 4 ≤ j + 1 by omega), c1, c2, and_self, decide_true, s_are_cuts_5]
      exact ⟨c, _, ws ++ [c], rest, rfl, by simp [hl], by simp [intL], c3⟩
  · rintro e h' ⟨rfl, m, u, ws, rest, rfl, _, _, _⟩
    simp_arith [s_are_cuts_3, refs_bl]
    exact .refl
theorem first_bad_ok (hj : 8 ≤ j) (hT : TB h) {n : Nat} {x : Opt} (hx : OptOk x) (hn : h[n]? = some (.dk (optTab x))) : Cl j F_first_bad [.ref n] h = .ok .non h := by
  obtain ⟨j, rfl, hj⟩ := jj (d := 6) hj
  rw [call_first_bad]
  refine wE_eq (fin_pure (wE_out ?_))
  have hs : inP h (.int x.side) (.ref T_SIDES) = some true := by
    have sh1 : SeqAt.shaped (.list [.int 4, .int 8]) = true := by decide +kernel
    have sh2 : SeqAt.shaped (.int 4) = true := by decide +kernel
    have sh3 : SeqAt.shaped (.int 8) = true := by decide +kernel
    have e1 : ([PyData.int 4, .int 8].any fun p => PyData.eqv p (.int 4)) = true := by decide +kernel
    have e2 : ([PyData.int 4, .int 8].any fun p => PyData.eqv p (.int 8)) = true := by decide +kernel
    rcases hx.side with e | e
    · simp_arith [e, inP, seqOf, tplAt, hT.2, toPD, mapO, sh1, sh2, Bool.and_self, e1]
    · simp_arith [e, inP, seqOf, tplAt, hT.2, toPD, mapO, sh1, sh3, Bool.and_self, e2]
  have hsd : 4 ≤ x.side ∧ x.side ≤ 8 := by rcases hx.side with e | e <;> rw [e] <;> decide
  simp_arith [s_first_bad_0, hn, og_kernel, og_levels, og_side, og_cuts, og_order, og_th, og_tw, og_colors, og_region, og_shift, is_known_ok (show 2 ≤ j + 1 by omega) hT hx.kernel, is_in_int (show 4 ≤ j + 1 by omega), is_order_ok (show 2 ≤ j + 1 by omega) hx.order,
    are_cuts_ok (show 6 ≤ j + 1 by omega) hx.cuts.1 hx.cuts.2 hx.cuts2, is_region_ok (show 6 ≤ j + 1 by omega) hx.region, hs, kindD, anyTy, hx.levels, hx.th, hx.tw, hx.shift, hsd, and_self, decide_true]
  simp_arith [s_first_bad_1]
  generalize hl : [Bp.D.tup [.str ("kernel" : Str), .bl true], .tup [.str ("levels" : Str), .bl true], .tup [.str ("side" : Str), .bl true], .tup [.str ("cuts" : Str), .bl true], .tup [.str ("order" : Str), .bl true], .tup [.str ("tile_height" : Str), .bl true], .tup [.str ("tile_width" : Str), .bl true], .tup [.str ("colors" : Str), .bl true], .tup [.str ("region" : Str), .bl true], .tup [.str ("shift" : Str), .bl true]] = L
  have hm : ∀ y ∈ L, ∃ s : Str, y = .tup [.str s, .bl true] := by
    intro y hy
    subst hl
    simp only [List.mem_cons, List.not_mem_nil, or_false] at hy
    rcases hy with rfl | rfl | rfl | rfl | rfl | rfl | rfl | rfl | rfl | rfl <;> exact ⟨_, rfl⟩
  have hg : (h ++ [DO.lst L])[h.length]? = some (.lst L) := get_end
  refine wS_forV (x := .ref h.length) rfl (by simp only [noDk, hg]) (wI_val ?_)
  simp_arith [hg]
  refine wS_loop (fun pre e h' => h' = h ++ [.lst L] ∧ ∃ u v : Option Bp.D, e = [some (.ref n), some (.ref h.length), u, v]) ⟨rfl, _, _, rfl⟩ (fun _ _ _ ⟨e, _⟩ => by rw [e]; exact depsOk_one hg) ?_ ?_
  · rintro pre y suf e h' ex ⟨rfl, u, v, rfl⟩
    obtain ⟨s, rfl⟩ := hm y (by rw [ex]; simp)
    simp_arith [wS_step, s_first_bad_3]
    exact ⟨_, _, rfl⟩
  · rintro e h' ⟨rfl, u, v, rfl⟩
    simp_arith [s_first_bad_2, refs_non]
    exact .push
theorem init_ok (hj : 10 ≤ j) (hT : TB h) {n : Nat} {x : Opt} (hx : OptOk x) (hn : h[n]? = some (.ins C_Options [])) :
    wE (Cl j F_Options_init [.ref n, .str x.kernel, .int x.levels, .int x.side, .tup (intL x.cuts), .str x.order, .int x.th, .int x.tw, .bl x.colors, x.region, .int x.shift] h) (fun v h' => v = .non ∧ Fr [n] h h' ∧ OptAt h' n x) nX := by
  obtain ⟨j, rfl, hj⟩ := jj (d := 8) hj
  rw [call_Options_init]
  refine fin_any (wE_out ?_)
  have m1 : mergeD [] ["kernel", "levels", "side", "cuts", "order"] [.str x.kernel, .int x.levels, .int x.side, .tup (intL x.cuts), .str x.order] = (optTab x).take 5 := rfl
  have m2 : mergeD [] ["tile_height", "tile_width", "colors"] [.int x.th, .int x.tw, .bl x.colors] = ((optTab x).drop 5).take 3 := rfl
  have m3 : mergeD [] ["region", "shift"] [x.region, .int x.shift] = (optTab x).drop 8 := rfl
  have l1 : ((optTab x).take 5).length = 5 := rfl
  have l2 : (((optTab x).drop 5).take 3).length = 3 := rfl
  have l3 : ((optTab x).drop 8).length = 2 := rfl
  have l4 : ((optTab x).take 8).length = 8 := rfl
  have f1 : (((optTab x).drop 5).take 3).foldl (fun acc p => dset acc p.1 p.2) ((optTab x).take 5) = (optTab x).take 8 := rfl
  have f2 : ((optTab x).drop 8).foldl (fun acc p => dset acc p.1 p.2) ((optTab x).take 8) = optTab x := rfl
  simp_arith [s_Options_init_0, m1]
  simp_arith [s_Options_init_1, m2, mfD, l1, l2, f1, Nat.reduceAdd, Nat.add_assoc, show h.length ≠ h.length + 1 by omega]
  simp_arith [s_Options_init_2, m3, mfD, l4, l3, f2, Nat.reduceAdd, Nat.add_assoc, show h.length ≠ h.length + 2 by omega]
  have hg : ∀ t : DH, (h ++ DO.dk (optTab x) :: t)[h.length]? = some (.dk (optTab x)) := fun t => by simp
  simp_arith [s_Options_init_3, first_bad_ok (h := h ++ [DO.dk (optTab x), .dk (((optTab x).drop 5).take 3), .dk ((optTab x).drop 8)]) (show 8 ≤ j + 1 by omega) ⟨get_app hT.1, get_app hT.2⟩ hx (hg _)]
  simp_arith [s_Options_init_4]
  simp_arith [s_Options_init_5, setF, get_app hn, show (([] : List (Nat × Bp.D)).length < 900) by decide, and_self, fput]
  have hlt := lt_of_get hn
  have ht : ∀ l : DH, ((h ++ l).set n (.ins C_Options [(A_table, .ref h.length)]))[n]? = some (.ins C_Options [(A_table, .ref h.length)]) := fun l => by
    rw [List.getElem?_set_self (by simp; omega)]
  rw [trim_open hlt (ht _) (by simp [DO.blw, blwF, D.blw, blt_self]) (by rw [hn]; simp)]
  refine ⟨rfl, (Fr.push (S := [n])).set (.inl (by simp)), h.length, ht _, ?_⟩
  rw [List.getElem?_set_ne (by omega)]
  exact hg _
theorem OptAt.fr {S : List Nat} {h' : DH} {n : Nat} {x : Opt} (o : OptAt h n x) (f : Fr S h h') (hs : ∀ i ∈ S, (∃ l, h[i]? = some (.lst l)) ∨ h.length ≤ i) : OptAt h' n x := by
  obtain ⟨t, h1, h2⟩ := o
  refine ⟨t, f.get h1 fun z => ?_, f.get h2 fun z => ?_⟩
  · rcases hs _ z with ⟨l, e⟩ | e
    · rw [h1] at e; cases e
    · exact absurd (lt_of_get h1) (by omega)
  · rcases hs _ z with ⟨l, e⟩ | e
    · rw [h2] at e; cases e
    · exact absurd (lt_of_get h2) (by omega)
theorem OptAt.fr0 {h' : DH} {n : Nat} {x : Opt} (o : OptAt h n x) (f : Fr [] h h') : OptAt h' n x := o.fr f fun i z => by simp at z
theorem OptAt.tr {S : List Nat} {h' h2 : DH} {n : Nat} {x : Opt} {v' : Bp.D} {f : Nat → Nat} {P : Nat → Prop} (o : OptAt h' n x) (hn : h.length ≤ n) (t : TR S h h' (.ref n) v' h2 f P) (hr : D.refs 0 x.region = []) : ∃ m, v' = .ref m ∧ OptAt h2 m x ∧ h.length ≤ m := by
  obtain ⟨k, h1, h3⟩ := o
  have p1 : P n := t.ref n (by simp [D.refs, Nat.not_lt.mpr hn])
  obtain ⟨q1, q2⟩ := t.obj n _ p1 h1
  refine ⟨f n, t.val, ⟨f k, ?_, ?_⟩, t.new n hn p1⟩
  · rw [q1]; rfl
  · have e1 : D.renL f (intL x.cuts) = intL x.cuts := renL_free f _ refsL_int
    have ren : (DO.dk (optTab x)).ren f = .dk (optTab x) := by
      simp only [DO.ren, optTab, renP, D.ren, e1, ren_free f _ hr]
    by_cases hk : k < h.length
    · rw [t.old k hk, t.at_ k hk, h3]
    · have p2 : P k := q2 k (by simp [DO.refs, refsF, D.refs, hk])
      rw [(t.obj k _ p2 h3).1, ren]
section
variable {n : Nat} {x : Opt}
theorem refsL_intL {n : Nat} {l : List Int} : D.refsL n (intL l) = [] := refsL_int
theorem p_kernel (hj : 2 ≤ j) (o : OptAt h n x) : Cl j F_Options_kernel [.ref n] h = .ok (.str x.kernel) h := by
  obtain ⟨j, rfl, hj⟩ := jj (d := 0) hj
  obtain ⟨t, h1, h2⟩ := o
  rw [call_Options_kernel]
  refine wE_eq (fin_pure (wE_out ?_))
  simp_arith [s_Options_kernel_0, h1, List.lookup_nil, List.contains_cons, beq_self_eq_true, Bool.true_or, look_self, h2, og_kernel, refs_str]
  exact .refl
theorem p_levels (hj : 2 ≤ j) (o : OptAt h n x) : Cl j F_Options_levels [.ref n] h = .ok (.int x.levels) h := by
  obtain ⟨j, rfl, hj⟩ := jj (d := 0) hj
  obtain ⟨t, h1, h2⟩ := o
  rw [call_Options_levels]
  refine wE_eq (fin_pure (wE_out ?_))
  simp_arith [s_Options_levels_0, h1, List.lookup_nil, List.contains_cons, beq_self_eq_true, Bool.true_or, look_self, h2, og_levels, refs_int]
  exact .refl
theorem p_side (hj : 2 ≤ j) (o : OptAt h n x) : Cl j F_Options_side [.ref n] h = .ok (.int x.side) h := by
  obtain ⟨j, rfl, hj⟩ := jj (d := 0) hj
  obtain ⟨t, h1, h2⟩ := o
  rw [call_Options_side]
  refine wE_eq (fin_pure (wE_out ?_))
  simp_arith [s_Options_side_0, h1, List.lookup_nil, List.contains_cons, beq_self_eq_true, Bool.true_or, look_self, h2, og_side, refs_int]
  exact .refl
theorem p_cuts (hj : 2 ≤ j) (o : OptAt h n x) : Cl j F_Options_cuts [.ref n] h = .ok (.tup (intL x.cuts)) h := by
  obtain ⟨j, rfl, hj⟩ := jj (d := 0) hj
  obtain ⟨t, h1, h2⟩ := o
  rw [call_Options_cuts]
  refine wE_eq (fin_pure (wE_out ?_))
  simp_arith [s_Options_cuts_0, h1, List.lookup_nil, List.contains_cons, beq_self_eq_true, Bool.true_or, look_self, h2, og_cuts, refs_tup, refsL_intL]
  exact .refl
theorem p_order (hj : 2 ≤ j) (o : OptAt h n x) : Cl j F_Options_order [.ref n] h = .ok (.str x.order) h := by
  obtain ⟨j, rfl, hj⟩ := jj (d := 0) hj
  obtain ⟨t, h1, h2⟩ := o
  rw [call_Options_order]
  refine wE_eq (fin_pure (wE_out ?_))
  simp_arith [s_Options_order_0, h1, List.lookup_nil, List.contains_cons, beq_self_eq_true, Bool.true_or, look_self, h2, og_order, refs_str]
  exact .refl
theorem p_th (hj : 2 ≤ j) (o : OptAt h n x) : Cl j F_Options_tile_height [.ref n] h = .ok (.int x.th) h := by
  obtain ⟨j, rfl, hj⟩ := jj (d := 0) hj
  obtain ⟨t, h1, h2⟩ := o
  rw [call_Options_tile_height]
  refine wE_eq (fin_pure (wE_out ?_))
  simp_arith [s_Options_tile_height_0, h1, List.lookup_nil, List.contains_cons, beq_self_eq_true, Bool.true_or, look_self, h2, og_th, refs_int]
  exact .refl
theorem p_tw (hj : 2 ≤ j) (o : OptAt h n x) : Cl j F_Options_tile_width [.ref n] h = .ok (.int x.tw) h := by
  obtain ⟨j, rfl, hj⟩ := jj (d := 0) hj
  obtain ⟨t, h1, h2⟩ := o
  rw [call_Options_tile_width]
  refine wE_eq (fin_pure (wE_out ?_))
  simp_arith [s_Options_tile_width_0, h1, List.lookup_nil, List.contains_cons, beq_self_eq_true, Bool.true_or, look_self, h2, og_tw, refs_int]
  exact .refl
theorem p_colors (hj : 2 ≤ j) (o : OptAt h n x) : Cl j F_Options_colors [.ref n] h = .ok (.bl x.colors) h := by
  obtain ⟨j, rfl, hj⟩ := jj (d := 0) hj
  obtain ⟨t, h1, h2⟩ := o
  rw [call_Options_colors]
  refine wE_eq (fin_pure (wE_out ?_))
  simp_arith [s_Options_colors_0, h1, List.lookup_nil, List.contains_cons, beq_self_eq_true, Bool.true_or, look_self, h2, og_colors, refs_bl]
  exact .refl
theorem p_shift (hj : 2 ≤ j) (o : OptAt h n x) : Cl j F_Options_shift [.ref n] h = .ok (.int x.shift) h := by
  obtain ⟨j, rfl, hj⟩ := jj (d := 0) hj
  obtain ⟨t, h1, h2⟩ := o
  rw [call_Options_shift]
  refine wE_eq (fin_pure (wE_out ?_))
  simp_arith [s_Options_shift_0, h1, List.lookup_nil, List.contains_cons, beq_self_eq_true, Bool.true_or, look_self, h2, og_shift, refs_int]
  exact .refl
theorem p_region (hj : 2 ≤ j) (o : OptAt h n x) (hr : D.refs 0 x.region = []) : Cl j F_Options_region [.ref n] h = .ok x.region h := by
  obtain ⟨j, rfl, hj⟩ := jj (d := 0) hj
  obtain ⟨t, h1, h2⟩ := o
  rw [call_Options_region]
  refine wE_eq (fin_pure (wE_out ?_))
  simp_arith [s_Options_region_0, h1, List.lookup_nil, List.contains_cons, beq_self_eq_true, Bool.true_or, look_self, h2, og_region, refs_zero _ _ hr]
  exact .refl
theorem RegOk.refs {v : Bp.D} (hv : RegOk v) : D.refs 0 v = [] := by
  rcases hv with rfl | ⟨a, b, c, d, rfl, _⟩
  · exact refs_non
  · rfl
theorem need_options_ok (hj : 2 ≤ j) (o : OptAt h n x) : Cl j F_need_options [.ref n] h = .ok .non h := by
  obtain ⟨j, rfl, hj⟩ := jj (d := 0) hj
  obtain ⟨t, h1, h2⟩ := o
  rw [call_need_options]
  refine wE_eq (fin_pure (wE_out ?_))
  simp_arith [s_need_options_0, kindD, kindH, h1, anyTy, refs_non]
  exact .refl
end
end
theorem eraseIdx_mapD {α β : Type} {f : α → β} : ∀ {l : List α} {i : Nat}, (l.map f).eraseIdx i = (l.eraseIdx i).map f
  | [], i => by simp
  | a :: r, 0 => by simp
  | a :: r, i + 1 => by simp [eraseIdx_mapD]
theorem RowAt.fr {h h' : DH} {S : List Nat} {r s : Nat} {ns : List Int} (R : RowAt h r s ns) (f : Fr S h h') (hr : r ∉ S) (hs : s ∉ S) : RowAt h' r s ns := by
  obtain ⟨h1, a, b, c, h2, h3, h4⟩ := R
  exact ⟨f.get h1 hs, a, b, c, f.get h2 hr, h3, h4⟩
theorem RowAt.fr0 {h h' : DH} {r s : Nat} {ns : List Int} (R : RowAt h r s ns) (f : Fr [] h h') : RowAt h' r s ns := R.fr f (by simp) (by simp)
theorem RowAt.at_ {h h' : DH} {r s : Nat} {ns : List Int} (R : RowAt h r s ns) {h0 : DH} (hr : r < h0.length) (hs : s < h0.length) (e : ∀ i, i < h0.length → h'[i]? = h[i]?) : RowAt h' r s ns := by
  obtain ⟨h1, a, b, c, h2, h3, h4⟩ := R
  exact ⟨by rw [e s hs, h1], a, b, c, by rw [e r hr, h2], h3, h4⟩
theorem RowAt.lt {h : DH} {r s : Nat} {ns : List Int} (R : RowAt h r s ns) : r < h.length ∧ s < h.length := by
  obtain ⟨h1, a, b, c, h2, h3, h4⟩ := R
  exact ⟨lt_of_get h2, lt_of_get h1⟩
section
variable {j : Nat} {h : DH} {r s : Nat} {ns : List Int}
theorem pick_ok (hj : 4 ≤ j) (R : RowAt h r s ns) {t : Nat} {l : List Bp.D} (ht : h[t]? = some (.lst l)) (hne : t ≠ r) (h1 : 0 < l.length) (h2 : l.length < 1073741824) (hp : ∀ v ∈ l, D.refs h.length v = []) :
    wE (Cl j F_law_pick [.ref r, .ref t] h) (fun v h' => v ∈ l ∧ RowAt h' r s ns ∧ Fr [r] h h') nX := by
  obtain ⟨j, rfl, hj⟩ := jj (d := 2) hj
  rw [call_law_pick]
  refine fin_mut (S := [r]) (wE_out ?_)
  simp_arith [s_law_pick_0, lenD, ht]
  refine (taken_ok (show 2 ≤ j + 1 by omega) R (by omega) (by omega)).use ?_
  rintro _ h3 ⟨i, rfl, i0, i1, R3, f3⟩
  have ht3 := f3.get ht (by simpa using hne)
  have hi : i.toNat < l.length := by omega
  have hl : l[i.toNat]? = some l[i.toNat] := List.getElem?_eq_getElem hi
  simp_arith [ht3, atI_int i0, hl]
  refine ⟨hp _ (List.getElem_mem hi), f3, fun h4 f4 e4 => ⟨List.getElem_mem hi, R3.at_ R.lt.1 R.lt.2 e4, f4⟩⟩
theorem pick_new (hj : 4 ≤ j) (R : RowAt h r s ns) {l : List Bp.D} (h1 : 0 < l.length) (h2 : l.length < 1073741824) (hp : ∀ v ∈ l, D.refs 0 v = []) :
    wE (Cl j F_law_pick [.ref r, .ref h.length] (h ++ [.lst l])) (fun v h' => v ∈ l ∧ RowAt h' r s ns ∧ Fr [r] h h') nX :=
  (pick_ok hj (R.fr0 .push) get_end (by have := R.lt.1; omega) h1 h2 fun v hv => refs_zero _ _ (hp v hv)).use fun v h' ⟨a, b, c⟩ => ⟨a, b, (Fr.push (S := [r])).trans c⟩
theorem TB.fr {h' : DH} (hT : TB h) (R : RowAt h r s ns) (f : Fr [r] h h') : TB h' := by
  obtain ⟨_, a, b, c, hr, _, _⟩ := R
  obtain ⟨t1, t2⟩ := hT
  exact ⟨f.get t1 (fun z => by rw [List.mem_singleton.mp z, hr] at t1; cases t1), f.get t2 (fun z => by rw [List.mem_singleton.mp z, hr] at t2; cases t2)⟩
theorem TB.fr0 {h' : DH} (hT : TB h) (f : Fr [] h h') : TB h' := ⟨f.get0 hT.1, f.get0 hT.2⟩
def ordG : Nat → List (Str × List Str)
  | 0 => [("", ["t", "c", "r", "l"])]
  | k + 1 => (ordG k).flatMap fun p => (List.range p.2.length).map fun i => (p.1 ++ p.2.getD i "", p.2.eraseIdx i)
theorem ordG_ok : ∀ k < 4, ∀ p ∈ ordG k, p.2.length = 4 - k ∧ ∀ i < p.2.length, p.1.length + (p.2.getD i "").length ≤ 4 := by decide +kernel
theorem ordG_end : ∀ p ∈ ordG 4, p.1 ∈ orders24 := by decide +kernel
theorem order_ok (hj : 4 ≤ j) (R : RowAt h r s ns) : wE (Cl j F_law_order [.ref r] h) (fun v h' => ∃ z : Str, v = .str z ∧ z ∈ orders24 ∧ RowAt h' r s ns ∧ Fr [r] h h') nX := by
  obtain ⟨j, rfl, hj⟩ := jj (d := 2) hj
  rw [call_law_order]
  refine fin_mut (S := [r]) (wE_out ?_)
  simp_arith [s_law_order_0]
  simp_arith [s_law_order_1]
  refine wS_for ?_
  simp_arith [show inR 4 = true by decide +kernel]
  have hne : h.length ≠ r := by have := R.lt.1; omega
  refine wS_loop (fun pre e h' => ∃ (p : Str × List Str) (u : Option Bp.D), p ∈ ordG pre.length ∧ e = [some (.ref r), some (.ref h.length), some (.str p.1), u] ∧ Fr [r] h h' ∧ RowAt h' r s ns ∧ h'[h.length]? = some (.lst (p.2.map .str)))
    ⟨("", ["t", "c", "r", "l"]), none, by simp [ordG], rfl, .push, R.fr0 .push, get_end⟩ (fun _ _ _ _ => depsOk_nil) ?_ ?_
  · rintro pre x suf e h' ex ⟨p, u, hp, rfl, f, R1, hl⟩
    have hk : pre.length < 4 := by
      have := congrArg List.length ex
      simp [rangeL] at this
      omega
    obtain ⟨p1, p2⟩ := ordG_ok _ hk p hp
    simp_arith [wS_step, s_law_order_3, hl, lenD, listAt, Option.isSome_some, List.length_map]
    refine (taken_ok (show 2 ≤ j + 1 by omega) R1 (by omega) (by omega)).use ?_
    rintro _ h3 ⟨i, rfl, i0, i1, R3, f3⟩
    have hi : i.toNat < p.2.length := by omega
    have ht3 := f3.get hl (by simpa using hne)
    have hs : small64 i = true := small64_of (by omega) (by omega)
    have hb1 : i < 9223372036854775808 := by omega
    have hb2 : -9223372036854775808 ≤ i := by omega
    have hx := p2 i.toNat hi
    have hg : p.2.getD i.toNat "" = p.2[i.toNat] := by simp [List.getD_eq_getElem?_getD, hi]
    rw [hg] at hx
    have hlt : p.1.length + p.2[i.toNat].length ≤ 16777216 := by omega
    simp_arith [mfD, ht3, hs, hb1, hb2, decide_true, Bool.and_self, List.length_map, ixN_int i0 (show i < (p.2.length : Int) by omega), List.getElem?_map, List.getElem?_eq_getElem hi, hlt]
    refine ⟨(p.1 ++ p.2[i.toNat], p.2.eraseIdx i.toNat), _, ?_, rfl, (f.trans f3).set (.inr (Nat.le_refl _)), R3.fr (Fr.refl.set (S := [h.length]) (.inl (by simp))) (by simpa using hne.symm) (by have := R.lt.2; simp; omega), ?_⟩
    · refine List.mem_flatMap.mpr ⟨p, hp, List.mem_map.mpr ⟨i.toNat, List.mem_range.mpr hi, ?_⟩⟩
      rw [hg]
    · rw [get_set ht3, eraseIdx_mapD]
  · rintro e h' ⟨p, u, hp, rfl, f, R1, hl⟩
    simp_arith [s_law_order_2, refs_str]
    rw [rangeL_len] at hp
    exact ⟨f, fun h2 f2 e2 => ⟨_, rfl, ordG_end _ hp, R1.at_ R.lt.1 R.lt.2 e2, f2⟩⟩
end
section
variable {j : Nat} {h : DH} {r s : Nat} {ns : List Int}
theorem law_options_ok (hj : 14 ≤ j) (hT : TB h) (R : RowAt h r s ns) {l : List Int} (c1 : 1 ≤ l.length) (c2 : l.length ≤ 4) (c3 : cutsOk 94 l) :
    wE (Cl j F_law_options [.ref r, .tup (intL l)] h) (fun v h' => ∃ (n : Nat) (x : Opt), v = .ref n ∧ OptOk x ∧ OptAt h' n x ∧ h.length ≤ n ∧ x.cuts = l ∧ x.colors = false ∧ x.region = .non ∧ x.shift = 0 ∧ RowAt h' r s ns ∧ Fr [r] h h') nX := by
  obtain ⟨j, rfl, hj⟩ := jj (d := 12) hj
  rw [call_law_options]
  refine fin_gen (S := [r]) (wE_out ?_)
  have tall : ∀ {q : Int}, 0 ≤ q → q < 7 → ∀ v ∈ [Bp.D.int 16, .int 16, .int (1 + q)], ∃ t : Int, v = .int t ∧ 1 ≤ t ∧ t ≤ 16 := by
    intro q q0 q1 v hv
    simp at hv
    rcases hv with rfl | rfl
    · exact ⟨_, rfl, by decide, by decide⟩
    · exact ⟨_, rfl, by omega, by omega⟩
  have tref : ∀ {q : Int}, ∀ v ∈ [Bp.D.int 16, .int 16, .int (1 + q)], D.refs 0 v = [] := by
    intro q v hv
    simp at hv
    rcases hv with rfl | rfl <;> exact refs_int
  simp_arith [s_law_options_0]
  refine (taken_ok (show 2 ≤ j + 1 by omega) R (by omega) (by omega)).use ?_
  rintro _ h1 ⟨q, rfl, q0, q1, R1, f1⟩
  simp_arith
  refine (pick_new (show 4 ≤ j + 1 by omega) R1 (by simp) (by simp) tref).use ?_
  rintro _ h2 ⟨hv, R2, f2⟩
  obtain ⟨th, rfl, t0, t1⟩ := tall q0 q1 _ hv
  simp_arith
  refine (taken_ok (show 2 ≤ j + 1 by omega) R2 (by omega) (by omega)).use ?_
  rintro _ h3 ⟨q', rfl, q0', q1', R3, f3⟩
  simp_arith
  refine (pick_new (show 4 ≤ j + 1 by omega) R3 (by simp) (by simp) tref).use ?_
  rintro _ h4 ⟨hv', R4, f4⟩
  obtain ⟨tw, rfl, u0, u1⟩ := tall q0' q1' _ hv'
  simp_arith [s_law_options_1]
  refine (pick_new (show 4 ≤ j + 1 by omega) R4 (by simp) (by simp) (by intro v hv; simp at hv; rcases hv with rfl | rfl <;> exact refs_str)).use ?_
  rintro v h5 ⟨hv5, R5, f5⟩
  have hk : ∃ z : Str, v = .str z ∧ (z = "short" ∨ z = "long") := by
    simp at hv5
    rcases hv5 with rfl | rfl
    · exact ⟨_, rfl, .inl rfl⟩
    · exact ⟨_, rfl, .inr rfl⟩
  obtain ⟨z, rfl, hz⟩ := hk
  simp_arith
  refine (taken_ok (show 2 ≤ j + 1 by omega) R5 (by omega) (by omega)).use ?_
  rintro _ h6 ⟨lv, rfl, lv0, lv1, R6, f6⟩
  simp_arith
  refine (pick_new (show 4 ≤ j + 1 by omega) R6 (by simp) (by simp) (by intro v hv; simp at hv; rcases hv with rfl | rfl <;> exact refs_int)).use ?_
  rintro v h7 ⟨hv7, R7, f7⟩
  have hk : ∃ z : Int, v = .int z ∧ (z = 4 ∨ z = 8) := by
    simp at hv7
    rcases hv7 with rfl | rfl
    · exact ⟨_, rfl, .inl rfl⟩
    · exact ⟨_, rfl, .inr rfl⟩
  obtain ⟨sd, rfl, hsd⟩ := hk
  simp_arith [s_law_options_2]
  refine (order_ok (show 4 ≤ j + 1 by omega) R7).use ?_
  rintro _ h8 ⟨o, rfl, ho, R8, f8⟩
  have F : Fr [r] h h8 := ((((((f1.trans f2).trans f3).trans f4).trans f5).trans f6).trans f7).trans f8
  have hT8 : TB h8 := hT.fr R F
  simp_arith [s_law_options_3, arrange, mapO, Sl.get]
  have xo : OptOk ⟨z, lv, sd, l, o, th, tw, false, .non, 0⟩ := ⟨hz, ⟨lv0, show lv ≤ 3 by omega⟩, hsd, ⟨c1, c2⟩, c3, ho, ⟨t0, t1⟩, ⟨u0, u1⟩, .inl rfl, ⟨Int.le_refl 0, show (0 : Int) ≤ 16 by decide⟩⟩
  refine (init_ok (show 10 ≤ j by omega) (hT8.fr0 .push) xo (n := h8.length) get_end).use ?_
  rintro _ h9 ⟨rfl, f9, o9⟩
  have g9 : Fr [] h8 h9 := ⟨by have := f9.len; simp at this; omega, fun i hi _ => by rw [f9.at_ i (by simp; omega) (by simp; omega), List.getElem?_append_left hi]⟩
  simp_arith
  refine ⟨F.trans g9.nil, fun v' h10 f P t => ?_⟩
  obtain ⟨m, rfl, om, hm⟩ := o9.tr F.len t refs_non
  exact ⟨m, _, rfl, xo, om, hm, rfl, rfl, rfl, rfl, (R8.fr0 g9).at_ R.lt.1 R.lt.2 t.at_, t.fr⟩
end
section
variable {j : Nat} {h : DH} {n m : Nat} {x y : Opt} {kvs : List (Bp.D × Bp.D)}
theorem changed_ok (hj : 14 ≤ j) (hT : TB h) (o : OptAt h n x) (hm : h[m]? = some (.dk kvs)) (hl : kvs.length ≤ 10) (hk : ∀ p ∈ kvs, ∃ (s : Str) (v : Bp.D), p.1 = .str s ∧ dget (.dk (optTab x)) (.str s) = some (some v)) (hy : OptOk y)
    (he : kvs.foldl (fun acc p => dset acc p.1 p.2) (optTab x) = optTab y) : wE (Cl j F_Options_changed [.ref n, .ref m] h) (fun v h' => ∃ q, v = .ref q ∧ OptAt h' q y ∧ h.length ≤ q ∧ Fr [] h h') nX := by
  obtain ⟨j, rfl, hj⟩ := jj (d := 12) hj
  obtain ⟨t, h1, h2⟩ := o
  rw [call_Options_changed]
  refine fin_gen (S := []) (wE_out ?_)
  simp_arith [s_Options_changed_0, h1, List.lookup_nil, List.contains_cons, beq_self_eq_true, Bool.true_or, look_self, h2]
  simp_arith [s_Options_changed_1]
  have hm1 : (h ++ [DO.dk (optTab x)])[m]? = some (.dk kvs) := get_app hm
  refine wS_forK (n := m) (l := kvs) rfl hm1 ?_
  have hlt := lt_of_get hm
  have ht : ((h ++ [DO.dk (optTab x)]).set m (.lk kvs))[h.length]? = some (.dk (optTab x)) := by
    rw [List.getElem?_set_ne (by omega)]
    exact get_end
  refine wS_loop (fun pre e h' => h' = (h ++ [DO.dk (optTab x)]).set m (.lk kvs) ∧ ∃ u : Option Bp.D, e = [some (.ref n), some (.ref m), some (.ref h.length), u]) ⟨rfl, _, rfl⟩ (fun _ _ _ _ => depsOk_nil) ?_ ?_
  · rintro pre z suf e h' ex ⟨rfl, u, rfl⟩
    have hz : z ∈ kvs.map (·.1) := by rw [ex]; simp
    obtain ⟨p, hp, rfl⟩ := List.mem_map.mp hz
    obtain ⟨s, v, e1, e2⟩ := hk p hp
    simp_arith [wS_step, e1, s_Options_changed_4, inP, seqOf, tplAt, ht, listAt, e2, Option.isSome_some]
    exact ⟨_, rfl⟩
  · rintro e h' ⟨rfl, u, rfl⟩
    have l1 : (optTab x).length = 10 := rfl
    have l2 : 10 + kvs.length ≤ 16777216 := by omega
    have v1 : valsOf ["kernel", "levels", "side", "cuts", "order", "tile_height", "tile_width", "colors", "region", "shift"] (optTab y) = some (optVals y) := rfl
    have v2 : arrange [.k 0, .k 1, .k 2, .k 3, .k 4, .k 5, .k 6, .k 7, .k 8, .k 9] [] (optVals y) = some (optVals y) := rfl
    simp_arith [set_same hm1, s_Options_changed_2, mfD, hm1, get_end, l1, l2, show h.length ≠ m by omega, and_self, he]
    simp_arith [s_Options_changed_3, v1, v2]
    refine (init_ok (show 10 ≤ j by omega) (hT.fr0 (Fr.push)) hy (n := h.length + 1) (by simp)).use ?_
    rintro _ h3 ⟨rfl, f3, o3⟩
    have g3 : Fr [] h h3 := ⟨by have := f3.len; simp at this; omega, fun i hi _ => by rw [f3.at_ i (by simp; omega) (by simp; omega), List.getElem?_append_left hi]⟩
    simp_arith
    refine ⟨g3, fun v' h4 f P t => ?_⟩
    obtain ⟨q, rfl, o4, hq⟩ := o3.tr (by omega) t hy.region.refs
    exact ⟨q, rfl, o4, hq, t.fr⟩
theorem need_frame_ok (hj : 6 ≤ j) {a b c d e : Int} (ha : 0 ≤ a ∧ a ≤ 99) (hb : 0 ≤ b ∧ b ≤ 99) (hc : 1 ≤ c ∧ c ≤ 16 ∧ a + c ≤ 100) (hd : 1 ≤ d ∧ d ≤ 16 ∧ b + d ≤ 100) (he : 1 ≤ e ∧ e ≤ 3) :
    Cl j F_need_frame [.tup [.int a, .int b, .int c, .int d, .int e]] h = .ok .non h := by
  obtain ⟨j, rfl, hj⟩ := jj (d := 4) hj
  rw [call_need_frame]
  refine wE_eq (fin_pure (wE_out ?_))
  simp_arith [s_need_frame_0, is_list_tup (show 2 ≤ j + 1 by omega)]
  refine ⟨fun z => absurd z (by decide), fun z => ?_⟩
  refine wE_mLC (wI_val ?_)
  have hcut : cutL [Bp.D.int a, .int b, .int c, .int d, .int e] none (some 2) = [.int a, .int b] := rfl
  simp_arith [sliceD, hcut]
  refine lc_pure (fun x => match x with | .int i => some (.bl (decide (0 ≤ i ∧ i ≤ 99))) | _ => none) depsOk_nil (by show 2 < lim; decide) ?_ ?_
  · intro x hx h' f
    have : ∃ i : Int, x = .int i := by simp at hx; rcases hx with rfl | rfl <;> exact ⟨_, rfl⟩
    obtain ⟨i, rfl⟩ := this
    have e99 : (100 : Int) - 1 = 99 := rfl
    simp_arith [is_in_int (show 4 ≤ j + 1 by omega), e99]
    exact .refl
  · intro h' f e1
    simp_arith [one, listAt, e1, List.filterMap_cons, List.filterMap_nil, Option.bind_some, blsOf, mapO, List.all_cons, List.all_nil]
    refine ⟨fun z => ?_, fun z => ?_⟩
    · exfalso
      simp at z
      omega
    · simp_arith [s_need_frame_1]
      refine wS_for (wI_val ?_)
      simp_arith
      refine wS_loop (fun pre e2 h2 => h2 = h' ∧ ∃ u v : Option Bp.D, e2 = [some (.tup [.int a, .int b, .int c, .int d, .int e]), u, v]) ⟨rfl, _, _, rfl⟩ (fun _ _ _ _ => depsOk_nil) ?_ ?_
      · rintro pre z suf e2 h2 ex ⟨rfl, u, v, rfl⟩
        have hz : z = .int 0 ∨ z = .int 1 := by
          have : z ∈ [Bp.D.int 0, .int 1] := by rw [ex]; simp
          simpa using this
        have a1 : (2 : Int) + 0 = 2 := rfl
        have a2 : (2 : Int) + 1 = 3 := rfl
        have k1 : 1 ≤ c ∧ c ≤ min 16 (100 - a) := by omega
        have k2 : 1 ≤ d ∧ d ≤ min 16 (100 - b) := by omega
        rcases hz with rfl | rfl
        · simp_arith [wS_step, s_need_frame_4, a1, is_in_int (show 4 ≤ j + 1 by omega), k1, and_self, decide_true]
          exact ⟨_, _, rfl⟩
        · simp_arith [wS_step, s_need_frame_4, a2, is_in_int (show 4 ≤ j + 1 by omega), k2, and_self, decide_true]
          exact ⟨_, _, rfl⟩
      · rintro e2 h2 ⟨rfl, u, v, rfl⟩
        simp_arith [s_need_frame_2, is_in_int (show 4 ≤ j + 1 by omega), he, and_self, decide_true, refs_non]
        exact f
end
theorem filterMap_all {α β : Type} {f : α → Option β} {g : α → β} : ∀ {l : List α}, (∀ a ∈ l, f a = some (g a)) → l.filterMap f = l.map g
  | [], _ => rfl
  | a :: r, h => by
    rw [List.filterMap_cons, h a (by simp), List.map_cons, filterMap_all fun b hb => h b (by simp [hb])]
theorem filterMap_range {a : Int} {n : Nat} {f : Bp.D → Option Bp.D} {g : Nat → Bp.D} (h : ∀ k, k < n → f (.int (a + k)) = some (g k)) : (rangeL a n 1).filterMap f = (List.range n).map g := by
  unfold rangeL
  rw [List.filterMap_map]
  refine filterMap_all fun k hk => ?_
  simp only [Function.comp, Int.mul_one]
  exact h k (List.mem_range.mp hk)
section
variable {j : Nat} {h : DH}
theorem refsL_dP {n : Nat} {l : List (Int × Int)} : D.refsL n (l.map dP) = [] := refsL_mem fun v hv => by obtain ⟨i, _, rfl⟩ := List.mem_map.mp hv; rfl
theorem pieces_ok (hj : 2 ≤ j) {start stop size : Int} (h0 : 0 < size) (h1 : size ≤ 1000000) (hl : start ≤ stop) (b0 : 0 ≤ start) (b1 : stop ≤ 1000000) :
    Cl j F_pieces [.int start, .int stop, .int size] h = .ok (.ref h.length) (h ++ [.lst ((spanP start stop size).map dP)]) := by
  obtain ⟨j, rfl, hj⟩ := jj (d := 0) hj
  rw [call_pieces]
  refine wE_eq (fin_lst (wE_out ?_))
  simp_arith [s_pieces_0, eqP]
  refine ⟨fun z => ?_, fun z => ?_⟩
  · have e : cntP start stop size = 0 := by unfold cntP; rw [if_pos z]
    simp_arith [s_pieces_2]
    refine ⟨.push, h.length, [], rfl, Nat.le_refl _, get_end, refsL_nil, ?_⟩
    simp [spanP, e]
  · have hd : divOk size = true := divOk_of h0 (by omega)
    have hs : ∀ i, mulOk i size = true := fun i => mulOk_r (small64_of (by omega) (by omega))
    have a1 : 0 ≤ start / size := Int.ediv_nonneg b0 (by omega)
    have a2 : 0 ≤ (stop - 1) / size := Int.ediv_nonneg (by omega) (by omega)
    have a3 : start / size ≤ start := Int.ediv_le_self _ b0
    have a4 : (stop - 1) / size ≤ stop - 1 := Int.ediv_le_self _ (by omega)
    simp_arith [s_pieces_1]
    refine wE_mLC ?_
    simp_arith [hd, inR_of (show -4611686018427387904 ≤ start / size by omega) (show start / size < 4611686018427387904 by omega), inR_of (show -4611686018427387904 ≤ (stop - 1) / size + 1 by omega) (show (stop - 1) / size + 1 < 4611686018427387904 by omega), and_self]
    have hc : ((stop - 1) / size + 1 - start / size).toNat = cntP start stop size := by unfold cntP; rw [if_neg z]
    rw [hc]
    have hcl := cnt_le h0 hl
    refine lc_pure (fun x => match x with | .int i => some (.tup [.int (max start (i * size)), .int (min stop (i * size + size))]) | _ => none) depsOk_nil (by rw [rangeL_len]; simp only [lim]; omega) ?_ ?_
    · intro x hx h' f
      obtain ⟨k, hk, rfl⟩ := rangeL_mem hx
      simp_arith [hs]
      exact .refl
    · intro h' f e
      refine ⟨f, h.length, _, rfl, Nat.le_refl _, e, ?_, ?_⟩
      · rw [filterMap_range (g := fun k => dP (posP start stop size k, posP start stop size (k + 1)))]
        · exact refsL_mem fun v hv => by obtain ⟨i, _, rfl⟩ := List.mem_map.mp hv; rfl
        · intro k hk
          obtain ⟨q1, q2⟩ := posP_lt h0 (show start < stop by omega) hk
          simp only [dP, q1, posP_succ h0]
      · congr 3
        rw [filterMap_range (g := fun k => dP (posP start stop size k, posP start stop size (k + 1)))]
        · simp [spanP]
        · intro k hk
          obtain ⟨q1, q2⟩ := posP_lt h0 (show start < stop by omega) hk
          simp only [dP, q1, posP_succ h0]
theorem law_grid_ok (hj : 2 ≤ j) {start stop size : Int} (h0 : 0 < size) (h1 : size ≤ 1000000) (hl : start ≤ stop) (b0 : 0 ≤ start) (b1 : stop ≤ 1000000) :
    Cl j F_law_grid [.int start, .int stop, .int size] h = .ok (.ref h.length) (h ++ [.lst ((spanP start stop size).map dP)]) := by
  obtain ⟨j, rfl, hj⟩ := jj (d := 0) hj
  rw [call_law_grid]
  refine wE_eq (fin_lst (wE_out ?_))
  have hd : divOk size = true := divOk_of h0 (by omega)
  have hs : ∀ i, mulOk i size = true := fun i => mulOk_r (small64_of (by omega) (by omega))
  have hcl := cnt_le h0 hl
  simp_arith [s_law_grid_0]
  simp_arith [s_law_grid_1]
  refine wS_while (fun n e h' => ∃ (k : Nat) (u : Option Bp.D), k + n = cntP start stop size ∧ e = [some (.int start), some (.int stop), some (.int size), some (.ref h.length), some (.int (posP start stop size k)), u] ∧ h' = h ++ [.lst (((List.range k).map fun k => (posP start stop size k, posP start stop size (k + 1))).map dP)])
    (cntP start stop size) (by unfold wFuel; omega) ⟨0, none, by omega, by rw [posP_zero h0 hl], rfl⟩ ?_
  rintro n e h' ⟨k, u, hk, rfl, rfl⟩
  simp_arith
  refine ⟨fun z => ?_, fun z => ?_⟩
  · have hk2 : k < cntP start stop size := by
      apply Nat.lt_of_not_le
      intro q
      have : k = cntP start stop size := by omega
      rw [this, posP_end h0 hl] at z
      omega
    have hlt : start < stop := by have := posP_bd (k := k) h0 hl; omega
    refine ⟨n - 1, by omega, ?_⟩
    simp_arith [s_law_grid_3, hd, hs]
    have len : (((List.range k).map fun k => (posP start stop size k, posP start stop size (k + 1))).map dP).length < 16777216 := by simp; omega
    simp_arith [s_law_grid_4, get_end, listAt, Option.isSome_some, mfD, len, s_law_grid_5]
    refine ⟨k + 1, some (.int (posP start stop size (k + 1))), by omega, ?_, ?_⟩
    · rw [← posP_next h0 hlt hk2]
    · rw [← posP_next h0 hlt hk2, List.range_succ]
      simp [dP]
  · have hk2 : ¬ k < cntP start stop size := fun q => by
      have hlt : start < stop := by
        by_cases e : start = stop
        · have : cntP start stop size = 0 := by unfold cntP; rw [if_pos e]
          omega
        · omega
      have := (posP_lt h0 hlt q).2
      omega
    have hk3 : k = cntP start stop size := by omega
    subst hk3
    simp_arith [s_law_grid_2]
    exact ⟨.push, h.length, _, rfl, Nat.le_refl _, get_end, refsL_dP, rfl⟩
def rectP (top left height width th tw : Int) : List (List Int) := ((spanP top (top + height) th).map fun u => (spanP left (left + width) tw).map fun v => [u.1, v.1, u.2 - u.1, v.2 - v.1]).flatten
def tileP (top left height width th tw : Int) : List ((Int × Int) × (Int × Int)) := ((spanP top (top + height) th).map fun u => (spanP left (left + width) tw).map fun v => (u, v)).flatten
theorem flat_len {α β : Type} {l : List α} {g : α → List β} {m : Nat} (h : ∀ a ∈ l, (g a).length ≤ m) : (l.map g).flatten.length ≤ l.length * m := by
  induction l with
  | nil => simp
  | cons a r ih =>
    have h1 := h a (by simp)
    have h2 := ih fun b hb => h b (by simp [hb])
    simp only [List.map_cons, List.flatten_cons, List.length_append, List.length_cons, Nat.add_mul, Nat.one_mul]
    omega
theorem rectangles_ok (hj : 4 ≤ j) {top left height width th tw : Int} (h0 : 0 < th) (h1 : th ≤ 1000000) (h2 : 0 < tw) (h3 : tw ≤ 1000000) (a0 : 0 ≤ top) (a1 : 0 ≤ left) (a2 : 0 ≤ height) (a3 : 0 ≤ width) (a4 : height ≤ 1000) (a5 : width ≤ 1000) (a6 : top ≤ 1000) (a7 : left ≤ 1000) :
    Cl j F_rectangles [.int top, .int left, .int height, .int width, .tup [.int th, .int tw]] h = .ok (.ref h.length) (h ++ [.lst ((rectP top left height width th tw).map dI)]) := by
  obtain ⟨j, rfl, hj⟩ := jj (d := 2) hj
  rw [call_rectangles]
  refine wE_eq (fin_lst (wE_out ?_))
  have hin : ∀ h' : DH, Cl (j + 1) F_pieces [.int left, .int (left + width), .int tw] h' = .ok (.ref h'.length) (h' ++ [.lst ((spanP left (left + width) tw).map dP)]) := fun h' => pieces_ok (by omega) h2 h3 (by omega) a1 (by omega)
  have c1 := cnt_le (start := top) (stop := top + height) h0 (by omega)
  have c2 := cnt_le (start := left) (stop := left + width) h2 (by omega)
  simp_arith [s_rectangles_0, s_rectangles_1]
  refine wS_for (wI_val ?_)
  simp_arith [pieces_ok (h := h ++ [DO.lst []]) (show 2 ≤ j + 1 by omega) h0 h1 (show top ≤ top + height by omega) a0 (by omega)]
  have gN : ∀ h' : DH, Fr [] (h ++ [.lst []]) h' → True := fun _ _ => trivial
  refine wS_loop (fun pre e h' => ∃ (us : List (Int × Int)) (u6 u7 u8 u9 : Option Bp.D), pre = us.map dP ∧ (∃ vs, us ++ vs = spanP top (top + height) th) ∧ e = [some (.int top), some (.int left), some (.int height), some (.int width), some (.tup [.int th, .int tw]), some (.ref h.length), u6, u7, u8, u9] ∧
      Fr [] h h' ∧ h'[h.length]? = some (.lst (((us.map fun u => (spanP left (left + width) tw).map fun v => [u.1, v.1, u.2 - u.1, v.2 - v.1]).flatten).map dI)) ∧ h'[h.length + 1]? = some (.lst ((spanP top (top + height) th).map dP)))
    ⟨[], none, none, none, none, rfl, ⟨_, rfl⟩, rfl, .push, by simp, by simp⟩ (fun pre e h' ⟨_, _, _, _, _, _, _, _, _, _, q⟩ => by simp [depsOk, q]) ?_ ?_
  · rintro pre x suf e h' ex ⟨us, u6, u7, u8, u9, rfl, ⟨vs, hvs⟩, rfl, f, e1, e2⟩
    cases vs with
    | nil =>
      exfalso
      have := congrArg List.length ex
      simp [← hvs] at this
    | cons u vs =>
      have : x = dP u := by
        rw [← hvs] at ex
        simp at ex
        exact ex.1.symm
      subst this
      have hul : us.length + 1 ≤ 1000 := by
        have := congrArg List.length hvs
        simp [spanP_len] at this
        omega
      simp_arith [wS_step, dP, s_rectangles_3]
      refine wS_for (wI_val ?_)
      simp_arith [hin, get_end]
      have hlt := lt_of_get e1
      have hlt2 := lt_of_get e2
      refine wS_loop (fun pre e h2 => ∃ (ws : List (Int × Int)) (u8 u9 : Option Bp.D), pre = ws.map dP ∧ (∃ vs, ws ++ vs = spanP left (left + width) tw) ∧ e = [some (.int top), some (.int left), some (.int height), some (.int width), some (.tup [.int th, .int tw]), some (.ref h.length), some (.int u.1), some (.int u.2), u8, u9] ∧
        Fr [h.length] h' h2 ∧ h2[h.length]? = some (.lst ((((us.map fun u => (spanP left (left + width) tw).map fun v => [u.1, v.1, u.2 - u.1, v.2 - v.1]).flatten) ++ ws.map fun v => [u.1, v.1, u.2 - u.1, v.2 - v.1]).map dI)) ∧ h2[h'.length]? = some (.lst ((spanP left (left + width) tw).map dP)))
        ⟨[], _, _, rfl, ⟨_, rfl⟩, rfl, .push, by rw [get_app e1]; simp, get_end⟩ (fun pre e h' ⟨_, _, _, _, _, _, _, _, q⟩ => by simp [depsOk, q]) ?_ ?_
      · rintro pre x suf2 e h2 ex2 ⟨ws, u8, u9, rfl, ⟨vs2, hvs2⟩, rfl, f2, e3, e4⟩
        cases vs2 with
        | nil =>
          exfalso
          have := congrArg List.length ex2
          simp [← hvs2] at this
        | cons v vs2 =>
          have : x = dP v := by
            rw [← hvs2] at ex2
            simp at ex2
            exact ex2.1.symm
          subst this
          have hwl : ws.length + 1 ≤ 1000 := by
            have := congrArg List.length hvs2
            simp [spanP_len] at this
            omega
          have len : ((((us.map fun u => (spanP left (left + width) tw).map fun v => [u.1, v.1, u.2 - u.1, v.2 - v.1]).flatten) ++ ws.map fun v => [u.1, v.1, u.2 - u.1, v.2 - v.1]).map dI).length < 16777216 := by
            have := flat_len (l := us) (g := fun u => (spanP left (left + width) tw).map fun v => [u.1, v.1, u.2 - u.1, v.2 - v.1]) (m := 1000) (fun a _ => by simp [spanP_len]; omega)
            rw [List.length_map, List.length_append, List.length_map]
            omega
          simp_arith [wS_step, dP, s_rectangles_4, e3, listAt, Option.isSome_some, mfD, len]
          refine ⟨ws ++ [v], _, _, by simp [dP], ⟨vs2, by simp [hvs2]⟩, rfl, f2.set (.inl (by simp)), ?_, ?_⟩
          · rw [get_set e3]; simp [dI]
          · rw [get_set_ne e4 (by omega)]
      · rintro e h2 ⟨ws, u8, u9, hw, ⟨vs2, hvs2⟩, rfl, f2, e3, e4⟩
        have hws : ws = spanP left (left + width) tw := by
          have := congrArg List.length hw
          have h5 := congrArg List.length hvs2
          simp at this h5
          have : vs2 = [] := List.eq_nil_of_length_eq_zero (by omega)
          rw [this, List.append_nil] at hvs2
          exact hvs2
        subst hws
        simp_arith
        refine ⟨us ++ [u], _, _, _, _, by simp [dP], ⟨vs, by simp [hvs]⟩, rfl, ⟨by have := f.len; have := f2.len; omega, fun i hi _ => by rw [f2.at_ i (by have := f.len; omega) (by simp; omega), f.at_ i hi (by simp)]⟩, ?_, ?_⟩
        · rw [e3]; simp
        · exact f2.get e2 (by simp)
  · rintro e h' ⟨us, u6, u7, u8, u9, hp, ⟨vs, hvs⟩, rfl, f, e1, e2⟩
    have hus : us = spanP top (top + height) th := by
      have := congrArg List.length hp
      have h5 := congrArg List.length hvs
      simp at this h5
      have : vs = [] := List.eq_nil_of_length_eq_zero (by omega)
      rw [this, List.append_nil] at hvs
      exact hvs
    subst hus
    simp_arith [s_rectangles_2]
    exact ⟨f, h.length, _, rfl, Nat.le_refl _, e1, refsL_dI, rfl⟩
def frT (a b c d e : Int) : Bp.D := .tup [.int a, .int b, .int c, .int d, .int e]
structure FrameOk (a b c d e : Int) : Prop where
  top : 0 ≤ a ∧ a ≤ 99
  left : 0 ≤ b ∧ b ≤ 99
  high : 1 ≤ c ∧ c ≤ 16 ∧ a + c ≤ 100
  wide : 1 ≤ d ∧ d ≤ 16 ∧ b + d ≤ 100
  many : 1 ≤ e ∧ e ≤ 3
theorem tiles_in_ok (hj : 6 ≤ j) {a b c d e : Int} (F : FrameOk a b c d e) {n : Nat} {x : Opt} (o : OptAt h n x) (hx : OptOk x) :
    Cl j F_tiles_in [frT a b c d e, .ref n] h = .ok (.ref h.length) (h ++ [.lst ((rectP a b c d x.th x.tw).map dI)]) := by
  obtain ⟨j, rfl, hj⟩ := jj (d := 4) hj
  rw [call_tiles_in]
  refine wE_eq (fin_lst (wE_out ?_))
  have hth := hx.th
  have htw := hx.tw
  have o' := o
  obtain ⟨t, q1, q2⟩ := o'
  obtain ⟨⟨a1, a2⟩, ⟨b1, b2⟩, ⟨c1, c2, c3⟩, ⟨d1, d2, d3⟩, e1, e2⟩ := F
  simp_arith [s_tiles_in_0, frT]
  simp_arith [s_tiles_in_1, q1, look_self, p_th (show 2 ≤ j by omega) o, p_tw (show 2 ≤ j by omega) o, rectangles_ok (h := h) (show 4 ≤ j + 1 by omega) (show 0 < x.th by omega) (show x.th ≤ 1000000 by omega) (show 0 < x.tw by omega) (show x.tw ≤ 1000000 by omega) a1 b1 (show 0 ≤ c by omega) (show 0 ≤ d by omega) (show c ≤ 1000 by omega) (show d ≤ 1000 by omega) (show a ≤ 1000 by omega) (show b ≤ 1000 by omega)]
  exact ⟨.push, h.length, _, rfl, Nat.le_refl _, get_end, refsL_dI, rfl⟩
def dTT (p : (Int × Int) × (Int × Int)) : Bp.D := .tup [dP p.1, dP p.2]
theorem refsL_dTT {n : Nat} {l : List ((Int × Int) × (Int × Int))} : D.refsL n (l.map dTT) = [] := refsL_mem fun v hv => by obtain ⟨i, _, rfl⟩ := List.mem_map.mp hv; rfl
theorem law_tiles_ok (hj : 6 ≤ j) {a b c d e : Int} (F : FrameOk a b c d e) {n : Nat} {x : Opt} (o : OptAt h n x) (hx : OptOk x) :
    Cl j F_law_tiles [frT a b c d e, .ref n] h = .ok (.ref h.length) (h ++ [.lst ((tileP a b c d x.th x.tw).map dTT)]) := by
  obtain ⟨j, rfl, hj⟩ := jj (d := 4) hj
  rw [call_law_tiles]
  refine wE_eq (fin_lst (wE_out ?_))
  obtain ⟨th0, th1⟩ := hx.th
  obtain ⟨tw0, tw1⟩ := hx.tw
  obtain ⟨⟨a1, a2⟩, ⟨b1, b2⟩, ⟨f1, f2, f3⟩, ⟨d1, d2, d3⟩, g1, g2⟩ := F
  have hin : ∀ h' : DH, Cl (j + 1) F_law_grid [.int b, .int (b + d), .int x.tw] h' = .ok (.ref h'.length) (h' ++ [.lst ((spanP b (b + d) x.tw).map dP)]) := fun h' => law_grid_ok (by omega) (by omega) (by omega) (by omega) b1 (by omega)
  have c1 := cnt_le (start := a) (stop := a + c) (size := x.th) (by omega) (by omega)
  have c2 := cnt_le (start := b) (stop := b + d) (size := x.tw) (by omega) (by omega)
  have o2 : OptAt (h ++ [.lst []]) n x := o.fr0 .push
  obtain ⟨t, q1, q2⟩ := o2
  simp_arith [s_law_tiles_0, s_law_tiles_1]
  refine wS_for (wI_val ?_)
  simp_arith [frT, q1, look_self, p_th (show 2 ≤ j by omega) (o.fr0 (Fr.push (t := [.lst []]))), law_grid_ok (h := h ++ [DO.lst []]) (show 2 ≤ j + 1 by omega) (show 0 < x.th by omega) (show x.th ≤ 1000000 by omega) (show a ≤ a + c by omega) a1 (by omega)]
  refine wS_loop (fun pre e' h' => ∃ (us : List (Int × Int)) (u3 u4 : Option Bp.D), pre = us.map dP ∧ (∃ vs, us ++ vs = spanP a (a + c) x.th) ∧ e' = [some (.tup [.int a, .int b, .int c, .int d, .int e]), some (.ref n), some (.ref h.length), u3, u4] ∧
      Fr [] h h' ∧ h'[h.length]? = some (.lst (((us.map fun u => (spanP b (b + d) x.tw).map fun v => (u, v)).flatten).map dTT)) ∧ h'[h.length + 1]? = some (.lst ((spanP a (a + c) x.th).map dP)))
    ⟨[], none, none, rfl, ⟨_, rfl⟩, rfl, .push, by simp, by simp⟩ (fun pre e h' ⟨_, _, _, _, _, _, _, _, q⟩ => by simp [depsOk, q]) ?_ ?_
  · rintro pre y suf e' h' ex ⟨us, u3, u4, rfl, ⟨vs, hvs⟩, rfl, f, e1, e2⟩
    cases vs with
    | nil =>
      exfalso
      have := congrArg List.length ex
      simp [← hvs] at this
    | cons u vs =>
      have : y = dP u := by
        rw [← hvs] at ex
        simp at ex
        exact ex.1.symm
      subst this
      have hul : us.length + 1 ≤ 1000 := by
        have := congrArg List.length hvs
        simp [spanP_len] at this
        omega
      have o3 := o.fr0 f
      obtain ⟨t3, r1, r2⟩ := o3
      simp_arith [wS_step, s_law_tiles_3]
      refine wS_for (wI_val ?_)
      simp_arith [r1, look_self, p_tw (show 2 ≤ j by omega) (o.fr0 f), hin, get_end]
      have hlt := lt_of_get e1
      have hlt2 := lt_of_get e2
      refine wS_loop (fun pre e' h2 => ∃ (ws : List (Int × Int)) (u4 : Option Bp.D), pre = ws.map dP ∧ (∃ vs, ws ++ vs = spanP b (b + d) x.tw) ∧ e' = [some (.tup [.int a, .int b, .int c, .int d, .int e]), some (.ref n), some (.ref h.length), some (dP u), u4] ∧
        Fr [h.length] h' h2 ∧ h2[h.length]? = some (.lst ((((us.map fun u => (spanP b (b + d) x.tw).map fun v => (u, v)).flatten) ++ ws.map fun v => (u, v)).map dTT)) ∧ h2[h'.length]? = some (.lst ((spanP b (b + d) x.tw).map dP)))
        ⟨[], _, rfl, ⟨_, rfl⟩, rfl, .push, by rw [get_app e1]; simp, get_end⟩ (fun pre e h' ⟨_, _, _, _, _, _, _, q⟩ => by simp [depsOk, q]) ?_ ?_
      · rintro pre y suf2 e' h2 ex2 ⟨ws, u4, rfl, ⟨vs2, hvs2⟩, rfl, f2, e3, e4⟩
        cases vs2 with
        | nil =>
          exfalso
          have := congrArg List.length ex2
          simp [← hvs2] at this
        | cons v vs2 =>
          have : y = dP v := by
            rw [← hvs2] at ex2
            simp at ex2
            exact ex2.1.symm
          subst this
          have hwl : ws.length + 1 ≤ 1000 := by
            have := congrArg List.length hvs2
            simp [spanP_len] at this
            omega
          have len : ((((us.map fun u => (spanP b (b + d) x.tw).map fun v => (u, v)).flatten) ++ ws.map fun v => (u, v)).map dTT).length < 16777216 := by
            have := flat_len (l := us) (g := fun u => (spanP b (b + d) x.tw).map fun v => (u, v)) (m := 1000) (fun a _ => by simp [spanP_len]; omega)
            rw [List.length_map, List.length_append, List.length_map]
            omega
          simp_arith [wS_step, s_law_tiles_4, e3, listAt, Option.isSome_some, mfD, len]
          refine ⟨ws ++ [v], _, by simp, ⟨vs2, by simp [hvs2]⟩, rfl, f2.set (.inl (by simp)), ?_, ?_⟩
          · rw [get_set e3]; simp [dTT]
          · rw [get_set_ne e4 (by omega)]
      · rintro e' h2 ⟨ws, u4, hw, ⟨vs2, hvs2⟩, rfl, f2, e3, e4⟩
        have hws : ws = spanP b (b + d) x.tw := by
          have := congrArg List.length hw
          have h5 := congrArg List.length hvs2
          simp at this h5
          have : vs2 = [] := List.eq_nil_of_length_eq_zero (by omega)
          rw [this, List.append_nil] at hvs2
          exact hvs2
        subst hws
        simp_arith
        refine ⟨us ++ [u], _, _, by simp, ⟨vs, by simp [hvs]⟩, rfl, ⟨by have := f.len; have := f2.len; omega, fun i hi _ => by rw [f2.at_ i (by have := f.len; omega) (by simp; omega), f.at_ i hi (by simp)]⟩, ?_, ?_⟩
        · rw [e3]; simp
        · exact f2.get e2 (by simp)
  · rintro e' h' ⟨us, u3, u4, hp, ⟨vs, hvs⟩, rfl, f, e1, e2⟩
    have hus : us = spanP a (a + c) x.th := by
      have := congrArg List.length hp
      have h5 := congrArg List.length hvs
      simp at this h5
      have : vs = [] := List.eq_nil_of_length_eq_zero (by omega)
      rw [this, List.append_nil] at hvs
      exact hvs
    subst hus
    simp_arith [s_law_tiles_2]
    exact ⟨f, h.length, _, rfl, Nat.le_refl _, e1, refsL_dTT, rfl⟩
end
theorem flat_eq {α β : Type} {l : List α} {g : α → List β} {m : Nat} (h : ∀ a ∈ l, (g a).length = m) : (l.map g).flatten.length = l.length * m := by
  induction l with
  | nil => simp
  | cons a r ih =>
    have h1 := h a (by simp)
    have h2 := ih fun b hb => h b (by simp [hb])
    simp only [List.map_cons, List.flatten_cons, List.length_append, List.length_cons, Nat.add_mul, Nat.one_mul]
    omega
theorem tile_len {a b c d th tw : Int} : (tileP a b c d th tw).length = (rectP a b c d th tw).length := by
  unfold tileP rectP
  rw [flat_eq (m := cntP b (b + d) tw) fun u _ => by simp [spanP_len], flat_eq (m := cntP b (b + d) tw) fun u _ => by simp [spanP_len]]
theorem rect_len {a b c d th tw : Int} : (rectP a b c d th tw).length = cntP a (a + c) th * cntP b (b + d) tw := by
  unfold rectP
  rw [flat_eq (m := cntP b (b + d) tw) fun u _ => by simp [spanP_len], spanP_len]
def lowP (p : Int × Int) : Int × Int := ((p.1 + 1) / 2, (p.2 + 1) / 2)
def highP (p : Int × Int) : Int × Int := (p.1 / 2, p.2 / 2)
def lowN : Nat → Int × Int → Int × Int
  | 0, p => p
  | n + 1, p => lowN n (lowP p)
theorem lowN_succ : ∀ (n : Nat) (p : Int × Int), lowN (n + 1) p = lowP (lowN n p)
  | 0, p => rfl
  | n + 1, p => lowN_succ n (lowP p)
structure SpOk (p : Int × Int) : Prop where
  lo : 0 ≤ p.1
  le : p.1 ≤ p.2
  hi : p.2 ≤ 900
theorem SpOk.low {p : Int × Int} (h : SpOk p) : SpOk (lowP p) := by
  obtain ⟨h1, h2, h3⟩ := h
  constructor <;> simp only [lowP] <;> omega
theorem SpOk.high {p : Int × Int} (h : SpOk p) : SpOk (highP p) := by
  obtain ⟨h1, h2, h3⟩ := h
  constructor <;> simp only [highP] <;> omega
theorem SpOk.lowN {p : Int × Int} (h : SpOk p) : ∀ n, SpOk (Law.lowN n p)
  | 0 => h
  | n + 1 => by rw [lowN_succ]; exact (SpOk.lowN h n).low
section
variable {j : Nat} {h : DH} {p : Int × Int}
theorem refs_dP {n : Nat} {p : Int × Int} : D.refs n (dP p) = [] := rfl
theorem is_span_ok (hj : 6 ≤ j) (hp : SpOk p) : Cl j F_is_span [dP p] h = .ok (.bl true) h := by
  obtain ⟨j, rfl, hj⟩ := jj (d := 4) hj
  obtain ⟨h1, h2, h3⟩ := hp
  rw [call_is_span]
  refine wE_eq (fin_pure (wE_out ?_))
  simp_arith [s_is_span_0, dP, is_list_tup (show 2 ≤ j + 1 by omega), is_in_int (show 4 ≤ j + 1 by omega), show (-1000 ≤ p.1 ∧ p.1 ≤ 1000) by omega, show (p.1 ≤ p.2 ∧ p.2 ≤ 1000) by omega, and_self, decide_true, refs_bl]
  exact ⟨fun _ => .refl, fun z => absurd (by decide) z⟩
theorem need_span_ok (hj : 8 ≤ j) (hp : SpOk p) : Cl j F_need_span [dP p] h = .ok .non h := by
  obtain ⟨j, rfl, hj⟩ := jj (d := 6) hj
  rw [call_need_span]
  refine wE_eq (fin_pure (wE_out ?_))
  simp_arith [s_need_span_0, is_span_ok (show 6 ≤ j + 1 by omega) hp, refs_non]
  exact .refl
theorem low_start_ok (hj : 2 ≤ j) {i : Int} : Cl j F_low_start [.int i] h = .ok (.int ((i + 1) / 2)) h := by
  obtain ⟨j, rfl, hj⟩ := jj (d := 0) hj
  rw [call_low_start]
  refine wE_eq (fin_pure (wE_out ?_))
  simp_arith [s_low_start_0, show divOk 2 = true by decide +kernel, refs_int]
  exact .refl
theorem high_start_ok (hj : 2 ≤ j) {i : Int} : Cl j F_high_start [.int i] h = .ok (.int (i / 2)) h := by
  obtain ⟨j, rfl, hj⟩ := jj (d := 0) hj
  rw [call_high_start]
  refine wE_eq (fin_pure (wE_out ?_))
  simp_arith [s_high_start_0, show divOk 2 = true by decide +kernel, refs_int]
  exact .refl
theorem low_span_ok (hj : 10 ≤ j) (hp : SpOk p) : Cl j F_low_span [dP p] h = .ok (dP (lowP p)) h := by
  obtain ⟨j, rfl, hj⟩ := jj (d := 8) hj
  rw [call_low_span]
  refine wE_eq (fin_pure (wE_out ?_))
  simp_arith [s_low_span_0, need_span_ok (show 8 ≤ j + 1 by omega) hp]
  simp_arith [s_low_span_1, dP, low_start_ok (show 2 ≤ j + 1 by omega)]
  exact ⟨rfl, .refl, rfl⟩
theorem high_span_ok (hj : 10 ≤ j) (hp : SpOk p) : Cl j F_high_span [dP p] h = .ok (dP (highP p)) h := by
  obtain ⟨j, rfl, hj⟩ := jj (d := 8) hj
  rw [call_high_span]
  refine wE_eq (fin_pure (wE_out ?_))
  simp_arith [s_high_span_0, need_span_ok (show 8 ≤ j + 1 by omega) hp]
  simp_arith [s_high_span_1, dP, high_start_ok (show 2 ≤ j + 1 by omega)]
  exact ⟨rfl, .refl, rfl⟩
theorem low_span_after_ok (hj : 12 ≤ j) (hp : SpOk p) {n : Nat} (hn : n ≤ 10) : Cl j F_low_span_after [dP p, .int n] h = .ok (dP (lowN n p)) h := by
  obtain ⟨j, rfl, hj⟩ := jj (d := 10) hj
  rw [call_low_span_after]
  refine wE_eq (fin_pure (wE_out ?_))
  simp_arith [s_low_span_after_0, need_span_ok (show 8 ≤ j + 1 by omega) hp]
  simp_arith [s_low_span_after_1, is_in_int (show 4 ≤ j + 1 by omega), show (0 ≤ (n : Int) ∧ (n : Int) ≤ 10) by omega, and_self, decide_true]
  simp_arith [s_low_span_after_2]
  refine wS_for ?_
  simp_arith [inR_of (show -4611686018427387904 ≤ (n : Int) by omega) (show (n : Int) < 4611686018427387904 by omega), Int.toNat_natCast]
  refine wS_loop (fun pre e h' => h' = h ∧ ∃ u : Option Bp.D, e = [some (dP (lowN pre.length p)), some (.int n), u]) ⟨rfl, none, rfl⟩ (fun _ _ _ _ => depsOk_nil) ?_ ?_
  · rintro pre x suf e h' ex ⟨rfl, u, rfl⟩
    simp_arith [wS_step, s_low_span_after_4, low_span_ok (show 10 ≤ j + 1 by omega) (hp.lowN pre.length)]
    exact ⟨some x, by rw [lowN_succ]⟩
  · rintro e h' ⟨rfl, u, rfl⟩
    rw [rangeL_len]
    simp_arith [s_low_span_after_3]
    exact ⟨rfl, .refl⟩
theorem law_halved_ok (hj : 2 ≤ j) {n : Nat} (hn : n ≤ 10) : Cl j F_law_halved [dP p, .int n] h = .ok (dP (lowN n p)) h := by
  obtain ⟨j, rfl, hj⟩ := jj (d := 0) hj
  rw [call_law_halved]
  refine wE_eq (fin_pure (wE_out ?_))
  simp_arith [s_law_halved_0]
  refine wS_for ?_
  simp_arith [inR_of (show -4611686018427387904 ≤ (n : Int) by omega) (show (n : Int) < 4611686018427387904 by omega), Int.toNat_natCast]
  refine wS_loop (fun pre e h' => h' = h ∧ ∃ u : Option Bp.D, e = [some (dP (lowN pre.length p)), some (.int n), u]) ⟨rfl, none, rfl⟩ (fun _ _ _ _ => depsOk_nil) ?_ ?_
  · rintro pre x suf e h' ex ⟨rfl, u, rfl⟩
    have e2 : lowN (pre.length + 1) p = ((((lowN pre.length p).1) + 1) / 2, (((lowN pre.length p).2) + 1) / 2) := lowN_succ _ _
    simp_arith [wS_step, s_law_halved_2, dP, show divOk 2 = true by decide +kernel]
    exact ⟨some x, by rw [e2]⟩
  · rintro e h' ⟨rfl, u, rfl⟩
    rw [rangeL_len]
    simp_arith [s_law_halved_1]
    exact ⟨rfl, .refl⟩
def bandP (rows cols : Int × Int) (L r : Nat) : List ((Int × Int) × (Int × Int)) :=
  if r = 0 then [(lowN L rows, lowN L cols)]
  else [(lowP (lowN (L - r) rows), highP (lowN (L - r) cols)), (highP (lowN (L - r) rows), lowP (lowN (L - r) cols)), (highP (lowN (L - r) rows), highP (lowN (L - r) cols))]
theorem bandP_ok {rows cols : Int × Int} (h1 : SpOk rows) (h2 : SpOk cols) {L r : Nat} : ∀ b ∈ bandP rows cols L r, SpOk b.1 ∧ SpOk b.2 := by
  intro b hb
  unfold bandP at hb
  split at hb
  · simp at hb
    subst hb
    exact ⟨h1.lowN L, h2.lowN L⟩
  · simp at hb
    rcases hb with rfl | rfl | rfl
    · exact ⟨(h1.lowN _).low, (h2.lowN _).high⟩
    · exact ⟨(h1.lowN _).high, (h2.lowN _).low⟩
    · exact ⟨(h1.lowN _).high, (h2.lowN _).high⟩
def rect4 (b : (Int × Int) × (Int × Int)) : List Int := [b.1.1, b.2.1, b.1.2 - b.1.1, b.2.2 - b.2.1]
theorem bands_in_ok (hj : 14 ≤ j) {a b c d : Int} (h1 : SpOk (a, a + c)) (h2 : SpOk (b, b + d)) {L r : Nat} (hL : L ≤ 10) (hr : r ≤ L) :
    Cl j F_bands_in [.tup [.int a, .int b, .int c, .int d], .int L, .int r] h = .ok (.ref h.length) (h ++ [.lst ((bandP (a, a + c) (b, b + d) L r).map fun b => dI (rect4 b))]) := by
  obtain ⟨j, rfl, hj⟩ := jj (d := 12) hj
  rw [call_bands_in]
  refine wE_eq (fin_lst (wE_out ?_))
  have e1 : Bp.D.tup [.int a, .int (a + c)] = dP (a, a + c) := rfl
  have e2 : Bp.D.tup [.int b, .int (b + d)] = dP (b, b + d) := rfl
  have fin : ∀ (l : List ((Int × Int) × (Int × Int))) (h' : DH) (e : Bp.Env), l.length ≤ 3 → Fr [] h h' → (∃ (n : Nat) (v3 v4 v6 v7 : Option Bp.D), h.length ≤ n ∧ e = [some (.tup [.int a, .int b, .int c, .int d]), some (.int L), some (.int r), v3, v4, some (.ref n), v6, v7] ∧ h'[n]? = some (.lst (l.map dTT))) → (bandP (a, a + c) (b, b + d) L r) = l →
      wS (s_bands_in_2 (gmN bd (j + 1)) e h') (kDef (fun v h' => Fr [] h h' ∧ ∃ n l, v = .ref n ∧ h.length ≤ n ∧ h'[n]? = some (.lst l) ∧ D.refsL h.length l = [] ∧ h ++ [DO.lst l] = h ++ [.lst ((bandP (a, a + c) (b, b + d) L r).map fun b => dI (rect4 b))]) nX) := by
    rintro l h' e hl f ⟨n, v3, v4, v6, v7, hnl, rfl, hn⟩ hb
    simp_arith [s_bands_in_2]
    refine wE_mLC (wI_val ?_)
    simp_arith [hn]
    refine lc_pure (fun x => match x with | .tup [.tup [.int p, .int q], .tup [.int r, .int s]] => some (.tup [.int p, .int r, .int (q - p), .int (s - r)]) | _ => none) (depsOk_one hn) (by rw [List.length_map]; simp only [lim]; omega) ?_ ?_
    · intro x hx h2 f2
      obtain ⟨b, hb, rfl⟩ := List.mem_map.mp hx
      simp_arith [dTT, dP]
      exact .refl
    · intro h2 f2 e2
      have e3 : ((l.map dTT).filterMap fun x => match x with | .tup [.tup [.int p, .int q], .tup [.int r, .int s]] => some (Bp.D.tup [.int p, .int r, .int (q - p), .int (s - r)]) | _ => none) = l.map fun b => dI (rect4 b) := by
        rw [List.filterMap_map]
        exact filterMap_all fun _ _ => rfl
      rw [e3] at e2
      simp_arith
      refine ⟨f.trans f2, h'.length, _, rfl, f.len, e2, ?_, by rw [hb]⟩
      exact refsL_mem fun v hv => by obtain ⟨i, _, rfl⟩ := List.mem_map.mp hv; exact refs_dI
  simp_arith [s_bands_in_0, e1, e2]
  simp_arith [s_bands_in_1, eqP]
  refine ⟨fun z => ?_, fun z => ?_⟩
  · have hr0 : r = 0 := by omega
    simp_arith [s_bands_in_3, low_span_after_ok (show 12 ≤ j + 1 by omega) h1 hL, low_span_after_ok (show 12 ≤ j + 1 by omega) h2 hL]
    refine fin [(lowN L (a, a + c), lowN L (b, b + d))] _ _ (by simp) .push ⟨_, _, _, _, _, Nat.le_refl _, rfl, get_end⟩ ?_
    unfold bandP
    rw [if_pos hr0]
  · have hr0 : r ≠ 0 := by omega
    have es : (L : Int) - (r : Int) = ((L - r : Nat) : Int) := by omega
    have g1 := h1.lowN (L - r)
    have g2 := h2.lowN (L - r)
    simp_arith [s_bands_in_4, es, low_span_after_ok (show 12 ≤ j + 1 by omega) h1 (show L - r ≤ 10 by omega), low_span_after_ok (show 12 ≤ j + 1 by omega) h2 (show L - r ≤ 10 by omega)]
    simp_arith [s_bands_in_5, low_span_ok (show 10 ≤ j + 1 by omega) g1, high_span_ok (show 10 ≤ j + 1 by omega) g1, low_span_ok (show 10 ≤ j + 1 by omega) g2, high_span_ok (show 10 ≤ j + 1 by omega) g2]
    simp_arith [s_bands_in_6, high_span_ok (show 10 ≤ j + 1 by omega) g1, high_span_ok (show 10 ≤ j + 1 by omega) g2, get_end, listAt, Option.isSome_some, mfD]
    refine fin [(lowP (lowN (L - r) (a, a + c)), highP (lowN (L - r) (b, b + d))), (highP (lowN (L - r) (a, a + c)), lowP (lowN (L - r) (b, b + d))), (highP (lowN (L - r) (a, a + c)), highP (lowN (L - r) (b, b + d)))] _ _ (by simp) .push ⟨_, _, _, _, _, Nat.le_refl _, rfl, get_end⟩ ?_
    unfold bandP
    rw [if_neg hr0]
theorem law_band_spans_ok (hj : 4 ≤ j) {p q : Int × Int} {L r : Nat} (hL : L ≤ 10) (hr : r ≤ L) :
    Cl j F_law_band_spans [dP p, dP q, .int L, .int r] h = .ok (.ref h.length) (h ++ [.lst ((bandP p q L r).map dTT)]) := by
  obtain ⟨j, rfl, hj⟩ := jj (d := 2) hj
  rw [call_law_band_spans]
  refine wE_eq (fin_lst (wE_out ?_))
  have d2 : divOk 2 = true := by decide +kernel
  have one1 : ∀ (p : Int × Int) (h : DH), Cl (j + 1) F_law_halved [dP p, .int 1] h = .ok (dP (lowP p)) h := fun p h => law_halved_ok (n := 1) (by omega) (by decide)
  simp_arith [s_law_band_spans_0, eqP]
  refine ⟨fun z => ?_, fun z => ?_⟩
  · have hr0 : r = 0 := by omega
    simp_arith [s_law_band_spans_5, law_halved_ok (show 2 ≤ j + 1 by omega) hL]
    refine ⟨.push, h.length, _, rfl, Nat.le_refl _, get_end, rfl, ?_⟩
    unfold bandP
    rw [if_pos hr0]
    rfl
  · have hr0 : r ≠ 0 := by omega
    have es : (L : Int) - (r : Int) = ((L - r : Nat) : Int) := by omega
    have one2 : ∀ (a b : Int) (h : DH), Cl (j + 1) F_law_halved [.tup [.int a, .int b], .int 1] h = .ok (.tup [.int ((a + 1) / 2), .int ((b + 1) / 2)]) h := fun a b h => one1 (a, b) h
    simp_arith [s_law_band_spans_1, es, law_halved_ok (show 2 ≤ j + 1 by omega) (show L - r ≤ 10 by omega)]
    simp_arith [s_law_band_spans_2, dP, one2, d2]
    simp_arith [s_law_band_spans_3, one2, d2]
    simp_arith [s_law_band_spans_4]
    refine ⟨.push, h.length, _, rfl, Nat.le_refl _, get_end, rfl, ?_⟩
    unfold bandP
    rw [if_neg hr0]
    rfl
theorem blocks_in_ok (hj : 6 ≤ j) {p q : Int × Int} (h1 : SpOk p) (h2 : SpOk q) {side : Int} (hs : 1 ≤ side ∧ side ≤ 16) :
    Cl j F_blocks_in [dI (rect4 (p, q)), .int side] h = .ok (.ref h.length) (h ++ [.lst ((rectP p.1 q.1 (p.2 - p.1) (q.2 - q.1) side side).map dI)]) := by
  obtain ⟨j, rfl, hj⟩ := jj (d := 4) hj
  rw [call_blocks_in]
  refine wE_eq (fin_lst (wE_out ?_))
  obtain ⟨a1, a2, a3⟩ := h1
  obtain ⟨b1, b2, b3⟩ := h2
  have e : dI (rect4 (p, q)) = .tup [.int p.1, .int q.1, .int (p.2 - p.1), .int (q.2 - q.1)] := rfl
  simp_arith [s_blocks_in_0, e, rectangles_ok (h := h) (show 4 ≤ j + 1 by omega) (show 0 < side by omega) (show side ≤ 1000000 by omega) (show 0 < side by omega) (show side ≤ 1000000 by omega) a1 b1 (show 0 ≤ p.2 - p.1 by omega) (show 0 ≤ q.2 - q.1 by omega) (show p.2 - p.1 ≤ 1000 by omega) (show q.2 - q.1 ≤ 1000 by omega) (show p.1 ≤ 1000 by omega) (show q.1 ≤ 1000 by omega)]
  exact ⟨.push, h.length, _, rfl, Nat.le_refl _, get_end, refsL_dI, rfl⟩
end
def blkP (p q : Int × Int) (side : Int) : List (List Int) := rectP p.1 q.1 (p.2 - p.1) (q.2 - q.1) side side
def entB (t c r b : Nat) (blk : List (List Int)) : List (List Int × List Int) := blk.zipIdx.map fun x => ([(t : Int), (c : Int), (r : Int), (b : Int), (x.2 : Int)], x.1)
def entR (t c r : Nat) (rows cols : Int × Int) (L : Nat) (side : Int) : List (List Int × List Int) := ((bandP rows cols L r).zipIdx.map fun x => entB t c r x.2 (blkP x.1.1 x.1.2 side)).flatten
def entC (t c : Nat) (rows cols : Int × Int) (L : Nat) (side : Int) : List (List Int × List Int) := ((List.range (L + 1)).map fun r => entR t c r rows cols L side).flatten
def entT (t C : Nat) (rows cols : Int × Int) (L : Nat) (side : Int) : List (List Int × List Int) := ((List.range C).map fun c => entC t c rows cols L side).flatten
def placesP (tiles : List ((Int × Int) × (Int × Int))) (C L : Nat) (side : Int) : List (List Int × List Int) := (tiles.zipIdx.map fun x => entT x.2 C x.1.1 x.1.2 L side).flatten
theorem refsL_dII {n : Nat} {l : List (List Int × List Int)} : D.refsL n (l.map dII) = [] := refsL_mem fun v hv => by obtain ⟨i, _, rfl⟩ := List.mem_map.mp hv; exact refs_dII
theorem rect_tile {a b c d th tw : Int} : rectP a b c d th tw = (tileP a b c d th tw).map rect4 := by
  unfold rectP tileP
  rw [List.map_flatten, List.map_map]
  congr 1
  apply List.map_congr_left
  intro u _
  simp only [Function.comp, List.map_map]
  rfl
theorem entB_snoc {t c r b : Nat} {l : List (List Int)} {x : List Int} : entB t c r b (l ++ [x]) = entB t c r b l ++ [([(t : Int), (c : Int), (r : Int), (b : Int), (l.length : Int)], x)] := by
  unfold entB
  rw [List.zipIdx_append]
  simp
structure SmOk (p : Int × Int) : Prop where
  sp : SpOk p
  len : p.2 - p.1 ≤ 16
theorem SmOk.low {p : Int × Int} (h : SmOk p) : SmOk (lowP p) := ⟨h.sp.low, by have := h.len; have := h.sp.le; simp only [lowP]; omega⟩
theorem SmOk.high {p : Int × Int} (h : SmOk p) : SmOk (highP p) := ⟨h.sp.high, by have := h.len; have := h.sp.le; simp only [highP]; omega⟩
theorem SmOk.lowN {p : Int × Int} (h : SmOk p) : ∀ n, SmOk (Law.lowN n p)
  | 0 => h
  | n + 1 => by rw [lowN_succ]; exact (SmOk.lowN h n).low
theorem bandP_sm {rows cols : Int × Int} (h1 : SmOk rows) (h2 : SmOk cols) {L r : Nat} : ∀ b ∈ bandP rows cols L r, SmOk b.1 ∧ SmOk b.2 := by
  intro b hb
  unfold bandP at hb
  split at hb
  · simp at hb
    subst hb
    exact ⟨h1.lowN L, h2.lowN L⟩
  · simp at hb
    rcases hb with rfl | rfl | rfl
    · exact ⟨(h1.lowN _).low, (h2.lowN _).high⟩
    · exact ⟨(h1.lowN _).high, (h2.lowN _).low⟩
    · exact ⟨(h1.lowN _).high, (h2.lowN _).high⟩
theorem bandP_len {rows cols : Int × Int} {L r : Nat} : (bandP rows cols L r).length ≤ 3 := by
  unfold bandP
  split <;> simp
theorem blk_len {p q : Int × Int} (h1 : SmOk p) (h2 : SmOk q) {side : Int} (hs : 0 < side) : (blkP p q side).length ≤ 256 := by
  unfold blkP
  rw [rect_len]
  have a1 := h1.sp.le
  have a2 := h2.sp.le
  have l1 := h1.len
  have l2 := h2.len
  have c1 := cnt_le (start := p.1) (stop := p.1 + (p.2 - p.1)) hs (by omega)
  have c2 := cnt_le (start := q.1) (stop := q.1 + (q.2 - q.1)) hs (by omega)
  have := Nat.mul_le_mul (show cntP p.1 (p.1 + (p.2 - p.1)) side ≤ 16 by omega) (show cntP q.1 (q.1 + (q.2 - q.1)) side ≤ 16 by omega)
  omega
theorem entB_len {t c r b : Nat} {blk : List (List Int)} : (entB t c r b blk).length = blk.length := by simp [entB]
theorem entR_len {t c r L : Nat} {p q : Int × Int} (h1 : SmOk p) (h2 : SmOk q) {side : Int} (hs : 0 < side) : (entR t c r p q L side).length ≤ 768 := by
  unfold entR
  have := flat_len (l := (bandP p q L r).zipIdx) (g := fun x => entB t c r x.2 (blkP x.1.1 x.1.2 side)) (m := 256) fun x hx => by
    rw [entB_len]
    have hm : x.1 ∈ bandP p q L r := List.mem_of_getElem? (zip_at hx)
    exact blk_len (bandP_sm h1 h2 _ hm).1 (bandP_sm h1 h2 _ hm).2 hs
  have l3 := bandP_len (rows := p) (cols := q) (L := L) (r := r)
  rw [List.length_zipIdx] at this
  omega
theorem entC_len {t c L : Nat} {p q : Int × Int} (h1 : SmOk p) (h2 : SmOk q) {side : Int} (hs : 0 < side) (hL : L ≤ 3) : (entC t c p q L side).length ≤ 3072 := by
  unfold entC
  have := flat_len (l := List.range (L + 1)) (g := fun r => entR t c r p q L side) (m := 768) fun x hx => entR_len h1 h2 hs
  rw [List.length_range] at this
  omega
theorem entT_len {t C L : Nat} {p q : Int × Int} (h1 : SmOk p) (h2 : SmOk q) {side : Int} (hs : 0 < side) (hL : L ≤ 3) (hC : C ≤ 3) : (entT t C p q L side).length ≤ 9216 := by
  unfold entT
  have := flat_len (l := List.range C) (g := fun c => entC t c p q L side) (m := 3072) fun x hx => entC_len h1 h2 hs hL
  rw [List.length_range] at this
  omega
theorem places_len {tiles : List ((Int × Int) × (Int × Int))} {C L : Nat} {side : Int} (ht : ∀ x ∈ tiles, SmOk x.1 ∧ SmOk x.2) (hs : 0 < side) (hL : L ≤ 3) (hC : C ≤ 3) : (placesP tiles C L side).length ≤ tiles.length * 9216 := by
  unfold placesP
  have := flat_len (l := tiles.zipIdx) (g := fun x => entT x.2 C x.1.1 x.1.2 L side) (m := 9216) fun x hx => by
    have hm : x.1 ∈ tiles := List.mem_of_getElem? (zip_at hx)
    exact entT_len (ht _ hm).1 (ht _ hm).2 hs hL hC
  rw [List.length_zipIdx] at this
  exact this
theorem tile_sm {a b c d e : Int} (F : FrameOk a b c d e) {th tw : Int} (h1 : 0 < th) (h2 : 0 < tw) : ∀ x ∈ tileP a b c d th tw, SmOk x.1 ∧ SmOk x.2 := by
  intro x hx
  unfold tileP at hx
  simp only [List.mem_flatten, List.mem_map] at hx
  obtain ⟨_, ⟨u, hu, rfl⟩, hx⟩ := hx
  obtain ⟨v, hv, rfl⟩ := List.mem_map.mp hx
  have key : ∀ {s t z : Int} {w : Int × Int}, 0 < z → 0 ≤ s → s ≤ t → t ≤ 116 → t - s ≤ 16 → w ∈ spanP s t z → SmOk w := by
    intro s t z w hz hs hst ht hl hw
    unfold spanP at hw
    obtain ⟨k, hk, rfl⟩ := List.mem_map.mp hw
    have b1 := posP_bd (k := k) hz hst
    have b2 := posP_bd (k := k + 1) hz hst
    have b3 := posP_mono (k := k) hz hst
    exact ⟨⟨by omega, b3, by simp only; omega⟩, by simp only; omega⟩
  have := F.top
  have := F.left
  have := F.high
  have := F.wide
  exact ⟨key h1 (by omega) (by omega) (by omega) (by omega) hu, key h2 (by omega) (by omega) (by omega) (by omega) hv⟩
theorem tile_cnt {a b c d e : Int} (F : FrameOk a b c d e) {th tw : Int} (h1 : 0 < th) (h2 : 0 < tw) : (tileP a b c d th tw).length ≤ 256 := by
  rw [tile_len, rect_len]
  have := F.high
  have := F.wide
  have c1 := cnt_le (start := a) (stop := a + c) h1 (by omega)
  have c2 := cnt_le (start := b) (stop := b + d) h2 (by omega)
  have := Nat.mul_le_mul (show cntP a (a + c) th ≤ 16 by omega) (show cntP b (b + d) tw ≤ 16 by omega)
  omega
def rowB (q : Int × Int) (side : Int) (u : Int × Int) : List (List Int) := (spanP q.1 q.2 side).map fun v => [u.1, v.1, u.2 - u.1, v.2 - v.1]
theorem blk_eq {p q : Int × Int} {side : Int} : blkP p q side = ((spanP p.1 p.2 side).map (rowB q side)).flatten := by
  unfold blkP rectP rowB
  rw [show p.1 + (p.2 - p.1) = p.2 by omega, show q.1 + (q.2 - q.1) = q.2 by omega]
section
variable {j : Nat} {h : DH}
theorem frT0 {a b c d e : Int} : frT a b c d e = .tup [.int a, .int b, .int c, .int d, .int e] := rfl
theorem block_places_ok (hj : 16 ≤ j) {a b c d e : Int} (F : FrameOk a b c d e) {n : Nat} {x : Opt} (o : OptAt h n x) (hx : OptOk x) :
    Cl j F_block_places [frT a b c d e, .ref n] h = .ok (.ref h.length) (h ++ [.lst ((placesP (tileP a b c d x.th x.tw) e.toNat x.levels.toNat x.side).map dII)]) := by
  obtain ⟨j, rfl, hj⟩ := jj (d := 14) hj
  rw [call_block_places]
  refine wE_eq (fin_lst (wE_out ?_))
  have hlev := hx.levels
  have hth := hx.th
  have htw := hx.tw
  have hsd : 1 ≤ x.side ∧ x.side ≤ 16 := by rcases hx.side with z | z <;> omega
  have hF := F
  obtain ⟨F1, F2, F3, F4, F5⟩ := F
  have tsm := tile_sm hF (show 0 < x.th by omega) (show 0 < x.tw by omega)
  have tcn := tile_cnt hF (show 0 < x.th by omega) (show 0 < x.tw by omega)
  obtain ⟨B, hB⟩ : ∃ B : Nat, B = 2359296 := ⟨_, rfl⟩
  have hpl := places_len (C := e.toNat) (L := x.levels.toNat) (side := x.side) tsm (by omega) (by omega) (by omega)
  have hlv : x.levels = (x.levels.toNat : Int) := by omega
  have hnf : ∀ h' : DH, Cl (j + 1) F_need_frame [frT a b c d e] h' = .ok .non h' := fun h' => need_frame_ok (by omega) F1 F2 F3 F4 F5
  simp_arith [s_block_places_0, hnf]
  simp_arith [s_block_places_1, need_options_ok (show 2 ≤ j + 1 by omega) o]
  simp_arith [s_block_places_2]
  simp_arith [s_block_places_3]
  refine wS_for ?_
  have o0 := o.fr0 (Fr.push (t := [DO.lst []]))
  simp_arith [tiles_in_ok (h := h ++ [DO.lst []]) (show 6 ≤ j + 1 by omega) hF o0 hx, get_end]
  rw [rect_tile, List.map_map]
  have f1 : Fr [] h (h ++ [DO.lst [], .lst ((tileP a b c d x.th x.tw).map (dI ∘ rect4))]) := .push
  have k0 : (h ++ [DO.lst [], .lst ((tileP a b c d x.th x.tw).map (dI ∘ rect4))])[h.length]? = some (.lst []) := by simp
  have k1 : (h ++ [DO.lst [], .lst ((tileP a b c d x.th x.tw).map (dI ∘ rect4))])[h.length + 1]? = some (.lst ((tileP a b c d x.th x.tw).map (dI ∘ rect4))) := by simp
  generalize (h ++ [DO.lst [], .lst ((tileP a b c d x.th x.tw).map (dI ∘ rect4))]) = h1 at f1 k0 k1 ⊢
  generalize htl : tileP a b c d x.th x.tw = tiles at tsm tcn hpl k1 ⊢
  rw [enumL_map]
  have okk : ∀ {h' : DH}, Fr [h.length] h1 h' → OptAt h' n x := fun f => (o.fr0 f1).fr f fun i hi => by rw [List.mem_singleton.mp hi]; exact .inl ⟨_, k0⟩
  refine wS_appT (k := h.length) (B := B) (L0 := []) (fun e' => ∃ u3 u4 u5 u6 u7 u8 u9 u10 : Option Bp.D, e' = [some (frT a b c d e), some (.ref n), some (.ref h.length), u3, u4, u5, u6, u7, u8, u9, u10]) (fun (y : ((Int × Int) × (Int × Int)) × Nat) => (entT y.2 e.toNat y.1.1 y.1.2 x.levels.toNat x.side).map dII) ⟨_, _, _, _, _, _, _, _, rfl⟩ k0 ?_ (fun p hp => by simp at hp; subst hp; exact ⟨k1, by simp⟩) ?_ ?_
  · have : ((tiles.zipIdx.map fun (y : ((Int × Int) × (Int × Int)) × Nat) => (entT y.2 e.toNat y.1.1 y.1.2 x.levels.toNat x.side).map dII).flatten) = (placesP tiles e.toNat x.levels.toNat x.side).map dII := by
      unfold placesP
      rw [List.map_flatten, List.map_map]
      rfl
    rw [this, List.length_map, List.length_nil, Nat.zero_add]
    omega
  · rintro ⟨⟨rows, cols⟩, t⟩ hy e' h3 L3 ⟨u3, u4, u5, u6, u7, u8, u9, u10, rfl⟩ f3 k3 b3
    have hmem : (rows, cols) ∈ tiles := List.mem_of_getElem? (zip_at hy)
    obtain ⟨s1, s2⟩ := tsm _ hmem
    have hr4 : dI (rect4 (rows, cols)) = .tup [.int rows.1, .int cols.1, .int (rows.2 - rows.1), .int (cols.2 - cols.1)] := rfl
    simp_arith [wS_step, s_block_places_5]
    refine wS_for ?_
    simp_arith [frT, inR_of (show -4611686018427387904 ≤ e by omega) (show e < 4611686018427387904 by omega)]
    rw [range_map']
    refine wS_appT (k := h.length) (B := B) (L0 := L3) (fun e' => ∃ u5 u6 u7 u8 u9 u10 : Option Bp.D, e' = [some (frT a b c d e), some (.ref n), some (.ref h.length), some (.int t), some (dI (rect4 (rows, cols))), u5, u6, u7, u8, u9, u10]) (fun (c' : Nat) => (entC t c' rows cols x.levels.toNat x.side).map dII) ⟨_, _, _, _, _, _, rfl⟩ k3 ?_ (fun p hp => by simp at hp) ?_ ?_
    · have : (((List.range e.toNat).map fun (c' : Nat) => (entC t c' rows cols x.levels.toNat x.side).map dII).flatten) = (entT t e.toNat rows cols x.levels.toNat x.side).map dII := by
        unfold entT
        rw [List.map_flatten, List.map_map]
        rfl
      rw [this]
      exact b3
    · rintro c' hc' e' h4 L4 ⟨u5, u6, u7, u8, u9, u10, rfl⟩ f4 k4 b4
      have o4 := okk (f3.trans f4)
      have o4' := o4
      obtain ⟨t4, r1, r2⟩ := o4'
      simp_arith [wS_step, s_block_places_6]
      refine wS_for ?_
      simp_arith [r1, look_self, p_levels (show 2 ≤ j by omega) o4, inR_of (show -4611686018427387904 ≤ x.levels + 1 by omega) (show x.levels + 1 < 4611686018427387904 by omega)]
      have hl1 : (x.levels + 1).toNat = x.levels.toNat + 1 := by omega
      rw [hl1, range_map']
      refine wS_appT (k := h.length) (B := B) (L0 := L4) (fun e' => ∃ u6 u7 u8 u9 u10 : Option Bp.D, e' = [some (frT a b c d e), some (.ref n), some (.ref h.length), some (.int t), some (dI (rect4 (rows, cols))), some (.int c'), u6, u7, u8, u9, u10]) (fun (r' : Nat) => (entR t c' r' rows cols x.levels.toNat x.side).map dII) ⟨_, _, _, _, _, rfl⟩ k4 ?_ (fun p hp => by simp at hp) ?_ ?_
      · have : (((List.range (x.levels.toNat + 1)).map fun (r' : Nat) => (entR t c' r' rows cols x.levels.toNat x.side).map dII).flatten) = (entC t c' rows cols x.levels.toNat x.side).map dII := by
          unfold entC
          rw [List.map_flatten, List.map_map]
          rfl
        rw [this]
        exact b4
      · rintro r' hr' e' h5 L5 ⟨u6, u7, u8, u9, u10, rfl⟩ f5 k5 b5
        have hr' := List.mem_range.mp hr'
        have o5 := okk ((f3.trans f4).trans f5)
        have o5' := o5
        obtain ⟨t5, w1, w2⟩ := o5'
        have er : rows = (rows.1, rows.1 + (rows.2 - rows.1)) := by ext <;> simp; omega
        have ec : cols = (cols.1, cols.1 + (cols.2 - cols.1)) := by ext <;> simp; omega
        have bi := bands_in_ok (h := h5) (j := j + 1) (by omega) (a := rows.1) (b := cols.1) (c := rows.2 - rows.1) (d := cols.2 - cols.1) (er ▸ s1.sp) (ec ▸ s2.sp) (L := x.levels.toNat) (r := r') (by omega) (by omega)
        rw [← er, ← ec, ← hlv] at bi
        simp_arith [wS_step, s_block_places_7]
        refine wS_for ?_
        simp_arith [hr4, w1, look_self, p_levels (show 2 ≤ j by omega) o5, bi, get_end]
        have hlt5 := lt_of_get k5
        have g5 : (h5 ++ [DO.lst ((bandP rows cols x.levels.toNat r').map fun b => dI (rect4 b))])[h5.length]? = some (.lst ((bandP rows cols x.levels.toNat r').map fun b => dI (rect4 b))) := get_end
        have k5' : (h5 ++ [DO.lst ((bandP rows cols x.levels.toNat r').map fun b => dI (rect4 b))])[h.length]? = some (.lst L5) := get_app k5
        have f5' : Fr [h.length] h4 (h5 ++ [DO.lst ((bandP rows cols x.levels.toNat r').map fun b => dI (rect4 b))]) := f5.pushed
        generalize (h5 ++ [DO.lst ((bandP rows cols x.levels.toNat r').map fun b => dI (rect4 b))]) = h6 at g5 k5' f5' ⊢
        generalize h5.length = pb at g5 hlt5 ⊢
        rw [enumL_map]
        refine wS_appT (k := h.length) (B := B) (L0 := L5) (fun e' => ∃ u7 u8 u9 u10 : Option Bp.D, e' = [some (frT a b c d e), some (.ref n), some (.ref h.length), some (.int t), some (dI (rect4 (rows, cols))), some (.int c'), some (.int r'), u7, u8, u9, u10]) (fun (y : ((Int × Int) × (Int × Int)) × Nat) => (entB t c' r' y.2 (blkP y.1.1 y.1.2 x.side)).map dII) ⟨_, _, _, _, by rw [hr4]⟩ k5' ?_ (fun p hp => by simp at hp; subst hp; exact ⟨g5, by simp; omega⟩) ?_ ?_
        · have : (((bandP rows cols x.levels.toNat r').zipIdx.map fun (y : ((Int × Int) × (Int × Int)) × Nat) => (entB t c' r' y.2 (blkP y.1.1 y.1.2 x.side)).map dII).flatten) = (entR t c' r' rows cols x.levels.toNat x.side).map dII := by
            unfold entR
            rw [List.map_flatten, List.map_map]
            rfl
          rw [this]
          exact b5
        · rintro ⟨⟨bp, bq⟩, bn⟩ hy2 e' h7 L7 ⟨u7, u8, u9, u10, rfl⟩ f7 k7 b7
          have hmem2 : (bp, bq) ∈ bandP rows cols x.levels.toNat r' := List.mem_of_getElem? (zip_at hy2)
          obtain ⟨s3, s4⟩ := bandP_sm s1 s2 _ hmem2
          have o7 := okk ((f3.trans f4).trans (f5'.trans f7))
          have o7' := o7
          obtain ⟨t7, v1, v2⟩ := o7'
          have bk := blocks_in_ok (h := h7) (j := j + 1) (by omega) s3.sp s4.sp hsd
          simp_arith [wS_step, s_block_places_8]
          refine wS_for ?_
          simp_arith [v1, look_self, p_side (show 2 ≤ j by omega) o7, bk, get_end]
          have hlt7 := lt_of_get k7
          have g7 : (h7 ++ [DO.lst ((rectP bp.1 bq.1 (bp.2 - bp.1) (bq.2 - bq.1) x.side x.side).map dI)])[h7.length]? = some (.lst ((rectP bp.1 bq.1 (bp.2 - bp.1) (bq.2 - bq.1) x.side x.side).map dI)) := get_end
          have k7' : (h7 ++ [DO.lst ((rectP bp.1 bq.1 (bp.2 - bp.1) (bq.2 - bq.1) x.side x.side).map dI)])[h.length]? = some (.lst L7) := get_app k7
          have f7' : Fr [h.length] h6 (h7 ++ [DO.lst ((rectP bp.1 bq.1 (bp.2 - bp.1) (bq.2 - bq.1) x.side x.side).map dI)]) := f7.pushed
          generalize (h7 ++ [DO.lst ((rectP bp.1 bq.1 (bp.2 - bp.1) (bq.2 - bq.1) x.side x.side).map dI)]) = h8 at g7 k7' f7' ⊢
          generalize h7.length = pk at g7 hlt7 ⊢
          rw [enumL_map]
          refine wS_appT (k := h.length) (B := B) (L0 := L7) (fun e' => ∃ u9 u10 : Option Bp.D, e' = [some (frT a b c d e), some (.ref n), some (.ref h.length), some (.int t), some (dI (rect4 (rows, cols))), some (.int c'), some (.int r'), some (.int bn), some (dI (rect4 (bp, bq))), u9, u10]) (fun (y : List Int × Nat) => [dII ([(t : Int), (c' : Int), (r' : Int), (bn : Int), (y.2 : Int)], y.1)]) ⟨_, _, rfl⟩ k7' ?_ (fun p hp => by simp at hp; subst hp; exact ⟨g7, by simp; omega⟩) ?_ ?_
          · have : (((rectP bp.1 bq.1 (bp.2 - bp.1) (bq.2 - bq.1) x.side x.side).zipIdx.map fun (y : List Int × Nat) => [dII ([(t : Int), (c' : Int), (r' : Int), (bn : Int), (y.2 : Int)], y.1)]).flatten) = (entB t c' r' bn (blkP bp bq x.side)).map dII := by
              unfold entB blkP
              rw [List.map_map]
              generalize (rectP bp.1 bq.1 (bp.2 - bp.1) (bq.2 - bq.1) x.side x.side).zipIdx = zz
              induction zz with
              | nil => rfl
              | cons z r ih => rw [List.map_cons, List.flatten_cons, List.map_cons, ih]; rfl
            rw [this]
            exact b7
          · rintro ⟨blk, bi2⟩ hy3 e' h9 L9 ⟨u9, u10, rfl⟩ f9 k9 b9
            have b9' : L9.length + 1 ≤ B := b9
            simp_arith [wS_step, s_block_places_9, k9, listAt, Option.isSome_some, mfD, show L9.length < 16777216 by omega]
            refine ⟨⟨_, _, rfl⟩, f9.set (.inl (by simp)), ?_⟩
            rw [get_set k9]
            rfl
          · rintro e' h9 ⟨u9, u10, rfl⟩ f9 k9
            have : (((rectP bp.1 bq.1 (bp.2 - bp.1) (bq.2 - bq.1) x.side x.side).zipIdx.map fun (y : List Int × Nat) => [dII ([(t : Int), (c' : Int), (r' : Int), (bn : Int), (y.2 : Int)], y.1)]).flatten) = (entB t c' r' bn (blkP bp bq x.side)).map dII := by
              unfold entB blkP
              rw [List.map_map]
              generalize (rectP bp.1 bq.1 (bp.2 - bp.1) (bq.2 - bq.1) x.side x.side).zipIdx = zz
              induction zz with
              | nil => rfl
              | cons z r ih => rw [List.map_cons, List.flatten_cons, List.map_cons, ih]; rfl
            rw [this] at k9
            simp_arith
            exact ⟨⟨_, _, _, _, rfl⟩, f7'.trans f9, k9⟩
        · rintro e' h7 ⟨u7, u8, u9, u10, rfl⟩ f7 k7
          have : (((bandP rows cols x.levels.toNat r').zipIdx.map fun (y : ((Int × Int) × (Int × Int)) × Nat) => (entB t c' r' y.2 (blkP y.1.1 y.1.2 x.side)).map dII).flatten) = (entR t c' r' rows cols x.levels.toNat x.side).map dII := by
            unfold entR
            rw [List.map_flatten, List.map_map]
            rfl
          rw [this] at k7
          simp_arith
          exact ⟨⟨_, _, _, _, _, rfl⟩, f5'.trans f7, k7⟩
      · rintro e' h5 ⟨u6, u7, u8, u9, u10, rfl⟩ f5 k5
        have : (((List.range (x.levels.toNat + 1)).map fun (r' : Nat) => (entR t c' r' rows cols x.levels.toNat x.side).map dII).flatten) = (entC t c' rows cols x.levels.toNat x.side).map dII := by
          unfold entC
          rw [List.map_flatten, List.map_map]
          rfl
        rw [this] at k5
        simp_arith
        exact ⟨⟨_, _, _, _, _, _, rfl⟩, f4.trans f5, k5⟩
    · rintro e' h4 ⟨u5, u6, u7, u8, u9, u10, rfl⟩ f4 k4
      have : (((List.range e.toNat).map fun (c' : Nat) => (entC t c' rows cols x.levels.toNat x.side).map dII).flatten) = (entT t e.toNat rows cols x.levels.toNat x.side).map dII := by
        unfold entT
        rw [List.map_flatten, List.map_map]
        rfl
      rw [this] at k4
      simp_arith
      exact ⟨⟨_, _, _, _, _, _, _, _, rfl⟩, f3.trans f4, k4⟩
  · rintro e' h3 ⟨u3, u4, u5, u6, u7, u8, u9, u10, rfl⟩ f3 k3
    have : ((tiles.zipIdx.map fun (y : ((Int × Int) × (Int × Int)) × Nat) => (entT y.2 e.toNat y.1.1 y.1.2 x.levels.toNat x.side).map dII).flatten) = (placesP tiles e.toNat x.levels.toNat x.side).map dII := by
      unfold placesP
      rw [List.map_flatten, List.map_map]
      rfl
    rw [this, List.nil_append] at k3
    simp_arith [s_block_places_4]
    refine ⟨⟨Nat.le_trans f1.len f3.len, fun i hi _ => by rw [f3.at_ i (Nat.lt_of_lt_of_le hi f1.len) (by simp; omega), f1.at_ i hi (by simp)]⟩, h.length, _, rfl, Nat.le_refl _, k3, refsL_dII, rfl⟩
theorem law_places_ok (hj : 10 ≤ j) {a b c d e : Int} (F : FrameOk a b c d e) {n : Nat} {x : Opt} (o : OptAt h n x) (hx : OptOk x) :
    Cl j F_law_places [frT a b c d e, .ref n] h = .ok (.ref h.length) (h ++ [.lst ((placesP (tileP a b c d x.th x.tw) e.toNat x.levels.toNat x.side).map dII)]) := by
  obtain ⟨j, rfl, hj⟩ := jj (d := 8) hj
  rw [call_law_places]
  refine wE_eq (fin_lst (wE_out ?_))
  have hlev := hx.levels
  have hth := hx.th
  have htw := hx.tw
  have hsd : 1 ≤ x.side ∧ x.side ≤ 16 := by rcases hx.side with z | z <;> omega
  have hF := F
  obtain ⟨F1, F2, F3, F4, F5⟩ := F
  have tsm := tile_sm hF (show 0 < x.th by omega) (show 0 < x.tw by omega)
  have tcn := tile_cnt hF (show 0 < x.th by omega) (show 0 < x.tw by omega)
  obtain ⟨B, hB⟩ : ∃ B : Nat, B = 2359296 := ⟨_, rfl⟩
  have hpl := places_len (C := e.toNat) (L := x.levels.toNat) (side := x.side) tsm (by omega) (by omega) (by omega)
  have hlv : x.levels = (x.levels.toNat : Int) := by omega
  have o0 := o.fr0 (Fr.push (t := [DO.lst []]))
  simp_arith [s_law_places_0, law_tiles_ok (h := h ++ [DO.lst []]) (show 6 ≤ j + 1 by omega) hF o0 hx]
  have f1 : Fr [] h (h ++ [DO.lst [], .lst ((tileP a b c d x.th x.tw).map dTT)]) := .push
  have k0 : (h ++ [DO.lst [], .lst ((tileP a b c d x.th x.tw).map dTT)])[h.length]? = some (.lst []) := by simp
  have k1 : (h ++ [DO.lst [], .lst ((tileP a b c d x.th x.tw).map dTT)])[h.length + 1]? = some (.lst ((tileP a b c d x.th x.tw).map dTT)) := by simp
  generalize (h ++ [DO.lst [], .lst ((tileP a b c d x.th x.tw).map dTT)]) = h1 at f1 k0 k1 ⊢
  generalize htl : tileP a b c d x.th x.tw = tiles at tsm tcn hpl k1 ⊢
  have okk : ∀ {h' : DH}, Fr [h.length] h1 h' → OptAt h' n x := fun f => (o.fr0 f1).fr f fun i hi => by rw [List.mem_singleton.mp hi]; exact .inl ⟨_, k0⟩
  have k1f : ∀ {h' : DH}, Fr [h.length] h1 h' → h'[h.length + 1]? = some (.lst (tiles.map dTT)) := fun f => f.get k1 (by simp)
  simp_arith [s_law_places_1]
  refine wS_for ?_
  simp_arith [k1, lenD, List.length_map, inR_of (show -4611686018427387904 ≤ (tiles.length : Int) by omega) (show (tiles.length : Int) < 4611686018427387904 by omega), Int.toNat_natCast]
  rw [range_zip]
  refine wS_appT (k := h.length) (B := B) (L0 := []) (fun e' => ∃ u4 u5 u6 u7 u8 u9 u10 u11 u12 u13 u14 : Option Bp.D, e' = [some (frT a b c d e), some (.ref n), some (.ref h.length), some (.ref (h.length + 1)), u4, u5, u6, u7, u8, u9, u10, u11, u12, u13, u14]) (fun (y : ((Int × Int) × (Int × Int)) × Nat) => (entT y.2 e.toNat y.1.1 y.1.2 x.levels.toNat x.side).map dII) ⟨_, _, _, _, _, _, _, _, _, _, _, rfl⟩ k0 ?_ (fun p hp => by simp at hp) ?_ ?_
  · have : ((tiles.zipIdx.map fun (y : ((Int × Int) × (Int × Int)) × Nat) => (entT y.2 e.toNat y.1.1 y.1.2 x.levels.toNat x.side).map dII).flatten) = (placesP tiles e.toNat x.levels.toNat x.side).map dII := by
      unfold placesP
      rw [List.map_flatten, List.map_map]
      rfl
    rw [this, List.length_map, List.length_nil, Nat.zero_add]
    omega
  · rintro ⟨⟨rows, cols⟩, t⟩ hy e' h3 L3 ⟨u4, u5, u6, u7, u8, u9, u10, u11, u12, u13, u14, rfl⟩ f3 k3 b3
    have hat := zip_at hy
    have hmem : (rows, cols) ∈ tiles := List.mem_of_getElem? hat
    obtain ⟨s1, s2⟩ := tsm _ hmem
    have hatD : (tiles.map dTT)[t]? = some (.tup [dP rows, dP cols]) := by rw [List.getElem?_map, hat]; rfl
    simp_arith [wS_step, s_law_places_3]
    refine wS_for ?_
    simp_arith [frT, inR_of (show -4611686018427387904 ≤ e by omega) (show e < 4611686018427387904 by omega)]
    rw [range_map']
    refine wS_appT (k := h.length) (B := B) (L0 := L3) (fun e' => ∃ u5 u6 u7 u8 u9 u10 u11 u12 u13 u14 : Option Bp.D, e' = [some (frT a b c d e), some (.ref n), some (.ref h.length), some (.ref (h.length + 1)), some (.int t), u5, u6, u7, u8, u9, u10, u11, u12, u13, u14]) (fun (c' : Nat) => (entC t c' rows cols x.levels.toNat x.side).map dII) ⟨_, _, _, _, _, _, _, _, _, _, rfl⟩ k3 ?_ (fun p hp => by simp at hp) ?_ ?_
    · have : (((List.range e.toNat).map fun (c' : Nat) => (entC t c' rows cols x.levels.toNat x.side).map dII).flatten) = (entT t e.toNat rows cols x.levels.toNat x.side).map dII := by
        unfold entT
        rw [List.map_flatten, List.map_map]
        rfl
      rw [this]
      exact b3
    · rintro c' hc' e' h4 L4 ⟨u5, u6, u7, u8, u9, u10, u11, u12, u13, u14, rfl⟩ f4 k4 b4
      have o4 := okk (f3.trans f4)
      have o4' := o4
      obtain ⟨t4, r1, r2⟩ := o4'
      simp_arith [wS_step, s_law_places_4]
      refine wS_for ?_
      simp_arith [r1, look_self, p_levels (show 2 ≤ j by omega) o4, inR_of (show -4611686018427387904 ≤ x.levels + 1 by omega) (show x.levels + 1 < 4611686018427387904 by omega)]
      have hl1 : (x.levels + 1).toNat = x.levels.toNat + 1 := by omega
      rw [hl1, range_map']
      refine wS_appT (k := h.length) (B := B) (L0 := L4) (fun e' => ∃ u6 u7 u8 u9 u10 u11 u12 u13 u14 : Option Bp.D, e' = [some (frT a b c d e), some (.ref n), some (.ref h.length), some (.ref (h.length + 1)), some (.int t), some (.int c'), u6, u7, u8, u9, u10, u11, u12, u13, u14]) (fun (r' : Nat) => (entR t c' r' rows cols x.levels.toNat x.side).map dII) ⟨_, _, _, _, _, _, _, _, _, rfl⟩ k4 ?_ (fun p hp => by simp at hp) ?_ ?_
      · have : (((List.range (x.levels.toNat + 1)).map fun (r' : Nat) => (entR t c' r' rows cols x.levels.toNat x.side).map dII).flatten) = (entC t c' rows cols x.levels.toNat x.side).map dII := by
          unfold entC
          rw [List.map_flatten, List.map_map]
          rfl
        rw [this]
        exact b4
      · rintro r' hr' e' h5 L5 ⟨u6, u7, u8, u9, u10, u11, u12, u13, u14, rfl⟩ f5 k5 b5
        have hr' := List.mem_range.mp hr'
        have o5 := okk ((f3.trans f4).trans f5)
        have o5' := o5
        obtain ⟨t5, w1, w2⟩ := o5'
        have kt5 := k1f ((f3.trans f4).trans f5)
        have bi := law_band_spans_ok (h := h5) (j := j + 1) (by omega) (p := rows) (q := cols) (L := x.levels.toNat) (r := r') (by omega) (by omega)
        rw [← hlv] at bi
        simp_arith [wS_step, s_law_places_5, kt5, atI_nat, hatD, w1, look_self, p_levels (show 2 ≤ j by omega) o5, bi]
        have hlt5 := lt_of_get k5
        have g5 : (h5 ++ [DO.lst ((bandP rows cols x.levels.toNat r').map dTT)])[h5.length]? = some (.lst ((bandP rows cols x.levels.toNat r').map dTT)) := get_end
        have k5' : (h5 ++ [DO.lst ((bandP rows cols x.levels.toNat r').map dTT)])[h.length]? = some (.lst L5) := get_app k5
        have f5' : Fr [h.length] h4 (h5 ++ [DO.lst ((bandP rows cols x.levels.toNat r').map dTT)]) := f5.pushed
        generalize (h5 ++ [DO.lst ((bandP rows cols x.levels.toNat r').map dTT)]) = h6 at g5 k5' f5' ⊢
        generalize h5.length = pb at g5 hlt5 ⊢
        have hbl := bandP_len (rows := rows) (cols := cols) (L := x.levels.toNat) (r := r')
        simp_arith [s_law_places_6]
        refine wS_for ?_
        simp_arith [g5, lenD, List.length_map, inR_of (show -4611686018427387904 ≤ ((bandP rows cols x.levels.toNat r').length : Int) by omega) (show ((bandP rows cols x.levels.toNat r').length : Int) < 4611686018427387904 by omega), Int.toNat_natCast]
        rw [range_zip]
        refine wS_appT (k := h.length) (B := B) (L0 := L5) (fun e' => ∃ u8 u9 u10 u11 u12 u13 u14 : Option Bp.D, e' = [some (frT a b c d e), some (.ref n), some (.ref h.length), some (.ref (h.length + 1)), some (.int t), some (.int c'), some (.int r'), some (.ref pb), u8, u9, u10, u11, u12, u13, u14]) (fun (y : ((Int × Int) × (Int × Int)) × Nat) => (entB t c' r' y.2 (blkP y.1.1 y.1.2 x.side)).map dII) ⟨_, _, _, _, _, _, _, rfl⟩ k5' ?_ (fun p hp => by simp at hp) ?_ ?_
        · have : (((bandP rows cols x.levels.toNat r').zipIdx.map fun (y : ((Int × Int) × (Int × Int)) × Nat) => (entB t c' r' y.2 (blkP y.1.1 y.1.2 x.side)).map dII).flatten) = (entR t c' r' rows cols x.levels.toNat x.side).map dII := by
            unfold entR
            rw [List.map_flatten, List.map_map]
            rfl
          rw [this]
          exact b5
        · rintro ⟨⟨bp, bq⟩, bn⟩ hy2 e' h7 L7 ⟨u8, u9, u10, u11, u12, u13, u14, rfl⟩ f7 k7 b7
          have hat2 := zip_at hy2
          have hmem2 : (bp, bq) ∈ bandP rows cols x.levels.toNat r' := List.mem_of_getElem? hat2
          obtain ⟨s3, s4⟩ := bandP_sm s1 s2 _ hmem2
          have hat2D : ((bandP rows cols x.levels.toNat r').map dTT)[bn]? = some (.tup [.tup [.int bp.1, .int bp.2], .tup [.int bq.1, .int bq.2]]) := by rw [List.getElem?_map, hat2]; rfl
          have g7 := f7.get g5 (by simp; omega)
          have o7 := okk ((f3.trans f4).trans (f5'.trans f7))
          have o7' := o7
          obtain ⟨t7, v1, v2⟩ := o7'
          have gr := law_grid_ok (h := h7) (j := j + 1) (by omega) (start := bp.1) (stop := bp.2) (size := x.side) (by omega) (by omega) s3.sp.le s3.sp.lo (by have : bp.2 ≤ 900 := s3.sp.hi; omega)
          simp_arith [wS_step, s_law_places_7]
          simp_arith [s_law_places_8]
          refine wS_for (wI_val ?_)
          simp_arith [g7, atI_nat, hat2D, v1, look_self, p_side (show 2 ≤ j by omega) o7, gr, get_end]
          have hlt7 := lt_of_get k7
          have g8 : (h7 ++ [DO.lst ((spanP bp.1 bp.2 x.side).map dP)])[h7.length]? = some (.lst ((spanP bp.1 bp.2 x.side).map dP)) := get_end
          have k8 : (h7 ++ [DO.lst ((spanP bp.1 bp.2 x.side).map dP)])[h.length]? = some (.lst L7) := get_app k7
          have f8 : Fr [h.length] h6 (h7 ++ [DO.lst ((spanP bp.1 bp.2 x.side).map dP)]) := f7.pushed
          generalize (h7 ++ [DO.lst ((spanP bp.1 bp.2 x.side).map dP)]) = h8 at g8 k8 f8 ⊢
          generalize h7.length = pk at g8 hlt7 ⊢
          have b7' : L7.length + (blkP bp bq x.side).length ≤ B := by
            have := b7
            simp only [List.length_map, entB_len] at this
            exact this
          refine wS_loop (fun pre e' hh => ∃ (us vs : List (Int × Int)) (u10 u11 u12 u13 u14 : Option Bp.D), spanP bp.1 bp.2 x.side = us ++ vs ∧ pre = us.map dP ∧ e' = [some (frT a b c d e), some (.ref n), some (.ref h.length), some (.ref (h.length + 1)), some (.int t), some (.int c'), some (.int r'), some (.ref pb), some (.int bn), some (.int (((us.map (rowB bq x.side)).flatten).length : Nat)), u10, u11, u12, u13, u14] ∧ Fr [h.length] h8 hh ∧ hh[h.length]? = some (.lst (L7 ++ (entB t c' r' bn ((us.map (rowB bq x.side)).flatten)).map dII)))
            ⟨[], _, u10, u11, u12, u13, u14, rfl, rfl, rfl, .refl, by rw [k8]; simp [entB]⟩ (fun pre e' hh ⟨_, _, _, _, _, _, _, _, _, _, f, _⟩ => depsOk_one (f.get g8 (by simp; omega))) ?_ ?_
          · rintro pre y suf e' h9 ex ⟨us, vs, u10, u11, u12, u13, u14, hsp, rfl, rfl, f9, k9⟩
            cases vs with
            | nil =>
              exfalso
              have := congrArg List.length ex
              rw [hsp] at this
              simp at this
            | cons u vs =>
              have : y = dP u := by
                rw [hsp] at ex
                simp at ex
                exact ex.1.symm
              subst this
              have g9 := f9.get (f8.get g5 (by simp; omega)) (by simp; omega)
              have o9 := okk ((f3.trans f4).trans (f5'.trans (f8.trans f9)))
              have o9' := o9
              obtain ⟨t9, z1, z2⟩ := o9'
              have gr2 := law_grid_ok (h := h9) (j := j + 1) (by omega) (start := bq.1) (stop := bq.2) (size := x.side) (by omega) (by omega) s4.sp.le s4.sp.lo (by have : bq.2 ≤ 900 := s4.sp.hi; omega)
              simp_arith [wS_step, dP, s_law_places_9]
              refine wS_for (wI_val ?_)
              simp_arith [g9, atI_nat, hat2D, z1, look_self, p_side (show 2 ≤ j by omega) o9, gr2, get_end]
              have hlt9 := lt_of_get k9
              have g10 : (h9 ++ [DO.lst ((spanP bq.1 bq.2 x.side).map dP)])[h9.length]? = some (.lst ((spanP bq.1 bq.2 x.side).map dP)) := get_end
              have k10 : (h9 ++ [DO.lst ((spanP bq.1 bq.2 x.side).map dP)])[h.length]? = _ := get_app k9
              have f10 : Fr [h.length] h8 (h9 ++ [DO.lst ((spanP bq.1 bq.2 x.side).map dP)]) := f9.pushed
              generalize (h9 ++ [DO.lst ((spanP bq.1 bq.2 x.side).map dP)]) = h10 at g10 k10 f10 ⊢
              generalize h9.length = pq at g10 hlt9 ⊢
              have htot : ((us.map (rowB bq x.side)).flatten).length + (rowB bq x.side u).length ≤ (blkP bp bq x.side).length := by
                rw [blk_eq, hsp]
                simp
              generalize hbs : (us.map (rowB bq x.side)).flatten = bs at k10 htot ⊢
              refine wS_loop (fun pre e' hh => ∃ (ws xs : List (Int × Int)) (u12 u13 u14 : Option Bp.D), spanP bq.1 bq.2 x.side = ws ++ xs ∧ pre = ws.map dP ∧ e' = [some (frT a b c d e), some (.ref n), some (.ref h.length), some (.ref (h.length + 1)), some (.int t), some (.int c'), some (.int r'), some (.ref pb), some (.int bn), some (.int ((bs ++ ws.map fun v => [u.1, v.1, u.2 - u.1, v.2 - v.1]).length : Nat)), some (.int u.1), some (.int u.2), u12, u13, u14] ∧ Fr [h.length] h10 hh ∧ hh[h.length]? = some (.lst (L7 ++ (entB t c' r' bn (bs ++ ws.map fun v => [u.1, v.1, u.2 - u.1, v.2 - v.1])).map dII)))
                ⟨[], _, u12, u13, u14, rfl, rfl, by simp, .refl, by rw [k10]; simp⟩ (fun pre e' hh ⟨_, _, _, _, _, _, _, _, f, _⟩ => depsOk_one (f.get g10 (by simp; omega))) ?_ ?_
              · rintro pre y suf e' h11 ex ⟨ws, xs, u12, u13, u14, hsp2, rfl, rfl, f11, k11⟩
                cases xs with
                | nil =>
                  exfalso
                  have := congrArg List.length ex
                  rw [hsp2] at this
                  simp at this
                | cons v xs =>
                  have : y = dP v := by
                    rw [hsp2] at ex
                    simp at ex
                    exact ex.1.symm
                  subst this
                  have hws : ws.length + 1 ≤ (rowB bq x.side u).length := by
                    unfold rowB
                    rw [hsp2]
                    simp
                  have hL : L7.length + ((entB t c' r' bn (bs ++ ws.map fun v => [u.1, v.1, u.2 - u.1, v.2 - v.1])).map dII).length < 16777216 := by
                    rw [List.length_map, entB_len, List.length_append, List.length_map]
                    omega
                  simp_arith [wS_step, dP, s_law_places_10]
                  simp_arith [s_law_places_11, k11, listAt, Option.isSome_some, mfD, hL]
                  simp_arith [s_law_places_12]
                  refine ⟨ws ++ [v], xs, some (.int v.1), some (.int v.2), some (.tup [.int u.1, .int v.1, .int (u.2 - u.1), .int (v.2 - v.1)]), by simp [hsp2], by simp [dP], ?_, f11.set (.inl (by simp)), ?_⟩
                  · simp
                    omega
                  · rw [get_set k11, List.map_append, ← List.append_assoc bs, List.map_cons, List.map_nil, entB_snoc]
                    simp [dII, dI]
              · rintro e' h11 ⟨ws, xs, u12, u13, u14, hsp2, hp, rfl, f11, k11⟩
                have hx : xs = [] := by
                  have := congrArg List.length hp
                  rw [hsp2] at this
                  simp at this
                  exact this
                subst hx
                rw [List.append_nil] at hsp2
                subst hsp2
                simp_arith
                refine ⟨us ++ [u], vs, some (.int u.1), some (.int u.2), u12, u13, u14, by simp [hsp], by simp [dP], ?_, f10.trans f11, ?_⟩
                · rw [List.map_append, List.flatten_append, hbs]
                  simp [rowB]
                · rw [k11, List.map_append, List.flatten_append, hbs]
                  simp [rowB]
          · rintro e' h9 ⟨us, vs, u10, u11, u12, u13, u14, hsp, hp, rfl, f9, k9⟩
            have hx : vs = [] := by
              have := congrArg List.length hp
              rw [hsp] at this
              simp at this
              exact this
            subst hx
            rw [List.append_nil] at hsp
            subst hsp
            rw [← blk_eq] at k9 ⊢
            simp_arith
            exact ⟨⟨_, _, _, _, _, _, _, rfl⟩, f8.trans f9, k9⟩
        · rintro e' h7 ⟨u8, u9, u10, u11, u12, u13, u14, rfl⟩ f7 k7
          have : (((bandP rows cols x.levels.toNat r').zipIdx.map fun (y : ((Int × Int) × (Int × Int)) × Nat) => (entB t c' r' y.2 (blkP y.1.1 y.1.2 x.side)).map dII).flatten) = (entR t c' r' rows cols x.levels.toNat x.side).map dII := by
            unfold entR
            rw [List.map_flatten, List.map_map]
            rfl
          rw [this] at k7
          simp_arith
          exact ⟨⟨_, _, _, _, _, _, _, _, _, rfl⟩, f5'.trans f7, k7⟩
      · rintro e' h5 ⟨u6, u7, u8, u9, u10, u11, u12, u13, u14, rfl⟩ f5 k5
        have : (((List.range (x.levels.toNat + 1)).map fun (r' : Nat) => (entR t c' r' rows cols x.levels.toNat x.side).map dII).flatten) = (entC t c' rows cols x.levels.toNat x.side).map dII := by
          unfold entC
          rw [List.map_flatten, List.map_map]
          rfl
        rw [this] at k5
        simp_arith
        exact ⟨⟨_, _, _, _, _, _, _, _, _, _, rfl⟩, f4.trans f5, k5⟩
    · rintro e' h4 ⟨u5, u6, u7, u8, u9, u10, u11, u12, u13, u14, rfl⟩ f4 k4
      have : (((List.range e.toNat).map fun (c' : Nat) => (entC t c' rows cols x.levels.toNat x.side).map dII).flatten) = (entT t e.toNat rows cols x.levels.toNat x.side).map dII := by
        unfold entT
        rw [List.map_flatten, List.map_map]
        rfl
      rw [this] at k4
      simp_arith
      exact ⟨⟨_, _, _, _, _, _, _, _, _, _, _, rfl⟩, f3.trans f4, k4⟩
  · rintro e' h3 ⟨u4, u5, u6, u7, u8, u9, u10, u11, u12, u13, u14, rfl⟩ f3 k3
    have : ((tiles.zipIdx.map fun (y : ((Int × Int) × (Int × Int)) × Nat) => (entT y.2 e.toNat y.1.1 y.1.2 x.levels.toNat x.side).map dII).flatten) = (placesP tiles e.toNat x.levels.toNat x.side).map dII := by
      unfold placesP
      rw [List.map_flatten, List.map_map]
      rfl
    rw [this, List.nil_append] at k3
    simp_arith [s_law_places_2]
    refine ⟨⟨Nat.le_trans f1.len f3.len, fun i hi _ => by rw [f3.at_ i (Nat.lt_of_lt_of_le hi f1.len) (by simp; omega), f1.at_ i hi (by simp)]⟩, h.length, _, rfl, Nat.le_refl _, k3, refsL_dII, rfl⟩
end
def areaR (r : List Int) : Int := r.getD 2 0 * r.getD 3 0
def areaL (l : List (List Int)) : Int := (l.map areaR).sum
def lenS (p : Int × Int) : Int := p.2 - p.1
theorem sum_append' {l m : List Int} : (l ++ m).sum = l.sum + m.sum := by
  induction l with
  | nil => simp
  | cons a r ih => simp only [List.cons_append, List.sum_cons, ih]; omega
theorem sum_flatten' {l : List (List Int)} : l.flatten.sum = (l.map List.sum).sum := by
  induction l with
  | nil => rfl
  | cons a r ih => simp only [List.flatten_cons, sum_append', List.map_cons, List.sum_cons, ih]
theorem sum_mul_left {α : Type} {l : List α} {f : α → Int} {k : Int} : (l.map fun a => k * f a).sum = k * (l.map f).sum := by
  induction l with
  | nil => simp
  | cons a r ih => simp only [List.map_cons, List.sum_cons, ih, Int.mul_add]
theorem sum_mul_right {α : Type} {l : List α} {f : α → Int} {k : Int} : (l.map fun a => f a * k).sum = (l.map f).sum * k := by
  induction l with
  | nil => simp
  | cons a r ih => simp only [List.map_cons, List.sum_cons, ih, Int.add_mul]
theorem tele {f : Nat → Int} : ∀ n : Nat, ((List.range n).map fun k => f (k + 1) - f k).sum = f n - f 0
  | 0 => by simp
  | n + 1 => by
    rw [List.range_succ, List.map_append, sum_append', tele n]
    simp
    omega
theorem span_sum {start stop size : Int} (hs : 0 < size) (hl : start ≤ stop) : ((spanP start stop size).map lenS).sum = stop - start := by
  unfold spanP
  rw [List.map_map]
  have := tele (f := posP start stop size) (cntP start stop size)
  rw [posP_end hs hl, posP_zero hs hl] at this
  exact this
theorem areaL_append {l m : List (List Int)} : areaL (l ++ m) = areaL l + areaL m := by
  unfold areaL
  rw [List.map_append, sum_append']
theorem areaL_flatten {l : List (List (List Int))} : areaL l.flatten = (l.map areaL).sum := by
  unfold areaL
  rw [List.map_flatten, sum_flatten', List.map_map]
  rfl
theorem rect_area {a b c d th tw : Int} (h1 : 0 < th) (h2 : 0 < tw) (hc : 0 ≤ c) (hd : 0 ≤ d) : areaL (rectP a b c d th tw) = c * d := by
  unfold rectP
  rw [areaL_flatten, List.map_map]
  have e : ∀ u : Int × Int, areaL ((spanP b (b + d) tw).map fun v => [u.1, v.1, u.2 - u.1, v.2 - v.1]) = lenS u * d := by
    intro u
    unfold areaL
    rw [List.map_map]
    have : (areaR ∘ fun v : Int × Int => [u.1, v.1, u.2 - u.1, v.2 - v.1]) = fun v => lenS u * lenS v := rfl
    rw [this, sum_mul_left, span_sum h2 (by omega)]
    congr 1
    omega
  have e2 : (areaL ∘ fun u : Int × Int => (spanP b (b + d) tw).map fun v => [u.1, v.1, u.2 - u.1, v.2 - v.1]) = fun u => lenS u * d := by
    funext u
    exact e u
  rw [e2, sum_mul_right, span_sum h1 (by omega)]
  congr 1
  omega
theorem blk_area {p q : Int × Int} {side : Int} (hs : 0 < side) (h1 : p.1 ≤ p.2) (h2 : q.1 ≤ q.2) : areaL (blkP p q side) = lenS p * lenS q := by
  unfold blkP
  rw [rect_area hs hs (by omega) (by omega)]
  rfl
def resArea (rows cols : Int × Int) (L : Nat) (side : Int) (r : Nat) : Int := ((bandP rows cols L r).map fun b => areaL (blkP b.1 b.2 side)).sum
theorem low_high (p : Int × Int) : lenS (lowP p) + lenS (highP p) = lenS p := by
  simp only [lenS, lowP, highP]
  omega
theorem res_zero {rows cols : Int × Int} {L : Nat} {side : Int} (hs : 0 < side) (h1 : SpOk rows) (h2 : SpOk cols) : resArea rows cols L side 0 = lenS (lowN L rows) * lenS (lowN L cols) := by
  unfold resArea bandP
  simp only [if_true, List.map_cons, List.map_nil, List.sum_cons, List.sum_nil]
  rw [blk_area hs (h1.lowN L).le (h2.lowN L).le]
  omega
theorem res_succ {rows cols : Int × Int} {L r : Nat} {side : Int} (hs : 0 < side) (h1 : SpOk rows) (h2 : SpOk cols) (hr : r < L) :
    resArea rows cols L side (r + 1) = lenS (lowN (L - (r + 1)) rows) * lenS (lowN (L - (r + 1)) cols) - lenS (lowN (L - r) rows) * lenS (lowN (L - r) cols) := by
  unfold resArea bandP
  rw [if_neg (by omega)]
  simp only [List.map_cons, List.map_nil, List.sum_cons, List.sum_nil]
  have g1 := h1.lowN (L - (r + 1))
  have g2 := h2.lowN (L - (r + 1))
  have e : L - r = (L - (r + 1)) + 1 := by omega
  rw [e, lowN_succ, lowN_succ]
  generalize lowN (L - (r + 1)) rows = p at g1 ⊢
  generalize lowN (L - (r + 1)) cols = q at g2 ⊢
  rw [blk_area hs g1.low.le g2.high.le, blk_area hs g1.high.le g2.low.le, blk_area hs g1.high.le g2.high.le, ← low_high p, ← low_high q]
  simp only [Int.add_mul, Int.mul_add]
  omega
theorem all_area {rows cols : Int × Int} {L : Nat} {side : Int} (hs : 0 < side) (h1 : SpOk rows) (h2 : SpOk cols) : ((List.range (L + 1)).map (resArea rows cols L side)).sum = lenS rows * lenS cols := by
  have key : ∀ n, n ≤ L → ((List.range (n + 1)).map (resArea rows cols L side)).sum = lenS (lowN (L - n) rows) * lenS (lowN (L - n) cols) := by
    intro n
    induction n with
    | zero =>
      intro _
      simp only [List.range_succ, List.range_zero, List.nil_append, List.map_cons, List.map_nil, List.sum_cons, List.sum_nil]
      rw [res_zero hs h1 h2]
      simp
    | succ n ih =>
      intro hn
      rw [List.range_succ, List.map_append, sum_append', ih (by omega)]
      simp only [List.map_cons, List.map_nil, List.sum_cons, List.sum_nil]
      rw [res_succ hs h1 h2 (by omega)]
      omega
  have := key L (Nat.le_refl _)
  rw [Nat.sub_self] at this
  exact this
def areaE (t c : Nat) (e : List Int × List Int) : Int := if e.1.take 2 = [(t : Int), (c : Int)] then areaR e.2 else 0
def areaOf (t c : Nat) (l : List (List Int × List Int)) : Int := (l.map (areaE t c)).sum
theorem areaOf_flatten {t c : Nat} {l : List (List (List Int × List Int))} : areaOf t c l.flatten = (l.map (areaOf t c)).sum := by
  unfold areaOf
  rw [List.map_flatten, sum_flatten', List.map_map]
  rfl
theorem areaOf_append {t c : Nat} {l m : List (List Int × List Int)} : areaOf t c (l ++ m) = areaOf t c l + areaOf t c m := by
  unfold areaOf
  rw [List.map_append, sum_append']
theorem sum_zero {α : Type} {l : List α} {f : α → Int} (h : ∀ a ∈ l, f a = 0) : (l.map f).sum = 0 := by
  induction l with
  | nil => rfl
  | cons a r ih =>
    rw [List.map_cons, List.sum_cons, h a (by simp), ih fun b hb => h b (by simp [hb])]
    rfl
theorem areaOf_B {t c t' c' r b : Nat} {blk : List (List Int)} : areaOf t c (entB t' c' r b blk) = if t' = t ∧ c' = c then areaL blk else 0 := by
  unfold areaOf entB
  rw [List.map_map]
  by_cases h : t' = t ∧ c' = c
  · rw [if_pos h]
    obtain ⟨rfl, rfl⟩ := h
    have : (areaE t' c' ∘ fun (x : List Int × Nat) => ([(t' : Int), (c' : Int), (r : Int), (b : Int), (x.2 : Int)], x.1)) = areaR ∘ Prod.fst := by
      funext x
      simp [areaE]
    rw [this, ← List.map_map, List.zipIdx_map_fst]
    rfl
  · rw [if_neg h]
    refine sum_zero fun x hx => ?_
    simp only [Function.comp, areaE]
    rw [if_neg]
    intro e
    simp at e
    exact h ⟨by omega, by omega⟩
theorem sum_if {α : Type} {l : List α} {p : Prop} [Decidable p] {f : α → Int} : (l.map fun a => if p then f a else 0).sum = if p then (l.map f).sum else 0 := by
  by_cases h : p
  · simp only [if_pos h]
  · simp only [if_neg h]
    exact sum_zero fun _ _ => rfl
theorem areaOf_C {t c t' c' L : Nat} {rows cols : Int × Int} {side : Int} (hs : 0 < side) (h1 : SpOk rows) (h2 : SpOk cols) : areaOf t c (entC t' c' rows cols L side) = if t' = t ∧ c' = c then lenS rows * lenS cols else 0 := by
  unfold entC
  rw [areaOf_flatten, List.map_map]
  have e : (areaOf t c ∘ fun r => entR t' c' r rows cols L side) = fun r => if t' = t ∧ c' = c then resArea rows cols L side r else 0 := by
    funext r
    simp only [Function.comp, entR]
    rw [areaOf_flatten, List.map_map]
    have e2 : (areaOf t c ∘ fun (x : ((Int × Int) × (Int × Int)) × Nat) => entB t' c' r x.2 (blkP x.1.1 x.1.2 side)) = fun x => if t' = t ∧ c' = c then areaL (blkP x.1.1 x.1.2 side) else 0 := by
      funext x
      exact areaOf_B
    rw [e2, sum_if]
    have e3 : (fun (x : ((Int × Int) × (Int × Int)) × Nat) => areaL (blkP x.1.1 x.1.2 side)) = (fun b => areaL (blkP b.1 b.2 side)) ∘ Prod.fst := rfl
    rw [e3, ← List.map_map, List.zipIdx_map_fst]
    rfl
  rw [e, sum_if, all_area hs h1 h2]
theorem sum_one {n c : Nat} {v : Int} (h : c < n) : ((List.range n).map fun k => if k = c then v else 0).sum = v := by
  induction n with
  | zero => omega
  | succ n ih =>
    rw [List.range_succ, List.map_append, sum_append']
    simp only [List.map_cons, List.map_nil, List.sum_cons, List.sum_nil]
    by_cases e : c = n
    · subst e
      rw [sum_zero (fun k hk => by have := List.mem_range.mp hk; exact if_neg (by omega))]
      simp
    · rw [ih (by omega), if_neg (by omega)]
      omega
theorem areaOf_T {t c t' C L : Nat} {rows cols : Int × Int} {side : Int} (hs : 0 < side) (h1 : SpOk rows) (h2 : SpOk cols) (hc : c < C) : areaOf t c (entT t' C rows cols L side) = if t' = t then lenS rows * lenS cols else 0 := by
  unfold entT
  rw [areaOf_flatten, List.map_map]
  have e : (areaOf t c ∘ fun c' => entC t' c' rows cols L side) = fun c' => if c' = c then (if t' = t then lenS rows * lenS cols else 0) else 0 := by
    funext c'
    simp only [Function.comp]
    rw [areaOf_C hs h1 h2]
    by_cases a : t' = t <;> by_cases b : c' = c <;> simp [a, b]
  rw [e, sum_one hc]
theorem areaOf_P {tiles : List ((Int × Int) × (Int × Int))} {C L t c : Nat} {side : Int} (hs : 0 < side) (ht : ∀ x ∈ tiles, SpOk x.1 ∧ SpOk x.2) (hc : c < C) {x : (Int × Int) × (Int × Int)} (hx : tiles[t]? = some x) : areaOf t c (placesP tiles C L side) = lenS x.1 * lenS x.2 := by
  have key : ∀ (l : List ((Int × Int) × (Int × Int))) (k : Nat), (∀ x ∈ l, SpOk x.1 ∧ SpOk x.2) → (((l.zipIdx k).map fun (x : ((Int × Int) × (Int × Int)) × Nat) => entT x.2 C x.1.1 x.1.2 L side).map (areaOf t c)).sum = match l[t - k]? with
      | some x => if k ≤ t then lenS x.1 * lenS x.2 else 0
      | none => 0 := by
    intro l
    induction l with
    | nil => intro k _; rfl
    | cons a r ih =>
      intro k hl
      rw [List.zipIdx_cons, List.map_cons, List.map_cons, List.sum_cons, ih (k + 1) fun x hx => hl x (by simp [hx])]
      obtain ⟨g1, g2⟩ := hl a (by simp)
      rw [areaOf_T hs g1 g2 hc]
      by_cases hk : k = t
      · subst hk
        simp
        split <;> first | rfl | (rw [if_neg (by omega)]; omega) | omega
      · rw [if_neg hk]
        by_cases hlt : k ≤ t
        · have e : t - k = (t - (k + 1)) + 1 := by omega
          rw [e, List.getElem?_cons_succ]
          cases r[t - (k + 1)]? with
          | none => simp
          | some y => simp [hlt]; omega
        · have e1 : t - k = 0 := by omega
          have e2 : t - (k + 1) = 0 := by omega
          rw [e1, e2]
          simp only [List.getElem?_cons_zero, if_neg hlt]
          cases r[0]? with
          | none => simp
          | some y => simp; omega
  unfold placesP
  rw [areaOf_flatten, key tiles 0 ht, Nat.sub_zero, hx]
  simp
theorem zip_pw {α : Type} : ∀ {l : List α} {k : Nat}, (l.zipIdx k).Pairwise fun x y => x.2 < y.2
  | [], k => .nil
  | a :: r, k => by
    rw [List.zipIdx_cons]
    refine .cons (fun y hy => ?_) zip_pw
    have := List.le_snd_of_mem_zipIdx hy
    simp only
    omega
def keyLt (x y : List Int × List Int) : Prop := x.1 < y.1
theorem mem_B {t c r b : Nat} {blk : List (List Int)} {e : List Int × List Int} (h : e ∈ entB t c r b blk) : ∃ n : Nat, e.1 = [(t : Int), (c : Int), (r : Int), (b : Int), (n : Int)] ∧ e.2 ∈ blk := by
  unfold entB at h
  obtain ⟨x, hx, rfl⟩ := List.mem_map.mp h
  exact ⟨x.2, rfl, List.mem_of_getElem? (zip_at hx)⟩
theorem mem_R {t c r L : Nat} {rows cols : Int × Int} {side : Int} {e : List Int × List Int} (h : e ∈ entR t c r rows cols L side) : ∃ b n : Nat, e.1 = [(t : Int), (c : Int), (r : Int), (b : Int), (n : Int)] ∧ ∃ z ∈ bandP rows cols L r, e.2 ∈ blkP z.1 z.2 side := by
  unfold entR at h
  rw [List.mem_flatten] at h
  obtain ⟨l, hl, he⟩ := h
  obtain ⟨x, hx, rfl⟩ := List.mem_map.mp hl
  obtain ⟨n, e1, e2⟩ := mem_B he
  exact ⟨x.2, n, e1, x.1, List.mem_of_getElem? (zip_at hx), e2⟩
theorem mem_C {t c L : Nat} {rows cols : Int × Int} {side : Int} {e : List Int × List Int} (h : e ∈ entC t c rows cols L side) : ∃ r b n : Nat, e.1 = [(t : Int), (c : Int), (r : Int), (b : Int), (n : Int)] ∧ ∃ z ∈ bandP rows cols L r, e.2 ∈ blkP z.1 z.2 side := by
  unfold entC at h
  rw [List.mem_flatten] at h
  obtain ⟨l, hl, he⟩ := h
  obtain ⟨x, hx, rfl⟩ := List.mem_map.mp hl
  obtain ⟨b, n, e1, e2⟩ := mem_R he
  exact ⟨x, b, n, e1, e2⟩
theorem mem_T {t C L : Nat} {rows cols : Int × Int} {side : Int} {e : List Int × List Int} (h : e ∈ entT t C rows cols L side) : ∃ c r b n : Nat, c < C ∧ e.1 = [(t : Int), (c : Int), (r : Int), (b : Int), (n : Int)] ∧ ∃ z ∈ bandP rows cols L r, e.2 ∈ blkP z.1 z.2 side := by
  unfold entT at h
  rw [List.mem_flatten] at h
  obtain ⟨l, hl, he⟩ := h
  obtain ⟨x, hx, rfl⟩ := List.mem_map.mp hl
  obtain ⟨r, b, n, e1, e2⟩ := mem_C he
  exact ⟨x, r, b, n, List.mem_range.mp hx, e1, e2⟩
theorem pw_flat {α β : Type} {R : β → β → Prop} {l : List α} {f : α → List β} {S : α → α → Prop} (h1 : ∀ a ∈ l, (f a).Pairwise R) (h2 : l.Pairwise S) (h3 : ∀ a b, S a b → ∀ x ∈ f a, ∀ y ∈ f b, R x y) : ((l.map f).flatten).Pairwise R := by
  rw [List.pairwise_flatten]
  refine ⟨fun m hm => ?_, ?_⟩
  · obtain ⟨a, ha, rfl⟩ := List.mem_map.mp hm
    exact h1 a ha
  · rw [List.pairwise_map]
    exact h2.imp fun {a b} hab => h3 a b hab
theorem lt5 {a b c d e a' b' c' d' e' : Int} (h : a < a' ∨ (a = a' ∧ (b < b' ∨ (b = b' ∧ (c < c' ∨ (c = c' ∧ (d < d' ∨ (d = d' ∧ e < e')))))))) : ([a, b, c, d, e] : List Int) < [a', b', c', d', e'] := by
  simp only [List.cons_lt_cons_iff]
  rcases h with h | ⟨rfl, h | ⟨rfl, h | ⟨rfl, h | ⟨rfl, h⟩⟩⟩⟩ <;> simp [h]
theorem pw_B {t c r b : Nat} {blk : List (List Int)} : (entB t c r b blk).Pairwise keyLt := by
  unfold entB
  rw [List.pairwise_map]
  exact zip_pw.imp fun {x y} h => lt5 (by omega)
theorem pw_R {t c r L : Nat} {rows cols : Int × Int} {side : Int} : (entR t c r rows cols L side).Pairwise keyLt := by
  refine pw_flat (S := fun x y => x.2 < y.2) (fun a _ => pw_B) zip_pw fun a b hab x hx y hy => ?_
  obtain ⟨n, e1, _⟩ := mem_B hx
  obtain ⟨m, e2, _⟩ := mem_B hy
  unfold keyLt
  rw [e1, e2]
  exact lt5 (by omega)
theorem range_pw {n : Nat} : (List.range n).Pairwise (· < ·) := List.pairwise_lt_range
theorem pw_C {t c L : Nat} {rows cols : Int × Int} {side : Int} : (entC t c rows cols L side).Pairwise keyLt := by
  refine pw_flat (S := (· < ·)) (fun a _ => pw_R) range_pw fun a b hab x hx y hy => ?_
  obtain ⟨_, n, e1, _⟩ := mem_R hx
  obtain ⟨_, m, e2, _⟩ := mem_R hy
  unfold keyLt
  rw [e1, e2]
  exact lt5 (by omega)
theorem pw_T {t C L : Nat} {rows cols : Int × Int} {side : Int} : (entT t C rows cols L side).Pairwise keyLt := by
  refine pw_flat (S := (· < ·)) (fun a _ => pw_C) range_pw fun a b hab x hx y hy => ?_
  obtain ⟨_, _, n, e1, _⟩ := mem_C hx
  obtain ⟨_, _, m, e2, _⟩ := mem_C hy
  unfold keyLt
  rw [e1, e2]
  exact lt5 (by omega)
theorem pw_P {tiles : List ((Int × Int) × (Int × Int))} {C L : Nat} {side : Int} : (placesP tiles C L side).Pairwise keyLt := by
  refine pw_flat (S := fun x y => x.2 < y.2) (fun a _ => pw_T) zip_pw fun a b hab x hx y hy => ?_
  obtain ⟨_, _, _, n, _, e1, _⟩ := mem_T hx
  obtain ⟨_, _, _, m, _, e2, _⟩ := mem_T hy
  unfold keyLt
  rw [e1, e2]
  exact lt5 (by omega)
theorem leP_of_lt {p q : List Int × List Int} (h : p.1 < q.1) : leP_ (pII p) (pII q) = true := by
  unfold leP_ pII
  rw [PySem.W.dataLt_tuple, PySem.W.dataLt_cons (alike_pI _ _), eqv_pI, dataLt_pI]
  have h1 : ¬ q.1 = p.1 := fun e => by rw [e] at h; exact List.lt_irrefl _ h
  have h2 : ¬ q.1 < p.1 := fun e => List.lt_irrefl _ (List.lt_trans h e)
  simp [h1, h2]
theorem sort_P {tiles : List ((Int × Int) × (Int × Int))} {C L : Nat} {side : Int} : ((placesP tiles C L side).mergeSort fun a b => leP_ (pII a) (pII b)) = placesP tiles C L side :=
  List.mergeSort_of_pairwise (pw_P.imp fun {a b} h => leP_of_lt h)
structure EntOk (tiles C : Nat) (side : Int) (e : List Int × List Int) : Prop where
  key : ∃ t c r b n : Nat, t < tiles ∧ c < C ∧ e.1 = [(t : Int), (c : Int), (r : Int), (b : Int), (n : Int)]
  pl : ∃ p q u v : Int, e.2 = [p, q, u, v] ∧ 1 ≤ u ∧ 1 ≤ v ∧ u ≤ side ∧ v ≤ side
theorem span_ok {start stop size : Int} (hs : 0 < size) (hl : start ≤ stop) {w : Int × Int} (h : w ∈ spanP start stop size) : 1 ≤ w.2 - w.1 ∧ w.2 - w.1 ≤ size := by
  unfold spanP at h
  obtain ⟨k, hk, rfl⟩ := List.mem_map.mp h
  have hk := List.mem_range.mp hk
  have hlt : start < stop := by
    by_cases e : start = stop
    · have : cntP start stop size = 0 := by unfold cntP; rw [if_pos e]
      omega
    · omega
  obtain ⟨h1, h2⟩ := posP_lt hs hlt hk
  have h3 := posP_strict hs hlt hk
  have h4 := posP_succ (start := start) (stop := stop) hs (k := k)
  simp only
  omega
theorem blk_ok {p q : Int × Int} {side : Int} (hs : 0 < side) (h1 : p.1 ≤ p.2) (h2 : q.1 ≤ q.2) {z : List Int} (h : z ∈ blkP p q side) : ∃ a b u v : Int, z = [a, b, u, v] ∧ 1 ≤ u ∧ 1 ≤ v ∧ u ≤ side ∧ v ≤ side := by
  rw [blk_eq, List.mem_flatten] at h
  obtain ⟨l, hl, hz⟩ := h
  obtain ⟨u, hu, rfl⟩ := List.mem_map.mp hl
  unfold rowB at hz
  obtain ⟨v, hv, rfl⟩ := List.mem_map.mp hz
  have := span_ok hs h1 hu
  have := span_ok hs h2 hv
  exact ⟨_, _, _, _, rfl, by omega, by omega, by omega, by omega⟩
theorem ent_ok {tiles : List ((Int × Int) × (Int × Int))} {C L : Nat} {side : Int} (hs : 0 < side) (ht : ∀ x ∈ tiles, SpOk x.1 ∧ SpOk x.2) : ∀ e ∈ placesP tiles C L side, EntOk tiles.length C side e := by
  intro e he
  unfold placesP at he
  rw [List.mem_flatten] at he
  obtain ⟨l, hl, he⟩ := he
  obtain ⟨x, hx, rfl⟩ := List.mem_map.mp hl
  have hat := zip_at hx
  obtain ⟨g1, g2⟩ := ht x.1 (List.mem_of_getElem? hat)
  obtain ⟨c, r, b, n, hc, e1, z, hz, e2⟩ := mem_T he
  obtain ⟨k1, k2⟩ := bandP_ok g1 g2 z hz
  exact ⟨⟨x.2, c, r, b, n, (List.getElem?_eq_some_iff.mp hat).1, hc, e1⟩, blk_ok hs k1.le k2.le e2⟩
inductive Same (h : DH) : Nat → Bp.D → Bp.D → Prop where
  | non {n : Nat} : Same h n .non .non
  | int {n : Nat} {i : Int} : Same h n (.int i) (.int i)
  | bl {n : Nat} {b : Bool} : Same h n (.bl b) (.bl b)
  | str {n : Nat} {s : Str} : Same h n (.str s) (.str s)
  | tup {n : Nat} {l m : List Bp.D} (hl : l.length = m.length) (hm : m.length ≤ 10000000) (e : ∀ (i : Nat) (x y : Bp.D), l[i]? = some x → m[i]? = some y → Same h n x y) : Same h (n + 1) (.tup l) (.tup m)
  | lst {n a b : Nat} {l m : List Bp.D} (ha : h[a]? = some (.lst l)) (hb : h[b]? = some (.lst m)) (hl : l.length = m.length) (hm : m.length ≤ 10000000) (e : ∀ (i : Nat) (x y : Bp.D), l[i]? = some x → m[i]? = some y → Same h n x y) : Same h (n + 1) (.ref a) (.ref b)
theorem Same.fr {h h' : DH} (f : Fr [] h h') {n : Nat} {x y : Bp.D} (s : Same h n x y) : Same h' n x y := by
  induction s with
  | non => exact .non
  | int => exact .int
  | bl => exact .bl
  | str => exact .str
  | tup hl hm e ih => exact .tup hl hm ih
  | lst ha hb hl hm e ih => exact .lst (f.get0 ha) (f.get0 hb) hl hm ih
theorem same_ints {h : DH} {n : Nat} {k : List Int} (hk : k.length ≤ 10000000) : Same h (n + 1) (dI k) (dI k) := by
  refine .tup rfl (by simpa using hk) fun i x y h1 h2 => ?_
  rw [h1] at h2
  cases h2
  rw [List.getElem?_map] at h1
  cases e : k[i]? with
  | none => rw [e] at h1; cases h1
  | some v => rw [e] at h1; cases h1; exact .int
theorem same_rows {h : DH} {n a b : Nat} {l : List (List Int)} (ha : h[a]? = some (.lst (l.map dI))) (hb : h[b]? = some (.lst (l.map dI))) (hl : l.length ≤ 10000000) (hk : ∀ k ∈ l, k.length ≤ 10000000) : Same h (n + 2) (.ref a) (.ref b) := by
  refine .lst ha hb rfl (by simpa using hl) fun i x y h1 h2 => ?_
  rw [h1] at h2
  cases h2
  rw [List.getElem?_map] at h1
  cases e : l[i]? with
  | none => rw [e] at h1; cases h1
  | some v => rw [e] at h1; cases h1; exact same_ints (hk v (List.mem_of_getElem? e))
section
variable {j : Nat} {h : DH}
theorem alike_end {h2 : DH} {a b : Nat} {Q : QD} (e1 : h2[a]? = some (.lst [])) (e2 : h2[b]? = some (.lst [])) (q : Q (.bl true) h2) : kB (cmpD .Eq h2 (.ref a) (.ref b)) h2 Q := by
  have := eqP_lI (l := []) (m := []) (h := h2) (a := a) (b := b) e1 e2
  show kB (eqP h2 (.ref a) (.ref b)) h2 Q
  rw [this]
  exact q
theorem filterMap_no {α β : Type} : ∀ {l : List α}, l.filterMap (fun _ => (none : Option β)) = []
  | [] => rfl
  | _ :: r => by rw [List.filterMap_cons]; exact filterMap_no
theorem alike_ok : ∀ {n : Nat} {x y : Bp.D} {h : DH} {j : Nat}, 2 * n + 4 ≤ j → Same h n x y → Cl j F_law_alike [x, y] h = .ok (.bl true) h := by
  intro n
  induction n with
  | zero =>
    intro x y h j hj s
    obtain ⟨j, rfl, hj⟩ := jj (d := 2) (show 2 + 2 ≤ j by omega)
    rw [call_law_alike]
    refine wE_eq (fin_pure (wE_out ?_))
    cases s with
    | non => simp_arith [s_law_alike_0, kindD, anyTy, s_law_alike_1, s_law_alike_3, eqP, decide_true, refs_bl]; exact .refl
    | int => simp_arith [s_law_alike_0, kindD, anyTy, s_law_alike_1, s_law_alike_2, eqP, decide_true, refs_bl]; exact .refl
    | bl => simp_arith [s_law_alike_0, kindD, anyTy, s_law_alike_1, s_law_alike_2, eqP, decide_true, refs_bl]; exact .refl
    | str => simp_arith [s_law_alike_0, kindD, anyTy, s_law_alike_1, s_law_alike_3, eqP, decide_true, refs_bl]; exact .refl
  | succ n ih =>
    intro x y h j hj s
    obtain ⟨j, rfl, hj⟩ := jj (d := 2 * n + 4) (show 2 * n + 4 + 2 ≤ j by omega)
    rw [call_law_alike]
    refine wE_eq (fin_pure (wE_out ?_))
    cases s with
    | non => simp_arith [s_law_alike_0, kindD, anyTy, s_law_alike_1, s_law_alike_3, eqP, decide_true, refs_bl]; exact .refl
    | int => simp_arith [s_law_alike_0, kindD, anyTy, s_law_alike_1, s_law_alike_2, eqP, decide_true, refs_bl]; exact .refl
    | bl => simp_arith [s_law_alike_0, kindD, anyTy, s_law_alike_1, s_law_alike_2, eqP, decide_true, refs_bl]; exact .refl
    | str => simp_arith [s_law_alike_0, kindD, anyTy, s_law_alike_1, s_law_alike_3, eqP, decide_true, refs_bl]; exact .refl
    | @tup _ l m hl hm e =>
      simp_arith [s_law_alike_0, kindD, anyTy]
      simp_arith [s_law_alike_4, kindD, anyTy, eqP, decide_true]
      simp_arith [s_law_alike_5, lenD, eqP, hl, decide_true]
      have hz : True := trivial
      simp_arith [s_law_alike_6]
      refine wE_mLC ?_
      simp_arith [lenD, inR_of (show -4611686018427387904 ≤ (m.length : Int) by omega) (show (m.length : Int) < 4611686018427387904 by omega), Int.toNat_natCast]
      refine lc_pure (fun _ => none) depsOk_nil (by rw [rangeL_len]; simp only [lim]; omega) ?_ ?_
      · intro z hz h' f
        obtain ⟨i, hi, rfl⟩ := rangeL_mem hz
        have et : (0 + (i : Int)) = (i : Int) := by omega
        have e1 : l[i]? = some l[i] := List.getElem?_eq_getElem (by omega)
        have e2 : m[i]? = some m[i] := List.getElem?_eq_getElem hi
        simp_arith [et, atI_nat, e1, e2, ih (show 2 * n + 4 ≤ j + 1 by omega) ((e i _ _ e1 e2).fr f)]
        exact .refl
      · intro h' f e3
        rw [filterMap_no] at e3
        simp_arith
        exact alike_end (get_app e3) get_end ⟨refs_bl, f.pushed, rfl⟩
    | @lst _ a b l m ha hb hl hm e =>
      simp_arith [s_law_alike_0, kindD, kindH, ha, hb, anyTy]
      simp_arith [s_law_alike_4, kindD, kindH, ha, hb, anyTy, eqP, decide_true]
      simp_arith [s_law_alike_5, lenD, ha, hb, eqP, hl, decide_true]
      simp_arith [s_law_alike_6]
      refine wE_mLC ?_
      simp_arith [lenD, hb, inR_of (show -4611686018427387904 ≤ (m.length : Int) by omega) (show (m.length : Int) < 4611686018427387904 by omega), Int.toNat_natCast]
      refine lc_pure (fun _ => none) depsOk_nil (by rw [rangeL_len]; simp only [lim]; omega) ?_ ?_
      · intro z hz h' f
        obtain ⟨i, hi, rfl⟩ := rangeL_mem hz
        have et : (0 + (i : Int)) = (i : Int) := by omega
        have e1 : l[i]? = some l[i] := List.getElem?_eq_getElem (by omega)
        have e2 : m[i]? = some m[i] := List.getElem?_eq_getElem hi
        simp_arith [et, f.get0 ha, f.get0 hb, atI_nat, e1, e2, ih (show 2 * n + 4 ≤ j + 1 by omega) ((e i _ _ e1 e2).fr f)]
        exact .refl
      · intro h' f e3
        rw [filterMap_no] at e3
        simp_arith
        exact alike_end (get_app e3) get_end ⟨refs_bl, f.pushed, rfl⟩
end
theorem OptAt.row {h h' : DH} {r s : Nat} {ns : List Int} {n : Nat} {x : Opt} (o : OptAt h n x) (R : RowAt h r s ns) (f : Fr [r] h h') : OptAt h' n x := by
  obtain ⟨_, a, b, c, hr, _, _⟩ := R
  exact o.fr f fun i hi => by rw [List.mem_singleton.mp hi]; exact .inl ⟨_, hr⟩
theorem trim_bl {h h' : DH} {b : Bool} : (trim h h' (.bl b)).1 = .bl b := by
  unfold trim
  split
  · rfl
  · split
    · dsimp only
      split <;> rfl
    · rfl
theorem eqvAll_pII : ∀ l : List (List Int × List Int), PyData.eqvAll (l.map pII) (l.map pII) = true
  | [] => by simp [PyData.eqvAll]
  | a :: r => by
    rw [List.map_cons, PyData.eqvAll, eqvAll_pII r]
    have : PyData.eqv (pII a) (pII a) = true := by
      unfold pII
      rw [PyData.eqv, PyData.eqvAll, PyData.eqvAll, PyData.eqvAll, eqv_pI, eqv_pI]
      simp
    rw [this]
    rfl
theorem shaped_lII (l : List (List Int × List Int)) : SeqAt.shaped (.list (l.map pII)) = true := by
  have c1 : ∀ l : List (List Int × List Int), PyData.canLayAll0 (l.map pII) = true := by
    intro l
    induction l with
    | nil => simp [PyData.canLayAll0]
    | cons a r ih =>
      rw [List.map_cons, PyData.canLayAll0, ih]
      unfold pII
      rw [PyData.canLay0, PyData.canLayAll0, PyData.canLayAll0, PyData.canLayAll0, canLay_pI, canLay_pI]
      rfl
  have d1 : ∀ l : List (List Int × List Int), PyData.depthAll (l.map pII) ≤ 2 := by
    intro l
    induction l with
    | nil => simp [PyData.depthAll]
    | cons a r ih =>
      rw [List.map_cons, PyData.depthAll]
      unfold pII at ih ⊢
      rw [PyData.depth, PyData.depthAll, PyData.depthAll, PyData.depthAll, depth_pI, depth_pI]
      omega
  unfold SeqAt.shaped
  rw [PyData.canLay0, c1, PyData.depth]
  have := d1 l
  simp
  omega
theorem eqP_lII {h : DH} {a b : Nat} {l : List (List Int × List Int)} (ha : h[a]? = some (.lst (l.map dII))) (hb : h[b]? = some (.lst (l.map dII))) : eqP h (.ref a) (.ref b) = some true := by
  rw [eqP_ref, toPD_ref ha, toPD_ref hb, mapO_map (g := pII) fun a _ => toPD_dII]
  simp only [Option.map_some, shaped_lII, Bool.and_self, if_true]
  rw [PyData.eqv, eqvAll_pII]
theorem same_dI {h : DH} {n : Nat} {k : List Int} (hk : k.length ≤ 10000000) : Same h (n + 1) (dI k) (dI k) := same_ints hk
theorem same_places {h : DH} {n a b : Nat} {l : List (List Int × List Int)} (ha : h[a]? = some (.lst (l.map dII))) (hb : h[b]? = some (.lst (l.map dII))) (hl : l.length ≤ 10000000) (hk : ∀ e ∈ l, e.1.length ≤ 10000000 ∧ e.2.length ≤ 10000000) : Same h (n + 3) (.ref a) (.ref b) := by
  refine .lst ha hb rfl (by simpa using hl) fun i x y h1 h2 => ?_
  rw [h1] at h2
  cases h2
  rw [List.getElem?_map] at h1
  cases e : l[i]? with
  | none => rw [e] at h1; cases h1
  | some v =>
    rw [e] at h1
    cases h1
    obtain ⟨k1, k2⟩ := hk v (List.mem_of_getElem? e)
    refine .tup rfl (by simp) fun i x y h1 h2 => ?_
    rw [h1] at h2
    cases h2
    match i, h1 with
    | 0, h1 => cases h1; exact same_ints k1
    | 1, h1 => cases h1; exact same_ints k2
theorem dfind_nil {k : Bp.D} : dfind [] k = none := rfl
theorem dfind_cons {p : Bp.D × Bp.D} {r : List (Bp.D × Bp.D)} {k : Bp.D} : dfind (p :: r) k = if p.1 = k then some p.2 else dfind r k := by
  unfold dfind
  rw [List.find?_cons]
  by_cases h : p.1 = k <;> simp [h]
theorem dfind_set {k k' v : Bp.D} : ∀ {kvs : List (Bp.D × Bp.D)}, dfind (dset kvs k v) k' = if k = k' then some v else dfind kvs k' := by
  intro kvs
  unfold dset
  by_cases ha : (kvs.any fun p => decide (p.1 = k)) = true
  · rw [if_pos ha]
    induction kvs with
    | nil => simp at ha
    | cons p r ih =>
      rw [List.map_cons, dfind_cons, dfind_cons]
      by_cases hp : p.1 = k
      · rw [if_pos hp]
        by_cases hk : k = k'
        · simp [hp, hk]
        · have : ¬ p.1 = k' := fun e => hk (hp.symm.trans e)
          simp only [this, if_false, hk]
          by_cases hr : (r.any fun p => decide (p.1 = k)) = true
          · rw [ih hr, if_neg hk]
          · have : r.map (fun p => if p.1 = k then (p.1, v) else p) = r := by
              conv => rhs; rw [← List.map_id r]
              apply List.map_congr_left
              intro q hq
              have : ¬ q.1 = k := fun e => hr (List.any_eq_true.mpr ⟨q, hq, by simpa using e⟩)
              simp [this]
            rw [this]
      · rw [if_neg hp]
        have hr : (r.any fun p => decide (p.1 = k)) = true := by simpa [hp] using ha
        rw [ih hr]
        by_cases hk : k = k'
        · have : ¬ p.1 = k' := fun e => hp (e.trans hk.symm)
          simp [hk, this]
        · simp [hk]
  · rw [if_neg ha]
    induction kvs with
    | nil => rw [List.nil_append, dfind_cons]
    | cons p r ih =>
      have hp1 : ¬ p.1 = k := fun e => ha (by simp [e])
      have hr : ¬ (r.any fun p => decide (p.1 = k)) = true := fun e => ha (by rw [List.any_cons, e, Bool.or_true])
      rw [List.cons_append, dfind_cons, dfind_cons, ih hr]
      by_cases hk : k = k'
      · have : ¬ p.1 = k' := fun e => hp1 (e.trans hk.symm)
        simp [hk, this]
      · simp [hk]
theorem dset_len {k v : Bp.D} {kvs : List (Bp.D × Bp.D)} : (dset kvs k v).length ≤ kvs.length + 1 := by
  unfold dset
  split <;> simp
def kTC (t c : Nat) : Bp.D := .tup [.int t, .int c]
def DInv (o : DO) (l : List (List Int × List Int)) : Prop := (o = .dk [] ∧ l = []) ∨ ∃ kvs, o = .dt kvs ∧ kvs.length ≤ l.length ∧ ∀ t c : Nat, (dfind kvs (kTC t c)).getD (.int 0) = .int (areaOf t c l)
theorem DInv.get {o : DO} {l : List (List Int × List Int)} (i : DInv o l) (t c : Nat) : ∃ r, dget o (kTC t c) = some r ∧ r.getD (.int 0) = .int (areaOf t c l) := by
  rcases i with ⟨rfl, rfl⟩ | ⟨kvs, rfl, _, h⟩
  · exact ⟨none, rfl, rfl⟩
  · exact ⟨dfind kvs (kTC t c), rfl, h t c⟩
theorem DInv.isd {o : DO} {l : List (List Int × List Int)} (i : DInv o l) : (∃ k, o = .dk k) ∨ ∃ k, o = .dt k := by
  rcases i with ⟨rfl, rfl⟩ | ⟨kvs, rfl, _, h⟩
  · exact .inl ⟨_, rfl⟩
  · exact .inr ⟨_, rfl⟩
theorem DInv.put {o : DO} {l : List (List Int × List Int)} (i : DInv o l) {t c r b n : Nat} {e : List Int × List Int} (he : e.1 = [(t : Int), (c : Int), (r : Int), (b : Int), (n : Int)]) (hl : l.length < 16777216) : ∃ o', dput o (kTC t c) (.int (areaOf t c l + areaR e.2)) = some o' ∧ DInv o' (l ++ [e]) := by
  have hone : ∀ t' c' : Nat, areaOf t' c' (l ++ [e]) = areaOf t' c' l + if t = t' ∧ c = c' then areaR e.2 else 0 := by
    intro t' c'
    rw [areaOf_append]
    congr 1
    unfold areaOf
    simp only [List.map_cons, List.map_nil, List.sum_cons, List.sum_nil, areaE, he]
    by_cases h : t = t' ∧ c = c'
    · rw [if_pos h, if_pos (by simp [h.1, h.2])]; omega
    · rw [if_neg h, if_neg (by intro z; simp at z; exact h ⟨by omega, by omega⟩)]; rfl
  have hkey : ∀ t' c' : Nat, kTC t c = kTC t' c' ↔ t = t' ∧ c = c' := by
    intro t' c'
    unfold kTC
    constructor
    · intro z
      simp at z
      exact ⟨by omega, by omega⟩
    · rintro ⟨rfl, rfl⟩
      rfl
  rcases i with ⟨rfl, rfl⟩ | ⟨kvs, rfl, hle, h⟩
  · refine ⟨.dt [(kTC t c, .int (areaOf t c [] + areaR e.2))], rfl, .inr ⟨_, rfl, by simp, fun t' c' => ?_⟩⟩
    rw [hone, dfind_cons, dfind_nil]
    by_cases z : t = t' ∧ c = c'
    · obtain ⟨rfl, rfl⟩ := z
      simp
    · have : ¬ kTC t c = kTC t' c' := fun e => z ((hkey t' c').mp e)
      simp [z, this, areaOf]
  · refine ⟨.dt (dset kvs (kTC t c) (.int (areaOf t c l + areaR e.2))), ?_, .inr ⟨_, rfl, ?_, fun t' c' => ?_⟩⟩
    · show (if kvs.length < lim then _ else none) = _
      rw [if_pos (show kvs.length < lim by simp only [lim]; omega)]
    · have := dset_len (k := kTC t c) (v := .int (areaOf t c l + areaR e.2)) (kvs := kvs)
      rw [List.length_append, List.length_singleton]
      omega
    · rw [dfind_set, hone]
      by_cases z : t = t' ∧ c = c'
      · obtain ⟨rfl, rfl⟩ := z
        simp
      · have : ¬ kTC t c = kTC t' c' := fun e => z ((hkey t' c').mp e)
        rw [if_neg this, if_neg z, Int.add_zero]
        exact h t' c'
section
variable {j : Nat} {h : DH}
theorem tiles_of_ok (hj : 8 ≤ j) {a b c d e : Int} (F : FrameOk a b c d e) {n : Nat} {x : Opt} (o : OptAt h n x) (hx : OptOk x) :
    Cl j F_tiles_of [frT a b c d e, .ref n] h = .ok (.ref h.length) (h ++ [.lst ((rectP a b c d x.th x.tw).map dI)]) := by
  obtain ⟨j, rfl, hj⟩ := jj (d := 6) hj
  rw [call_tiles_of]
  refine wE_eq (fin_lst (wE_out ?_))
  have hF := F
  obtain ⟨F1, F2, F3, F4, F5⟩ := F
  have hnf : ∀ h' : DH, Cl (j + 1) F_need_frame [frT a b c d e] h' = .ok .non h' := fun h' => need_frame_ok (by omega) F1 F2 F3 F4 F5
  simp_arith [s_tiles_of_0, hnf]
  simp_arith [s_tiles_of_1, need_options_ok (show 2 ≤ j + 1 by omega) o]
  simp_arith [s_tiles_of_2, tiles_in_ok (h := h) (show 6 ≤ j + 1 by omega) hF o hx]
  exact ⟨.push, h.length, _, rfl, Nat.le_refl _, get_end, refsL_dI, rfl⟩
end
section
variable {h : DH} {ns : List Int}
theorem entry_TB : TB (entryH D.cs ns) := ⟨rfl, rfl⟩
theorem law_ok {j : Nat} (hj : 40 ≤ j) : wE (Cl j F_law [.ref nT] (entryH D.cs ns)) (fun v h' => v = .bl true) nX := by
  obtain ⟨j, rfl, hj⟩ := jj (d := 38) hj
  rw [call_law]
  refine fin_any (wE_out ?_)
  have hs : (entryH D.cs ns)[nT]? = some (.frz (ns.map .int)) := rfl
  have hT := entry_TB (ns := ns)
  have hlen : (entryH D.cs ns).length = nT + 1 := rfl
  generalize entryH D.cs ns = h at hs hT hlen ⊢
  simp_arith [s_law_0]
  have hT1 : TB (h ++ [DO.lst [.ref nT, .int 0, .int 3176, .int 0]]) := hT.fr0 .push
  have R1 : RowAt (h ++ [DO.lst [.ref nT, .int 0, .int 3176, .int 0]]) h.length nT ns := ⟨get_app hs, 0, 3176, 0, get_end, by omega, by omega⟩
  generalize (h ++ [DO.lst [.ref nT, .int 0, .int 3176, .int 0]]) = h1 at hT1 R1 ⊢
  generalize h.length = r at R1 ⊢
  simp_arith [s_law_1]
  refine wS_for ?_
  simp_arith [show inR 2 = true by decide +kernel]
  refine wS_loop (fun pre e' h' => TB h' ∧ RowAt h' r nT ns ∧ ∃ u2 u3 u4 u5 u6 u7 u8 u9 u10 u11 u12 u13 u14 : Option Bp.D, e' = [some (.ref nT), some (.ref r), u2, u3, u4, u5, u6, u7, u8, u9, u10, u11, u12, u13, u14]) ⟨hT1, R1, _, _, _, _, _, _, _, _, _, _, _, _, _, rfl⟩ (fun _ _ _ _ => depsOk_nil) ?_ ?_
  · rintro pre v suf e' h1' ex ⟨hT1, R1, u2, u3, u4, u5, u6, u7, u8, u9, u10, u11, u12, u13, u14, rfl⟩
    simp_arith [wS_step, s_law_3]
    refine (taken_ok (show 2 ≤ j + 1 by omega) R1 (by omega) (by omega)).use ?_
    rintro _ h2 ⟨a, rfl, a0, a1, R2, f2⟩
    have hT2 := hT1.fr R1 f2
    simp_arith
    refine (taken_ok (show 2 ≤ j + 1 by omega) R2 (by omega) (by omega)).use ?_
    rintro _ h3 ⟨b, rfl, b0, b1, R3, f3⟩
    have hT3 := hT2.fr R2 f3
    simp_arith
    refine (taken_ok (show 2 ≤ j + 1 by omega) R3 (by omega) (by omega)).use ?_
    rintro _ h4 ⟨c, rfl, c0, c1, R4, f4⟩
    have hT4 := hT3.fr R3 f4
    simp_arith
    refine (taken_ok (show 2 ≤ j + 1 by omega) R4 (by omega) (by omega)).use ?_
    rintro _ h5 ⟨d, rfl, d0, d1, R5, f5⟩
    have hT5 := hT4.fr R4 f5
    simp_arith
    refine (taken_ok (show 2 ≤ j + 1 by omega) R5 (by omega) (by omega)).use ?_
    rintro _ h6 ⟨e, rfl, e0, e1, R6, f6⟩
    have hT6 := hT5.fr R5 f6
    have F : FrameOk a b (1 + c) (1 + d) (1 + e) := ⟨by omega, by omega, by omega, by omega, by omega⟩
    have hfr : Bp.D.tup [.int a, .int b, .int (1 + c), .int (1 + d), .int (1 + e)] = frT a b (1 + c) (1 + d) (1 + e) := rfl
    simp_arith [s_law_4]
    refine (law_options_ok (l := [0]) (show 14 ≤ j + 1 by omega) hT6 R6 (by decide) (by decide) (by simp [cutsOk])).use ?_
    rintro _ h8 ⟨n, x, rfl, hx, o8, _, xc, _, _, _, R8, f8⟩
    have hT8 := hT6.fr R6 f8
    rw [hfr]
    obtain ⟨t8, q1, q2⟩ := o8
    simp_arith [s_law_5, q1, look_self]
    refine ⟨_, rfl, rfl, ?_⟩
    have o8 : OptAt h8 n x := ⟨t8, q1, q2⟩
    refine (pick_new (show 4 ≤ j + 1 by omega) R8 (by simp) (by simp) (by intro v hv; simp at hv; rcases hv with rfl | rfl | rfl <;> exact refs_int)).use ?_
    rintro v h9 ⟨hv, R9, f9⟩
    have hv : ∃ t : Int, v = .int t ∧ 1 ≤ t ∧ t ≤ 16 := by simp at hv; rcases hv with rfl | rfl | rfl <;> exact ⟨_, rfl, by decide, by decide⟩
    obtain ⟨th, rfl, th0, th1⟩ := hv
    simp_arith
    refine (pick_new (show 4 ≤ j + 1 by omega) R9 (by simp) (by simp) (by intro v hv; simp at hv; rcases hv with rfl | rfl | rfl <;> exact refs_int)).use ?_
    rintro v h10 ⟨hv, R10, f10⟩
    have hv : ∃ t : Int, v = .int t ∧ 1 ≤ t ∧ t ≤ 16 := by simp at hv; rcases hv with rfl | rfl | rfl <;> exact ⟨_, rfl, by decide, by decide⟩
    obtain ⟨tw, rfl, tw0, tw1⟩ := hv
    have hT10 := (hT8.fr R8 f9).fr R9 f10
    have o10 : OptAt h10 n x := (o8.row R8 f9).row R9 f10
    simp_arith
    have hy : OptOk { x with th := th, tw := tw } := { hx with th := ⟨th0, th1⟩, tw := ⟨tw0, tw1⟩ }
    refine (changed_ok (h := h10 ++ [DO.dk (kwD ["tile_height", "tile_width"] [.int th, .int tw])]) (n := n) (m := h10.length) (x := x) (y := { x with th := th, tw := tw }) (show 14 ≤ j + 1 by omega) (hT10.fr0 .push) (o10.fr0 .push) get_end (by simp [kwD]) ?_ hy rfl).use ?_
    · intro p hp
      simp only [kwD, List.mem_cons, List.not_mem_nil, or_false] at hp
      rcases hp with rfl | rfl
      · exact ⟨_, _, rfl, og_th⟩
      · exact ⟨_, _, rfl, og_tw⟩
    rintro _ h11 ⟨n2, rfl, o11, _, f11⟩
    have hT11 : TB h11 := (hT10.fr0 .push).fr0 f11
    have R11 : RowAt h11 r nT ns := (R10.fr0 .push).fr0 f11
    clear o8 o10 q1 q2 xc
    generalize hxy : ({ x with th := th, tw := tw } : Opt) = y at hy o11
    clear hxy hx
    have hy1 := hy.th
    have hy2 := hy.tw
    have hy3 := hy.levels
    have hsd : 1 ≤ y.side ∧ y.side ≤ 16 := by rcases hy.side with z | z <;> omega
    have tsm := tile_sm F (show 0 < y.th by omega) (show 0 < y.tw by omega)
    have tcn := tile_cnt F (show 0 < y.th by omega) (show 0 < y.tw by omega)
    simp_arith [s_law_6]
    refine wE_mLC (wI_val ?_)
    simp_arith [law_tiles_ok (h := h11) (show 6 ≤ j + 1 by omega) F o11 hy, get_end]
    refine lc_pure2 (h1 := h11 ++ [DO.lst ((tileP a b (1 + c) (1 + d) y.th y.tw).map dTT)]) (by simp) (by simp) (fun x => match x with | .tup [.tup [.int p, .int q], .tup [.int r, .int s]] => some (.tup [.int p, .int r, .int (q - p), .int (s - r)]) | _ => none) (depsOk_one get_end) (by rw [List.length_map]; simp only [lim]; omega) ?_ ?_
    · intro z hz h12 f12
      obtain ⟨w, hw, rfl⟩ := List.mem_map.mp hz
      simp_arith [dTT, dP]
      exact .refl
    intro h12 f12 e12
    have e13 : (((tileP a b (1 + c) (1 + d) y.th y.tw).map dTT).filterMap fun x => match x with | .tup [.tup [.int p, .int q], .tup [.int r, .int s]] => some (Bp.D.tup [.int p, .int r, .int (q - p), .int (s - r)]) | _ => none) = (rectP a b (1 + c) (1 + d) y.th y.tw).map dI := by
      rw [rect_tile, List.map_map, List.filterMap_map]
      exact filterMap_all fun _ _ => rfl
    rw [e13] at e12
    have F12 : Fr [] h11 h12 := Fr.push.trans f12
    have o12 := o11.fr0 F12
    have hT12 := hT11.fr0 F12
    have R12 := R11.fr0 F12
    clear f12 e13
    generalize h11.length + 1 = pd at e12 ⊢
    simp_arith [s_law_7, tiles_of_ok (h := h12) (show 8 ≤ j + 1 by omega) F o12 hy]
    have tl : (rectP a b (1 + c) (1 + d) y.th y.tw).length ≤ 256 := by rw [← tile_len]; exact tcn
    have t4 : ∀ k ∈ rectP a b (1 + c) (1 + d) y.th y.tw, k.length = 4 := by
      intro k hk
      rw [rect_tile] at hk
      obtain ⟨z, _, rfl⟩ := List.mem_map.mp hk
      rfl
    have k13 : (h12 ++ [DO.lst ((rectP a b (1 + c) (1 + d) y.th y.tw).map dI)])[h12.length]? = some (.lst ((rectP a b (1 + c) (1 + d) y.th y.tw).map dI)) := get_end
    have e13 : (h12 ++ [DO.lst ((rectP a b (1 + c) (1 + d) y.th y.tw).map dI)])[pd]? = some (.lst ((rectP a b (1 + c) (1 + d) y.th y.tw).map dI)) := get_app e12
    have o13 : OptAt (h12 ++ [DO.lst ((rectP a b (1 + c) (1 + d) y.th y.tw).map dI)]) n2 y := o12.fr0 .push
    have hT13 : TB (h12 ++ [DO.lst ((rectP a b (1 + c) (1 + d) y.th y.tw).map dI)]) := hT12.fr0 .push
    have R13 : RowAt (h12 ++ [DO.lst ((rectP a b (1 + c) (1 + d) y.th y.tw).map dI)]) r nT ns := R12.fr0 .push
    generalize (h12 ++ [DO.lst ((rectP a b (1 + c) (1 + d) y.th y.tw).map dI)]) = h13 at k13 e13 o13 hT13 R13 ⊢
    generalize h12.length = pt at k13 ⊢
    have al := alike_ok (n := 2) (h := h13) (x := .ref pt) (y := .ref pd) (j := j + 1) (by omega) (same_rows k13 e13 (by omega) fun k hk => by have := t4 k hk; omega)
    simp_arith [s_law_8, al]
    refine wE_mLC (wI_val ?_)
    simp_arith [k13]
    refine lc_pure (fun x => match x with | .tup [_, _, .int u, .int v] => some (.int (u * v)) | _ => none) (depsOk_one k13) (by rw [List.length_map]; simp only [lim]; omega) ?_ ?_
    · intro z hz h14 f14
      obtain ⟨w, hw, rfl⟩ := List.mem_map.mp hz
      rw [rect_tile] at hw
      obtain ⟨⟨p, q⟩, hm, rfl⟩ := List.mem_map.mp hw
      obtain ⟨g1, g2⟩ := tsm _ hm
      have m1 : mulOk (p.2 - p.1) (q.2 - q.1) = true := mulOk_r (small64_of (by have : q.2 - q.1 ≤ 16 := g2.len; have : q.1 ≤ q.2 := g2.sp.le; omega) (by have : q.2 - q.1 ≤ 16 := g2.len; have : q.1 ≤ q.2 := g2.sp.le; omega))
      simp_arith [dI, rect4, List.map_cons, List.map_nil, m1]
      exact .refl
    intro h14 f14 e14
    have e15 : (((rectP a b (1 + c) (1 + d) y.th y.tw).map dI).filterMap fun x => match x with | .tup [_, _, .int u, .int v] => some (Bp.D.int (u * v)) | _ => none) = ((rectP a b (1 + c) (1 + d) y.th y.tw).map areaR).map .int := by
      rw [rect_tile, List.map_map, List.map_map, List.map_map, List.filterMap_map]
      exact filterMap_all fun _ _ => rfl
    rw [e15] at e14
    have io : ∀ l : List Int, intsOf (l.map .int) = some l := by
      intro l
      have := mapO_map (F := fun d : Bp.D => match d with | .int i => some i | _ => none) (f := Bp.D.int) (g := fun i => i) (l := l) fun _ _ => rfl
      rw [List.map_id'] at this
      exact this
    have m2 : mulOk (1 + c) (1 + d) = true := mulOk_r (small64_of (by omega) (by omega))
    have hsum : ((rectP a b (1 + c) (1 + d) y.th y.tw).map areaR).sum = (1 + c) * (1 + d) := rect_area (by omega) (by omega) (by omega) (by omega)
    simp_arith [one, listAt, e14, Option.bind_some, io, frT, m2, eqP, hsum, decide_true]
    have k15 := f14.get0 k13
    have o15 := o13.fr0 f14
    have hT15 := hT13.fr0 f14
    have R15 := R13.fr0 f14
    clear f14 e14 e15 e13 e12 o11 o12 o13
    have hfr2 : Bp.D.tup [.int a, .int b, .int (1 + c), .int (1 + d), .int (1 + e)] = frT a b (1 + c) (1 + d) (1 + e) := rfl
    rw [hfr2]
    generalize hP : placesP (tileP a b (1 + c) (1 + d) y.th y.tw) (1 + e).toNat y.levels.toNat y.side = P
    have bp := block_places_ok (h := h14) (show 16 ≤ j + 1 by omega) F o15 hy
    rw [hP] at bp
    have lp := law_places_ok (h := h14 ++ [DO.lst (P.map dII)]) (show 10 ≤ j + 1 by omega) F (o15.fr0 .push) hy
    rw [hP] at lp
    have lp' : Cl (j + 1) F_law_places [frT a b (1 + c) (1 + d) (1 + e), .ref n2] (h14 ++ [DO.lst (P.map dII)]) = .ok (.ref (h14.length + 1)) (h14 ++ [DO.lst (P.map dII), .lst (P.map dII)]) := by
      rw [lp]
      simp
    have plen := places_len (C := (1 + e).toNat) (L := y.levels.toNat) (side := y.side) tsm (by omega) (by omega) (by omega)
    rw [hP] at plen
    have psrt : (P.mergeSort fun a b => leP_ (pII a) (pII b)) = P := by rw [← hP]; exact sort_P
    have pent : ∀ q ∈ P, EntOk (tileP a b (1 + c) (1 + d) y.th y.tw).length (1 + e).toNat y.side q := by
      rw [← hP]
      exact ent_ok (by omega) fun x hx => ⟨(tsm x hx).1.sp, (tsm x hx).2.sp⟩
    have plen4 : ∀ q ∈ P, q.1.length ≤ 10000000 ∧ q.2.length ≤ 10000000 := by
      intro q hq
      obtain ⟨⟨_, _, _, _, _, _, _, g1⟩, _, _, _, _, g2, _⟩ := pent q hq
      rw [g1, g2]
      simp
    have al2 := alike_ok (n := 3) (h := h14 ++ [DO.lst (P.map dII), .lst (P.map dII)]) (x := .ref h14.length) (y := .ref (h14.length + 1)) (j := j + 1) (by omega) (same_places (by simp) (by simp) (by omega) plen4)
    simp_arith [s_law_9, bp]
    have k16 : (h14 ++ [DO.lst (P.map dII), .lst (P.map dII)])[h14.length]? = some (.lst (P.map dII)) := by simp
    have k17 : (h14 ++ [DO.lst (P.map dII), .lst (P.map dII), .lst (P.map dII)])[h14.length]? = some (.lst (P.map dII)) := by simp
    have k18 : (h14 ++ [DO.lst (P.map dII), .lst (P.map dII), .lst (P.map dII)])[h14.length + 2]? = some (.lst (P.map dII)) := by simp
    have eq2 := eqP_lII k17 k18
    simp_arith [s_law_10, lp', al2, one, listAt, k16, Option.bind_some, sortP_dII, psrt, eq2, Nat.reduceAdd, Nat.add_assoc]
    have k19 : (h14 ++ [DO.lst (P.map dII), .lst (P.map dII), .lst (P.map dII)])[pt]? = some (.lst ((rectP a b (1 + c) (1 + d) y.th y.tw).map dI)) := get_app k15
    have o16 := o15.fr0 (Fr.push (t := [DO.lst (P.map dII), .lst (P.map dII), .lst (P.map dII)]))
    have hT16 := hT15.fr0 (Fr.push (t := [DO.lst (P.map dII), .lst (P.map dII), .lst (P.map dII)]))
    have R16 := R15.fr0 (Fr.push (t := [DO.lst (P.map dII), .lst (P.map dII), .lst (P.map dII)]))
    clear eq2 k18 al2 lp' lp bp k16 k15 o15 hT15 R15 R13 hT13 k13 al
    generalize (h14 ++ [DO.lst (P.map dII), .lst (P.map dII), .lst (P.map dII)]) = h17 at k17 k19 o16 hT16 R16 ⊢
    generalize h14.length = pp at k17 ⊢
    simp_arith [s_law_11, mergeD]
    have d18 : (h17 ++ [DO.dk []])[h17.length]? = some (.dk []) := get_end
    have k18 : (h17 ++ [DO.dk []])[pp]? = some (.lst (P.map dII)) := get_app k17
    have kt18 : (h17 ++ [DO.dk []])[pt]? = some (.lst ((rectP a b (1 + c) (1 + d) y.th y.tw).map dI)) := get_app k19
    have o18 := o16.fr0 (Fr.push (t := [DO.dk []]))
    have hT18 := hT16.fr0 (Fr.push (t := [DO.dk []]))
    have R18 := R16.fr0 (Fr.push (t := [DO.dk []]))
    generalize (h17 ++ [DO.dk []]) = h18 at d18 k18 kt18 o18 hT18 R18 ⊢
    generalize h17.length = pa at d18 ⊢
    have npp : pp ≠ pa := fun e => by rw [e, d18] at k18; cases k18
    have npt : pt ≠ pa := fun e => by rw [e, d18] at kt18; cases kt18
    have nr : r ≠ pa := fun e => by obtain ⟨_, _, _, _, hr, _⟩ := R18; rw [e, d18] at hr; cases hr
    have ns' : nT ≠ pa := fun e => by have := R18.1; rw [e, d18] at this; cases this
    have oal : ∀ {hh : DH}, Fr [pa] h18 hh → OptAt hh n2 y := by
      intro hh f
      obtain ⟨t, q1, q2⟩ := o18
      refine ⟨t, f.get q1 (by simp; intro e; rw [e, d18] at q1; cases q1), f.get q2 ?_⟩
      simp
      intro e
      rw [e, d18] at q2
      cases q2
    simp_arith [s_law_12]
    refine wS_forV rfl (by simp only [noDk, k18]) (wI_val ?_)
    simp_arith [k18]
    refine wS_loop (fun pre e' hh => ∃ (P1 P2 : List (List Int × List Int)) (u9 u10 : Option Bp.D), P = P1 ++ P2 ∧ pre = P1.map dII ∧ e' = [some (.ref nT), some (.ref r), some v, some (frT a b (1 + c) (1 + d) (1 + e)), some (.ref n2), some (.ref pd), some (.ref pt), some (.ref pp), some (.ref pa), u9, u10, u11, u12, u13, u14] ∧ Fr [pa] h18 hh ∧ ∃ o, hh[pa]? = some o ∧ DInv o P1)
      ⟨[], P, u9, u10, rfl, rfl, rfl, .refl, _, d18, .inl ⟨rfl, rfl⟩⟩ (fun pre e' hh ⟨_, _, _, _, _, _, _, f, _⟩ => depsOk_one (f.get k18 (by simpa using npp))) ?_ ?_
    · rintro pre z suf e' hh ex2 ⟨P1, P2, u9, u10, hP12, rfl, rfl, f19, o, ho, hi⟩
      cases P2 with
      | nil =>
        exfalso
        have := congrArg List.length ex2
        rw [hP12] at this
        simp at this
      | cons q P2 =>
        have : z = dII q := by
          rw [hP12] at ex2
          simp at ex2
          exact ex2.1.symm
        subst this
        obtain ⟨⟨t', c', r', b', n', _, _, g1⟩, g2, g3, g4, g5, g6, g7, g8, g9, g10⟩ := pent q (by rw [hP12]; simp)
        have hl1 : P1.length < 16777216 := by
          have := congrArg List.length hP12
          simp at this
          omega
        obtain ⟨rr, gg1, gg2⟩ := hi.get t' c'
        obtain ⟨o', pp1, pp2⟩ := hi.put (e := q) g1 hl1
        obtain ⟨qk, qr⟩ := q
        have g1 : qk = [(t' : Int), (c' : Int), (r' : Int), (b' : Int), (n' : Int)] := g1
        have g6 : qr = [g2, g3, g4, g5] := g6
        subst g1 g6
        have hcut : cutL [Bp.D.int t', .int c', .int r', .int b', .int n'] none (some 2) = [.int t', .int c'] := rfl
        have kk : kTC t' c' = .tup [.int t', .int c'] := rfl
        have har : areaR [g2, g3, g4, g5] = g4 * g5 := rfl
        rw [kk] at gg1 pp1
        rw [show areaR (([(t' : Int), (c' : Int), (r' : Int), (b' : Int), (n' : Int)], [g2, g3, g4, g5]) : List Int × List Int).2 = g4 * g5 from rfl] at pp1
        have m1 : mulOk g4 g5 = true := mulOk_r (small64_of (by omega) (by omega))
        have f20 : Fr [pa] h18 (hh.set pa o') := f19.set (.inl (by simp))
        have o20 := oal f20
        have o20' := o20
        obtain ⟨t20, z1, z2⟩ := o20'
        have ho' : (hh.set pa o')[pa]? = some o' := get_set ho
        have n1 : ¬ g4 < 1 := by omega
        have n2' : ¬ g5 < 1 := by omega
        have n3 : ¬ y.side < max g4 g5 := by omega
        rcases hi.isd with ⟨k, rfl⟩ | ⟨k, rfl⟩
        · simp_arith [wS_step, dII, dI, List.map_cons, List.map_nil, s_law_17, ho, mfD, sliceD, hcut, gg1, gg2, m1, pp1]
          simp_arith [s_law_18, n1, n2', n3, decide_false, z1, look_self, p_side (show 2 ≤ j by omega) o20]
          exact ⟨P1 ++ [([(t' : Int), (c' : Int), (r' : Int), (b' : Int), (n' : Int)], [g2, g3, g4, g5])], P2, _, _, by simp [hP12], by simp [dII, dI], rfl, f20, o', ho', pp2⟩
        · simp_arith [wS_step, dII, dI, List.map_cons, List.map_nil, s_law_17, ho, mfD, sliceD, hcut, gg1, gg2, m1, pp1]
          simp_arith [s_law_18, n1, n2', n3, decide_false, z1, look_self, p_side (show 2 ≤ j by omega) o20]
          exact ⟨P1 ++ [([(t' : Int), (c' : Int), (r' : Int), (b' : Int), (n' : Int)], [g2, g3, g4, g5])], P2, _, _, by simp [hP12], by simp [dII, dI], rfl, f20, o', ho', pp2⟩
    · rintro e' hh ⟨P1, P2, u9, u10, hP12, hp, rfl, f19, o, ho, hi⟩
      have hx2 : P2 = [] := by
        have := congrArg List.length hp
        rw [hP12] at this
        simp at this
        exact this
      subst hx2
      rw [List.append_nil] at hP12
      subst hP12
      have kt19 := f19.get kt18 (by simpa using npt)
      simp_arith [s_law_13]
      refine wS_for ?_
      simp_arith [kt19, lenD, List.length_map, inR_of (show -4611686018427387904 ≤ ((rectP a b (1 + c) (1 + d) y.th y.tw).length : Int) by omega) (show ((rectP a b (1 + c) (1 + d) y.th y.tw).length : Int) < 4611686018427387904 by omega), Int.toNat_natCast]
      refine wS_loop (fun pre e' h' => h' = hh ∧ ∃ u11 u12 : Option Bp.D, e' = [some (.ref nT), some (.ref r), some v, some (frT a b (1 + c) (1 + d) (1 + e)), some (.ref n2), some (.ref pd), some (.ref pt), some (.ref pp), some (.ref pa), u9, u10, u11, u12, u13, u14]) ⟨rfl, _, _, rfl⟩ (fun _ _ _ _ => depsOk_nil) ?_ ?_
      · rintro pre z suf e' h' ex2 ⟨rfl, u11, u12, rfl⟩
        have hz : z ∈ rangeL 0 (rectP a b (1 + c) (1 + d) y.th y.tw).length 1 := by rw [ex2]; simp
        obtain ⟨t', ht', rfl⟩ := rangeL_mem hz
        have et : (0 + (t' : Int)) = (t' : Int) := by omega
        rw [et]
        have ht2 : t' < (tileP a b (1 + c) (1 + d) y.th y.tw).length := by rw [tile_len]; exact ht'
        have hat : (tileP a b (1 + c) (1 + d) y.th y.tw)[t']? = some (tileP a b (1 + c) (1 + d) y.th y.tw)[t'] := List.getElem?_eq_getElem ht2
        have hmem : (tileP a b (1 + c) (1 + d) y.th y.tw)[t'] ∈ tileP a b (1 + c) (1 + d) y.th y.tw := List.getElem_mem ht2
        generalize (tileP a b (1 + c) (1 + d) y.th y.tw)[t'] = w at hat hmem
        obtain ⟨g1, g2⟩ := tsm w hmem
        have hatD : ((rectP a b (1 + c) (1 + d) y.th y.tw).map dI)[t']? = some (.tup [.int w.1.1, .int w.2.1, .int (w.1.2 - w.1.1), .int (w.2.2 - w.2.1)]) := by
          rw [rect_tile, List.map_map, List.getElem?_map, hat]
          rfl
        have m1 : mulOk (w.1.2 - w.1.1) (w.2.2 - w.2.1) = true := mulOk_r (small64_of (by have := g2.len; have := g2.sp.le; omega) (by have := g2.len; have := g2.sp.le; omega))
        simp_arith [wS_step, s_law_14]
        refine wS_for ?_
        simp_arith [frT, inR_of (show -4611686018427387904 ≤ 1 + e by omega) (show 1 + e < 4611686018427387904 by omega)]
        refine wS_loop (fun pre e' h'' => h'' = h' ∧ ∃ u12 : Option Bp.D, e' = [some (.ref nT), some (.ref r), some v, some (frT a b (1 + c) (1 + d) (1 + e)), some (.ref n2), some (.ref pd), some (.ref pt), some (.ref pp), some (.ref pa), u9, u10, some (.int t'), u12, u13, u14]) ⟨rfl, _, rfl⟩ (fun _ _ _ _ => depsOk_nil) ?_ ?_
        · rintro pre z suf e' h'' ex3 ⟨rfl, u12, rfl⟩
          have hz : z ∈ rangeL 0 (1 + e).toNat 1 := by rw [ex3]; simp
          obtain ⟨c', hc', rfl⟩ := rangeL_mem hz
          have et : (0 + (c' : Int)) = (c' : Int) := by omega
          rw [et]
          obtain ⟨rr, gg1, gg2⟩ := hi.get t' c'
          have har : areaOf t' c' P = lenS w.1 * lenS w.2 := by
            rw [← hP]
            exact areaOf_P (by omega) (fun x hx => ⟨(tsm x hx).1.sp, (tsm x hx).2.sp⟩) hc' hat
          have kk : kTC t' c' = .tup [.int t', .int c'] := rfl
          rw [kk] at gg1
          have hl : lenS w.1 * lenS w.2 = (w.1.2 - w.1.1) * (w.2.2 - w.2.1) := rfl
          rcases hi.isd with ⟨k, rfl⟩ | ⟨k, rfl⟩
          · simp_arith [wS_step, s_law_15, ho, mfD, gg1, gg2, har, hl, kt19, atI_nat, hatD, m1, eqP, decide_true]
            exact ⟨_, rfl⟩
          · simp_arith [wS_step, s_law_15, ho, mfD, gg1, gg2, har, hl, kt19, atI_nat, hatD, m1, eqP, decide_true]
            exact ⟨_, rfl⟩
        · rintro e' h'' ⟨rfl, u12, rfl⟩
          simp_arith
          exact ⟨_, _, rfl⟩
      · rintro e' h' ⟨rfl, u11, u12, rfl⟩
        simp_arith
        refine ⟨?_, R18.fr f19 (by simpa using nr) (by simpa using ns'), _, _, _, _, _, _, _, _, _, _, _, _, _, rfl⟩
        obtain ⟨t1, t2⟩ := hT18
        exact ⟨f19.get t1 (by simp; intro e; rw [e, d18] at t1; cases t1), f19.get t2 (by simp; intro e; rw [e, d18] at t2; cases t2)⟩
  · rintro e' h1' ⟨hT1, R1, u2, u3, u4, u5, u6, u7, u8, u9, u10, u11, u12, u13, u14, rfl⟩
    simp_arith [s_law_2]
    exact trim_bl
end
end Law
end

section
set_option linter.all false
set_option maxRecDepth 100000
set_option maxHeartbeats 0
namespace Law
open PySem PySem.Spec PyProof.Rows L2 Bp
theorem stat : D.stat = true := by decide +kernel
theorem run (w : World) : HandSHeadRun.RunEq Rw qv hk ob 4000 names w := by
  intro os
  kernel_rfl
end Law
end

section
set_option linter.all false
set_option maxRecDepth 100000
set_option maxHeartbeats 0
namespace Law
open PySem PySem.Spec PyProof.Rows L2 Bp
theorem b_is_integer (K : PySem.W.Frag) (f : Addr) (fd : FuncData) (F : FunD K (D.fd 0).name (D.fd 0).qual (D.fd 0).params (D.fd 0).body (D.fd 0).scope [] ((D.fd 0).kws K) f fd) : L2.Binds K fd (D.ft 0).ps [] :=
  F.bindsN fun kV doc pm an cdv ct us h => match us, (show us.length = 1 from h) with
    | [v0], _ => by kernel_rfl
theorem b_is_in (K : PySem.W.Frag) (f : Addr) (fd : FuncData) (F : FunD K (D.fd 1).name (D.fd 1).qual (D.fd 1).params (D.fd 1).body (D.fd 1).scope [] ((D.fd 1).kws K) f fd) : L2.Binds K fd (D.ft 1).ps [] :=
  F.bindsN fun kV doc pm an cdv ct us h => match us, (show us.length = 3 from h) with
    | [v0, v1, v2], _ => by kernel_rfl
theorem b_is_list (K : PySem.W.Frag) (f : Addr) (fd : FuncData) (F : FunD K (D.fd 2).name (D.fd 2).qual (D.fd 2).params (D.fd 2).body (D.fd 2).scope [] ((D.fd 2).kws K) f fd) : L2.Binds K fd (D.ft 2).ps [] :=
  F.bindsN fun kV doc pm an cdv ct us h => match us, (show us.length = 3 from h) with
    | [v0, v1, v2], _ => by kernel_rfl
theorem b_are_cuts (K : PySem.W.Frag) (f : Addr) (fd : FuncData) (F : FunD K (D.fd 3).name (D.fd 3).qual (D.fd 3).params (D.fd 3).body (D.fd 3).scope [] ((D.fd 3).kws K) f fd) : L2.Binds K fd (D.ft 3).ps [] :=
  F.bindsN fun kV doc pm an cdv ct us h => match us, (show us.length = 1 from h) with
    | [v0], _ => by kernel_rfl
theorem b_is_order (K : PySem.W.Frag) (f : Addr) (fd : FuncData) (F : FunD K (D.fd 4).name (D.fd 4).qual (D.fd 4).params (D.fd 4).body (D.fd 4).scope [] ((D.fd 4).kws K) f fd) : L2.Binds K fd (D.ft 4).ps [] :=
  F.bindsN fun kV doc pm an cdv ct us h => match us, (show us.length = 1 from h) with
    | [v0], _ => by kernel_rfl
theorem b_is_region (K : PySem.W.Frag) (f : Addr) (fd : FuncData) (F : FunD K (D.fd 5).name (D.fd 5).qual (D.fd 5).params (D.fd 5).body (D.fd 5).scope [] ((D.fd 5).kws K) f fd) : L2.Binds K fd (D.ft 5).ps [] :=
  F.bindsN fun kV doc pm an cdv ct us h => match us, (show us.length = 1 from h) with
    | [v0], _ => by kernel_rfl
theorem b_is_known (K : PySem.W.Frag) (f : Addr) (fd : FuncData) (F : FunD K (D.fd 6).name (D.fd 6).qual (D.fd 6).params (D.fd 6).body (D.fd 6).scope [] ((D.fd 6).kws K) f fd) : L2.Binds K fd (D.ft 6).ps [] :=
  F.bindsN fun kV doc pm an cdv ct us h => match us, (show us.length = 2 from h) with
    | [v0, v1], _ => by kernel_rfl
theorem b_first_bad (K : PySem.W.Frag) (f : Addr) (fd : FuncData) (F : FunD K (D.fd 7).name (D.fd 7).qual (D.fd 7).params (D.fd 7).body (D.fd 7).scope [] ((D.fd 7).kws K) f fd) : L2.Binds K fd (D.ft 7).ps [] :=
  F.bindsN fun kV doc pm an cdv ct us h => match us, (show us.length = 1 from h) with
    | [v0], _ => by kernel_rfl
theorem b_Options_kernel (K : PySem.W.Frag) (f : Addr) (fd : FuncData) (F : FunD K (D.fd 9).name (D.fd 9).qual (D.fd 9).params (D.fd 9).body (D.fd 9).scope [] ((D.fd 9).kws K) f fd) : L2.Binds K fd (D.ft 9).ps [] :=
  F.bindsN fun kV doc pm an cdv ct us h => match us, (show us.length = 1 from h) with
    | [v0], _ => by kernel_rfl
theorem b_Options_levels (K : PySem.W.Frag) (f : Addr) (fd : FuncData) (F : FunD K (D.fd 10).name (D.fd 10).qual (D.fd 10).params (D.fd 10).body (D.fd 10).scope [] ((D.fd 10).kws K) f fd) : L2.Binds K fd (D.ft 10).ps [] :=
  F.bindsN fun kV doc pm an cdv ct us h => match us, (show us.length = 1 from h) with
    | [v0], _ => by kernel_rfl
theorem b_Options_side (K : PySem.W.Frag) (f : Addr) (fd : FuncData) (F : FunD K (D.fd 11).name (D.fd 11).qual (D.fd 11).params (D.fd 11).body (D.fd 11).scope [] ((D.fd 11).kws K) f fd) : L2.Binds K fd (D.ft 11).ps [] :=
  F.bindsN fun kV doc pm an cdv ct us h => match us, (show us.length = 1 from h) with
    | [v0], _ => by kernel_rfl
theorem b_Options_cuts (K : PySem.W.Frag) (f : Addr) (fd : FuncData) (F : FunD K (D.fd 12).name (D.fd 12).qual (D.fd 12).params (D.fd 12).body (D.fd 12).scope [] ((D.fd 12).kws K) f fd) : L2.Binds K fd (D.ft 12).ps [] :=
  F.bindsN fun kV doc pm an cdv ct us h => match us, (show us.length = 1 from h) with
    | [v0], _ => by kernel_rfl
theorem b_Options_order (K : PySem.W.Frag) (f : Addr) (fd : FuncData) (F : FunD K (D.fd 13).name (D.fd 13).qual (D.fd 13).params (D.fd 13).body (D.fd 13).scope [] ((D.fd 13).kws K) f fd) : L2.Binds K fd (D.ft 13).ps [] :=
  F.bindsN fun kV doc pm an cdv ct us h => match us, (show us.length = 1 from h) with
    | [v0], _ => by kernel_rfl
theorem b_Options_tile_height (K : PySem.W.Frag) (f : Addr) (fd : FuncData) (F : FunD K (D.fd 14).name (D.fd 14).qual (D.fd 14).params (D.fd 14).body (D.fd 14).scope [] ((D.fd 14).kws K) f fd) : L2.Binds K fd (D.ft 14).ps [] :=
  F.bindsN fun kV doc pm an cdv ct us h => match us, (show us.length = 1 from h) with
    | [v0], _ => by kernel_rfl
theorem b_Options_tile_width (K : PySem.W.Frag) (f : Addr) (fd : FuncData) (F : FunD K (D.fd 15).name (D.fd 15).qual (D.fd 15).params (D.fd 15).body (D.fd 15).scope [] ((D.fd 15).kws K) f fd) : L2.Binds K fd (D.ft 15).ps [] :=
  F.bindsN fun kV doc pm an cdv ct us h => match us, (show us.length = 1 from h) with
    | [v0], _ => by kernel_rfl
theorem b_Options_colors (K : PySem.W.Frag) (f : Addr) (fd : FuncData) (F : FunD K (D.fd 16).name (D.fd 16).qual (D.fd 16).params (D.fd 16).body (D.fd 16).scope [] ((D.fd 16).kws K) f fd) : L2.Binds K fd (D.ft 16).ps [] :=
  F.bindsN fun kV doc pm an cdv ct us h => match us, (show us.length = 1 from h) with
    | [v0], _ => by kernel_rfl
theorem b_Options_region (K : PySem.W.Frag) (f : Addr) (fd : FuncData) (F : FunD K (D.fd 17).name (D.fd 17).qual (D.fd 17).params (D.fd 17).body (D.fd 17).scope [] ((D.fd 17).kws K) f fd) : L2.Binds K fd (D.ft 17).ps [] :=
  F.bindsN fun kV doc pm an cdv ct us h => match us, (show us.length = 1 from h) with
    | [v0], _ => by kernel_rfl
theorem b_Options_shift (K : PySem.W.Frag) (f : Addr) (fd : FuncData) (F : FunD K (D.fd 18).name (D.fd 18).qual (D.fd 18).params (D.fd 18).body (D.fd 18).scope [] ((D.fd 18).kws K) f fd) : L2.Binds K fd (D.ft 18).ps [] :=
  F.bindsN fun kV doc pm an cdv ct us h => match us, (show us.length = 1 from h) with
    | [v0], _ => by kernel_rfl
theorem b_need_options (K : PySem.W.Frag) (f : Addr) (fd : FuncData) (F : FunD K (D.fd 21).name (D.fd 21).qual (D.fd 21).params (D.fd 21).body (D.fd 21).scope [] ((D.fd 21).kws K) f fd) : L2.Binds K fd (D.ft 21).ps [] :=
  F.bindsN fun kV doc pm an cdv ct us h => match us, (show us.length = 1 from h) with
    | [v0], _ => by kernel_rfl
theorem b_need_frame (K : PySem.W.Frag) (f : Addr) (fd : FuncData) (F : FunD K (D.fd 22).name (D.fd 22).qual (D.fd 22).params (D.fd 22).body (D.fd 22).scope [] ((D.fd 22).kws K) f fd) : L2.Binds K fd (D.ft 22).ps [] :=
  F.bindsN fun kV doc pm an cdv ct us h => match us, (show us.length = 1 from h) with
    | [v0], _ => by kernel_rfl
theorem b_is_span (K : PySem.W.Frag) (f : Addr) (fd : FuncData) (F : FunD K (D.fd 23).name (D.fd 23).qual (D.fd 23).params (D.fd 23).body (D.fd 23).scope [] ((D.fd 23).kws K) f fd) : L2.Binds K fd (D.ft 23).ps [] :=
  F.bindsN fun kV doc pm an cdv ct us h => match us, (show us.length = 1 from h) with
    | [v0], _ => by kernel_rfl
theorem b_need_span (K : PySem.W.Frag) (f : Addr) (fd : FuncData) (F : FunD K (D.fd 24).name (D.fd 24).qual (D.fd 24).params (D.fd 24).body (D.fd 24).scope [] ((D.fd 24).kws K) f fd) : L2.Binds K fd (D.ft 24).ps [] :=
  F.bindsN fun kV doc pm an cdv ct us h => match us, (show us.length = 1 from h) with
    | [v0], _ => by kernel_rfl
theorem b_low_start (K : PySem.W.Frag) (f : Addr) (fd : FuncData) (F : FunD K (D.fd 25).name (D.fd 25).qual (D.fd 25).params (D.fd 25).body (D.fd 25).scope [] ((D.fd 25).kws K) f fd) : L2.Binds K fd (D.ft 25).ps [] :=
  F.bindsN fun kV doc pm an cdv ct us h => match us, (show us.length = 1 from h) with
    | [v0], _ => by kernel_rfl
theorem b_high_start (K : PySem.W.Frag) (f : Addr) (fd : FuncData) (F : FunD K (D.fd 26).name (D.fd 26).qual (D.fd 26).params (D.fd 26).body (D.fd 26).scope [] ((D.fd 26).kws K) f fd) : L2.Binds K fd (D.ft 26).ps [] :=
  F.bindsN fun kV doc pm an cdv ct us h => match us, (show us.length = 1 from h) with
    | [v0], _ => by kernel_rfl
theorem b_low_span (K : PySem.W.Frag) (f : Addr) (fd : FuncData) (F : FunD K (D.fd 27).name (D.fd 27).qual (D.fd 27).params (D.fd 27).body (D.fd 27).scope [] ((D.fd 27).kws K) f fd) : L2.Binds K fd (D.ft 27).ps [] :=
  F.bindsN fun kV doc pm an cdv ct us h => match us, (show us.length = 1 from h) with
    | [v0], _ => by kernel_rfl
theorem b_high_span (K : PySem.W.Frag) (f : Addr) (fd : FuncData) (F : FunD K (D.fd 28).name (D.fd 28).qual (D.fd 28).params (D.fd 28).body (D.fd 28).scope [] ((D.fd 28).kws K) f fd) : L2.Binds K fd (D.ft 28).ps [] :=
  F.bindsN fun kV doc pm an cdv ct us h => match us, (show us.length = 1 from h) with
    | [v0], _ => by kernel_rfl
theorem b_low_span_after (K : PySem.W.Frag) (f : Addr) (fd : FuncData) (F : FunD K (D.fd 29).name (D.fd 29).qual (D.fd 29).params (D.fd 29).body (D.fd 29).scope [] ((D.fd 29).kws K) f fd) : L2.Binds K fd (D.ft 29).ps [] :=
  F.bindsN fun kV doc pm an cdv ct us h => match us, (show us.length = 2 from h) with
    | [v0, v1], _ => by kernel_rfl
theorem b_pieces (K : PySem.W.Frag) (f : Addr) (fd : FuncData) (F : FunD K (D.fd 30).name (D.fd 30).qual (D.fd 30).params (D.fd 30).body (D.fd 30).scope [] ((D.fd 30).kws K) f fd) : L2.Binds K fd (D.ft 30).ps [] :=
  F.bindsN fun kV doc pm an cdv ct us h => match us, (show us.length = 3 from h) with
    | [v0, v1, v2], _ => by kernel_rfl
theorem b_rectangles (K : PySem.W.Frag) (f : Addr) (fd : FuncData) (F : FunD K (D.fd 31).name (D.fd 31).qual (D.fd 31).params (D.fd 31).body (D.fd 31).scope [] ((D.fd 31).kws K) f fd) : L2.Binds K fd (D.ft 31).ps [] :=
  F.bindsN fun kV doc pm an cdv ct us h => match us, (show us.length = 5 from h) with
    | [v0, v1, v2, v3, v4], _ => by kernel_rfl
theorem b_tiles_in (K : PySem.W.Frag) (f : Addr) (fd : FuncData) (F : FunD K (D.fd 32).name (D.fd 32).qual (D.fd 32).params (D.fd 32).body (D.fd 32).scope [] ((D.fd 32).kws K) f fd) : L2.Binds K fd (D.ft 32).ps [] :=
  F.bindsN fun kV doc pm an cdv ct us h => match us, (show us.length = 2 from h) with
    | [v0, v1], _ => by kernel_rfl
theorem b_bands_in (K : PySem.W.Frag) (f : Addr) (fd : FuncData) (F : FunD K (D.fd 33).name (D.fd 33).qual (D.fd 33).params (D.fd 33).body (D.fd 33).scope [] ((D.fd 33).kws K) f fd) : L2.Binds K fd (D.ft 33).ps [] :=
  F.bindsN fun kV doc pm an cdv ct us h => match us, (show us.length = 3 from h) with
    | [v0, v1, v2], _ => by kernel_rfl
theorem b_blocks_in (K : PySem.W.Frag) (f : Addr) (fd : FuncData) (F : FunD K (D.fd 34).name (D.fd 34).qual (D.fd 34).params (D.fd 34).body (D.fd 34).scope [] ((D.fd 34).kws K) f fd) : L2.Binds K fd (D.ft 34).ps [] :=
  F.bindsN fun kV doc pm an cdv ct us h => match us, (show us.length = 2 from h) with
    | [v0, v1], _ => by kernel_rfl
theorem b_tiles_of (K : PySem.W.Frag) (f : Addr) (fd : FuncData) (F : FunD K (D.fd 35).name (D.fd 35).qual (D.fd 35).params (D.fd 35).body (D.fd 35).scope [] ((D.fd 35).kws K) f fd) : L2.Binds K fd (D.ft 35).ps [] :=
  F.bindsN fun kV doc pm an cdv ct us h => match us, (show us.length = 2 from h) with
    | [v0, v1], _ => by kernel_rfl
theorem b_block_places (K : PySem.W.Frag) (f : Addr) (fd : FuncData) (F : FunD K (D.fd 36).name (D.fd 36).qual (D.fd 36).params (D.fd 36).body (D.fd 36).scope [] ((D.fd 36).kws K) f fd) : L2.Binds K fd (D.ft 36).ps [] :=
  F.bindsN fun kV doc pm an cdv ct us h => match us, (show us.length = 2 from h) with
    | [v0, v1], _ => by kernel_rfl
theorem b_law_taken (K : PySem.W.Frag) (f : Addr) (fd : FuncData) (F : FunD K (D.fd 37).name (D.fd 37).qual (D.fd 37).params (D.fd 37).body (D.fd 37).scope [] ((D.fd 37).kws K) f fd) : L2.Binds K fd (D.ft 37).ps [] :=
  F.bindsN fun kV doc pm an cdv ct us h => match us, (show us.length = 2 from h) with
    | [v0, v1], _ => by kernel_rfl
theorem b_law_pick (K : PySem.W.Frag) (f : Addr) (fd : FuncData) (F : FunD K (D.fd 38).name (D.fd 38).qual (D.fd 38).params (D.fd 38).body (D.fd 38).scope [] ((D.fd 38).kws K) f fd) : L2.Binds K fd (D.ft 38).ps [] :=
  F.bindsN fun kV doc pm an cdv ct us h => match us, (show us.length = 2 from h) with
    | [v0, v1], _ => by kernel_rfl
theorem b_law_alike (K : PySem.W.Frag) (f : Addr) (fd : FuncData) (F : FunD K (D.fd 39).name (D.fd 39).qual (D.fd 39).params (D.fd 39).body (D.fd 39).scope [] ((D.fd 39).kws K) f fd) : L2.Binds K fd (D.ft 39).ps [] :=
  F.bindsN fun kV doc pm an cdv ct us h => match us, (show us.length = 2 from h) with
    | [v0, v1], _ => by kernel_rfl
theorem b_law_order (K : PySem.W.Frag) (f : Addr) (fd : FuncData) (F : FunD K (D.fd 40).name (D.fd 40).qual (D.fd 40).params (D.fd 40).body (D.fd 40).scope [] ((D.fd 40).kws K) f fd) : L2.Binds K fd (D.ft 40).ps [] :=
  F.bindsN fun kV doc pm an cdv ct us h => match us, (show us.length = 1 from h) with
    | [v0], _ => by kernel_rfl
theorem b_law_options (K : PySem.W.Frag) (f : Addr) (fd : FuncData) (F : FunD K (D.fd 41).name (D.fd 41).qual (D.fd 41).params (D.fd 41).body (D.fd 41).scope [] ((D.fd 41).kws K) f fd) : L2.Binds K fd (D.ft 41).ps [] :=
  F.bindsN fun kV doc pm an cdv ct us h => match us, (show us.length = 2 from h) with
    | [v0, v1], _ => by kernel_rfl
theorem b_law_grid (K : PySem.W.Frag) (f : Addr) (fd : FuncData) (F : FunD K (D.fd 42).name (D.fd 42).qual (D.fd 42).params (D.fd 42).body (D.fd 42).scope [] ((D.fd 42).kws K) f fd) : L2.Binds K fd (D.ft 42).ps [] :=
  F.bindsN fun kV doc pm an cdv ct us h => match us, (show us.length = 3 from h) with
    | [v0, v1, v2], _ => by kernel_rfl
theorem b_law_halved (K : PySem.W.Frag) (f : Addr) (fd : FuncData) (F : FunD K (D.fd 43).name (D.fd 43).qual (D.fd 43).params (D.fd 43).body (D.fd 43).scope [] ((D.fd 43).kws K) f fd) : L2.Binds K fd (D.ft 43).ps [] :=
  F.bindsN fun kV doc pm an cdv ct us h => match us, (show us.length = 2 from h) with
    | [v0, v1], _ => by kernel_rfl
theorem b_law_band_spans (K : PySem.W.Frag) (f : Addr) (fd : FuncData) (F : FunD K (D.fd 44).name (D.fd 44).qual (D.fd 44).params (D.fd 44).body (D.fd 44).scope [] ((D.fd 44).kws K) f fd) : L2.Binds K fd (D.ft 44).ps [] :=
  F.bindsN fun kV doc pm an cdv ct us h => match us, (show us.length = 4 from h) with
    | [v0, v1, v2, v3], _ => by kernel_rfl
theorem b_law_tiles (K : PySem.W.Frag) (f : Addr) (fd : FuncData) (F : FunD K (D.fd 45).name (D.fd 45).qual (D.fd 45).params (D.fd 45).body (D.fd 45).scope [] ((D.fd 45).kws K) f fd) : L2.Binds K fd (D.ft 45).ps [] :=
  F.bindsN fun kV doc pm an cdv ct us h => match us, (show us.length = 2 from h) with
    | [v0, v1], _ => by kernel_rfl
theorem b_law_places (K : PySem.W.Frag) (f : Addr) (fd : FuncData) (F : FunD K (D.fd 46).name (D.fd 46).qual (D.fd 46).params (D.fd 46).body (D.fd 46).scope [] ((D.fd 46).kws K) f fd) : L2.Binds K fd (D.ft 46).ps [] :=
  F.bindsN fun kV doc pm an cdv ct us h => match us, (show us.length = 2 from h) with
    | [v0, v1], _ => by kernel_rfl
theorem b_law (K : PySem.W.Frag) (f : Addr) (fd : FuncData) (F : FunD K (D.fd 47).name (D.fd 47).qual (D.fd 47).params (D.fd 47).body (D.fd 47).scope [] ((D.fd 47).kws K) f fd) : L2.Binds K fd (D.ft 47).ps [] :=
  F.bindsN fun kV doc pm an cdv ct us h => match us, (show us.length = 1 from h) with
    | [v0], _ => by kernel_rfl
theorem b_all : ∀ i ∈ D.pl, ∀ (K : PySem.W.Frag) f fd, FunD K (D.fd i).name (D.fd i).qual (D.fd i).params (D.fd i).body (D.fd i).scope [] ((D.fd i).kws K) f fd → L2.Binds K fd (D.ft i).ps [] := by
  have e : D.pl = ([0, 1, 2, 3, 4, 5, 6, 7, 9, 10, 11, 12, 13, 14, 15, 16, 17, 18, 21, 22, 23, 24, 25, 26, 27, 28, 29, 30, 31, 32, 33, 34, 35, 36, 37, 38, 39, 40, 41, 42, 43, 44, 45, 46, 47] : List Nat) := by rfl
  rw [e]
  intro i hi
  simp only [List.mem_cons, List.not_mem_nil, or_false] at hi
  rcases hi with rfl | rfl | rfl | rfl | rfl | rfl | rfl | rfl | rfl | rfl | rfl | rfl | rfl | rfl | rfl | rfl | rfl | rfl | rfl | rfl | rfl | rfl | rfl | rfl | rfl | rfl | rfl | rfl | rfl | rfl | rfl | rfl | rfl | rfl | rfl | rfl | rfl | rfl | rfl | rfl | rfl | rfl | rfl | rfl | rfl
  · exact b_is_integer
  · exact b_is_in
  · exact b_is_list
  · exact b_are_cuts
  · exact b_is_order
  · exact b_is_region
  · exact b_is_known
  · exact b_first_bad
  · exact b_Options_kernel
  · exact b_Options_levels
  · exact b_Options_side
  · exact b_Options_cuts
  · exact b_Options_order
  · exact b_Options_tile_height
  · exact b_Options_tile_width
  · exact b_Options_colors
  · exact b_Options_region
  · exact b_Options_shift
  · exact b_need_options
  · exact b_need_frame
  · exact b_is_span
  · exact b_need_span
  · exact b_low_start
  · exact b_high_start
  · exact b_low_span
  · exact b_high_span
  · exact b_low_span_after
  · exact b_pieces
  · exact b_rectangles
  · exact b_tiles_in
  · exact b_bands_in
  · exact b_blocks_in
  · exact b_tiles_of
  · exact b_block_places
  · exact b_law_taken
  · exact b_law_pick
  · exact b_law_alike
  · exact b_law_order
  · exact b_law_options
  · exact b_law_grid
  · exact b_law_halved
  · exact b_law_band_spans
  · exact b_law_tiles
  · exact b_law_places
  · exact b_law
theorem km_0 (K : PySem.W.Frag) (f : Addr) (fd : FuncData) (F : FunD K (D.fd 8).name (D.fd 8).qual (D.fd 8).params (D.fd 8).body (D.fd 8).scope [] ((D.fd 8).kws K) f fd) : ∃ np, ∃ (gg : List Value → List Value → List Value) (gV : List V → List V → List V), (D.ft 8).np = np + 1 ∧ KBn K fd (D.ft 8).ps 1 ["kernel", "levels", "side", "cuts", "order", "tile_height", "tile_width"] gg gV ∧ ArrOk ["kernel", "levels", "side", "cuts", "order", "tile_height", "tile_width"] np [.k 0, .k 1, .k 2, .k 3, .k 4, .k 5, .k 6, .c (.bl false), .c (.non), .c (.int 0)] gV := by
  have H : ∃ mv : List Value, KBn K fd (D.ft 8).ps 1 ["kernel", "levels", "side", "cuts", "order", "tile_height", "tile_width"] (fun us ws => us ++ (ws ++ mv)) (fun vs zs => vs ++ (zs ++ ([("colors", V.bl false), ("region", V.non), ("shift", V.int 0)] : List (Str × V)).map (·.2))) := by
    refine F.kbinds0 1 ["kernel", "levels", "side", "cuts", "order", "tile_height", "tile_width"] [("colors", V.bl false), ("region", V.non), ("shift", V.int 0)] (fun us mv ws => us ++ (ws ++ mv)) ?_ ?_ (fun r1 r2 r3 => r1.append (r3.append r2)) ?_
    · exact fun e => by cases e
    · intro q hq
      show q ∈ ((D.fd 8).kwd.map fun q => (q.1, q.2.v K))
      have e : (D.fd 8).kwd = ([("kernel", .str "short"), ("levels", .int 2), ("side", .int 4), ("order", .str "tlrc"), ("tile_height", .int 16), ("tile_width", .int 16), ("colors", .bl false), ("region", .non), ("shift", .int 0)] : List (Str × He.Dv)) := rfl
      rw [e]
      simp only [List.mem_cons, List.not_mem_nil, or_false] at hq
      rcases hq with rfl | rfl | rfl <;> simp [He.Dv.v]
    · intro Dd doc pm an cdv ct us mv ws h1 h2 h3
      match us, mv, ws, h1, h2, h3 with
      | [a], [m0, m1, m2], [w0, w1, w2, w3, w4, w5, w6], _, _, _ => exact ⟨_, _, _, _, _, _, rfl, rfl, ⟨_, _, _, _, _, _, rfl, rfl, ⟨_, _, _, _, _, _, rfl, rfl, rfl⟩⟩⟩
  obtain ⟨mv, hk⟩ := H
  exact ⟨10, _, _, rfl, hk, arr_ok 7 [.bl false, .non, .int 0] [V.bl false, V.non, V.int 0] (fun φ H => ⟨_, _, rfl, rfl, ⟨_, _, rfl, rfl, ⟨_, _, rfl, rfl, rfl⟩⟩⟩) rfl⟩
theorem ms_0 (K : PySem.W.Frag) (f : Addr) (fd : FuncData) (F : FunD K (D.fd 8).name (D.fd 8).qual (D.fd 8).params (D.fd 8).body (D.fd 8).scope [] ((D.fd 8).kws K) f fd) : ∃ np, ∃ (gg : List Value → List Value → List Value) (gV : List V → List V → List V), (D.ft 8).np = np + 1 ∧ KBn K fd (D.ft 8).ps 1 ["kernel", "levels", "side", "cuts", "order", "tile_height", "tile_width", "colors", "region", "shift"] gg gV ∧ ArrOk ["kernel", "levels", "side", "cuts", "order", "tile_height", "tile_width", "colors", "region", "shift"] np [.k 0, .k 1, .k 2, .k 3, .k 4, .k 5, .k 6, .k 7, .k 8, .k 9] gV := by
  have H : ∃ mv : List Value, KBn K fd (D.ft 8).ps 1 ["kernel", "levels", "side", "cuts", "order", "tile_height", "tile_width", "colors", "region", "shift"] (fun us ws => us ++ (ws ++ mv)) (fun vs zs => vs ++ (zs ++ ([] : List (Str × V)).map (·.2))) := by
    refine F.kbinds0 1 ["kernel", "levels", "side", "cuts", "order", "tile_height", "tile_width", "colors", "region", "shift"] [] (fun us mv ws => us ++ (ws ++ mv)) ?_ ?_ (fun r1 r2 r3 => r1.append (r3.append r2)) ?_
    · exact fun e => by cases e
    · intro q hq
      show q ∈ ((D.fd 8).kwd.map fun q => (q.1, q.2.v K))
      have e : (D.fd 8).kwd = ([("kernel", .str "short"), ("levels", .int 2), ("side", .int 4), ("order", .str "tlrc"), ("tile_height", .int 16), ("tile_width", .int 16), ("colors", .bl false), ("region", .non), ("shift", .int 0)] : List (Str × He.Dv)) := rfl
      rw [e]
      cases hq
    · intro Dd doc pm an cdv ct us mv ws h1 h2 h3
      match us, mv, ws, h1, h2, h3 with
      | [a], [], [w0, w1, w2, w3, w4, w5, w6, w7, w8, w9], _, _, _ => exact (by show bindArgs _ _ = pure _; kernel_rfl)
  obtain ⟨mv, hk⟩ := H
  exact ⟨10, _, _, rfl, hk, arr_ok 10 [] [] (fun φ H => rfl) rfl⟩
theorem mm_0 (K : PySem.W.Frag) (f : Addr) (fd : FuncData) (S : FnScope (D.ft 20).N (D.ft 20).ps (D.ft 20).sc) (F : FunD K (D.fd 20).name (D.fd 20).qual (D.fd 20).params (D.fd 20).body (D.fd 20).scope [] ((D.fd 20).kws K) f fd) : MoreAt K (D.ft 20) f ["tile_height", "tile_width"] := by
  obtain ⟨oc, od, dV, kV, doc, pm, an, cdv, ct, osl, rfl, lk, hcd, hD, hK⟩ := F.ex
  rcases hD with ⟨_, rfl⟩ | ⟨e, _⟩
  · refine ⟨S, by decide, by decide, _, _, _, _, _, _, _, _, _, _, _, _, osl, ["self"], "more", lk, hcd, rfl, rfl, fun us ws h1 h2 => ?_⟩
    match us, ws, h1, h2 with
    | [a], [w0, w1], _, _ => rfl
  · exact absurd rfl e
end Law
end

set_option linter.all false
set_option maxRecDepth 100000
set_option maxHeartbeats 0
namespace Law
open PySem PySem.Spec PyProof.Rows L2 Bp
theorem wok {K0 : PySem.W.Frag} {h : Heap} {mg : Str → Option Value} (hK : AllIn K0 h) (hG : h.Ns mainGlobals mg) (hc : cstOk K0 D.cs = true) (c : SaysK D.chk D.fs (cutK K0 (adrs K0 D.cs))) :
    WOk (cutK K0 (adrs K0 D.cs)) mg (D.rx (cutK K0 (adrs K0 D.cs)) (adrs K0 D.cs)) D.G D.ft := by
  refine D.wok stat hK hG hc c (fun K i hi => b_all i hi K) ?_ ?_ ?_
  · exact fun K p hp => by
      have hp : p ∈ G.km := hp
      unfold G at hp
      simp only [List.mem_cons, List.not_mem_nil, or_false] at hp
      rcases hp with rfl
      · exact km_0 K
  · exact fun K p hp => by
      have hp : p ∈ G.ms := hp
      unfold G at hp
      simp only [List.mem_cons, List.not_mem_nil, or_false] at hp
      rcases hp with rfl
      · exact ms_0 K
  · exact fun K p hp => by
      have hp : p ∈ G.mm := hp
      unfold G at hp
      simp only [List.mem_cons, List.not_mem_nil, or_false] at hp
      rcases hp with rfl
      · exact mm_0 K
theorem law_says (ns : List Int) : ∃ h', Cl 60 F_law [.ref D.cs.length] (entryH D.cs ns) = .ok (.bl true) h' := by
  have z := law_ok (ns := ns) (j := 60) (by decide)
  have e : ([.ref D.cs.length] : List Bp.D) = [.ref nT] := rfl
  rw [e]
  cases hr : Cl 60 F_law [.ref nT] (entryH D.cs ns) with
  | ok v h' =>
    rw [hr] at z
    have : v = .bl true := z
    exact ⟨h', by rw [this]⟩
  | ex c l h' => rw [hr] at z; exact z.elim
  | bad => rw [hr] at z; exact z.elim
theorem the_end {l : PySem.W.OpenLaw} {q : Program} {loose : List Str} {XP : (Str → Option Value) → Heap → Prop} {dn : Nat} {d : DefRec} (hn : l.most = some 63) (hdf : d.params.defaults = []) (hd : d.name = "law") :
    PySem.W.WalkO q loose XP (hookT dn D.chk D.fs D.cs).says l.row.toRowW d [] (fun f vs => PySem.call f vs) := by
  refine walk_end (k := 60) (x := "script") (m := Cl 60 F_law) hn (by decide) hdf ⟨by decide, by decide, by decide⟩ (fun w mg fad K h hK hG hm c hc => ?_) (fun ns _ => law_says ns)
  have W := wok hK hG hc c
  obtain ⟨fd, hA, hF⟩ := D.ft_at (i := 47) (by decide) stat c
  have e1 : (D.fd 47).at_ = .glo "law" := rfl
  rw [e1] at hA hF
  obtain ⟨f2, fd2, hA2, hB2, hn2, hm2, hk2⟩ := W.fn "law" 47 1 (by rfl)
  rw [hd, hm2] at hm
  have e2 : f2 = fad := Value.ref.inj (Option.some.inj hm)
  subst e2
  have eW : mg "law" = some (.ref (He.ga (cutK K (adrs K D.cs)) "law")) := by
    have hchk := c.chk
    unfold LawD.chk LawD.chk0 at hchk
    simp only [Bool.and_eq_true] at hchk
    have h2 := List.all_eq_true.mp hchk.1.1 ("law", .fn 47 1) (look_mem (show D.G.g.lookup ("law" : Str) = some (.fn 47 1) from by rfl))
    unfold LawD.chkG at h2
    simp only [Bool.and_eq_true] at h2
    exact He.glo_ok hK.cut hG h2.1
  rw [hm2] at eW
  have e3 : f2 = He.ga (cutK K (adrs K D.cs)) "law" := Value.ref.inj (Option.some.inj eW)
  refine ⟨D.rx (cutK K (adrs K D.cs)) (adrs K D.cs), fd, fun p hp => ?_, fun s u => ?_, fun base hb hbG => ?_⟩
  · obtain ⟨k, hk, rfl⟩ := List.mem_map.mp hp
    have hk := List.mem_range.mp hk
    refine ⟨k, rfl, ?_⟩
    unfold cstOk at hc
    simp only [Bool.and_eq_true] at hc
    have hl := (tupsOk_at hc.1.2).1
    rw [List.getD_eq_getElem?_getD, List.getElem?_eq_getElem (by omega)]
    rfl
  · exact hF.bindsA (ps := ["script"]) (fun kV doc pm an cdv ct us h => match us, (show us.length = 1 from h) with
      | [a], _ => by kernel_rfl) s [u] rfl
  · have L := (Lev.all (P := l.prog) (w := w) (base := base) W (fun _ => rfl : ∀ i, bd i = bodyM D.G (D.ft i)) 60).1
    have := L.1 47 _ fd hA
    rw [show FW.ad (cutK K (adrs K D.cs)) (FW.glo "law") = f2 from e3.symm] at this
    exact this
end Law
open PySem PySem.W PySem.Calls PyProof.Rows
theorem PySem.Challenge.cw_bandpress_k76_whole_blocks_cover_holds : PySem.Challenge.rw_bandpress_k76_whole_blocks_cover.Holds := by
  w_on; o_law
  refine HandSHeadRun.head_any (r := Law.Rw) (q := Law.qv) (H := Law.hk) (ob := Law.ob) (M := 4000) (loose := Law.names) (kwd := []) Law.ob_eq (by kernel_rfl) (fun s => by kernel_rfl) Law.run (by rfl) (by rfl) (by rfl) (by rfl) (by first | assumption | decide +kernel) (by decide +kernel) ⟨rfl, rfl, rfl, rfl, rfl, by decide +kernel⟩ ?hw ?hc
  case hw => w_witness2
  case hc => exact Law.the_end rfl rfl rfl
