import PyProof.Rows.All
import Wide.All
import OpenK.AllK
import Wide.FinOn
import KE.SortData
import HandS.List
import HandS.Text
import KE.KeyNested
import KE.KDictKeyed
import HandS.ForMost
import HandS.ForExc
import HandS.CallSlots
import HandS.Deep
import HandS.TupAny
import HandS.TupMul
import HandS.IsInst
import HandS.Conv
import HandS.Zip
import KE.GoesMore
import KE.GoesEnum
import HandS.Strs
import HandS.NoneIn
import HandS.Exc
import HandS.ExcOwn
import HandS.Comp
import HandS.HeadHook1
import HandS.Iter
import PyProof.ExcBaseAll.ValueError
import KE.KStateDown
import HandS.Ends
import HandS.More
import HandS.Words
import HandS.WordsExc
import HandS.Defaults
import HandS.Head0
import HandS.Head1
import HandS.Head2
import HandS.HeadEnd
import HandS.HeadHook2
import HandS.HeadHook4
import PySem.Challenge.RW_loaders_k04_classes
set_option Elab.async false
set_option autoImplicit false
set_option linter.all false
set_option maxRecDepth 100000
set_option maxHeartbeats 0
/-! IpA: the values, the store and the interpreter of the small language `Ex`, `St` (own AST, slots by number). -/
namespace IP
open PySem

/-- a value: tuples by content; lists, dicts, instances by their place in the store; `ro` the script -/
inductive D where
  | non
  | bl (b : Bool)
  | int (i : Int)
  | str (x : Str)
  | tup (ds : List D)
  | ref (n : Nat)
  | ro (ns : List Int)
  | fn (x : Str)
  | exn (C : Str) (w : List D)

mutual
def D.beq : D → D → Bool
  | .non, .non => true
  | .bl a, .bl b => decide (a = b)
  | .int a, .int b => decide (a = b)
  | .str a, .str b => decide (a = b)
  | .tup a, .tup b => D.beqs a b
  | .ref a, .ref b => decide (a = b)
  | .ro a, .ro b => decide (a = b)
  | .fn a, .fn b => decide (a = b)
  | .exn a v, .exn b w => decide (a = b) && D.beqs v w
  | _, _ => false
def D.beqs : List D → List D → Bool
  | [], [] => true
  | a :: as, b :: bs => D.beq a b && D.beqs as bs
  | _, _ => false
end
mutual
theorem D.beq_rfl : ∀ a : D, D.beq a a = true
  | .non => by simp [D.beq]
  | .bl _ => by simp [D.beq]
  | .int _ => by simp [D.beq]
  | .str _ => by simp [D.beq]
  | .tup a => by simp [D.beq, D.beqs_rfl a]
  | .ref _ => by simp [D.beq]
  | .ro _ => by simp [D.beq]
  | .fn _ => by simp [D.beq]
  | .exn _ w => by simp [D.beq, D.beqs_rfl w]
theorem D.beqs_rfl : ∀ a : List D, D.beqs a a = true
  | [] => by simp [D.beqs]
  | a :: as => by simp [D.beqs, D.beq_rfl a, D.beqs_rfl as]
end
mutual
theorem D.eq_of : ∀ a b : D, D.beq a b = true → a = b
  | .non, b, h => by cases b <;> simp [D.beq] at h ⊢
  | .bl _, b, h => by cases b <;> simp [D.beq] at h ⊢ <;> exact h
  | .int _, b, h => by cases b <;> simp [D.beq] at h ⊢ <;> exact h
  | .str _, b, h => by cases b <;> simp [D.beq] at h ⊢ <;> exact h
  | .tup a, b, h => by
    cases b <;> simp [D.beq] at h ⊢
    exact D.eqs_of a _ h
  | .ref _, b, h => by cases b <;> simp [D.beq] at h ⊢ <;> exact h
  | .ro _, b, h => by cases b <;> simp [D.beq] at h ⊢ <;> exact h
  | .fn _, b, h => by cases b <;> simp [D.beq] at h ⊢ <;> exact h
  | .exn _ w, b, h => by
    cases b <;> simp [D.beq] at h ⊢
    exact ⟨h.1, D.eqs_of w _ h.2⟩
theorem D.eqs_of : ∀ a b : List D, D.beqs a b = true → a = b
  | [], b, h => by cases b <;> simp [D.beqs] at h ⊢
  | a :: as, b, h => by
    cases b with
    | nil => simp [D.beqs] at h
    | cons b bs =>
      simp only [D.beqs, Bool.and_eq_true] at h
      rw [D.eq_of a b h.1, D.eqs_of as bs h.2]
end
instance : DecidableEq D := fun a b =>
  if h : D.beq a b = true then .isTrue (D.eq_of a b h) else .isFalse fun e => h (e ▸ D.beq_rfl a)

/-- a cell of the store: a list, a dict (entries in order), an instance with its attributes -/
inductive Cell where
  | lst (ds : List D)
  | dic (kvs : List (D × D))
  | ins (C : Str) (fs : List (Str × D))
  deriving DecidableEq

abbrev Sto := List Cell
abbrev Env := List (Option D)
/-- an error: its class, what it carries -/
structure Exn where
  cls : Str
  why : Option D

inductive R (α : Type) where
  | bad
  | exc (x : Exn) (st : Sto)
  | ok (a : α) (st : Sto)
def R.bind {α β : Type} : R α → (α → Sto → R β) → R β
  | .bad, _ => .bad
  | .exc x st, _ => .exc x st
  | .ok a st, f => f a st

/-- how a statement ends -/
inductive SR where
  | bad
  | exc (x : Exn) (ρ : Env) (st : Sto)
  | next (ρ : Env) (st : Sto)
  | ret (d : D) (st : Sto)
  | brk (ρ : Env) (st : Sto)
  | cont (ρ : Env) (st : Sto)

inductive Bop where
  | add | sub | mul | mod | fdiv
inductive Cop where
  | eq | ne | lt | le | gt | ge | isin | notin
/-- built-in functions of one argument -/
inductive Bi where
  | len | all | any | list | tuple | int | str | sorted | dict
/-- methods of built-in types -/
inductive Bm where
  | append | extend | pop | popi | get | index | count | join | split | startswith
inductive Ty where
  | int | bool | str | tuple | list

mutual
inductive Ex where
  | k (d : D)
  | lc (i : Nat)
  | bin (o : Bop) (a b : Ex)
  | neg (a : Ex)
  | not (a : Ex)
  | and (a b : Ex)
  | or (a b : Ex)
  | cmp (o : Cop) (a b : Ex)
  | chn (o p : Cop) (a b c : Ex)
  | isN (a : Ex)
  | notN (a : Ex)
  | ite (c a b : Ex)
  | call (f : Str) (es : Exs)
  | cal (i : Nat) (es : Exs)
  | mth (o : Ex) (C m f : Str) (es : Exs)
  | bi (b : Bi) (e : Ex)
  | lset (e : Ex)
  | bm (m : Bm) (o : Ex) (es : Exs)
  | isT (e : Ex) (T : Ty)
  | isX (e : Ex) (C : Str)
  | fld (o : Ex) (f : Str)
  | ix (a i : Ex)
  | sl (a : Ex) (lo hi : Exo)
  | lst (es : Exs)
  | tup (es : Exs)
  | dct (ps : Exps)
  | comp (elt : Ex) (tg : Tg) (it : Itr) (c : Exo) (own : List Nat)
inductive Exs where
  | nil
  | cons (e : Ex) (es : Exs)
inductive Exps where
  | nil
  | cons (k v : Ex) (ps : Exps)
inductive Exo where
  | none
  | some (e : Ex)
inductive Itr where
  | val (e : Ex)
  | rng (a : Ex)
  | rng2 (a b : Ex)
  | enm (e : Ex)
  | zip (a b : Ex)
inductive Tg where
  | nm (i : Nat)
  | tp (ts : Tgs)
inductive Tgs where
  | nil
  | cons (t : Tg) (ts : Tgs)
end
def Exs.of : List Ex → Exs
  | [] => .nil
  | e :: es => .cons e (Exs.of es)
def Exps.of : List (Ex × Ex) → Exps
  | [] => .nil
  | e :: es => .cons e.1 e.2 (Exps.of es)
def Tgs.of : List Tg → Tgs
  | [] => .nil
  | e :: es => .cons e (Tgs.of es)

mutual
inductive St where
  | asg (t : Tg) (e : Ex)
  | aset (o i e : Ex)
  | afld (o : Ex) (f : Str) (e : Ex)
  | ife (c : Ex) (a b : Sts)
  | fr (t : Tg) (it : Itr) (body : Sts)
  | whl (c : Ex) (body : Sts)
  | ret (e : Ex)
  | exp (e : Ex)
  | pass
  | cont
  | rse (C : Str)
  | rsw (C : Str) (e : Ex)
  | trya (body : Sts) (C : Str) (i : Nat) (suite : Ex)
inductive Sts where
  | nil
  | cons (s : St) (ss : Sts)
end
def Sts.of : List St → Sts
  | [] => .nil
  | e :: es => .cons e (Sts.of es)

/-! ### data -/
mutual
/-- a value as the kit's plain data: n levels of lists -/
def toData (st : Sto) : Nat → D → Option PyData
  | _, .non => some .none
  | _, .bl b => some (.bool b)
  | _, .int i => some (.int i)
  | _, .str x => if PyData.strOk x = true then some (.str x) else none
  | n + 1, .tup ds => (toDatas st n ds).map .tuple
  | n + 1, .ref m => match st[m]? with
    | some (.lst ds) => (toDatas st n ds).map .list
    | _ => none
  | _ + 1, .ro ns => some (.list (ns.map .int))
  | _, _ => none
def toDatas (st : Sto) : Nat → List D → Option (List PyData)
  | _, [] => some []
  | n, d :: ds => match toData st n d, toDatas st n ds with
    | some p, some ps => some (p :: ps)
    | _, _ => none
end
end IP

/-! IpB: the interpreter. -/
namespace IP
open PySem

/-- the largest length that a list, a text may get here -/
def LIM : Nat := 1000000

def eqD (st : Sto) (a b : D) : Option Bool :=
  match toData st 64 a, toData st 64 b with
  | some p, some q => some (PyData.eqv p q)
  | _, _ => none
def inD (st : Sto) (a : D) (ds : List D) : Option Bool :=
  match toData st 64 a, toDatas st 63 ds with
  | some p, some ps => some (ps.any fun z => PyData.eqv z p)
  | _, _ => none
/-- the first place of an equal one in a list -/
def idxD (st : Sto) (a l : D) : Option Nat :=
  match toData st 64 a, toData st 64 l with
  | some p, some (.list ps) => ps.findIdx? fun z => PyData.eqv z p
  | _, _ => none
def flatD : D → Bool
  | .non => true
  | .bl _ => true
  | .int _ => true
  | .str _ => true
  | _ => false

mutual
def keyT : Nat → D → Bool
  | _, .non => true
  | _, .int _ => true
  | _, .str _ => true
  | n + 1, .tup ds => keyTs n ds
  | _, _ => false
def keyTs : Nat → List D → Bool
  | _, [] => true
  | n, d :: ds => keyT n d && keyTs n ds
end
inductive KK where
  | flat | deep
  deriving DecidableEq
def keyKind : D → Option KK
  | .int _ => some .flat
  | .str _ => some .flat
  | .tup ds => if keyTs 7 ds then some .deep else none
  | _ => none
def dget (kvs : List (D × D)) (k : D) : Option D := (kvs.find? fun p => decide (p.1 = k)).map (·.2)
def dput (kvs : List (D × D)) (k v : D) : List (D × D) :=
  if kvs.any (fun p => decide (p.1 = k)) then kvs.map fun p => if p.1 = k then (p.1, v) else p else kvs ++ [(k, v)]
/-- all keys of one kind with k -/
def alikeK (kvs : List (D × D)) (k : D) : Bool :=
  match keyKind k with
  | none => false
  | some kk => kvs.all fun p => decide (keyKind p.1 = some kk)

def putA (f : Str) (v : D) : List (Str × D) → List (Str × D)
  | [] => [(f, v)]
  | (g, x) :: r => if g = f then (g, v) :: r else (g, x) :: putA f v r

/-! ### operators -/
def mulOk (i j : Int) : Bool := decide (-(2 ^ 64) < i ∧ i < 2 ^ 64) || decide (-(2 ^ 64) < j ∧ j < 2 ^ 64)
def binD (o : Bop) (a b : D) (st : Sto) : R D :=
  match o, a, b with
  | .add, .int i, .int j => .ok (.int (i + j)) st
  | .add, .str x, .str y => if x.length + y.length ≤ LIM then .ok (.str (x ++ y)) st else .bad
  | .add, .tup xs, .tup ys => if xs.length + ys.length ≤ LIM then .ok (.tup (xs ++ ys)) st else .bad
  | .add, .ref n, .ref m => match st[n]?, st[m]? with
    | some (.lst xs), some (.lst ys) => if xs.length + ys.length ≤ LIM then .ok (.ref st.length) (st ++ [.lst (xs ++ ys)]) else .bad
    | _, _ => .bad
  | .sub, .int i, .int j => .ok (.int (i - j)) st
  | .mul, .int i, .int j => if mulOk i j then .ok (.int (i * j)) st else .bad
  | .mul, .tup xs, .int k => if xs ≠ [] ∧ 2 ≤ k ∧ k ≤ 1000 ∧ xs.length ≤ 1000 then .ok (.tup (List.replicate k.toNat xs).flatten) st else .bad
  | .mul, .ref n, .int k => match st[n]? with
    | some (.lst xs) => if -(2 ^ 63) ≤ k ∧ k < 2 ^ 63 ∧ xs.length * k.toNat ≤ LIM then .ok (.ref st.length) (st ++ [.lst (List.replicate k.toNat xs).flatten]) else .bad
    | _ => .bad
  | .mod, .int i, .int j => if j ≠ 0 then .ok (.int (i.fmod j)) st else .bad
  | .fdiv, .int i, .int j => if j ≠ 0 ∧ j.natAbs < 1073741824 then .ok (.int (i.fdiv j)) st else .bad
  | _, _, _ => .bad
def oneIn (x y : Str) : Option Bool := match x.cps.toList with
  | [c] => some (decide (c ∈ y.cps.toList))
  | _ => none
def memD (a b : D) (st : Sto) : Option Bool :=
  match b with
  | .str y => match a with
    | .str x => oneIn x y
    | _ => none
  | .tup ds => if flatD a && ds.all flatD then inD st a ds else none
  | .ref n => match st[n]? with
    | some (.lst ds) => inD st a ds
    | some (.dic kvs) => if alikeK kvs a then some (dget kvs a).isSome else none
    | _ => none
  | _ => none
def cmpD (o : Cop) (a b : D) (st : Sto) : Option Bool :=
  match o with
  | .eq => eqD st a b
  | .ne => (eqD st a b).map (!·)
  | .lt => match a, b with
    | .int i, .int j => some (decide (i < j))
    | _, _ => none
  | .le => match a, b with
    | .int i, .int j => some (decide (i ≤ j))
    | _, _ => none
  | .gt => match a, b with
    | .int i, .int j => some (decide (j < i))
    | _, _ => none
  | .ge => match a, b with
    | .int i, .int j => some (decide (j ≤ i))
    | _, _ => none
  | .isin => memD a b st
  | .notin => (memD a b st).map (!·)
def okB (o : Option Bool) (st : Sto) : R D := match o with
  | some b => .ok (.bl b) st
  | none => .bad
def ixD (a i : D) (st : Sto) : R D :=
  match a, i with
  | .tup ds, .int j => match L2.atI ds j with
    | some d => .ok d st
    | none => .bad
  | .ro ns, .int j => match L2.atI ns j with
    | some n => .ok (.int n) st
    | none => .bad
  | .str x, .int j => if x.length ≤ LIM then (match L2.atI x.cps.toList j with
    | some c => .ok (.str ⟨#[c]⟩) st
    | none => .bad) else .bad
  | .ref n, k => match st[n]? with
    | some (.lst ds) => (match k with
      | .int j => (match L2.atI ds j with
        | some d => .ok d st
        | none => .bad)
      | _ => .bad)
    | some (.dic kvs) => if alikeK kvs k then (match dget kvs k with
      | some v => .ok v st
      | none => .bad) else .bad
    | _ => .bad
  | _, _ => .bad
/-- xs[lo:hi] -/
def cutL {α : Type} (xs : List α) (lo hi : Option Int) : List α := (xs.drop (HT.sIx xs.length 0 lo)).take (HT.sIx xs.length xs.length hi - HT.sIx xs.length 0 lo)
def slD (a : D) (lo hi : Option Int) (st : Sto) : R D :=
  match a with
  | .tup ds => .ok (.tup (cutL ds lo hi)) st
  | .ref n => match st[n]? with
    | some (.lst ds) => .ok (.ref st.length) (st ++ [.lst (cutL ds lo hi)])
    | _ => .bad
  | .str x => if x.length ≤ LIM then .ok (.str ⟨(cutL x.cps.toList lo hi).toArray⟩) st else .bad
  | _ => .bad
def boolsOf : List D → Option (List Bool)
  | [] => some []
  | .bl b :: ds => (boolsOf ds).map (b :: ·)
  | _ => none
def strsOf : List D → Option (List Str)
  | [] => some []
  | .str b :: ds => (strsOf ds).map (b :: ·)
  | _ => none
def pairsOf : List D → Option (List (D × D))
  | [] => some []
  | .tup [a, b] :: ds => (pairsOf ds).map ((a, b) :: ·)
  | _ => none
def putAll (acc : List (D × D)) : List (D × D) → Option (List (D × D))
  | [] => some acc
  | p :: ps => if alikeK acc p.1 then putAll (dput acc p.1 p.2) ps else none
def datasOf (st : Sto) : List D → Option (List (D × PyData))
  | [] => some []
  | d :: ds => match toData st 64 d, datasOf st ds with
    | some p, some ps => some ((d, p) :: ps)
    | _, _ => none
def alikeB (ps : List PyData) : Bool := ps.all fun p => ps.all fun q => PySem.W.alike p q
def tupleB : PyData → Bool
  | .tuple (_ :: _) => true
  | _ => false
def otherB : PyData → Bool
  | .none => false
  | .tuple _ => false
  | _ => true
def sortD (ds : List D) (st : Sto) : Option (List D) :=
  match datasOf st ds with
  | some ps => if alikeB (ps.map (·.2)) && ((ps.map (·.2)).all tupleB || (ps.map (·.2)).all otherB) && decide (ds.length ≤ LIM) then some ((ps.mergeSort (PySem.W.dataLe false (·.2))).map (·.1)) else none
  | none => none
def biD (b : Bi) (a : D) (st : Sto) : R D :=
  match b with
  | .len => match a with
    | .str x => if x.length ≤ LIM then .ok (.int x.length) st else .bad
    | .tup ds => .ok (.int ds.length) st
    | .ro ns => .ok (.int ns.length) st
    | .ref n => match st[n]? with
      | some (.lst ds) => .ok (.int ds.length) st
      | _ => .bad
    | _ => .bad
  | .all => match a with
    | .ref n => match st[n]? with
      | some (.lst ds) => (match boolsOf ds with
        | some bs => .ok (.bl (bs.all id)) st
        | none => .bad)
      | _ => .bad
    | _ => .bad
  | .any => match a with
    | .ref n => match st[n]? with
      | some (.lst ds) => (match boolsOf ds with
        | some bs => .ok (.bl (bs.any id)) st
        | none => .bad)
      | _ => .bad
    | _ => .bad
  | .list => match a with
    | .tup ds => .ok (.ref st.length) (st ++ [.lst ds])
    | .ref n => match st[n]? with
      | some (.lst ds) => .ok (.ref st.length) (st ++ [.lst ds])
      | some (.dic kvs) => .ok (.ref st.length) (st ++ [.lst (kvs.map (·.1))])
      | _ => .bad
    | _ => .bad
  | .tuple => match a with
    | .tup ds => .ok (.tup ds) st
    | .ref n => match st[n]? with
      | some (.lst ds) => .ok (.tup ds) st
      | _ => .bad
    | _ => .bad
  | .int => match a with
    | .int i => .ok (.int i) st
    | .bl c => .ok (.int (if c then 1 else 0)) st
    | _ => .bad
  | .str => .bad
  | .sorted => match a with
    | .ref n => match st[n]? with
      | some (.lst ds) => (match sortD ds st with
        | some es => .ok (.ref st.length) (st ++ [.lst es])
        | none => .bad)
      | _ => .bad
    | _ => .bad
  | .dict => .bad
def dedup (acc : List Str) : List Str → List Str
  | [] => acc
  | x :: xs => if x ∈ acc then dedup acc xs else dedup (acc ++ [x]) xs
def distinct (xs : List Str) : List Str := dedup [] xs
def lsetD (a : D) (st : Sto) : R D :=
  match (match a with
    | .tup ds => strsOf ds
    | .ref n => match st[n]? with
      | some (.lst ds) => strsOf ds
      | _ => none
    | _ => none) with
  | some xs => if xs.length ≤ 100 then .ok (.int (distinct xs).length) st else .bad
  | none => .bad
def appD (o : D) (es : List D) (st : Sto) : R D := match o, es with
  | .ref n, [d] => match st[n]? with
    | some (.lst ds) => if ds.length < LIM then .ok .non (st.set n (.lst (ds ++ [d]))) else .bad
    | _ => .bad
  | _, _ => .bad
def extD (o : D) (es : List D) (st : Sto) : R D := match o, es with
  | .ref n, [.ref m] => match st[n]?, st[m]? with
    | some (.lst ds), some (.lst fs) => if ds.length + fs.length ≤ LIM then .ok .non (st.set n (.lst (ds ++ fs))) else .bad
    | _, _ => .bad
  | _, _ => .bad
def popD (o : D) (es : List D) (st : Sto) : R D := match o, es with
  | .ref n, [] => match st[n]? with
    | some (.lst ds) => (match ds[ds.length - 1]? with
      | some d => .ok d (st.set n (.lst ds.dropLast))
      | none => .bad)
    | _ => .bad
  | _, _ => .bad
def popiD (o : D) (es : List D) (st : Sto) : R D := match o, es with
  | .ref n, [.int i] => match st[n]? with
    | some (.lst ds) => (match L2.ixN ds.length i with
      | some k => (match ds[k]? with
        | some d => if ds.length ≤ LIM then .ok d (st.set n (.lst (ds.eraseIdx k))) else .bad
        | none => .bad)
      | none => .bad)
    | _ => .bad
  | _, _ => .bad
def getDD (o : D) (es : List D) (st : Sto) : R D := match o, es with
  | .ref n, [k, d] => match st[n]? with
    | some (.dic kvs) => if alikeK kvs k then .ok ((dget kvs k).getD d) st else .bad
    | _ => .bad
  | _, _ => .bad
def indexD (o : D) (es : List D) (st : Sto) : R D := match o, es with
  | .ref n, [d] => match idxD st d (.ref n) with
    | some j => .ok (.int j) st
    | none => .bad
  | _, _ => .bad
def bmD : Bm → D → List D → Sto → R D
  | .append => appD
  | .extend => extD
  | .pop => popD
  | .popi => popiD
  | .get => getDD
  | .index => indexD
  | _ => fun _ _ _ => .bad
/-- the receiver is of the method's type -/
def isLst (x : D) (st : Sto) : Bool := match x with
  | .ref n => (match st[n]? with
    | some (.lst _) => true
    | _ => false)
  | _ => false
def isDct (x : D) (st : Sto) : Bool := match x with
  | .ref n => (match st[n]? with
    | some (.dic _) => true
    | _ => false)
  | _ => false
def rcv : Bm → D → Sto → Bool
  | .get => isDct
  | _ => isLst
def isTD (a : D) (T : Ty) (st : Sto) : Option Bool :=
  match a with
  | .non => some false
  | .bl _ => some (match T with | .int => true | .bool => true | _ => false)
  | .int _ => some (match T with | .int => true | _ => false)
  | .str _ => some (match T with | .str => true | _ => false)
  | .tup _ => some (match T with | .tuple => true | _ => false)
  | .ref n => match st[n]? with
    | some (.lst _) => some (match T with | .list => true | _ => false)
    | _ => none
  | _ => none

/-! ### what is walked -/
abbrev Watch := List (Nat × Cell)
def okW (w : Watch) (st : Sto) : Bool := w.all fun p => decide (st[p.1]? = some p.2)
def zipI (i : Nat) : List D → List D
  | [] => []
  | d :: ds => .tup [.int i, d] :: zipI (i + 1) ds
def zipD : List D → List D → List D
  | a :: as, b :: bs => .tup [a, b] :: zipD as bs
  | _, _ => []
def rngD (lo : Int) : Nat → List D
  | 0 => []
  | n + 1 => .int lo :: rngD (lo + 1) n
def seqOf (a : D) (st : Sto) : Option (List D × Watch) :=
  match a with
  | .tup ds => some (ds, [])
  | .ref n => match st[n]? with
    | some (.lst ds) => some (ds, [(n, .lst ds)])
    | _ => none
  | _ => none
def walkOf (a : D) (st : Sto) : Option (List D × Watch) :=
  match a with
  | .tup ds => some (ds, [])
  | .str x => some (x.cps.toList.map fun c => .str ⟨#[c]⟩, [])
  | .ro ns => some (ns.map .int, [])
  | .ref n => match st[n]? with
    | some (.lst ds) => some (ds, [(n, .lst ds)])
    | _ => none
  | _ => none
def sameK : D → D → Bool
  | .tup _, .tup _ => true
  | .ref _, .ref _ => true
  | _, _ => false
def small62 (i : Int) : Bool := decide (-(2 ^ 62) ≤ i ∧ i < 2 ^ 62)

/-! ### targets -/
mutual
def asg : Tg → D → Env → Sto → Option Env
  | .nm i, d, ρ, _ => if i < ρ.length then some (ρ.set i (some d)) else none
  | .tp ts, d, ρ, st => match d with
    | .tup ds => asgs ts ds ρ st
    | .ref n => match st[n]? with
      | some (.lst ds) => asgs ts ds ρ st
      | _ => none
    | _ => none
def asgs : Tgs → List D → Env → Sto → Option Env
  | .nil, [], ρ, _ => some ρ
  | .cons t ts, d :: ds, ρ, st => match asg t d ρ st with
    | some ρ' => asgs ts ds ρ' st
    | none => none
  | _, _, _, _ => none
end
def wipe : Env → List Nat → Env
  | ρ, [] => ρ
  | ρ, i :: is => (wipe ρ is).set i none

def forL (f : D → Env → Sto → SR) (w : Watch) : List D → Env → Sto → SR
  | [], ρ, st => .next ρ st
  | d :: ds, ρ, st => match f d ρ st with
    | .next ρ' st' => if okW w st' then forL f w ds ρ' st' else .bad
    | .cont ρ' st' => if okW w st' then forL f w ds ρ' st' else .bad
    | .brk ρ' st' => .next ρ' st'
    | .ret d st' => .ret d st'
    | .exc x ρ' st' => .exc x ρ' st'
    | .bad => .bad
/-- a comprehension's turns: what is made so far at the end -/
def compL (f : D → Sto → R (Option D)) (w : Watch) : List D → List D → Sto → R (List D)
  | [], acc, st => .ok acc st
  | d :: ds, acc, st => match f d st with
    | .ok (some y) st' => if okW w st' && decide (acc.length < LIM) then compL f w ds (acc ++ [y]) st' else .bad
    | .ok none st' => if okW w st' then compL f w ds acc st' else .bad
    | _ => .bad
def whlL (c : Env → Sto → R D) (b : Env → Sto → SR) : Nat → Env → Sto → SR
  | 0, _, _ => .bad
  | n + 1, ρ, st => match c ρ st with
    | .ok (.bl true) st1 => (match b ρ st1 with
      | .next ρ' st' => whlL c b n ρ' st'
      | .cont ρ' st' => whlL c b n ρ' st'
      | .brk ρ' st' => .next ρ' st'
      | .ret d st' => .ret d st'
      | .exc x ρ' st' => .exc x ρ' st'
      | .bad => .bad)
    | .ok (.bl false) st1 => .next ρ st1
    | .exc x st1 => .exc x ρ st1
    | _ => .bad

section
variable (C : Str → List D → Sto → R D) (W : Nat)
mutual
def ev : Ex → Env → Sto → R D
  | .k d, _, st => .ok d st
  | .lc i, ρ, st => match ρ[i]? with
    | some (some d) => .ok d st
    | _ => .bad
  | .bin o a b, ρ, st => (ev a ρ st).bind fun x st1 => (ev b ρ st1).bind fun y st2 => binD o x y st2
  | .neg a, ρ, st => (ev a ρ st).bind fun x st1 => match x with
    | .int i => .ok (.int (-i)) st1
    | _ => .bad
  | .not a, ρ, st => (ev a ρ st).bind fun x st1 => match x with
    | .bl c => .ok (.bl (!c)) st1
    | _ => .bad
  | .and a b, ρ, st => (ev a ρ st).bind fun x st1 => match x with
    | .bl true => ev b ρ st1
    | .bl false => .ok (.bl false) st1
    | _ => .bad
  | .or a b, ρ, st => (ev a ρ st).bind fun x st1 => match x with
    | .bl true => .ok (.bl true) st1
    | .bl false => ev b ρ st1
    | _ => .bad
  | .cmp o a b, ρ, st => (ev a ρ st).bind fun x st1 => (ev b ρ st1).bind fun y st2 => okB (cmpD o x y st2) st2
  | .chn o p a b c, ρ, st => (ev a ρ st).bind fun x st1 => (ev b ρ st1).bind fun y st2 => match cmpD o x y st2 with
    | some true => (ev c ρ st2).bind fun z st3 => okB (cmpD p y z st3) st3
    | some false => .ok (.bl false) st2
    | none => .bad
  | .isN a, ρ, st => (ev a ρ st).bind fun x st1 => .ok (.bl (decide (x = .non))) st1
  | .notN a, ρ, st => (ev a ρ st).bind fun x st1 => .ok (.bl (!decide (x = .non))) st1
  | .ite c a b, ρ, st => (ev c ρ st).bind fun x st1 => match x with
    | .bl true => ev a ρ st1
    | .bl false => ev b ρ st1
    | _ => .bad
  | .call f es, ρ, st => (evs es ρ st).bind fun ds st1 => C f ds st1
  | .cal i es, ρ, st => match ρ[i]? with
    | some (some (.fn f)) => (evs es ρ st).bind fun ds st1 => C f ds st1
    | _ => .bad
  | .mth o Cn _ f es, ρ, st => (ev o ρ st).bind fun x st1 => match x with
    | .ref n => (match st1[n]? with
      | some (.ins c _) => if c = Cn then (evs es ρ st1).bind fun ds st2 => C f (.ref n :: ds) st2 else .bad
      | _ => .bad)
    | _ => .bad
  | .bi b e, ρ, st => (ev e ρ st).bind fun x st1 => biD b x st1
  | .lset e, ρ, st => (ev e ρ st).bind fun x st1 => lsetD x st1
  | .bm m o es, ρ, st => (ev o ρ st).bind fun x st1 => if rcv m x st1 then (evs es ρ st1).bind fun ds st2 => bmD m x ds st2 else .bad
  | .isT e T, ρ, st => (ev e ρ st).bind fun x st1 => okB (isTD x T st1) st1
  | .isX _ _, _, _ => .bad
  | .fld o f, ρ, st => (ev o ρ st).bind fun x st1 => match x with
    | .ref n => (match st1[n]? with
      | some (.ins _ fs) => (match fs.lookup f with
        | some d => .ok d st1
        | none => .bad)
      | _ => .bad)
    | _ => .bad
  | .ix a i, ρ, st => (ev a ρ st).bind fun x st1 => (ev i ρ st1).bind fun y st2 => ixD x y st2
  | .sl a lo hi, ρ, st => (ev a ρ st).bind fun x st1 => (evo lo ρ st1).bind fun l st2 => (evo hi ρ st2).bind fun h st3 => slD x l h st3
  | .lst es, ρ, st => (evs es ρ st).bind fun ds st1 => if ds.length ≤ LIM then .ok (.ref st1.length) (st1 ++ [.lst ds]) else .bad
  | .tup es, ρ, st => (evs es ρ st).bind fun ds st1 => if ds.length ≤ LIM then .ok (.tup ds) st1 else .bad
  | .dct ps, ρ, st => evd ps [] ρ st
  | .comp elt tg it c own, ρ, st => (evi it ρ st).bind fun p st1 =>
      if okW p.2 st1 then
        (compL (fun d st2 => match asg tg d (wipe ρ own) st2 with
          | some ρ' => (evc c ρ' st2).bind fun b st3 => if b then (ev elt ρ' st3).bind fun y st4 => .ok (some y) st4 else .ok none st3
          | none => .bad) p.2 p.1 [] st1).bind fun ys st2 => .ok (.ref st2.length) (st2 ++ [.lst ys])
      else .bad
def evs : Exs → Env → Sto → R (List D)
  | .nil, _, st => .ok [] st
  | .cons e es, ρ, st => (ev e ρ st).bind fun d st1 => (evs es ρ st1).bind fun ds st2 => .ok (d :: ds) st2
def evo : Exo → Env → Sto → R (Option Int)
  | .none, _, st => .ok none st
  | .some e, ρ, st => (ev e ρ st).bind fun d st1 => match d with
    | .int i => .ok (some i) st1
    | _ => .bad
def evc : Exo → Env → Sto → R Bool
  | .none, _, st => .ok true st
  | .some e, ρ, st => (ev e ρ st).bind fun d st1 => match d with
    | .bl b => .ok b st1
    | _ => .bad
def evd : Exps → List (D × D) → Env → Sto → R D
  | .nil, acc, _, st => match putAll [] acc with
    | some kvs => if acc.length ≤ 15 then .ok (.ref st.length) (st ++ [.dic kvs]) else .bad
    | none => .bad
  | .cons k v ps, acc, ρ, st => (ev k ρ st).bind fun d st1 => (ev v ρ st1).bind fun e st2 => evd ps (acc ++ [(d, e)]) ρ st2
def evi : Itr → Env → Sto → R (List D × Watch)
  | .val e, ρ, st => (ev e ρ st).bind fun d st1 => match walkOf d st1 with
    | some p => .ok p st1
    | none => .bad
  | .rng a, ρ, st => (ev a ρ st).bind fun d st1 => match d with
    | .int j => if small62 j then .ok (rngD 0 j.toNat, []) st1 else .bad
    | _ => .bad
  | .rng2 a b, ρ, st => (ev a ρ st).bind fun d st1 => (ev b ρ st1).bind fun e st2 => match d, e with
    | .int i, .int j => if small62 i && small62 j then .ok (rngD i (j - i).toNat, []) st2 else .bad
    | _, _ => .bad
  | .enm e, ρ, st => (ev e ρ st).bind fun d st1 => match seqOf d st1 with
    | some p => .ok (zipI 0 p.1, p.2) st1
    | none => .bad
  | .zip a b, ρ, st => (ev a ρ st).bind fun d st1 => (ev b ρ st1).bind fun e st2 => match seqOf d st2, seqOf e st2 with
    | some p, some q => if sameK d e then .ok (zipD p.1 q.1, p.2 ++ q.2) st2 else .bad
    | _, _ => .bad
end

def SR.ofR {α : Type} (ρ : Env) (r : R α) (f : α → Sto → SR) : SR := match r with
  | .bad => .bad
  | .exc x st => .exc x ρ st
  | .ok a st => f a st
mutual
def exc : St → Env → Sto → SR
  | .asg t e, ρ, st => SR.ofR ρ (ev C e ρ st) fun d st1 => match IP.asg t d ρ st1 with
    | some ρ' => .next ρ' st1
    | none => .bad
  | .aset o i e, ρ, st => SR.ofR ρ (ev C e ρ st) fun d st1 => SR.ofR ρ (ev C o ρ st1) fun x st2 => SR.ofR ρ (ev C i ρ st2) fun y st3 =>
      match x with
      | .ref n => (match st3[n]? with
        | some (.lst ds) => (match y with
          | .int j => (match L2.ixN ds.length j with
            | some k => .next ρ (st3.set n (.lst (ds.set k d)))
            | none => .bad)
          | _ => .bad)
        | some (.dic kvs) => if alikeK kvs y && decide (kvs.length < LIM) then .next ρ (st3.set n (.dic (dput kvs y d))) else .bad
        | _ => .bad)
      | _ => .bad
  | .afld o f e, ρ, st => SR.ofR ρ (ev C e ρ st) fun d st1 => SR.ofR ρ (ev C o ρ st1) fun x st2 =>
      match x with
      | .ref n => (match st2[n]? with
        | some (.ins c fs) => if fs.length < 900 then .next ρ (st2.set n (.ins c (putA f d fs))) else .bad
        | _ => .bad)
      | _ => .bad
  | .ife c a b, ρ, st => SR.ofR ρ (ev C c ρ st) fun d st1 => match d with
    | .bl true => excs a ρ st1
    | .bl false => excs b ρ st1
    | _ => .bad
  | .fr t it body, ρ, st => SR.ofR ρ (evi C it ρ st) fun p st1 =>
      if okW p.2 st1 then forL (fun d ρ' st' => match IP.asg t d ρ' st' with
        | some ρ'' => excs body ρ'' st'
        | none => .bad) p.2 p.1 ρ st1 else .bad
  | .whl c body, ρ, st => whlL (fun ρ' st' => ev C c ρ' st') (fun ρ' st' => excs body ρ' st') W ρ st
  | .ret e, ρ, st => SR.ofR ρ (ev C e ρ st) fun d st1 => .ret d st1
  | .exp e, ρ, st => SR.ofR ρ (ev C e ρ st) fun _ st1 => .next ρ st1
  | .pass, ρ, st => .next ρ st
  | .cont, ρ, st => .cont ρ st
  | .rse c, ρ, st => .exc ⟨c, none⟩ ρ st
  | .rsw c e, ρ, st => SR.ofR ρ (ev C e ρ st) fun d st1 => .exc ⟨c, some d⟩ ρ st1
  | .trya _ _ _ _, _, _ => .bad
def excs : Sts → Env → Sto → SR
  | .nil, ρ, st => .next ρ st
  | .cons s ss, ρ, st => match exc s ρ st with
    | .next ρ' st' => excs ss ρ' st'
    | r => r
end
end

/-- a def: its parameters, its slots, its body; a class: its __init__ -/
inductive Def where
  | fn (np ns : Nat) (body : Sts)
  | cls (init : Str)
abbrev Tab := Str → Option Def

def SR.fin : SR → R D
  | .ret d st => .ok d st
  | .next _ st => .ok .non st
  | .exc x _ st => .exc x st
  | _ => .bad
def callD (T : Tab) (W : Nat) : Nat → Str → List D → Sto → R D
  | 0, _, _, _ => .bad
  | n + 1, f, ds, st => match T f with
    | some (.fn np ns body) => if ds.length = np then (excs (callD T W n) W body (ds.map some ++ List.replicate (ns - np) none) st).fin else .bad
    | some (.cls i) => (callD T W n i (.ref st.length :: ds) (st ++ [.ins f []])).bind fun d st1 => if d = .non then .ok (.ref st.length) st1 else .bad
    | none => .bad
end IP

/-! IpC: what stands for what: the interpreter's values and store beside the hand layer's values and heap. -/
namespace IP
open PySem PySem.Spec PyProof.Rows
abbrev V := L2.V
abbrev Hp := L2.Hp
abbrev HO := L2.HO

/-- the ground: the program, its world, what its top has written, the module's names -/
structure Gd where
  P : Program
  w : World
  K : PySem.W.Frag
  mg : Str → Option Value

mutual
/-- the value v stands for d: φ tells where the store's cells lie -/
inductive VR (g : Gd) (φ : List Addr) (H : Hp) : D → V → Prop
  | non : VR g φ H .non .non
  | bl (b : Bool) : VR g φ H (.bl b) (.bl b)
  | int (i : Int) : VR g φ H (.int i) (.int i)
  | str (x : Str) : VR g φ H (.str x) (.str x)
  | tup {a : Addr} {ds : List D} {vs : List V} : H a = some (.tup vs) → VRs g φ H ds vs → VR g φ H (.tup ds) (.ref a)
  | ref {n : Nat} {a : Addr} : φ[n]? = some a → VR g φ H (.ref n) (.ref a)
  | rof {a : Addr} {ns : List Int} {o : Obj} : H a = some (.frz o (.lst (ns.map L2.V.int))) → VR g φ H (.ro ns) (.ref a)
  | rok {a : Addr} {ns : List Int} : L2.SqL g.K (fun _ => none) a (ns.map L2.V.int) → VR g φ H (.ro ns) (.ref a)
  | fn {x : Str} {a : Addr} : g.mg x = some (.ref a) → VR g φ H (.fn x) (.ref a)
inductive VRs (g : Gd) (φ : List Addr) (H : Hp) : List D → List V → Prop
  | nil : VRs g φ H [] []
  | cons {d : D} {v : V} {ds : List D} {vs : List V} : VR g φ H d v → VRs g φ H ds vs → VRs g φ H (d :: ds) (v :: vs)
end

/-- from one heap to the next one: cells may be more, and changed; all else that is tracked stays -/
structure Stp (φ : List Addr) (H : Hp) (φ' : List Addr) (H' : Hp) : Prop where
  pre : ∀ (n : Nat) (a : Addr), φ[n]? = some a → φ'[n]? = some a
  fr : ∀ (a : Addr) (o : HO), H a = some o → a ∉ φ → H' a = some o
  tup : ∀ (a : Addr) (vs : List V), H a = some (.tup vs) → H' a = some (.tup vs)
  frz : ∀ (a : Addr) (o : Obj) (u : HO), H a = some (.frz o u) → H' a = some (.frz o u)
  new : ∀ a : Addr, a ∈ φ' → a ∉ φ → H a = none
theorem Stp.refl (φ : List Addr) (H : Hp) : Stp φ H φ H := ⟨fun _ _ e => e, fun _ _ e _ => e, fun _ _ e => e, fun _ _ _ e => e, fun _ h n => absurd h n⟩
theorem Stp.mem {φ φ' : List Addr} {H H' : Hp} (s : Stp φ H φ' H') {a : Addr} (h : a ∈ φ) : a ∈ φ' := by
  obtain ⟨n, hn, e⟩ := List.mem_iff_getElem.mp h
  exact List.mem_of_getElem? (s.pre n a (by rw [List.getElem?_eq_getElem hn, e]))
theorem Stp.trans {φ φ' φ'' : List Addr} {H H' H'' : Hp} (s : Stp φ H φ' H') (t : Stp φ' H' φ'' H'') : Stp φ H φ'' H'' where
  pre := fun n a e => t.pre n a (s.pre n a e)
  fr := fun a o e n => t.fr a o (s.fr a o e n) fun h => by
    have := s.new a h n
    rw [e] at this; cases this
  tup := fun a vs e => t.tup a vs (s.tup a vs e)
  frz := fun a o u e => t.frz a o u (s.frz a o u e)
  new := fun a h n => by
    by_cases h' : a ∈ φ'
    · exact s.new a h' n
    · have e := t.new a h h'
      cases q : H a with
      | none => rfl
      | some o =>
        rw [s.fr a o q n] at e; cases e

section
variable {g : Gd} {φ φ' : List Addr} {H H' : Hp}
mutual
theorem VR.mono (s : Stp φ H φ' H') : ∀ {d : D} {v : V}, VR g φ H d v → VR g φ' H' d v
  | _, _, .non => .non
  | _, _, .bl b => .bl b
  | _, _, .int i => .int i
  | _, _, .str x => .str x
  | _, _, .tup e r => .tup (s.tup _ _ e) (VRs.mono s r)
  | _, _, .ref e => .ref (s.pre _ _ e)
  | _, _, .rof e => .rof (s.frz _ _ _ e)
  | _, _, .rok e => .rok e
  | _, _, .fn e => .fn e
theorem VRs.mono (s : Stp φ H φ' H') : ∀ {ds : List D} {vs : List V}, VRs g φ H ds vs → VRs g φ' H' ds vs
  | _, _, .nil => .nil
  | _, _, .cons r t => .cons (VR.mono s r) (VRs.mono s t)
end
theorem VRs.length : ∀ {ds : List D} {vs : List V}, VRs g φ H ds vs → ds.length = vs.length
  | _, _, .nil => rfl
  | _, _, .cons _ t => by rw [List.length_cons, List.length_cons, t.length]
theorem VRs.get : ∀ {ds : List D} {vs : List V} {i : Nat} {d : D}, VRs g φ H ds vs → ds[i]? = some d → ∃ v, vs[i]? = some v ∧ VR g φ H d v
  | _, _, _, _, .nil, e => by simp at e
  | _, _, 0, _, .cons r _, e => by simp at e; subst e; exact ⟨_, rfl, r⟩
  | _, _, i + 1, _, .cons _ t, e => by
    obtain ⟨v, h1, h2⟩ := VRs.get (i := i) t (by simpa using e)
    exact ⟨v, by simpa using h1, h2⟩
theorem VRs.append : ∀ {ds es : List D} {vs us : List V}, VRs g φ H ds vs → VRs g φ H es us → VRs g φ H (ds ++ es) (vs ++ us)
  | _, _, _, _, .nil, s => s
  | _, _, _, _, .cons r t, s => .cons r (VRs.append t s)
theorem VRs.one {d : D} {v : V} (r : VR g φ H d v) : VRs g φ H [d] [v] := .cons r .nil
theorem VRs.set : ∀ {ds : List D} {vs : List V} {d : D} {v : V} (i : Nat), VRs g φ H ds vs → VR g φ H d v → VRs g φ H (ds.set i d) (vs.set i v)
  | _, _, _, _, _, .nil, _ => .nil
  | _, _, _, _, 0, .cons _ t, q => .cons q t
  | _, _, _, _, i + 1, .cons r t, q => .cons r (VRs.set i t q)
theorem VRs.drop : ∀ {ds : List D} {vs : List V} (n : Nat), VRs g φ H ds vs → VRs g φ H (ds.drop n) (vs.drop n)
  | _, _, 0, r => r
  | _, _, _ + 1, .nil => .nil
  | _, _, n + 1, .cons _ t => VRs.drop n t
theorem VRs.take : ∀ {ds : List D} {vs : List V} (n : Nat), VRs g φ H ds vs → VRs g φ H (ds.take n) (vs.take n)
  | _, _, 0, _ => .nil
  | _, _, _ + 1, .nil => .nil
  | _, _, n + 1, .cons r t => .cons r (VRs.take n t)
theorem VRs.dropLast : ∀ {ds : List D} {vs : List V}, VRs g φ H ds vs → VRs g φ H ds.dropLast vs.dropLast
  | _, _, .nil => .nil
  | _, _, .cons _ .nil => .nil
  | _, _, .cons r (.cons q t) => .cons r (VRs.dropLast (.cons q t))
theorem VRs.eraseIdx : ∀ {ds : List D} {vs : List V} (i : Nat), VRs g φ H ds vs → VRs g φ H (ds.eraseIdx i) (vs.eraseIdx i)
  | _, _, _, .nil => .nil
  | _, _, 0, .cons _ t => t
  | _, _, i + 1, .cons r t => .cons r (VRs.eraseIdx i t)
theorem VRs.rep {ds : List D} {vs : List V} (r : VRs g φ H ds vs) : ∀ k : Nat, VRs g φ H (List.replicate k ds).flatten (List.replicate k vs).flatten
  | 0 => .nil
  | k + 1 => by
    rw [List.replicate_succ, List.replicate_succ, List.flatten_cons, List.flatten_cons]
    exact r.append (VRs.rep r k)
end

/-- an object that is pinned whole -/
def pinO (a : Addr) (o : Obj) : HO := .ext fun h => h.get? a = some o


mutual
def toKey : D → NestedKey
  | .int i => .num i
  | .str x => .text x
  | .tup ds => .tup (toKeys ds)
  | _ => .none
def toKeys : List D → List NestedKey
  | [] => []
  | d :: ds => toKey d :: toKeys ds
end
def toFlat : D → L2.Key
  | .int i => .inl i
  | .str x => .inr x
  | _ => .inl 0

/-- a dict with flat keys: its entries by value -/
def FlatR (g : Gd) (φ : List Addr) (H : Hp) (a : Addr) (o : Obj) (kvs : List (D × D)) : Prop :=
  (∀ p ∈ kvs, keyKind p.1 = some .flat) ∧ ∃ vs : List (L2.Key × Value), (∀ h : Heap, h.get? a = some o → h.DictOf (L2.mixKind g.P g.w) a vs) ∧
    Paired (fun (p : D × D) (q : L2.Key × Value) => toFlat p.1 = q.1 ∧ ∃ v, VR g φ H p.2 v ∧ L2.RelV v q.2) kvs vs
/-- .. with tuples as keys: where they lie -/
def DeepR (g : Gd) (φ : List Addr) (H : Hp) (a : Addr) (o : Obj) (kvs : List (D × D)) : Prop :=
  (∀ p ∈ kvs, keyKind p.1 = some .deep) ∧ ∃ (xs : List (NestedKey × Addr × Value)) (es : Array DictEntry) (ep : Nat),
    o.ExactDict ∧ o.data = .dict es ep ∧ es.toList = xs.map (entryOfKey (nestedKind g.P g.w)) ∧ (xs.map (·.1)).Nodup ∧
    Paired (fun (p : D × D) (q : NestedKey × Addr × Value) => toKey p.1 = q.1 ∧ VR g φ H p.1 (.ref q.2.1) ∧ ∃ v, VR g φ H p.2 v ∧ L2.RelV v q.2.2) kvs xs
def FsR (g : Gd) (φ : List Addr) (H : Hp) : List (Str × D) → List (Str × V) → Prop := Paired fun p q => p.1 = q.1 ∧ VR g φ H p.2 q.2

/-- the cell c lies at a -/
def CellR (g : Gd) (φ : List Addr) (H : Hp) (a : Addr) : Cell → Prop
  | .lst ds => ∃ vs, H a = some (.lst vs) ∧ VRs g φ H ds vs
  | .dic kvs => ∃ o, H a = some (pinO a o) ∧ (a == sysModules) = false ∧ kvs.length ≤ LIM ∧ (FlatR g φ H a o kvs ∨ DeepR g φ H a o kvs)
  | .ins C fs => ∃ (Ca dx : Addr) (fs' : List (Str × V)), g.mg C = some (.ref Ca) ∧ H a = some (.ins Ca dx fs') ∧ FsR g φ H fs fs'

structure StoR (g : Gd) (φ : List Addr) (H : Hp) (st : Sto) : Prop where
  len : φ.length = st.length
  nd : φ.Nodup
  cell : ∀ (n : Nat) (a : Addr) (c : Cell), φ[n]? = some a → st[n]? = some c → CellR g φ H a c
/-- the slots -/
structure EnvR (g : Gd) (φ : List Addr) (H : Hp) (ρ : Env) (σ : L2.St) : Prop where
  len : ρ.length = σ.length
  at_ : ∀ (i : Nat) (d : D), ρ[i]? = some (some d) → ∃ v, σ[i]? = some (some v) ∧ VR g φ H d v

theorem Paired.mapR {α β : Type} {F G : α → β → Prop} : ∀ {l : List α} {m : List β}, Paired F l m → (∀ a b, F a b → G a b) → Paired G l m
  | _, _, .nil, _ => .nil
  | _, _, .cons r t, f => .cons (f _ _ r) (Paired.mapR t f)

section
variable {g : Gd} {φ φ' : List Addr} {H H' : Hp} {st : Sto}
theorem EnvR.mono {ρ : Env} {σ : L2.St} (s : Stp φ H φ' H') (e : EnvR g φ H ρ σ) : EnvR g φ' H' ρ σ :=
  ⟨e.len, fun i d h => let ⟨v, h1, h2⟩ := e.at_ i d h; ⟨v, h1, h2.mono s⟩⟩
theorem FsR.mono {fs : List (Str × D)} {fs' : List (Str × V)} (s : Stp φ H φ' H') (r : FsR g φ H fs fs') : FsR g φ' H' fs fs' := Paired.mapR r fun _ _ h => ⟨h.1, h.2.mono s⟩
/-- a cell that lies as it lay -/
theorem CellR.mono {a : Addr} {c : Cell} (s : Stp φ H φ' H') (e : H' a = H a) (r : CellR g φ H a c) : CellR g φ' H' a c := by
  cases c with
  | lst ds =>
    obtain ⟨vs, h1, h2⟩ := r
    exact ⟨vs, e.trans h1, h2.mono s⟩
  | dic kvs =>
    obtain ⟨o, h1, h2, h3, h4⟩ := r
    refine ⟨o, e.trans h1, h2, h3, ?_⟩
    rcases h4 with ⟨k, vs, q, p⟩ | ⟨k, xs, es, ep, q1, q2, q3, q4, p⟩
    · exact .inl ⟨k, vs, q, Paired.mapR p fun _ _ ⟨z1, v, z2, z3⟩ => ⟨z1, v, z2.mono s, z3⟩⟩
    · exact .inr ⟨k, xs, es, ep, q1, q2, q3, q4, Paired.mapR p fun _ _ ⟨z1, z0, v, z2, z3⟩ => ⟨z1, z0.mono s, v, z2.mono s, z3⟩⟩
  | ins C fs =>
    obtain ⟨Ca, dx, fs', h1, h2, h3⟩ := r
    exact ⟨Ca, dx, fs', h1, e.trans h2, h3.mono s⟩
theorem StoR.lt {n : Nat} {c : Cell} (S : StoR g φ H st) (h : st[n]? = some c) : ∃ a, φ[n]? = some a ∧ CellR g φ H a c := by
  obtain ⟨hn, _⟩ := List.getElem?_eq_some_iff.mp h
  have hn' : n < φ.length := by rw [S.len]; exact hn
  exact ⟨φ[n], List.getElem?_eq_getElem hn', S.cell n _ c (List.getElem?_eq_getElem hn') h⟩
/-- a cell's address holds a cell -/
def isCell : HO → Prop
  | .lst _ => True
  | .ext _ => True
  | .ins _ _ _ => True
  | _ => False
theorem CellR.is {a : Addr} {c : Cell} (r : CellR g φ H a c) : ∃ o, H a = some o ∧ isCell o := by
  cases c with
  | lst ds => obtain ⟨vs, h1, _⟩ := r; exact ⟨_, h1, trivial⟩
  | dic kvs => obtain ⟨o, h1, _⟩ := r; exact ⟨_, h1, trivial⟩
  | ins C fs => obtain ⟨Ca, dx, fs', _, h2, _⟩ := r; exact ⟨_, h2, trivial⟩
theorem StoR.is {a : Addr} (S : StoR g φ H st) (h : a ∈ φ) : ∃ o, H a = some o ∧ isCell o := by
  obtain ⟨n, hn, e⟩ := List.mem_iff_getElem.mp h
  have hn' : n < st.length := by rw [← S.len]; exact hn
  exact (S.cell n a st[n] (by rw [List.getElem?_eq_getElem hn, e]) (List.getElem?_eq_getElem hn')).is
theorem StoR.notin {a : Addr} (S : StoR g φ H st) (h : H a = none) : a ∉ φ := fun m => by
  obtain ⟨o, e, _⟩ := S.is m
  rw [h] at e; cases e
theorem StoR.tupNot {a : Addr} {vs : List V} (S : StoR g φ H st) (h : H a = some (.tup vs)) : a ∉ φ := fun m => by
  obtain ⟨o, e, i⟩ := S.is m
  rw [h] at e; cases e; exact i
theorem StoR.frzNot {a : Addr} {o : Obj} {u : HO} (S : StoR g φ H st) (h : H a = some (.frz o u)) : a ∉ φ := fun m => by
  obtain ⟨o, e, i⟩ := S.is m
  rw [h] at e; cases e; exact i

/-- a new thing at p, no cell -/
theorem StoR.laid {p : Addr} {o : HO} (S : StoR g φ H st) (hp : H p = none) : Stp φ H φ (L2.upd H p o) ∧ StoR g φ (L2.upd H p o) st := by
  have hn := S.notin hp
  have s : Stp φ H φ (L2.upd H p o) := ⟨fun _ _ e => e, fun a u e _ => by rw [L2.upd_ne (L2.ne_of_none e hp)]; exact e, fun a vs e => by rw [L2.upd_ne (L2.ne_of_none e hp)]; exact e,
    fun a ob u e => by rw [L2.upd_ne (L2.ne_of_none e hp)]; exact e, fun _ h n => absurd h n⟩
  refine ⟨s, S.len, S.nd, fun n a c h1 h2 => (S.cell n a c h1 h2).mono s (L2.upd_ne fun q => hn ?_)⟩
  rw [← q]; exact List.mem_of_getElem? h1
/-- a new cell at p -/
theorem StoR.alloc {p : Addr} {o : HO} {c : Cell} (S : StoR g φ H st) (hp : H p = none)
    (hc : Stp φ H (φ ++ [p]) (L2.upd H p o) → CellR g (φ ++ [p]) (L2.upd H p o) p c) : Stp φ H (φ ++ [p]) (L2.upd H p o) ∧ StoR g (φ ++ [p]) (L2.upd H p o) (st ++ [c]) := by
  have hn := S.notin hp
  have pre : ∀ (n : Nat) (a : Addr), φ[n]? = some a → (φ ++ [p])[n]? = some a := fun n a e => by
    rw [List.getElem?_append_left (List.getElem?_eq_some_iff.mp e).1]; exact e
  have s : Stp φ H (φ ++ [p]) (L2.upd H p o) := ⟨pre, fun a u e _ => by rw [L2.upd_ne (L2.ne_of_none e hp)]; exact e, fun a vs e => by rw [L2.upd_ne (L2.ne_of_none e hp)]; exact e,
    fun a ob u e => by rw [L2.upd_ne (L2.ne_of_none e hp)]; exact e, fun a h n => by
      rcases List.mem_append.mp h with h | h
      · exact absurd h n
      · rw [List.mem_singleton.mp h]; exact hp⟩
  refine ⟨s, by rw [List.length_append, List.length_append, S.len]; rfl, ?_, fun n a c' h1 h2 => ?_⟩
  · rw [List.nodup_append]
    exact ⟨S.nd, by simp, fun a ha b hb e => hn (by rw [List.mem_singleton.mp hb] at e; rw [← e]; exact ha)⟩
  · by_cases hlt : n < st.length
    · rw [List.getElem?_append_left (by rw [S.len]; exact hlt)] at h1
      rw [List.getElem?_append_left hlt] at h2
      refine (S.cell n a c' h1 h2).mono s (L2.upd_ne fun q => hn ?_)
      rw [← q]; exact List.mem_of_getElem? h1
    · have e : n = st.length := by
        have := (List.getElem?_eq_some_iff.mp h2).1
        rw [List.length_append] at this
        simp at this; omega
      subst e
      rw [List.getElem?_append_right (Nat.le_refl _)] at h2
      rw [List.getElem?_append_right (by rw [S.len]; exact Nat.le_refl _)] at h1
      simp at h2
      rw [S.len] at h1
      simp at h1
      subst h1 h2
      exact hc s
/-- a cell that is written -/
theorem StoR.write {n : Nat} {a : Addr} {o : HO} {c : Cell} (S : StoR g φ H st) (hn : φ[n]? = some a)
    (hc : Stp φ H φ (L2.upd H a o) → CellR g φ (L2.upd H a o) a c) : Stp φ H φ (L2.upd H a o) ∧ StoR g φ (L2.upd H a o) (st.set n c) := by
  have hm : a ∈ φ := List.mem_of_getElem? hn
  have ne : ∀ {b : Addr} {u : HO}, H b = some u → ¬ isCell u → b ≠ a := fun {b u} e i q => by
    obtain ⟨o', e', i'⟩ := S.is hm
    rw [← q, e] at e'; cases e'; exact i i'
  have s : Stp φ H φ (L2.upd H a o) := ⟨fun _ _ e => e, fun b u e nb => by rw [L2.upd_ne (fun q => nb (by rw [q]; exact hm))]; exact e, fun b vs e => by rw [L2.upd_ne (ne e fun z => z)]; exact e,
    fun b ob u e => by rw [L2.upd_ne (ne e fun z => z)]; exact e, fun _ h n => absurd h n⟩
  refine ⟨s, by rw [List.length_set]; exact S.len, S.nd, fun m b c' h1 h2 => ?_⟩
  by_cases q : m = n
  · subst q
    rw [hn] at h1
    have e := Option.some.inj h1
    subst e
    have hl : m < st.length := by rw [← S.len]; exact (List.getElem?_eq_some_iff.mp hn).1
    rw [List.getElem?_set_self hl] at h2
    cases h2
    exact hc s
  · rw [List.getElem?_set_ne (Ne.symm q)] at h2
    refine (S.cell m b c' h1 h2).mono s (L2.upd_ne fun z => q ?_)
    subst z
    exact (List.getElem?_inj (List.getElem?_eq_some_iff.mp h1).1 S.nd).mp (h1.trans hn.symm)
end

/-! ### what is wanted of an end -/
/-- the exception x -/
def ExnR (g : Gd) (φ : List Addr) (H : Hp) (x : Exn) (cls : Value) (d : Option Addr) : Prop :=
  (∃ a, g.mg x.cls = some (.ref a) ∧ cls = .ref a) ∧ match x.why with
    | none => d = none
    | some w => ∃ dx v, d = some dx ∧ H dx = some (.xd [(Str.ofString "why", v)]) ∧ VR g φ H w v

section
variable {g : Gd}
def post {α β : Type} (rel : List Addr → Hp → α → β → Prop) (g : Gd) (φ : List Addr) (H : Hp) (r : R α) (Q : β → Hp → Prop) (E : L2.XK) : Prop :=
  match r with
  | .bad => False
  | .ok a st' => ∀ φ' H' v, Stp φ H φ' H' → StoR g φ' H' st' → rel φ' H' a v → Q v H'
  | .exc x st' => ∀ φ' H' cls dx, Stp φ H φ' H' → StoR g φ' H' st' → ExnR g φ' H' x cls dx → E cls dx H'
theorem post_mono {α β : Type} {rel : List Addr → Hp → α → β → Prop} {φ φ' : List Addr} {H H' : Hp} {r : R α} {Q : β → Hp → Prop} {E : L2.XK} (s : Stp φ H φ' H') (h : post rel g φ H r Q E) : post rel g φ' H' r Q E := by
  cases r with
  | bad => exact h
  | ok a st => exact fun φ2 H2 v t => h φ2 H2 v (s.trans t)
  | exc x st => exact fun φ2 H2 c d t => h φ2 H2 c d (s.trans t)
theorem post_bind {α β α' β' : Type} {rel : List Addr → Hp → α → β → Prop} {rel' : List Addr → Hp → α' → β' → Prop} {φ : List Addr} {H : Hp} {r : R α} {f : α → Sto → R α'} {Q : β' → Hp → Prop} {E : L2.XK} {Q1 : β → Hp → Prop}
    (h : post rel' g φ H (r.bind f) Q E) (k : ∀ a st1 φ1 H1 v, r = .ok a st1 → Stp φ H φ1 H1 → StoR g φ1 H1 st1 → rel φ1 H1 a v → post rel' g φ1 H1 (f a st1) Q E → Q1 v H1) : post rel g φ H r Q1 E := by
  cases r with
  | bad => exact h
  | exc x st => exact h
  | ok a st => exact fun φ1 H1 v s S q => k a st φ1 H1 v rfl s S q (post_mono s h)

abbrev WX := L2.WX
/-- an expression's reading by the interpreter -/
def tI (g : Gd) (W : WX) (f : Env → Sto → R D) : L2.TE := fun σ H Q => ∃ ρ st φ, StoR g φ H st ∧ EnvR g φ H ρ σ ∧ post (VR g) g φ H (f ρ st) Q (fun c d H' => W c d σ H')
def tIs (g : Gd) (W : WX) (f : Env → Sto → R (List D)) : L2.TA := fun σ H Q => ∃ ρ st φ, StoR g φ H st ∧ EnvR g φ H ρ σ ∧ post (VRs g) g φ H (f ρ st) Q (fun c d H' => W c d σ H')
def isB (φ : List Addr) (H : Hp) (d : D) (b : Bool) : Prop := d = .bl b
def tIt (g : Gd) (W : WX) (f : Env → Sto → R D) : L2.TT := fun σ H Q => ∃ ρ st φ, StoR g φ H st ∧ EnvR g φ H ρ σ ∧ post isB g φ H (f ρ st) Q (fun c d H' => W c d σ H') ∧ ∀ d st', f ρ st = .ok d st' → ∃ b, d = .bl b
end
/-- the ground of a context -/
def gd (X : L2.Cx) : Gd := ⟨X.prog, X.w, X.K, X.mg⟩
theorem pe_weak {X : L2.Cx} {e : Expr} {t t' : L2.TE} (h : L2.PE X e t) (k : ∀ σ H Q, t' σ H Q → t σ H Q) : L2.PE X e t' := ⟨fun pins s σ H Q I q => h.run pins s σ H Q I (k σ H Q q)⟩
theorem pa_weak {X : L2.Cx} {e : List Expr} {t t' : L2.TA} (h : L2.PA X e t) (k : ∀ σ H Q, t' σ H Q → t σ H Q) : L2.PA X e t' := ⟨fun pos pins s σ H Q I q => h.run pos pins s σ H Q I (k σ H Q q)⟩
theorem pt_weak {X : L2.Cx} {e : Expr} {t t' : L2.TT} (h : L2.PT X e t) (k : ∀ σ H Q, t' σ H Q → t σ H Q) : L2.PT X e t' := ⟨fun pins s σ H Q I q => h.run pins s σ H Q I (k σ H Q q)⟩
theorem pw_weak {X : L2.Cx} {e : Expr} {t t' : L2.TT} (h : L2.PW X e t) (k : ∀ σ H Q, t' σ H Q → t σ H Q) : L2.PW X e t' := ⟨fun wh pins s σ H Q I q => h.run wh pins s σ H Q I (k σ H Q q)⟩
theorem ps_weak {X : L2.Cx} {e : Stmt} {t t' : L2.TS} (h : L2.PS X e t) (k : ∀ D σ H, t' D σ H → t D σ H) : L2.PS X e t' := ⟨fun pins s σ H D I q => h.run pins s σ H D I (k D σ H q)⟩
theorem pss_weak {X : L2.Cx} {e : List Stmt} {t t' : L2.TS} (h : L2.PSs X e t) (k : ∀ D σ H, t' D σ H → t D σ H) : L2.PSs X e t' := ⟨fun pins s σ H D I q => h.run pins s σ H D I (k D σ H q)⟩
end IP

/-! IpD: the operators. -/
namespace IP
open PySem PySem.Spec PyProof.Rows
section
variable {g : Gd} {φ : List Addr} {H : Hp} {st : Sto}
theorem dp_ints (K : PySem.W.Frag) (H : Hp) : ∀ ns : List Int, L2.DpAll K H (ns.map L2.V.int) (ns.map PyData.int)
  | [] => .nil
  | n :: ns => .cons (.int n) (dp_ints K H ns)
theorem sq_up {K : PySem.W.Frag} {H : Hp} {a : Addr} {xs : List V} (h : L2.SqL K (fun _ => none) a xs) : L2.SqL K H a xs := by
  rcases h with h | h
  · rcases h with h | ⟨o, h⟩ <;> cases h
  · exact .inr h
theorem lay_ints : ∀ ns : List Int, PyData.canLayAll0 (ns.map PyData.int) = true ∧ PyData.depthAll (ns.map PyData.int) = 0
  | [] => by simp [PyData.canLayAll0, PyData.depthAll]
  | n :: ns => by
    have h := lay_ints ns
    simp [PyData.canLayAll0, PyData.depthAll, PyData.canLay0, PyData.depth, h.1, h.2]
mutual
theorem dp_of (S : StoR g φ H st) : ∀ (n : Nat) (d : D) (v : V) (p : PyData), VR g φ H d v → toData st n d = some p → L2.Dp g.K H v p ∧ p.canLay0 = true ∧ p.depth ≤ n
  | n, .non, v, p, r, e => by
    cases r
    simp only [toData] at e; cases e
    exact ⟨.non, by simp [PyData.canLay0], by simp [PyData.depth]⟩
  | n, .bl b, v, p, r, e => by
    cases r
    simp only [toData] at e; cases e
    exact ⟨.bl b, by simp [PyData.canLay0], by simp [PyData.depth]⟩
  | n, .int i, v, p, r, e => by
    cases r
    simp only [toData] at e; cases e
    exact ⟨.int i, by simp [PyData.canLay0], by simp [PyData.depth]⟩
  | n, .str x, v, p, r, e => by
    cases r
    simp only [toData] at e
    split at e
    · rename_i hx
      cases e
      exact ⟨.str x, by simpa [PyData.canLay0] using hx, by simp [PyData.depth]⟩
    · cases e
  | 0, .tup ds, v, p, r, e => by simp [toData] at e
  | n + 1, .tup ds, v, p, r, e => by
    cases r with
    | tup h hs =>
      simp only [toData] at e
      obtain ⟨ps, e1, e2⟩ := Option.map_eq_some_iff.mp e
      subst e2
      obtain ⟨h1, h2, h3⟩ := dps_of S n ds _ ps hs e1
      exact ⟨.tup (L2.SqT.of h) h1, by simpa [PyData.canLay0] using h2, by simp only [PyData.depth]; omega⟩
  | 0, .ref m, v, p, r, e => by simp [toData] at e
  | n + 1, .ref m, v, p, r, e => by
    simp only [toData] at e
    cases q : st[m]? with
    | none => simp [q] at e
    | some c =>
      cases c with
      | lst ds =>
        simp only [q] at e
        obtain ⟨ps, e1, e2⟩ := Option.map_eq_some_iff.mp e
        subst e2
        obtain ⟨a, ha, vs, hv, hs⟩ := S.lt q
        cases r with
        | ref hr =>
          rw [ha] at hr; cases hr
          obtain ⟨h1, h2, h3⟩ := dps_of S n ds _ ps hs e1
          exact ⟨.lst (L2.SqL.of hv) h1, by simpa [PyData.canLay0] using h2, by simp only [PyData.depth]; omega⟩
      | dic _ => simp [q] at e
      | ins _ _ => simp [q] at e
  | 0, .ro ns, v, p, r, e => by simp [toData] at e
  | n + 1, .ro ns, v, p, r, e => by
    simp only [toData] at e; cases e
    obtain ⟨h2, h3⟩ := lay_ints ns
    refine ⟨?_, by simpa [PyData.canLay0] using h2, by simp only [PyData.depth]; omega⟩
    cases r with
    | rof h => exact .lst (.inl (.inr ⟨_, h⟩)) (dp_ints _ _ ns)
    | rok h => exact .lst (sq_up h) (dp_ints _ _ ns)
  | n, .fn x, v, p, r, e => by cases n <;> simp [toData] at e
  | n, .exn x w, v, p, r, e => by cases n <;> simp [toData] at e
theorem dps_of (S : StoR g φ H st) : ∀ (n : Nat) (ds : List D) (vs : List V) (ps : List PyData), VRs g φ H ds vs → toDatas st n ds = some ps → L2.DpAll g.K H vs ps ∧ PyData.canLayAll0 ps = true ∧ PyData.depthAll ps ≤ n
  | n, [], vs, ps, r, e => by
    cases r
    simp only [toDatas] at e; cases e
    exact ⟨.nil, by simp [PyData.canLayAll0], by simp [PyData.depthAll]⟩
  | n, d :: ds, vs, ps, r, e => by
    cases r with
    | cons r rs =>
      simp only [toDatas] at e
      split at e
      · rename_i p ps' e1 e2
        cases e
        obtain ⟨h1, h2, h3⟩ := dp_of S n d _ p r e1
        obtain ⟨k1, k2, k3⟩ := dps_of S n ds _ ps' rs e2
        exact ⟨.cons h1 k1, by simp [PyData.canLayAll0, h2, k2], by simp only [PyData.depthAll]; omega⟩
      · cases e
end
theorem shaped_of {p : PyData} (h : p.canLay0 = true) (k : p.depth ≤ 64) : SeqAt.shaped p = true := by
  unfold SeqAt.shaped
  rw [h, decide_eq_true k]; rfl
theorem eqD_some {a b : D} {c : Bool} (h : eqD st a b = some c) : ∃ p q, toData st 64 a = some p ∧ toData st 64 b = some q ∧ c = PyData.eqv p q := by
  unfold eqD at h
  split at h
  · rename_i p q h1 h2
    cases h
    exact ⟨p, q, h1, h2, rfl⟩
  · cases h
theorem inD_some {a : D} {ds : List D} {c : Bool} (h : inD st a ds = some c) : ∃ p ps, toData st 64 a = some p ∧ toDatas st 63 ds = some ps ∧ c = ps.any fun z => PyData.eqv z p := by
  unfold inD at h
  split at h
  · rename_i p q h1 h2
    cases h
    exact ⟨p, q, h1, h2, rfl⟩
  · cases h

/-! ### + - * % // -/
def rAdd (K : PySem.W.Frag) : L2.R2 := fun x y H Q => (∃ i j, x = .int i ∧ y = .int j ∧ Q (.int (i + j)) H) ∨ (∃ i j, x = .str i ∧ y = .str j ∧ i.length + j.length ≤ sizeLine ∧ Q (.str (i ++ j)) H) ∨ L2.rCatA K x y H Q ∨ L2.rCat x y H Q
theorem op_addI {X : L2.Cx} : L2.OpR X (binaryOp .Add) (rAdd X.K) := L2.op_add.or (L2.op_add_str.or (L2.op_catA.or L2.op_cat))
def rMul (K : PySem.W.Frag) : L2.R2 := fun x y H Q => L2.rI L2.CMul (fun i j => .int (i * j)) x y H Q ∨ L2.rRepT K x y H Q ∨ L2.rRep x y H Q
theorem op_mulI {X : L2.Cx} : L2.OpR X (binaryOp .Mult) (rMul X.K) := L2.op_mul.or (L2.op_repT.or L2.op_rep)

theorem lim_line {n : Nat} (h : n ≤ LIM) : n ≤ sizeLine := by
  rw [sizeLine_eq]; unfold LIM at h; omega
theorem lim_line' {n : Nat} (h : n < LIM) : n < sizeLine := by
  rw [sizeLine_eq]; unfold LIM at h; omega
variable {Q : L2.VK} {E : L2.XK}
theorem alloc_lst {p : Addr} {ds : List D} {vs : List V} (S : StoR g φ H st) (r : VRs g φ H ds vs) (h : post (VR g) g φ H (.ok (.ref st.length) (st ++ [.lst ds])) Q E) (hp : H p = none) : Q (.ref p) (L2.upd H p (.lst vs)) := by
  obtain ⟨s, S'⟩ := S.alloc (c := .lst ds) (o := .lst vs) hp fun s => ⟨vs, L2.upd_same, r.mono s⟩
  refine h _ _ _ s S' (.ref ?_)
  rw [← S.len, List.getElem?_append_right (Nat.le_refl _)]; simp
theorem alloc_tup {p : Addr} {ds : List D} {vs : List V} (S : StoR g φ H st) (r : VRs g φ H ds vs) (h : post (VR g) g φ H (.ok (.tup ds) st) Q E) (hp : H p = none) : Q (.ref p) (L2.upd H p (.tup vs)) := by
  obtain ⟨s, S'⟩ := S.laid (o := .tup vs) hp
  exact h _ _ _ s S' (.tup L2.upd_same (r.mono s))
theorem ok_here {d : D} {v : V} (S : StoR g φ H st) (r : VR g φ H d v) (h : post (VR g) g φ H (.ok d st) Q E) : Q v H := h _ _ _ (Stp.refl _ _) S r
theorem lst_at {n : Nat} {a : Addr} {ds : List D} (S : StoR g φ H st) (h : st[n]? = some (.lst ds)) (ha : φ[n]? = some a) : ∃ vs, H a = some (.lst vs) ∧ VRs g φ H ds vs := by
  obtain ⟨b, hb, q⟩ := S.lt h
  rw [hb] at ha; cases ha
  exact q
theorem add_ok {a b : D} {x y : V} (S : StoR g φ H st) (r1 : VR g φ H a x) (r2 : VR g φ H b y) (h : post (VR g) g φ H (binD .add a b st) Q E) : rAdd g.K x y H Q := by
  cases r1 with
  | int i =>
    cases r2 with
    | int j => exact .inl ⟨i, j, rfl, rfl, ok_here S (.int _) h⟩
    | _ => exact h.elim
  | str i =>
    cases r2 with
    | str j =>
      simp only [binD] at h
      split at h
      · rename_i hl
        exact .inr (.inl ⟨i, j, rfl, rfl, lim_line hl, ok_here S (.str _) h⟩)
      · exact h.elim
    | _ => exact h.elim
  | @tup p ds vs hp hs =>
    cases r2 with
    | @tup q es us hq hu =>
      simp only [binD] at h
      split at h
      · rename_i hl
        refine .inr (.inr (.inl ⟨p, q, vs, us, rfl, rfl, L2.SqT.of hp, L2.SqT.of hq, by rw [← hs.length, ← hu.length]; exact lim_line hl, fun e => ?_, fun _ e => ?_, fun _ _ t ht => ?_⟩))
        · subst e
          cases hs
          exact ok_here S (.tup hq hu) h
        · subst e
          cases hu
          rw [List.append_nil] at h
          exact ok_here S (.tup hp hs) h
        · exact alloc_tup S (hs.append hu) h ht
      · exact h.elim
    | _ => exact h.elim
  | @ref n p hp =>
    cases r2 with
    | @ref m q hq =>
      simp only [binD] at h
      split at h
      · rename_i xs ys h1 h2
        split at h
        · rename_i hl
          obtain ⟨vs, k1, k2⟩ := lst_at S h1 hp
          obtain ⟨us, l1, l2⟩ := lst_at S h2 hq
          exact .inr (.inr (.inr ⟨p, q, vs, us, rfl, rfl, k1, l1, by rw [← k2.length, ← l2.length]; exact lim_line hl, fun t ht => alloc_lst S (k2.append l2) h ht⟩))
        · exact h.elim
      · exact h.elim
    | _ => exact h.elim
  | _ => cases r2 <;> exact h.elim
theorem sub_ok {a b : D} {x y : V} (S : StoR g φ H st) (r1 : VR g φ H a x) (r2 : VR g φ H b y) (h : post (VR g) g φ H (binD .sub a b st) Q E) : L2.rI0 (fun i j => .int (i - j)) x y H Q := by
  cases r1 with
  | int i =>
    cases r2 with
    | int j => exact ⟨i, j, rfl, rfl, ok_here S (.int _) h⟩
    | _ => exact h.elim
  | _ => cases r2 <;> exact h.elim
theorem mul_ok {a b : D} {x y : V} (S : StoR g φ H st) (r1 : VR g φ H a x) (r2 : VR g φ H b y) (h : post (VR g) g φ H (binD .mul a b st) Q E) : rMul g.K x y H Q := by
  cases r1 with
  | int i =>
    cases r2 with
    | int j =>
      simp only [binD] at h
      split at h
      · rename_i hm
        refine .inl ⟨i, j, rfl, rfl, ?_, ok_here S (.int _) h⟩
        unfold mulOk at hm
        rcases Bool.or_eq_true_iff.mp hm with q | q
        · exact .inl (of_decide_eq_true q)
        · exact .inr (of_decide_eq_true q)
      · exact h.elim
    | _ => exact h.elim
  | @tup p ds vs hp hs =>
    cases r2 with
    | int k =>
      simp only [binD] at h
      split at h
      · rename_i hc
        obtain ⟨c1, c2, c3, c4⟩ := hc
        refine .inr (.inl ⟨p, k, vs, rfl, rfl, L2.SqT.of hp, fun e => c1 ?_, c2, c3, by rw [← hs.length]; exact c4, fun t ht => alloc_tup S (hs.rep _) h ht⟩)
        subst e
        cases hs; rfl
      · exact h.elim
    | _ => exact h.elim
  | @ref n p hp =>
    cases r2 with
    | int k =>
      simp only [binD] at h
      split at h
      · rename_i xs h1
        split at h
        · rename_i hc
          obtain ⟨c1, c2, c3⟩ := hc
          obtain ⟨vs, k1, k2⟩ := lst_at S h1 hp
          exact .inr (.inr ⟨p, k, vs, rfl, rfl, k1, c1, c2, by rw [← k2.length]; exact lim_line c3, fun t ht => alloc_lst S (k2.rep _) h ht⟩)
        · exact h.elim
      · exact h.elim
    | _ => exact h.elim
  | _ => cases r2 <;> exact h.elim
theorem mod_ok {a b : D} {x y : V} (S : StoR g φ H st) (r1 : VR g φ H a x) (r2 : VR g φ H b y) (h : post (VR g) g φ H (binD .mod a b st) Q E) : L2.rI (fun _ j => j ≠ 0) (fun i j => .int (i.fmod j)) x y H Q := by
  cases r1 with
  | int i =>
    cases r2 with
    | int j =>
      simp only [binD] at h
      split at h
      · rename_i hm
        exact ⟨i, j, rfl, rfl, hm, ok_here S (.int _) h⟩
      · exact h.elim
    | _ => exact h.elim
  | _ => cases r2 <;> exact h.elim
theorem fdiv_ok {a b : D} {x y : V} (S : StoR g φ H st) (r1 : VR g φ H a x) (r2 : VR g φ H b y) (h : post (VR g) g φ H (binD .fdiv a b st) Q E) : L2.rI L2.CDivN (fun i j => .int (i.fdiv j)) x y H Q := by
  cases r1 with
  | int i =>
    cases r2 with
    | int j =>
      simp only [binD] at h
      split at h
      · rename_i hm
        exact ⟨i, j, rfl, rfl, hm, ok_here S (.int _) h⟩
      · exact h.elim
    | _ => exact h.elim
  | _ => cases r2 <;> exact h.elim

/-! ### comparisons -/
theorem okB_ok {o : Option Bool} (h : post (VR g) g φ H (okB o st) Q E) : ∃ b, o = some b ∧ post (VR g) g φ H (.ok (.bl b) st) Q E := by
  cases o with
  | none => exact h.elim
  | some b => exact ⟨b, rfl, h⟩
theorem eq_ok {a b : D} {x y : V} (S : StoR g φ H st) (r1 : VR g φ H a x) (r2 : VR g φ H b y) (h : post (VR g) g φ H (okB (cmpD .eq a b st) st) Q E) : L2.rEqD g.K x y H Q := by
  obtain ⟨c, hc, h⟩ := okB_ok h
  obtain ⟨p, q, e1, e2, rfl⟩ := eqD_some hc
  obtain ⟨h1, h2, h3⟩ := dp_of S 64 a x p r1 e1
  obtain ⟨k1, k2, k3⟩ := dp_of S 64 b y q r2 e2
  exact ⟨p, q, h1, k1, shaped_of h2 h3, shaped_of k2 k3, ok_here S (.bl _) h⟩
theorem ne_ok {a b : D} {x y : V} (S : StoR g φ H st) (r1 : VR g φ H a x) (r2 : VR g φ H b y) (h : post (VR g) g φ H (okB (cmpD .ne a b st) st) Q E) : L2.rNeD g.K x y H Q := by
  obtain ⟨c, hc, h⟩ := okB_ok h
  obtain ⟨c', hc', rfl⟩ := Option.map_eq_some_iff.mp hc
  obtain ⟨p, q, e1, e2, rfl⟩ := eqD_some hc'
  obtain ⟨h1, h2, h3⟩ := dp_of S 64 a x p r1 e1
  obtain ⟨k1, k2, k3⟩ := dp_of S 64 b y q r2 e2
  exact ⟨p, q, h1, k1, shaped_of h2 h3, shaped_of k2 k3, ok_here S (.bl _) h⟩
theorem lt_ok {a b : D} {x y : V} (S : StoR g φ H st) (r1 : VR g φ H a x) (r2 : VR g φ H b y) (h : post (VR g) g φ H (okB (cmpD .lt a b st) st) Q E) : L2.rI0 (fun i j => .bl (decide (i < j))) x y H Q := by
  cases r1 with
  | int i =>
    cases r2 with
    | int j => exact ⟨i, j, rfl, rfl, ok_here S (.bl _) h⟩
    | _ => exact h.elim
  | _ => cases r2 <;> exact h.elim
theorem le_ok {a b : D} {x y : V} (S : StoR g φ H st) (r1 : VR g φ H a x) (r2 : VR g φ H b y) (h : post (VR g) g φ H (okB (cmpD .le a b st) st) Q E) : L2.rI0 (fun i j => .bl (decide (i ≤ j))) x y H Q := by
  cases r1 with
  | int i =>
    cases r2 with
    | int j => exact ⟨i, j, rfl, rfl, ok_here S (.bl _) h⟩
    | _ => exact h.elim
  | _ => cases r2 <;> exact h.elim
theorem gt_ok {a b : D} {x y : V} (S : StoR g φ H st) (r1 : VR g φ H a x) (r2 : VR g φ H b y) (h : post (VR g) g φ H (okB (cmpD .gt a b st) st) Q E) : L2.rI0 (fun i j => .bl (decide (j < i))) x y H Q := by
  cases r1 with
  | int i =>
    cases r2 with
    | int j => exact ⟨i, j, rfl, rfl, ok_here S (.bl _) h⟩
    | _ => exact h.elim
  | _ => cases r2 <;> exact h.elim
theorem ge_ok {a b : D} {x y : V} (S : StoR g φ H st) (r1 : VR g φ H a x) (r2 : VR g φ H b y) (h : post (VR g) g φ H (okB (cmpD .ge a b st) st) Q E) : L2.rI0 (fun i j => .bl (decide (j ≤ i))) x y H Q := by
  cases r1 with
  | int i =>
    cases r2 with
    | int j => exact ⟨i, j, rfl, rfl, ok_here S (.bl _) h⟩
    | _ => exact h.elim
  | _ => cases r2 <;> exact h.elim
end
end IP

/-! IpE: membership, subscripts, slices, built-in functions (dicts apart). -/
namespace IP
open PySem PySem.Spec PyProof.Rows
section
variable {g : Gd} {φ : List Addr} {H : Hp} {st : Sto} {Q : L2.VK} {E : L2.XK}
/-! ### in -/
theorem flat_of {d : D} {v : V} (r : VR g φ H d v) (f : flatD d = true) : L2.flatV v = true := by
  cases r <;> first | rfl | exact absurd f (by simp [flatD])
theorem flats_of : ∀ {ds : List D} {vs : List V}, VRs g φ H ds vs → ds.all flatD = true → vs.all L2.flatV = true
  | _, _, .nil, _ => rfl
  | _, _, .cons r t, f => by
    rw [List.all_cons, Bool.and_eq_true] at f
    rw [List.all_cons, flat_of r f.1, flats_of t f.2]; rfl
theorem eqV_of {a b : D} {x y : V} {p q : PyData} {n m : Nat} (r1 : VR g φ H a x) (r2 : VR g φ H b y) (f1 : flatD a = true) (f2 : flatD b = true) (h1 : toData st n a = some p) (h2 : toData st m b = some q) : L2.eqV x y = PyData.eqv p q := by
  cases r1 <;> first | (exfalso; simp [flatD] at f1; done) | skip
  all_goals (cases r2 <;> first | (exfalso; simp [flatD] at f2; done) | skip)
  all_goals (cases n <;> cases m <;> simp only [toData] at h1 h2)
  all_goals (first | (split at h1 <;> first | cases h1 | skip) | cases h1)
  all_goals (first | (split at h2 <;> first | cases h2 | skip) | cases h2)
  all_goals simp [L2.eqV, PyData.eqv]
theorem inV_of {a : D} {x : V} {p : PyData} (r : VR g φ H a x) (f : flatD a = true) (h : toData st 64 a = some p) : ∀ {ds : List D} {vs : List V} {ps : List PyData}, VRs g φ H ds vs → ds.all flatD = true → toDatas st 63 ds = some ps →
    L2.inV x vs = ps.any fun z => PyData.eqv z p
  | _, _, ps, .nil, _, e => by
    simp only [toDatas] at e; cases e; rfl
  | _, _, ps, .cons (d := d) (ds := ds) r' t, k, e => by
    rw [List.all_cons, Bool.and_eq_true] at k
    simp only [toDatas] at e
    split at e
    · rename_i p' ps' e1 e2
      cases e
      have ih := inV_of r f h t k.2 e2
      unfold L2.inV at ih ⊢
      rw [List.any_cons, List.any_cons, ih, eqV_of r' r k.1 f e1 h]
    · cases e
/-- in, dicts apart -/
def rMem (K : PySem.W.Frag) (neg : Bool) : L2.R2 := fun x y H Q => (∃ (c : Nat) (z : Str), x = .str ⟨#[c]⟩ ∧ y = .str z ∧ Q (.bl (if neg then !decide (c ∈ z.cps.toList) else decide (c ∈ z.cps.toList))) H) ∨ L2.rIn K neg x y H Q ∨
  (∃ d ds, L2.Dp K H x d ∧ L2.Dp K H y (.list ds) ∧ SeqAt.shaped d = true ∧ SeqAt.shaped (.list ds) = true ∧ Q (.bl (if neg then !ds.any fun z => PyData.eqv z d else ds.any fun z => PyData.eqv z d)) H)
theorem op_memI {X : L2.Cx} (hu : X.A.units + 65 < cLine) : L2.OpR X (compareOp .In) (rMem X.K false) := L2.op_in_sign.or (L2.op_in_seq.or (L2.op_inD hu))
theorem op_nmemI {X : L2.Cx} (hu : X.A.units + 65 < cLine) : L2.OpR X (compareOp .NotIn) (rMem X.K true) := L2.op_notIn_sign.or (L2.op_notIn_seq.or (L2.op_notInD hu))
theorem oneIn_some {x y : Str} {b : Bool} (h : oneIn x y = some b) : ∃ c, x = ⟨#[c]⟩ ∧ b = decide (c ∈ y.cps.toList) := by
  unfold oneIn at h
  split at h
  · rename_i c hc
    cases h
    refine ⟨c, ?_, rfl⟩
    obtain ⟨cs⟩ := x
    have : cs = #[c] := Array.toList_inj.mp (by simpa using hc)
    rw [this]
  · cases h
def isDic (st : Sto) : D → Prop
  | .ref n => ∃ kvs, st[n]? = some (.dic kvs)
  | _ => False
theorem mem_ok (neg : Bool) {a b : D} {x y : V} {c : Bool} (S : StoR g φ H st) (r1 : VR g φ H a x) (r2 : VR g φ H b y) (hd : ¬ isDic st b) (hc : memD a b st = some c) (h : Q (.bl (if neg then !c else c)) H) : rMem g.K neg x y H Q := by
  cases r2 with
  | str z =>
    cases r1 with
    | str w =>
      obtain ⟨c', h1, h2⟩ := oneIn_some (x := w) (y := z) hc
      subst h1 h2
      exact .inl ⟨c', z, rfl, rfl, h⟩
    | _ => cases hc
  | @tup p ds vs hp hs =>
    simp only [memD] at hc
    split at hc
    · rename_i hf
      rw [Bool.and_eq_true] at hf
      obtain ⟨q, qs, e1, e2, e3⟩ := inD_some hc
      refine .inr (.inl ⟨p, vs, rfl, .inr (L2.SqT.of hp), flat_of r1 hf.1, flats_of hs hf.2, ?_⟩)
      rw [inV_of r1 hf.1 e1 hs hf.2 e2, ← e3]
      exact h
    · cases hc
  | @ref n p hp =>
    simp only [memD] at hc
    split at hc
    · rename_i ds h1
      obtain ⟨q, qs, e1, e2, e3⟩ := inD_some hc
      obtain ⟨vs, k1, k2⟩ := lst_at S h1 hp
      obtain ⟨d1, d2, d3⟩ := dp_of S 64 a x q r1 e1
      obtain ⟨l1, l2, l3⟩ := dps_of S 63 ds vs qs k2 e2
      refine .inr (.inr ⟨q, qs, d1, .lst (L2.SqL.of k1) l1, shaped_of d2 d3, shaped_of (by simpa [PyData.canLay0] using l2) (by simp only [PyData.depth]; omega), ?_⟩)
      rw [← e3]; exact h
    · rename_i kvs h1
      exact absurd ⟨kvs, h1⟩ hd
    · cases hc
  | _ => cases hc

/-! ### a[i] -/
theorem vrs_atI {ds : List D} {vs : List V} {j : Int} {d : D} (r : VRs g φ H ds vs) (h : L2.atI ds j = some d) : ∃ v, L2.atI vs j = some v ∧ VR g φ H d v := by
  unfold L2.atI at h ⊢
  rw [← r.length]
  obtain ⟨k, h1, h2⟩ := Option.bind_eq_some_iff.mp h
  obtain ⟨v, h3, h4⟩ := r.get h2
  exact ⟨v, by rw [h1]; exact h3, h4⟩
theorem atI_map {α β : Type} {f : α → β} {xs : List α} {j : Int} {x : α} (h : L2.atI xs j = some x) : L2.atI (xs.map f) j = some (f x) := by
  unfold L2.atI at h ⊢
  obtain ⟨k, h1, h2⟩ := Option.bind_eq_some_iff.mp h
  rw [List.length_map, h1]
  show (xs.map f)[k]? = _
  rw [List.getElem?_map, h2]; rfl
theorem sq_of_ro {a : Addr} {ns : List Int} (r : VR g φ H (.ro ns) (.ref a)) : L2.SqL g.K H a (ns.map L2.V.int) := by
  cases r with
  | rof h => exact .inl (.inr ⟨_, h⟩)
  | rok h => exact sq_up h
theorem ix_ok {a i : D} {x y : V} (S : StoR g φ H st) (r1 : VR g φ H a x) (r2 : VR g φ H i y) (hd : ¬ isDic st a) (h : post (VR g) g φ H (ixD a i st) Q E) : L2.rIx g.K x y H Q := by
  cases r1 with
  | @tup p ds vs hp hs =>
    cases r2 with
    | int j =>
      simp only [ixD] at h
      split at h
      · rename_i d hj
        obtain ⟨v, h1, h2⟩ := vrs_atI hs hj
        exact .inr (.inl ⟨p, vs, j, v, rfl, rfl, L2.SqT.of hp, h1, ok_here S h2 h⟩)
      · exact h.elim
    | _ => exact h.elim
  | str z =>
    cases r2 with
    | int j =>
      simp only [ixD] at h
      split at h
      · rename_i hl
        split at h
        · rename_i c hj
          exact .inr (.inr ⟨z, j, c, rfl, rfl, lim_line hl, hj, ok_here S (.str _) h⟩)
        · exact h.elim
      · exact h.elim
    | _ => exact h.elim
  | @rof p ns o hp =>
    cases r2 with
    | int j =>
      simp only [ixD] at h
      split at h
      · rename_i n hj
        exact .inl ⟨p, ns.map L2.V.int, j, .int n, rfl, rfl, .inl (.inr ⟨_, hp⟩), atI_map hj, ok_here S (.int _) h⟩
      · exact h.elim
    | _ => exact h.elim
  | @rok p ns hp =>
    cases r2 with
    | int j =>
      simp only [ixD] at h
      split at h
      · rename_i n hj
        exact .inl ⟨p, ns.map L2.V.int, j, .int n, rfl, rfl, sq_up hp, atI_map hj, ok_here S (.int _) h⟩
      · exact h.elim
    | _ => exact h.elim
  | @ref n p hp =>
    simp only [ixD] at h
    split at h
    · rename_i ds h1
      split at h
      · rename_i j
        cases r2
        split at h
        · rename_i d hj
          obtain ⟨vs, k1, k2⟩ := lst_at S h1 hp
          obtain ⟨v, h3, h4⟩ := vrs_atI k2 hj
          exact .inl ⟨p, vs, j, v, rfl, rfl, L2.SqL.of k1, h3, ok_here S h4 h⟩
        · exact h.elim
      · exact h.elim
    · rename_i kvs h1
      exact absurd ⟨kvs, h1⟩ hd
    · exact h.elim
  | _ => exact h.elim

/-! ### a[lo:hi] -/
def rSl (K : PySem.W.Frag) : V → Option Int → Option Int → Hp → L2.VK → Prop := fun x lo hi H Q => L2.rSlA K x lo hi H Q ∨ L2.rSlL K x lo hi H Q ∨ L2.rSlS x lo hi H Q
theorem sl_all {X : L2.Cx} : L2.SlR X (rSl X.K) := L2.sl_tupA.or (L2.sl_list.or L2.sl_str)
theorem vrs_cut {ds : List D} {vs : List V} (lo hi : Option Int) (r : VRs g φ H ds vs) : VRs g φ H (cutL ds lo hi) (L2.cutV vs lo hi) := by
  unfold cutL L2.cutV
  rw [r.length]
  exact (r.drop _).take _
theorem cut_whole {α : Type} {xs : List α} {lo hi : Option Int} (h : HT.sIx xs.length 0 lo = 0 ∧ HT.sIx xs.length xs.length hi = xs.length) : cutL xs lo hi = xs := by
  unfold cutL
  rw [h.1, h.2]; simp
theorem sl_ok {a : D} {x : V} {lo hi : Option Int} (S : StoR g φ H st) (r1 : VR g φ H a x) (h : post (VR g) g φ H (slD a lo hi st) Q E) : rSl g.K x lo hi H Q := by
  cases r1 with
  | @tup p ds vs hp hs =>
    refine .inl ⟨p, vs, rfl, L2.SqT.of hp, fun hw => ?_, fun _ t ht => alloc_tup S (vrs_cut lo hi hs) h ht⟩
    rw [← hs.length] at hw
    have h' : post (VR g) g φ H (.ok (.tup (cutL ds lo hi)) st) Q E := h
    rw [cut_whole hw] at h'
    exact ok_here S (.tup hp hs) h'
  | @ref n p hp =>
    simp only [slD] at h
    split at h
    · rename_i ds h1
      obtain ⟨vs, k1, k2⟩ := lst_at S h1 hp
      exact .inr (.inl ⟨p, vs, rfl, L2.SqL.of k1, fun t ht => alloc_lst S (vrs_cut lo hi k2) h ht⟩)
    · exact h.elim
  | str z =>
    simp only [slD] at h
    split at h
    · rename_i hl
      exact .inr (.inr ⟨z, rfl, lim_line hl, ok_here S (.str _) h⟩)
    · exact h.elim
  | _ => exact h.elim

/-! ### built-in functions of one argument -/
theorem bools_of : ∀ {ds : List D} {vs : List V} {bs : List Bool}, VRs g φ H ds vs → boolsOf ds = some bs → vs = bs.map L2.V.bl
  | _, _, _, .nil, e => by simp only [boolsOf] at e; cases e; rfl
  | _, _, _, .cons r t, e => by
    cases r with
    | bl b =>
      simp only [boolsOf] at e
      obtain ⟨bs', h1, h2⟩ := Option.map_eq_some_iff.mp e
      subst h2
      rw [bools_of t h1]; rfl
    | _ => simp [boolsOf] at e
theorem strs_of : ∀ {ds : List D} {vs : List V} {bs : List Str}, VRs g φ H ds vs → strsOf ds = some bs → vs = bs.map L2.V.str
  | _, _, _, .nil, e => by simp only [strsOf] at e; cases e; rfl
  | _, _, _, .cons r t, e => by
    cases r with
    | str b =>
      simp only [strsOf] at e
      obtain ⟨bs', h1, h2⟩ := Option.map_eq_some_iff.mp e
      subst h2
      rw [strs_of t h1]; rfl
    | _ => simp [strsOf] at e
def rLen (K : PySem.W.Frag) : List V → Hp → L2.VK → Prop := fun xs H Q => ∃ x n, xs = [x] ∧ L2.LenV K x H n ∧ Q (.int (n : Nat)) H
theorem len_ok {a : D} {x : V} (S : StoR g φ H st) (r : VR g φ H a x) (h : post (VR g) g φ H (biD .len a st) Q E) : rLen g.K [x] H Q := by
  cases r with
  | str z =>
    simp only [biD] at h
    split at h
    · rename_i hl
      exact ⟨_, z.length, rfl, ⟨lim_line hl, rfl⟩, ok_here S (.int _) h⟩
    · exact h.elim
  | @tup p ds vs hp hs => exact ⟨_, ds.length, rfl, .inr ⟨vs, L2.SqT.of hp, hs.length⟩, ok_here S (.int _) h⟩
  | @rof p ns o hp => exact ⟨_, ns.length, rfl, .inl ⟨_, .inl (.inr ⟨_, hp⟩), by rw [List.length_map]⟩, ok_here S (.int _) h⟩
  | @rok p ns hp => exact ⟨_, ns.length, rfl, .inl ⟨_, sq_up hp, by rw [List.length_map]⟩, ok_here S (.int _) h⟩
  | @ref n p hp =>
    simp only [biD] at h
    split at h
    · rename_i ds h1
      obtain ⟨vs, k1, k2⟩ := lst_at S h1 hp
      exact ⟨_, ds.length, rfl, .inl ⟨vs, L2.SqL.of k1, k2.length⟩, ok_here S (.int _) h⟩
    · exact h.elim
  | _ => exact h.elim
theorem all_ok {a : D} {x : V} (S : StoR g φ H st) (r : VR g φ H a x) (h : post (VR g) g φ H (biD .all a st) Q E) : L2.rAll g.K [x] H Q := by
  cases r with
  | @ref n p hp =>
    simp only [biD] at h
    split at h
    · rename_i ds h1
      split at h
      · rename_i bs hb
        obtain ⟨vs, k1, k2⟩ := lst_at S h1 hp
        exact ⟨p, bs, rfl, by rw [← bools_of k2 hb]; exact L2.SqL.of k1, ok_here S (.bl _) h⟩
      · exact h.elim
    · exact h.elim
  | _ => exact h.elim
theorem any_ok {a : D} {x : V} (S : StoR g φ H st) (r : VR g φ H a x) (h : post (VR g) g φ H (biD .any a st) Q E) : L2.rAny g.K [x] H Q := by
  cases r with
  | @ref n p hp =>
    simp only [biD] at h
    split at h
    · rename_i ds h1
      split at h
      · rename_i bs hb
        obtain ⟨vs, k1, k2⟩ := lst_at S h1 hp
        exact ⟨p, bs, rfl, by rw [← bools_of k2 hb]; exact L2.SqL.of k1, ok_here S (.bl _) h⟩
      · exact h.elim
    · exact h.elim
  | _ => exact h.elim
def rTupleOf (K : PySem.W.Frag) : List V → Hp → L2.VK → Prop := fun xs H Q => ∃ p ys, xs = [.ref p] ∧ ((L2.SqL K H p ys ∧ ∀ l, H l = none → Q (.ref l) (L2.upd H l (.tup ys))) ∨ (L2.SqT K H p ys ∧ Q (.ref p) H))
theorem tuple_ok {a : D} {x : V} (S : StoR g φ H st) (r : VR g φ H a x) (h : post (VR g) g φ H (biD .tuple a st) Q E) : rTupleOf g.K [x] H Q := by
  cases r with
  | @tup p ds vs hp hs => exact ⟨p, vs, rfl, .inr ⟨L2.SqT.of hp, ok_here S (.tup hp hs) h⟩⟩
  | @ref n p hp =>
    simp only [biD] at h
    split at h
    · rename_i ds h1
      obtain ⟨vs, k1, k2⟩ := lst_at S h1 hp
      exact ⟨p, vs, rfl, .inl ⟨L2.SqL.of k1, fun t ht => alloc_tup S k2 h ht⟩⟩
    · exact h.elim
  | _ => exact h.elim
def rInt1 : List V → Hp → L2.VK → Prop := fun xs H Q => (∃ i, xs = [.int i] ∧ Q (.int i) H) ∨ ∃ k, xs = [.bl k] ∧ Q (.int (if k then 1 else 0)) H
theorem int_ok {a : D} {x : V} (S : StoR g φ H st) (r : VR g φ H a x) (h : post (VR g) g φ H (biD .int a st) Q E) : rInt1 [x] H Q := by
  cases r with
  | int i => exact .inl ⟨i, rfl, ok_here S (.int _) h⟩
  | bl b => exact .inr ⟨b, rfl, ok_here S (.int _) h⟩
  | _ => exact h.elim

/-! ### sorted -/
theorem allAlike_of {ps : List PyData} (h : alikeB ps = true) : PySem.W.AllAlike ps := fun d hd d' hd' => List.all_eq_true.mp (List.all_eq_true.mp h d hd) d' hd'
theorem sortable_of {ps : List PyData} (h : (ps.all tupleB || ps.all otherB) = true) : PySem.W.Sortable ps := by
  rcases Bool.or_eq_true_iff.mp h with h | h
  · refine .inl fun d hd => ?_
    have q := List.all_eq_true.mp h d hd
    cases d with
    | tuple xs =>
      cases xs with
      | nil => cases q
      | cons x r => exact ⟨x, r, rfl⟩
    | _ => cases q
  · refine .inr fun d hd => ?_
    have q := List.all_eq_true.mp h d hd
    refine ⟨fun e => ?_, fun xs e => ?_⟩ <;> subst e <;> cases q
/-- what an item of the list is: its value, its meaning, its data -/
abbrev B3 := V × D × PyData
theorem b3_of (S : StoR g φ H st) : ∀ {ds : List D} {vs : List V} {ps : List (D × PyData)}, VRs g φ H ds vs → datasOf st ds = some ps →
    ∃ bs : List B3, bs.map (·.1) = vs ∧ bs.map (·.2) = ps ∧ ds = ps.map (·.1) ∧ ∀ b ∈ bs, VR g φ H b.2.1 b.1 ∧ L2.Dp g.K H b.1 b.2.2 ∧ b.2.2.depth ≤ 64
  | _, _, ps, .nil, e => by
    simp only [datasOf] at e; cases e
    exact ⟨[], rfl, rfl, rfl, fun _ h => nomatch h⟩
  | _, _, ps, .cons (d := d) (v := v) r t, e => by
    simp only [datasOf] at e
    split at e
    · rename_i p ps' e1 e2
      cases e
      obtain ⟨bs, h1, h2, h4, h3⟩ := b3_of S t e2
      obtain ⟨k1, k2, k3⟩ := dp_of S 64 d v p r e1
      refine ⟨(v, d, p) :: bs, by rw [List.map_cons, h1], by rw [List.map_cons, h2], by rw [List.map_cons, h4], fun b hb => ?_⟩
      rcases List.mem_cons.mp hb with rfl | hb
      · exact ⟨r, k1, k3⟩
      · exact h3 b hb
    · cases e
theorem each_vals : ∀ {bs : List B3} {us : List Value}, L2.Vals (bs.map (·.1)) us → PySem.W.EachIs (fun u (b : B3) => L2.RelV b.1 u) us bs
  | [], us, r => by
    cases r
    exact .nil
  | b :: bs, us, r => by
    cases r with
    | cons h t => exact .cons h (each_vals t)
theorem vals_each : ∀ {us : List Value} {bs : List B3}, PySem.W.EachIs (fun u (b : B3) => L2.RelV b.1 u) us bs → L2.Vals (bs.map (·.1)) us
  | _, _, .nil => .nil
  | _, _, .cons h t => .cons h (vals_each t)
theorem each_reads {X : L2.Cx} {pins : List (Addr × Obj)} {σ : L2.St} {H : Hp} {s : Shared} (I : L2.Inv X pins σ H s) : ∀ {bs : List B3} {us : List Value}, L2.Vals (bs.map (·.1)) us → (∀ b ∈ bs, L2.Dp X.K H b.1 b.2.2) →
    PySem.W.EachIs (fun u (b : B3) => ∃ as, Reads s.heap u b.2.2 as) us bs
  | [], us, r, _ => by
    cases r
    exact .nil
  | b :: bs, us, r, h => by
    cases r with
    | cons h1 t => exact .cons (L2.Dp.reads I _ _ _ (h b List.mem_cons_self) h1) (each_reads I t fun b hb => h b (List.mem_cons_of_mem _ hb))
def rSort3 (K : PySem.W.Frag) : List V → Hp → L2.VK → Prop := fun xs H Q => ∃ (a : Addr) (bs : List B3), xs = [.ref a] ∧ L2.SqL K H a (bs.map (·.1)) ∧ (∀ b ∈ bs, L2.Dp K H b.1 b.2.2 ∧ b.2.2.depth ≤ 64) ∧
  PySem.W.AllAlike (bs.map (·.2.2)) ∧ PySem.W.Sortable (bs.map (·.2.2)) ∧ bs.length ≤ sizeLine ∧
  ∀ p, H p = none → Q (.ref p) (L2.upd H p (.lst ((bs.mergeSort (PySem.W.dataLe false (·.2.2))).map (·.1))))
theorem cr_sort3 {X : L2.Cx} (hu : X.A.units + 66 < cLine) : L2.CallR X (.builtin "sorted") (rSort3 X.K) := by
  intro pins s σ H xs us Q I r h
  obtain ⟨a, bs, rfl, hs, hd, al, so, hz, q⟩ := h
  obtain ⟨its, rv, hl, _⟩ := I.list hs
  rw [L2.Vals.ref1 r]
  have e1 := each_vals rv
  refine PySem.W.sorted_data (bs := bs) (enc := fun b => b.2.2) hl.isList e1 (each_reads I rv fun b hb => (hd b hb).1) al so hz (fun b hb => by have := (hd b hb).2; omega) fun out ho he => ?_
  obtain ⟨ep, he'⟩ := PyProof.Rows.sortedAll_at s.heap its out.toArray
  have hv := vals_each he
  have new : L2.ObjOk X.prog X.w (L2.upd H (s.heap.objs.size + 1) (.lst ((bs.mergeSort (PySem.W.dataLe false (·.2.2))).map (·.1)))) (sortedAll s.heap its out.toArray) (s.heap.objs.size + 1) (.lst ((bs.mergeSort (PySem.W.dataLe false (·.2.2))).map (·.1))) :=
    ⟨by rw [List.length_map, List.length_mergeSort]; exact hz, out, ep, hv, he'⟩
  exact ⟨.ref _, _, I.laid (t' := s.toks) (fun _ _ => PyProof.Rows.sortedAll_old) (Nat.le_succ _) new, rfl, q _ (I.hok.fresh (Nat.le_succ _))⟩
theorem vrs_b3 : ∀ {bs : List B3}, (∀ b ∈ bs, VR g φ H b.2.1 b.1) → VRs g φ H (bs.map (·.2.1)) (bs.map (·.1))
  | [], _ => .nil
  | b :: bs, h => .cons (h b List.mem_cons_self) (vrs_b3 fun b hb => h b (List.mem_cons_of_mem _ hb))
theorem sorted_ok {a : D} {x : V} (S : StoR g φ H st) (r : VR g φ H a x) (h : post (VR g) g φ H (biD .sorted a st) Q E) : rSort3 g.K [x] H Q := by
  cases r with
  | @ref n p hp =>
    simp only [biD] at h
    split at h
    · rename_i ds h1
      split at h
      · rename_i es he
        obtain ⟨vs, k1, k2⟩ := lst_at S h1 hp
        unfold sortD at he
        split at he
        · rename_i ps hps
          split at he
          · rename_i hc
            cases he
            simp only [Bool.and_eq_true, decide_eq_true_eq] at hc
            obtain ⟨bs, b1, b2, b4, b3⟩ := b3_of S k2 hps
            have e2 : bs.map (·.2.2) = ps.map (·.2) := by rw [← b2, List.map_map]; rfl
            have hlen : bs.length = ds.length := by rw [b4, ← b2, List.length_map, List.length_map]
            refine ⟨p, bs, rfl, by rw [b1]; exact L2.SqL.of k1, fun b hb => (b3 b hb).2, by rw [e2]; exact allAlike_of hc.1.1, by rw [e2]; exact sortable_of (by simpa using hc.1.2), by rw [hlen]; exact lim_line hc.2, fun t ht => ?_⟩
            have e5 : (ps.mergeSort (PySem.W.dataLe false (·.2))).map (·.1) = (bs.mergeSort (PySem.W.dataLe false (·.2.2))).map (·.2.1) := by
              rw [← b2, ← List.map_mergeSort (f := fun b : B3 => b.2) (r := PySem.W.dataLe false (fun b : B3 => b.2.2)) (s := PySem.W.dataLe false (·.2)) (l := bs) (fun a _ b _ => rfl), List.map_map]; rfl
            rw [e5] at h
            refine alloc_lst S (vrs_b3 fun b hb => (b3 b ?_).1) h ht
            exact (List.mergeSort_perm bs _).mem_iff.mp hb
          · cases he
        · cases he
      · exact h.elim
    · exact h.elim
  | _ => exact h.elim
end
end IP

/-! IpF: dicts, by values. -/
namespace IP
open PySem PySem.Spec PyProof.Rows
/-! ### keys -/
mutual
theorem toKey_inj : ∀ (n m : Nat) (a b : D), keyT n a = true → keyT m b = true → toKey a = toKey b → a = b
  | n, m, .non, b, h1, h2, e => by
    cases b <;> first | rfl | (simp [toKey] at e; done) | (cases m <;> simp [keyT] at h2; done)
  | n, m, .int i, b, h1, h2, e => by
    cases b <;> first | (simp [toKey] at e; subst e; rfl) | (simp [toKey] at e; done) | (cases m <;> simp [keyT] at h2; done)
  | n, m, .str i, b, h1, h2, e => by
    cases b <;> first | (simp [toKey] at e; subst e; rfl) | (simp [toKey] at e; done) | (cases m <;> simp [keyT] at h2; done)
  | 0, m, .tup ds, b, h1, h2, e => by simp [keyT] at h1
  | n + 1, m, .tup ds, b, h1, h2, e => by
    cases b with
    | tup es =>
      cases m with
      | zero => simp [keyT] at h2
      | succ m =>
        simp only [toKey, NestedKey.tup.injEq] at e
        simp only [keyT] at h1 h2
        rw [toKeys_inj n m ds es h1 h2 e]
    | _ => first | (simp [toKey] at e; done) | (cases m <;> simp [keyT] at h2; done)
  | n, m, .bl _, b, h1, h2, e => by cases n <;> simp [keyT] at h1
  | n, m, .ref _, b, h1, h2, e => by cases n <;> simp [keyT] at h1
  | n, m, .ro _, b, h1, h2, e => by cases n <;> simp [keyT] at h1
  | n, m, .fn _, b, h1, h2, e => by cases n <;> simp [keyT] at h1
  | n, m, .exn _ _, b, h1, h2, e => by cases n <;> simp [keyT] at h1
theorem toKeys_inj : ∀ (n m : Nat) (a b : List D), keyTs n a = true → keyTs m b = true → toKeys a = toKeys b → a = b
  | n, m, [], b, h1, h2, e => by
    cases b with
    | nil => rfl
    | cons y ys => simp [toKeys] at e
  | n, m, x :: xs, b, h1, h2, e => by
    cases b with
    | nil => simp [toKeys] at e
    | cons y ys =>
      simp only [toKeys, List.cons.injEq] at e
      simp only [keyTs, Bool.and_eq_true] at h1 h2
      rw [toKey_inj n m x y h1.1 h2.1 e.1, toKeys_inj n m xs ys h1.2 h2.2 e.2]
end
theorem flat_cases {k : D} (h : keyKind k = some .flat) : (∃ i, k = .int i) ∨ ∃ x, k = .str x := by
  cases k with
  | int i => exact .inl ⟨i, rfl⟩
  | str x => exact .inr ⟨x, rfl⟩
  | tup ds => simp only [keyKind] at h; split at h <;> cases h
  | _ => cases h
theorem deep_cases {k : D} (h : keyKind k = some .deep) : ∃ ds, k = .tup ds ∧ keyTs 7 ds = true := by
  cases k with
  | tup ds =>
    simp only [keyKind] at h
    split at h
    · rename_i q; exact ⟨ds, rfl, q⟩
    · cases h
  | _ => cases h
theorem toFlat_inj {a b : D} (h1 : keyKind a = some .flat) (h2 : keyKind b = some .flat) (e : toFlat a = toFlat b) : a = b := by
  rcases flat_cases h1 with ⟨i, rfl⟩ | ⟨x, rfl⟩ <;> rcases flat_cases h2 with ⟨j, rfl⟩ | ⟨y, rfl⟩
  · cases e; rfl
  · cases e
  · cases e
  · cases e; rfl
theorem toKey_inj' {a b : D} (h1 : keyKind a = some .deep) (h2 : keyKind b = some .deep) (e : toKey a = toKey b) : a = b := by
  obtain ⟨ds, rfl, q1⟩ := deep_cases h1
  obtain ⟨es, rfl, q2⟩ := deep_cases h2
  exact toKey_inj 8 8 _ _ (by simpa [keyT] using q1) (by simpa [keyT] using q2) e
mutual
theorem key_depth : ∀ (n : Nat) (d : D), keyT n d = true → (toKey d).depth ≤ n
  | n, .non, h => by simp [toKey, NestedKey.depth]
  | n, .int _, h => by simp [toKey, NestedKey.depth]
  | n, .str _, h => by simp [toKey, NestedKey.depth]
  | 0, .tup _, h => by simp [keyT] at h
  | n + 1, .tup ds, h => by
    simp only [keyT] at h
    have := keys_depth n ds h
    simp only [toKey, NestedKey.depth]; omega
  | n, .bl _, h => by cases n <;> simp [keyT] at h
  | n, .ref _, h => by cases n <;> simp [keyT] at h
  | n, .ro _, h => by cases n <;> simp [keyT] at h
  | n, .fn _, h => by cases n <;> simp [keyT] at h
  | n, .exn _ _, h => by cases n <;> simp [keyT] at h
theorem keys_depth : ∀ (n : Nat) (ds : List D), keyTs n ds = true → NestedKey.depthAll (toKeys ds) ≤ n
  | n, [], h => by simp [toKeys, NestedKey.depthAll]
  | n, d :: ds, h => by
    simp only [keyTs, Bool.and_eq_true] at h
    have h1 := key_depth n d h.1
    have h2 := keys_depth n ds h.2
    simp only [toKeys, NestedKey.depthAll]; omega
end
section
variable {g : Gd} {φ : List Addr} {H : Hp} {h : Heap}
mutual
theorem nested_of (ok : L2.HOk g.P g.w H h) : ∀ (n : Nat) (d : D) (v : V) (u : Value), keyT n d = true → VR g φ H d v → L2.RelV v u → NestedIs h (toKey d) u
  | n, .non, _, _, k, r, ru => by cases r; cases ru; exact .none
  | n, .int i, _, _, k, r, ru => by
    cases r
    obtain ⟨t, rfl⟩ := ru
    exact .int i t
  | n, .str x, _, _, k, r, ru => by
    cases r
    obtain ⟨t, rfl⟩ := ru
    exact .text x t
  | 0, .tup _, _, _, k, r, ru => by simp [keyT] at k
  | n + 1, .tup ds, _, _, k, r, ru => by
    cases r with
    | tup hp hs =>
      cases ru
      obtain ⟨_, its, rv, o, h1, h2, m, h3⟩ := ok _ _ hp
      simp only [keyT] at k
      exact .tup h1 h2 h3 (by simpa using nesteds_of ok n ds _ its k hs rv)
  | n, .bl _, _, _, k, r, ru => by cases n <;> simp [keyT] at k
  | n, .ref _, _, _, k, r, ru => by cases n <;> simp [keyT] at k
  | n, .ro _, _, _, k, r, ru => by cases n <;> simp [keyT] at k
  | n, .fn _, _, _, k, r, ru => by cases n <;> simp [keyT] at k
  | n, .exn _ _, _, _, k, r, ru => by cases n <;> simp [keyT] at k
theorem nesteds_of (ok : L2.HOk g.P g.w H h) : ∀ (n : Nat) (ds : List D) (vs : List V) (us : List Value), keyTs n ds = true → VRs g φ H ds vs → L2.Vals vs us → NestedAll h (toKeys ds) us
  | n, [], _, _, k, r, ru => by cases r; cases ru; exact .nil
  | n, d :: ds, _, _, k, r, ru => by
    simp only [keyTs, Bool.and_eq_true] at k
    cases r with
    | cons r rs =>
      cases ru with
      | cons q qs => exact .cons (nested_of ok n d _ _ k.1 r q) (nesteds_of ok n ds _ _ k.2 rs qs)
end
theorem deep_is (ok : L2.HOk g.P g.w H h) {k : D} {b : Addr} (hk : keyKind k = some .deep) (r : VR g φ H k (.ref b)) : (nestedKind g.P g.w).is h (toKey k) b := by
  obtain ⟨ds, rfl, q⟩ := deep_cases hk
  exact ⟨nested_of ok 8 _ _ _ (by simpa [keyT] using q) r rfl, key_depth 8 _ (by simpa [keyT] using q)⟩
theorem flat_is {k : D} {v : V} {u : Value} (hk : keyKind k = some .flat) (r : VR g φ H k v) (ru : L2.RelV v u) : (L2.mixKind g.P g.w).is (toFlat k) u = true := by
  rcases flat_cases hk with ⟨i, rfl⟩ | ⟨x, rfl⟩
  · cases r
    exact L2.kV_is (k := .inl i) ru
  · cases r
    exact L2.kV_is (k := .inr x) ru
theorem deep_ref {k : D} {v : V} (hk : keyKind k = some .deep) (r : VR g φ H k v) : ∃ b, v = .ref b := by
  obtain ⟨ds, rfl, q⟩ := deep_cases hk
  cases r
  exact ⟨_, rfl⟩
/-! ### look-up, store -/
abbrev FlatP (g : Gd) (φ : List Addr) (H : Hp) : (D × D) → (L2.Key × Value) → Prop := fun p q => toFlat p.1 = q.1 ∧ ∃ v, VR g φ H p.2 v ∧ L2.RelV v q.2
abbrev DeepP (g : Gd) (φ : List Addr) (H : Hp) : (D × D) → (NestedKey × Addr × Value) → Prop := fun p q => toKey p.1 = q.1 ∧ VR g φ H p.1 (.ref q.2.1) ∧ ∃ v, VR g φ H p.2 v ∧ L2.RelV v q.2.2
/-- the value found, or none on both sides -/
def FoundR (g : Gd) (φ : List Addr) (H : Hp) : Option D → Option Value → Prop
  | some d, some u => ∃ v, VR g φ H d v ∧ L2.RelV v u
  | none, none => True
  | _, _ => False
theorem dget_cons (p : D × D) (kvs : List (D × D)) (k : D) : dget (p :: kvs) k = if p.1 = k then some p.2 else dget kvs k := by
  unfold dget
  by_cases e : p.1 = k <;> simp [List.find?_cons, e]
theorem flat_get {k : D} (hk : keyKind k = some .flat) : ∀ {kvs : List (D × D)} {vs : List (L2.Key × Value)}, Paired (FlatP g φ H) kvs vs → (∀ p ∈ kvs, keyKind p.1 = some .flat) → FoundR g φ H (dget kvs k) (valueAt vs (toFlat k))
  | _, _, .nil, _ => trivial
  | _, _, .cons (a := p) (b := q) r t, hf => by
    have ih := flat_get hk t fun p hp => hf p (List.mem_cons_of_mem _ hp)
    rw [dget_cons]
    unfold valueAt at ih ⊢
    rw [List.find?_cons]
    obtain ⟨e1, e2⟩ := r
    by_cases e : p.1 = k
    · have q1 : q.1 = toFlat k := by rw [← e1, e]
      simp only [e, q1, decide_true, if_true, Option.map_some]
      exact e2
    · have q1 : ¬ q.1 = toFlat k := fun z => e (toFlat_inj (hf p List.mem_cons_self) hk (e1.trans z))
      simp only [e, q1, decide_false, if_false]
      exact ih
theorem deep_get {k : D} (hk : keyKind k = some .deep) : ∀ {kvs : List (D × D)} {xs : List (NestedKey × Addr × Value)}, Paired (DeepP g φ H) kvs xs → (∀ p ∈ kvs, keyKind p.1 = some .deep) → FoundR g φ H (dget kvs k) ((atKey xs (toKey k)).map (·.2))
  | _, _, .nil, _ => trivial
  | _, _, .cons (a := p) (b := q) r t, hf => by
    have ih := deep_get hk t fun p hp => hf p (List.mem_cons_of_mem _ hp)
    rw [dget_cons]
    unfold atKey at ih ⊢
    rw [List.find?_cons]
    obtain ⟨e1, _, e2⟩ := r
    by_cases e : p.1 = k
    · have q1 : q.1 = toKey k := by rw [← e1, e]
      simp only [e, q1, decide_true, if_true, Option.map_some]
      exact e2
    · have q1 : ¬ q.1 = toKey k := fun z => e (toKey_inj' (hf p List.mem_cons_self) hk (e1.trans z))
      simp only [e, q1, decide_false, if_false]
      exact ih
theorem flat_any {k : D} (hk : keyKind k = some .flat) : ∀ {kvs : List (D × D)} {vs : List (L2.Key × Value)}, Paired (FlatP g φ H) kvs vs → (∀ p ∈ kvs, keyKind p.1 = some .flat) → (kvs.any fun p => decide (p.1 = k)) = vs.any fun q => decide (q.1 = toFlat k)
  | _, _, .nil, _ => rfl
  | _, _, .cons (a := p) (b := q) r t, hf => by
    rw [List.any_cons, List.any_cons, flat_any hk t fun p hp => hf p (List.mem_cons_of_mem _ hp)]
    congr 1
    obtain ⟨e1, _⟩ := r
    by_cases e : p.1 = k
    · rw [decide_eq_true e, decide_eq_true (by rw [← e1, e])]
    · rw [decide_eq_false e, decide_eq_false fun z => e (toFlat_inj (hf p List.mem_cons_self) hk (e1.trans z))]
theorem flat_repl {k d : D} {v : V} {u : Value} (hk : keyKind k = some .flat) (r0 : VR g φ H d v) (ru : L2.RelV v u) : ∀ {kvs : List (D × D)} {vs : List (L2.Key × Value)}, Paired (FlatP g φ H) kvs vs → (∀ p ∈ kvs, keyKind p.1 = some .flat) →
    Paired (FlatP g φ H) (kvs.map fun p => if p.1 = k then (p.1, d) else p) (vs.map fun q => if q.1 = toFlat k then (q.1, u) else q)
  | _, _, .nil, _ => .nil
  | _, _, .cons (a := p) (b := q) r t, hf => by
    rw [List.map_cons, List.map_cons]
    refine .cons ?_ (flat_repl hk r0 ru t fun p hp => hf p (List.mem_cons_of_mem _ hp))
    obtain ⟨e1, e2⟩ := r
    by_cases e : p.1 = k
    · rw [if_pos e, if_pos (by rw [← e1, e])]
      exact ⟨e1, v, r0, ru⟩
    · rw [if_neg e, if_neg fun z => e (toFlat_inj (hf p List.mem_cons_self) hk (e1.trans z))]
      exact ⟨e1, e2⟩
theorem paired_snoc {α β : Type} {F : α → β → Prop} {a : α} {b : β} (q : F a b) : ∀ {l : List α} {m : List β}, Paired F l m → Paired F (l ++ [a]) (m ++ [b])
  | _, _, .nil => .cons q .nil
  | _, _, .cons r t => .cons r (paired_snoc q t)
theorem flat_put {k d : D} {v : V} {u : Value} (hk : keyKind k = some .flat) (r0 : VR g φ H d v) (ru : L2.RelV v u) {kvs : List (D × D)} {vs : List (L2.Key × Value)} (r : Paired (FlatP g φ H) kvs vs) (hf : ∀ p ∈ kvs, keyKind p.1 = some .flat) :
    Paired (FlatP g φ H) (dput kvs k d) (stored vs (toFlat k) u) := by
  unfold dput stored
  rw [flat_any hk r hf]
  split
  · exact flat_repl hk r0 ru r hf
  · exact paired_snoc ⟨rfl, v, r0, ru⟩ r
theorem deep_at {k : D} (hk : keyKind k = some .deep) : ∀ {kvs : List (D × D)} {xs : List (NestedKey × Addr × Value)}, Paired (DeepP g φ H) kvs xs → (∀ p ∈ kvs, keyKind p.1 = some .deep) → (kvs.any fun p => decide (p.1 = k)) = (atKey xs (toKey k)).isSome
  | _, _, .nil, _ => rfl
  | _, _, .cons (a := p) (b := q) r t, hf => by
    have ih := deep_at hk t fun p hp => hf p (List.mem_cons_of_mem _ hp)
    rw [List.any_cons, ih]
    unfold atKey
    rw [List.find?_cons]
    obtain ⟨e1, _⟩ := r
    by_cases e : p.1 = k
    · rw [decide_eq_true e, decide_eq_true (by rw [← e1, e])]; simp
    · rw [decide_eq_false e, decide_eq_false fun z => e (toKey_inj' (hf p List.mem_cons_self) hk (e1.trans z))]; simp
theorem deep_repl {k d : D} {v : V} {u : Value} (hk : keyKind k = some .deep) (r0 : VR g φ H d v) (ru : L2.RelV v u) : ∀ {kvs : List (D × D)} {xs : List (NestedKey × Addr × Value)}, Paired (DeepP g φ H) kvs xs → (∀ p ∈ kvs, keyKind p.1 = some .deep) →
    Paired (DeepP g φ H) (kvs.map fun p => if p.1 = k then (p.1, d) else p) (xs.map (putAt (toKey k) u))
  | _, _, .nil, _ => .nil
  | _, _, .cons (a := p) (b := q) r t, hf => by
    rw [List.map_cons, List.map_cons]
    refine .cons ?_ (deep_repl hk r0 ru t fun p hp => hf p (List.mem_cons_of_mem _ hp))
    obtain ⟨e1, e0, e2⟩ := r
    unfold putAt
    by_cases e : p.1 = k
    · rw [if_pos e, if_pos (by rw [← e1, e])]
      exact ⟨e1, e0, v, r0, ru⟩
    · rw [if_neg e, if_neg fun z => e (toKey_inj' (hf p List.mem_cons_self) hk (e1.trans z))]
      exact ⟨e1, e0, e2⟩
theorem deep_put {k d : D} {v : V} {u : Value} {b : Addr} (hk : keyKind k = some .deep) (rk : VR g φ H k (.ref b)) (r0 : VR g φ H d v) (ru : L2.RelV v u) {kvs : List (D × D)} {xs : List (NestedKey × Addr × Value)} (r : Paired (DeepP g φ H) kvs xs) (hf : ∀ p ∈ kvs, keyKind p.1 = some .deep) :
    Paired (DeepP g φ H) (dput kvs k d) (storedH xs (toKey k) b u) := by
  unfold dput storedH
  rw [deep_at hk r hf]
  split
  · exact deep_repl hk r0 ru r hf
  · exact paired_snoc ⟨rfl, rk, v, r0, ru⟩ r
theorem dput_keys {kvs : List (D × D)} {k d : D} {kk : KK} (hk : keyKind k = some kk) (hf : ∀ p ∈ kvs, keyKind p.1 = some kk) : ∀ p ∈ dput kvs k d, keyKind p.1 = some kk := by
  unfold dput
  split
  · intro p hp
    obtain ⟨q, hq, e⟩ := List.mem_map.mp hp
    split at e
    · subst e; exact hf q hq
    · subst e; exact hf q hq
  · intro p hp
    rcases List.mem_append.mp hp with hp | hp
    · exact hf p hp
    · rw [List.mem_singleton.mp hp]; exact hk
theorem dput_length (kvs : List (D × D)) (k d : D) : (dput kvs k d).length ≤ kvs.length + 1 := by
  unfold dput
  split
  · rw [List.length_map]; omega
  · rw [List.length_append]; simp
theorem alikeK_of {kvs : List (D × D)} {k : D} (h : alikeK kvs k = true) : ∃ kk, keyKind k = some kk ∧ ∀ p ∈ kvs, keyKind p.1 = some kk := by
  unfold alikeK at h
  split at h
  · cases h
  · rename_i kk e
    exact ⟨kk, e, fun p hp => of_decide_eq_true (List.all_eq_true.mp h p hp)⟩
end

section
variable {X : L2.Cx} {pins : List (Addr × Obj)} {σ : L2.St} {H : Hp} {s : Shared} {a : Addr} {φ : List Addr} {kvs : List (D × D)}
theorem pin_get {o : Obj} (I : L2.Inv X pins σ H s) (e : H a = some (pinO a o)) : s.heap.get? a = some o := (I.hok a _ e).1
theorem pinO_ok {P : Program} {w : World} {H : Hp} {h : Heap} {a : Addr} {o : Obj} (e : h.get? a = some o) : L2.ObjOk P w H h a (pinO a o) := ⟨e, ⟨o, e⟩, fun h1 h2 q k => k o q⟩
/-- the dict at a, of keys like k: in the heap -/
theorem dic_heap {k : D} (I : L2.Inv X pins σ H s) (c : CellR (gd X) φ H a (.dic kvs)) (hk : alikeK kvs k = true) :
    (a == sysModules) = false ∧ ∃ o, H a = some (pinO a o) ∧ s.heap.get? a = some o ∧
    ((keyKind k = some .flat ∧ (∀ p ∈ kvs, keyKind p.1 = some .flat) ∧ ∃ vs, s.heap.DictOf (L2.mixKind X.prog X.w) a vs ∧ Paired (FlatP (gd X) φ H) kvs vs) ∨
     (keyKind k = some .deep ∧ (∀ p ∈ kvs, keyKind p.1 = some .deep) ∧ ∃ xs, s.heap.DictOfH (nestedKind X.prog X.w) a xs ∧ Paired (DeepP (gd X) φ H) kvs xs)) := by
  obtain ⟨o, h1, h2, h3, h4⟩ := c
  obtain ⟨kk, e1, e2⟩ := alikeK_of hk
  have ho := pin_get I h1
  refine ⟨h2, o, h1, ho, ?_⟩
  have isH : ∀ {xs : List (NestedKey × Addr × Value)} {es : Array DictEntry} {ep : Nat}, o.ExactDict → o.data = .dict es ep → es.toList = xs.map (entryOfKey (nestedKind X.prog X.w)) → (xs.map (·.1)).Nodup → (∀ p ∈ kvs, keyKind p.1 = some .deep) →
      Paired (DeepP (gd X) φ H) kvs xs → s.heap.DictOfH (nestedKind X.prog X.w) a xs := fun {xs es ep} q1 q2 q3 q4 q5 q6 => by
    refine ⟨o, es, ep, ho, q1, q2, q3, fun x hx => ?_, q4⟩
    have : ∀ {l : List (D × D)} {m : List (NestedKey × Addr × Value)}, Paired (DeepP (gd X) φ H) l m → (∀ p ∈ l, keyKind p.1 = some .deep) → ∀ x ∈ m, (nestedKind X.prog X.w).is s.heap x.1 x.2.1 := by
      intro l m r
      induction r with
      | nil => intro _ x hx; cases hx
      | cons r t ih =>
        intro hf x hx
        rcases List.mem_cons.mp hx with rfl | hx
        · rw [← r.1]
          exact deep_is (g := gd X) I.hok (hf _ List.mem_cons_self) r.2.1
        · exact ih (fun p hp => hf p (List.mem_cons_of_mem _ hp)) x hx
    exact this q6 q5 x hx
  rcases h4 with ⟨k1, vs, q, p⟩ | ⟨k1, xs, es, ep, q1, q2, q3, q4, p⟩
  · cases kk with
    | flat => exact .inl ⟨e1, e2, vs, q _ ho, p⟩
    | deep =>
      cases kvs with
      | nil =>
        cases p
        refine .inr ⟨e1, e2, [], ?_, .nil⟩
        obtain ⟨o', es, ep, h5, h6, h7, _, h8, _⟩ := q _ ho
        rw [ho] at h5; cases h5
        refine ⟨o, es, ep, ho, h6, h7, ?_, fun _ z => absurd z (by simp), List.nodup_nil⟩
        cases h8' : es.toList with
        | nil => rfl
        | cons y ys => rw [h8'] at h8; cases h8
      | cons p0 r =>
        have z1 := e2 p0 List.mem_cons_self
        rw [k1 p0 List.mem_cons_self] at z1; cases z1
  · cases kk with
    | deep => exact .inr ⟨e1, e2, xs, isH q1 q2 q3 q4 k1 p, p⟩
    | flat =>
      cases kvs with
      | nil =>
        cases p
        refine .inl ⟨e1, e2, [], ?_, .nil⟩
        have hes : es = #[] := Array.toList_inj.mp (by simpa using q3)
        subst hes
        exact ⟨o, #[], ep, ho, q1, q2, fun e he => absurd he (by simp), .nil, List.nodup_nil⟩
      | cons p0 r =>
        have z1 := e2 p0 List.mem_cons_self
        rw [k1 p0 List.mem_cons_self] at z1; cases z1
/-- behind a store: the new object is pinned -/
theorem dic_flat {g : Gd} {φ : List Addr} {H : Hp} {h : Heap} {a : Addr} {kvs : List (D × D)} {vs : List (L2.Key × Value)} (d : h.DictOf (L2.mixKind g.P g.w) a vs) (r : Paired (FlatP g φ H) kvs vs) (hf : ∀ p ∈ kvs, keyKind p.1 = some .flat) :
    ∃ o, h.get? a = some o ∧ FlatR g φ H a o kvs := by
  obtain ⟨o, es, ep, h1, h2⟩ := d
  refine ⟨o, h1, hf, vs, fun h' e => ⟨o, es, ep, e, h2⟩, r⟩
theorem dic_deep {g : Gd} {φ : List Addr} {H : Hp} {h : Heap} {a : Addr} {kvs : List (D × D)} {xs : List (NestedKey × Addr × Value)} (d : h.DictOfH (nestedKind g.P g.w) a xs) (r : Paired (DeepP g φ H) kvs xs) (hf : ∀ p ∈ kvs, keyKind p.1 = some .deep) :
    ∃ o, h.get? a = some o ∧ DeepR g φ H a o kvs := by
  obtain ⟨o, es, ep, h1, h2, h3, h4, h5, h6⟩ := d
  exact ⟨o, h1, hf, xs, es, ep, h2, h3, h4, h6, r⟩
variable {A : Around} {E : Value → Shared → Prop}
/-- the dict is told with its cell: what the reading of a dict's operation asks -/
def DicK (g : Gd) (H : Hp) (x y : V) (k : D) (kvs : List (D × D)) (φ : List Addr) (a : Addr) : Prop := x = .ref a ∧ VR g φ H k y ∧ CellR g φ H a (.dic kvs) ∧ alikeK kvs k = true
theorem d_get {k : D} {x y : V} {v u : Value} {Q : Value → Shared → Prop} (hu : A.units + 12 < cLine) (I : L2.Inv X pins σ H s) (c : DicK (gd X) H x y k kvs φ a) (rx : L2.RelV x v) (ry : L2.RelV y u) {d : D} (hd : dget kvs k = some d)
    (h : ∀ w u' s', L2.Inv X pins σ H s' → VR (gd X) φ H d w → L2.RelV w u' → Q u' s') : wpAny (model X.prog X.w) A (getItem v u) Q E s := by
  obtain ⟨rfl, rk, cr, al⟩ := c
  cases rx
  obtain ⟨h1, o, h2, h3, ⟨k1, k2, vs, k3, k4⟩ | ⟨k1, k2, xs, k3, k4⟩⟩ := dic_heap I cr al
  · have f := flat_get (g := gd X) k1 k4 k2
    rw [hd] at f
    cases q : valueAt vs (toFlat k) with
    | none => rw [q] at f; exact f.elim
    | some u' =>
      rw [q] at f
      obtain ⟨w, f1, f2⟩ := f
      exact wpAny_getItem_of (flat_is (g := gd X) k1 rk ry) k3.mapOf q (h w u' _ (I.tok _) f1 f2)
  · obtain ⟨b, rfl⟩ := deep_ref k1 rk
    cases ry
    have f := deep_get (g := gd X) k1 k4 k2
    rw [hd] at f
    cases q : atKey xs (toKey k) with
    | none => rw [q] at f; exact f.elim
    | some p =>
      rw [q] at f
      obtain ⟨w, f1, f2⟩ := f
      exact wpAny_getItem_heap (by show A.in1.units + 8 < cLine; show A.units + 1 + 8 < cLine; omega) (deep_is (g := gd X) I.hok k1 rk) k3 q (h w p.2 _ (I.tok _) f1 f2)
theorem d_getD {k d0 : D} {x y z : V} {v u r : Value} {Q : Value → Shared → Prop} (hu : A.units + 12 < cLine) (I : L2.Inv X pins σ H s) (c : DicK (gd X) H x y k kvs φ a) (rx : L2.RelV x v) (ry : L2.RelV y u) (rz : L2.RelV z r) (r0 : VR (gd X) φ H d0 z)
    (h : ∀ w u' s', L2.Inv X pins σ H s' → VR (gd X) φ H ((dget kvs k).getD d0) w → L2.RelV w u' → Q u' s') : wpAny (model X.prog X.w) A (call (.builtin "dict.get") [v, u, r]) Q E s := by
  obtain ⟨rfl, rk, cr, al⟩ := c
  cases rx
  obtain ⟨h1, o, h2, h3, ⟨k1, k2, vs, k3, k4⟩ | ⟨k1, k2, xs, k3, k4⟩⟩ := dic_heap I cr al
  · have f := flat_get (g := gd X) k1 k4 k2
    have fin : ∃ w, VR (gd X) φ H ((dget kvs k).getD d0) w ∧ L2.RelV w ((valueAt vs (toFlat k)).getD r) := by
      cases q1 : dget kvs k <;> cases q2 : valueAt vs (toFlat k) <;> rw [q1, q2] at f <;> first | exact f.elim | exact ⟨z, r0, rz⟩ | exact f
    obtain ⟨w, f1, f2⟩ := fin
    exact call_meetsIn PySem.F.slot_dict_get k3.typeIs PySem.F.entry_dict_get (PySem.F.args_dict_get_3 _ _ _) (meets_dict_get_default (L2.mixKind X.prog X.w) a (flat_is (g := gd X) k1 rk ry) h1 r) ⟨_, k3.mapOf, h w _ _ (I.tok _) f1 f2⟩
  · obtain ⟨b, rfl⟩ := deep_ref k1 rk
    cases ry
    have f := deep_get (g := gd X) k1 k4 k2
    have fin : ∃ w, VR (gd X) φ H ((dget kvs k).getD d0) w ∧ L2.RelV w (((atKey xs (toKey k)).map (·.2)).getD r) := by
      cases q1 : dget kvs k <;> cases q2 : (atKey xs (toKey k)).map (·.2) <;> rw [q1, q2] at f <;> first | exact f.elim | exact ⟨z, r0, rz⟩ | exact f
    obtain ⟨w, f1, f2⟩ := fin
    exact call_meetsIn PySem.F.slot_dict_get k3.typeIs PySem.F.entry_dict_get (PySem.F.args_dict_get_3 _ _ _) (meetsH_dict_get_default (nestedKind X.prog X.w) a b h1 r) ⟨by show A.in1.units + 8 < cLine; show A.units + 1 + 8 < cLine; omega, toKey k, xs, deep_is (g := gd X) I.hok k1 rk, k3, h w _ _ (I.tok _) f1 f2⟩
theorem found_isSome {g : Gd} {o : Option D} {u : Option Value} (f : FoundR g φ H o u) : o.isSome = u.isSome := by
  cases o <;> cases u <;> first | rfl | exact f.elim
theorem d_isin {k : D} {x y : V} {v u : Value} {Q : Value → Shared → Prop} (hu : A.units + 12 < cLine) (I : L2.Inv X pins σ H s) (c : DicK (gd X) H x y k kvs φ a) (rx : L2.RelV x v) (ry : L2.RelV y u)
    (h : ∀ s', L2.Inv X pins σ H s' → Q (.bool (dget kvs k).isSome) s') : wpAny (model X.prog X.w) A (compareOp .In u v) Q E s := by
  obtain ⟨rfl, rk, cr, al⟩ := c
  cases rx
  obtain ⟨h1, o, h2, h3, ⟨k1, k2, vs, k3, k4⟩ | ⟨k1, k2, xs, k3, k4⟩⟩ := dic_heap I cr al
  · refine wpAny_in_of (flat_is (g := gd X) k1 rk ry) h1 k3.mapOf ?_
    rw [← found_isSome (flat_get (g := gd X) k1 k4 k2)]
    exact h _ (I.tok _)
  · obtain ⟨b, rfl⟩ := deep_ref k1 rk
    cases ry
    refine wpAny_in_heap (by show A.in1.units + 8 < cLine; show A.units + 1 + 8 < cLine; omega) (deep_is (g := gd X) I.hok k1 rk) h1 k3 ?_
    have f := found_isSome (deep_get (g := gd X) k1 k4 k2)
    rw [Option.isSome_map] at f
    rw [← f]
    exact h _ (I.tok _)
theorem d_notin {k : D} {x y : V} {v u : Value} {Q : Value → Shared → Prop} (hu : A.units + 12 < cLine) (I : L2.Inv X pins σ H s) (c : DicK (gd X) H x y k kvs φ a) (rx : L2.RelV x v) (ry : L2.RelV y u)
    (h : ∀ s', L2.Inv X pins σ H s' → Q (.bool (!(dget kvs k).isSome)) s') : wpAny (model X.prog X.w) A (compareOp .NotIn u v) Q E s := by
  obtain ⟨rfl, rk, cr, al⟩ := c
  cases rx
  obtain ⟨h1, o, h2, h3, ⟨k1, k2, vs, k3, k4⟩ | ⟨k1, k2, xs, k3, k4⟩⟩ := dic_heap I cr al
  · refine wpAny_notIn_of (flat_is (g := gd X) k1 rk ry) h1 k3.mapOf ?_
    rw [← found_isSome (flat_get (g := gd X) k1 k4 k2)]
    exact h _ (I.tok _)
  · obtain ⟨b, rfl⟩ := deep_ref k1 rk
    cases ry
    refine wpAny_notIn_heap (by show A.in1.units + 8 < cLine; show A.units + 1 + 8 < cLine; omega) (deep_is (g := gd X) I.hok k1 rk) h1 k3 ?_
    have f := found_isSome (deep_get (g := gd X) k1 k4 k2)
    rw [Option.isSome_map] at f
    rw [← f]
    exact h _ (I.tok _)
theorem pin_stp {g : Gd} {φ : List Addr} {H : Hp} {a : Addr} {o o' : Obj} (e : H a = some (pinO a o)) (hm : a ∈ φ) : Stp φ H φ (L2.upd H a (pinO a o')) :=
  ⟨fun _ _ e => e, fun b u e' nb => by rw [L2.upd_ne (fun q => nb (by rw [q]; exact hm))]; exact e', fun b vs e' => by rw [L2.upd_ne (L2.ne_of e' e (fun z => nomatch z))]; exact e',
    fun b ob u e' => by rw [L2.upd_ne (L2.ne_of e' e (fun z => nomatch z))]; exact e', fun _ h n => absurd h n⟩
/-- d[k] = v -/
theorem d_set {k d : D} {x y z : V} {v u r : Value} {Q : Unit → Shared → Prop} (hu : A.units + 12 < cLine) (hm : a ∈ φ) (I : L2.Inv X pins σ H s) (c : DicK (gd X) H x y k kvs φ a) (rx : L2.RelV x v) (ry : L2.RelV y u) (rz : L2.RelV z r) (r0 : VR (gd X) φ H d z) (hl : kvs.length < LIM)
    (h : ∀ (o : HO) (s' : Shared), Stp φ H φ (L2.upd H a o) → CellR (gd X) φ (L2.upd H a o) a (.dic (dput kvs k d)) → L2.Inv X pins σ (L2.upd H a o) s' → Q () s') : wpAny (model X.prog X.w) A (setItem v u r) Q E s := by
  obtain ⟨rfl, rk, cr, al⟩ := c
  cases rx
  have hlen : (dput kvs k d).length ≤ LIM := by have := dput_length kvs k d; omega
  obtain ⟨h1, o, h2, h3, ⟨k1, k2, vs, k3, k4⟩ | ⟨k1, k2, xs, k3, k4⟩⟩ := dic_heap I cr al
  · have hz : vs.length ≤ sizeLine := by rw [← Paired.length k4]; exact lim_line (Nat.le_of_lt hl)
    refine wpAny_setItem_pairs (hsz := hz) (flat_is (g := gd X) k1 rk ry) k3 fun h' dd' hs => ?_
    obtain ⟨o', e1, f1⟩ := dic_flat (g := gd X) (φ := φ) (H := H) dd' (flat_put (g := gd X) k1 r0 rz k4 k2) (dput_keys k1 k2)
    have st := pin_stp (g := gd X) (o' := o') h2 hm
    refine h (pinO a o') _ st ⟨o', L2.upd_same, h1, hlen, .inl ?_⟩ (L2.d_write I (by rw [h2]; exact True.intro) hs ⟨_, e1⟩ (pinO_ok e1))
    obtain ⟨q1, vs', q2, q3⟩ := f1
    exact ⟨q1, vs', q2, Paired.mapR q3 fun _ _ ⟨z1, w, z2, z3⟩ => ⟨z1, w, z2.mono st, z3⟩⟩
  · obtain ⟨b, rfl⟩ := deep_ref k1 rk
    cases ry
    have hz : xs.length ≤ sizeLine := by rw [← Paired.length k4]; exact lim_line (Nat.le_of_lt hl)
    refine wpAny_setItem_heap (hsz := hz) (by show A.in1.units + 8 < cLine; show A.units + 1 + 8 < cLine; omega) (deep_is (g := gd X) I.hok k1 rk) k3 fun h' dd' hs => ?_
    obtain ⟨o', e1, f1⟩ := dic_deep (g := gd X) (φ := φ) (H := H) dd' (deep_put (g := gd X) k1 rk r0 rz k4 k2) (dput_keys k1 k2)
    have st := pin_stp (g := gd X) (o' := o') h2 hm
    refine h (pinO a o') _ st ⟨o', L2.upd_same, h1, hlen, .inr ?_⟩ (L2.d_write I (by rw [h2]; exact True.intro) hs ⟨_, e1⟩ (pinO_ok e1))
    obtain ⟨q1, xs', es, ep, q2, q3, q4, q5, q6⟩ := f1
    exact ⟨q1, xs', es, ep, q2, q3, q4, q5, Paired.mapR q6 fun _ _ ⟨z1, z0, w, z2, z3⟩ => ⟨z1, z0.mono st, w, z2.mono st, z3⟩⟩
end
end IP

/-! IpG: rules of the language's syntax that the hand layer lacks: methods of pinned dicts, stores, walks. -/
namespace IP
open PySem PySem.Spec PyProof.Rows
/-! ### syntax -/
def isStar : Expr → Bool
  | .Starred _ _ => true
  | _ => false
theorem star_cons {e : Expr} {es : List Expr} {env : PySem.Env} (h : isStar e = false) : starEach (e :: es) env = (false, eval e env) :: starEach es env := by
  cases e <;> first | rfl | cases h
theorem star_plain : ∀ {es : List Expr} {env : PySem.Env} {pos : Pos}, es.all (fun e => !isStar e) = true → (backTo pos (starEach es env)).any (·.1) = false
  | [], _, _, _ => rfl
  | e :: es, env, pos, h => by
    rw [List.all_cons, Bool.and_eq_true] at h
    have h1 : isStar e = false := by simpa using h.1
    rw [star_cons h1]
    show (false || (backTo pos (starEach es env)).any (·.1)) = false
    rw [star_plain h.2]; rfl
theorem star_all : ∀ {es : List Expr} {env : PySem.Env} {pos : Pos}, es.all (fun e => !isStar e) = true → (backTo pos (starEach es env)).all (fun x => !x.1) = true
  | [], _, _, _ => rfl
  | e :: es, env, pos, h => by
    rw [List.all_cons, Bool.and_eq_true] at h
    have h1 : isStar e = false := by simpa using h.1
    rw [star_cons h1]
    show (!false && (backTo pos (starEach es env)).all (fun x => !x.1)) = true
    rw [star_all h.2]; rfl
def isLc : Expr → Bool
  | .ListComp _ _ _ _ => true
  | .SetComp _ _ _ _ => true
  | .DictComp _ _ _ _ _ => true
  | _ => false
theorem swaps_no {e : Expr} {t : Option Expr} {l : Nat} {env : PySem.Env} (h : isLc e = false) : swapsWith e t l env = pure false := by
  cases e <;> first | rfl | cases h
def isSup : Expr → Bool
  | .Call (.Name _ _) [] [] _ => true
  | _ => false
theorem attr_base {o : Expr} {m : Str} {env : PySem.Env} {whole : Sem Value} (h : isSup o = false) : attributeBase o m env whole = whole := by
  unfold attributeBase
  split
  · cases h
  · rfl
def isSet : Expr → Bool
  | .Set _ _ _ => true
  | _ => false
theorem folded_no {e : Expr} {env : PySem.Env} (h : isSet e = false) (x : Value) : foldedSetIterable e env x = pure x := by
  cases e <;> first | rfl | cases h
theorem nomarks {b : Expr} {op : CmpOp} (h : isSet b = false) : behindInMarks op b = false := by
  cases b <;> first | rfl | cases h

theorem pe_or2 {X : L2.Cx} {e : Expr} {t t' : L2.TE} (h : L2.PE X e t) (h' : L2.PE X e t') : L2.PE X e (fun σ H Q => t σ H Q ∨ t' σ H Q) :=
  ⟨fun pins s σ H Q I q => q.elim (h.run pins s σ H Q I) (h'.run pins s σ H Q I)⟩
theorem ps_or2 {X : L2.Cx} {e : Stmt} {t t' : L2.TS} (h : L2.PS X e t) (h' : L2.PS X e t') : L2.PS X e (fun D σ H => t D σ H ∨ t' D σ H) :=
  ⟨fun pins s σ H D I q => q.elim (h.run pins s σ H D I) (h'.run pins s σ H D I)⟩
theorem pi_or2 {X : L2.Cx} {tg e : Expr} {t t' : L2.TI} (h : L2.PI X tg e t) (h' : L2.PI X tg e t') : L2.PI X tg e (fun σ H R => t σ H R ∨ t' σ H R) :=
  ⟨fun pins s σ H R I q => q.elim (h.run pins s σ H R I) (h'.run pins s σ H R I)⟩
theorem pg_or2 {X : L2.Cx} {tg : Expr} {t t' : L2.TG} (h : L2.PG X tg t) (h' : L2.PG X tg t') : L2.PG X tg (fun v σ H Q => t v σ H Q ∨ t' v σ H Q) :=
  ⟨fun pins s σ H v u Q I r q => q.elim (h.run pins s σ H v u Q I r) (h'.run pins s σ H v u Q I r)⟩
theorem pset_or2 {X : L2.Cx} {t t' : L2.TSet} (h : L2.PSet X t) (h' : L2.PSet X t') : L2.PSet X (fun o i v H Q => t o i v H Q ∨ t' o i v H Q) :=
  fun pins s σ H o i v ov iv u Q I r1 r2 r3 q => q.elim (h pins s σ H o i v ov iv u Q I r1 r2 r3) (h' pins s σ H o i v ov iv u Q I r1 r2 r3)

section
variable {X : L2.Cx}
/-- the receiver is a T -/
def IsT (X : L2.Cx) (T : String) (ty : V → Hp → Prop) : Prop :=
  ∀ (pins : List (Addr × Obj)) (s : Shared) (σ : L2.St) (H : Hp) (x : V) (v : Value), L2.Inv X pins σ H s → L2.RelV x v → ty x H → s.TypeIs v T ∧ ∀ a, v = .ref a → ∃ ob, s.heap.get? a = some ob ∧ ob.dict = none
theorem isT_ty {T : String} : IsT X T (L2.tyV X.K T) := fun pins s σ H x v I r t => L2.tyV_is I r t
def tyDic (x : V) (H : Hp) : Prop := ∃ (a : Addr) (o : Obj), x = .ref a ∧ H a = some (pinO a o) ∧ o.ExactDict
theorem isT_dic : IsT X "dict" tyDic := fun pins s σ H x v I r ⟨a, o, e1, e2, e3⟩ => by
  subst e1
  cases r
  have h := pin_get I e2
  exact ⟨⟨o, h, e3.1⟩, fun b q => by cases q; exact ⟨o, h, e3.2.1⟩⟩
theorem dic_ty {g : Gd} {φ : List Addr} {H : Hp} {a : Addr} {kvs : List (D × D)} (c : CellR g φ H a (.dic kvs)) (hok : ∃ h, L2.HOk g.P g.w H h) : tyDic (.ref a) H := by
  obtain ⟨o, h1, h2, h3, h4⟩ := c
  obtain ⟨h, hok⟩ := hok
  refine ⟨a, o, rfl, h1, ?_⟩
  rcases h4 with ⟨k1, vs, q, p⟩ | ⟨k1, xs, es, ep, q1, q2, q3, q4, p⟩
  · have e := (hok a _ h1).1
    obtain ⟨o', es, ep, h5, h6, _⟩ := q h e
    rw [e] at h5; cases h5; exact h6
  · exact q1
def tMt (ty : V → Hp → Prop) (r : V → List V → Hp → L2.VK → Prop) (to : L2.TE) (t : L2.TA) : L2.TE := fun σ H Q => to σ H fun x H1 => ty x H1 ∧ t σ H1 fun xs H2 => r x xs H2 Q
/-- o.m(e, ..), m a method of the built-in type T -/
theorem pe_mt {T id : String} {name : Str} {o e0 : Expr} {es : List Expr} {apos cpos : Pos} {ty : V → Hp → Prop} {r : V → List V → Hp → L2.VK → Prop} {to : L2.TE} {t : L2.TA} (hT : IsT X T ty) (pa : PlainAttrs T) (slot : Slot T name id) (hty : typeOf (.builtin id) = pure (.type "method_descriptor"))
    (hm : L2.MtR X id r) (ho : L2.PE X o to) (ha : L2.PA X (e0 :: es) t) (hb : isSup o = false) (hs : (e0 :: es).all (fun e => !isStar e) = true) (hl : (e0 :: es).length < 30) (hline : (apos.endLine == cpos.line) = true) : L2.PE X (.Call (.Attribute o name apos) (e0 :: es) [] cpos) (tMt ty r to t) := by
  refine ⟨fun pins s σ H Q I h => ?_⟩
  have few : ((backTo cpos (starEach (e0 :: es) X.env)).all (fun x => !x.1) && (backToKw cpos (keywordEach [] X.env)).all (fun x => x.1.isSome) && decide ((e0 :: es).length + ([] : List Keyword).length + (if ([] : List Keyword).isEmpty then 0 else 1) < 30)) = true := by
    rw [star_all hs]
    show (true && true && decide ((e0 :: es).length + 0 + 0 < 30)) = true
    simpa using hl
  refine wpAny_Call_method_late (attr_base hb) few hline rfl (L2.thn (ho.run pins s σ H _ I h) fun v s1 ⟨x, H1, I1, r1, t1, q1⟩ => ?_)
  obtain ⟨h1, h2⟩ := hT pins s1 σ H1 x v I1 r1 t1
  refine ⟨T, id, pa, slot, hty, h1, h2, ?_⟩
  have hA := ha.run cpos pins s1 σ H1 _ I1 q1
  have hs0 : isStar e0 = false := by
    rw [List.all_cons, Bool.and_eq_true] at hs
    simpa using hs.1
  have hp := star_plain (env := X.env) (pos := cpos) hs
  rw [star_cons hs0] at hA hp ⊢
  exact Calls.callWith_builtin hp (Calls.evalArgs_plain (L2.thn hA fun us s2 ⟨vs, H2, I2, r2, q2⟩ => hm pins s2 σ H2 x vs v us Q I2 r1 r2 q2))

/-! ### dicts -/
def tDG (X : L2.Cx) (td ty : L2.TE) : L2.TE := fun σ H Q => td σ H fun x H1 => ty σ H1 fun y H2 => ∃ (φ : List Addr) (a : Addr) (k d : D) (kvs : List (D × D)), DicK (gd X) H2 x y k kvs φ a ∧ dget kvs k = some d ∧ ∀ w, VR (gd X) φ H2 d w → Q w H2
def isSlice : Expr → Bool
  | .Slice _ _ _ _ => true
  | _ => false
theorem sub_no {i : Expr} (h : isSlice i = false) (o v : Value) : subscripted i false o v = operate [o, v] (getItem o v) := by
  cases i <;> first | rfl | cases h
theorem dicK_ty {H : Hp} {x y : V} {k : D} {kvs : List (D × D)} {φ : List Addr} {a : Addr} {pins : List (Addr × Obj)} {σ : L2.St} {s : Shared} (I : L2.Inv X pins σ H s) (c : DicK (gd X) H x y k kvs φ a) : tyDic x H := by
  obtain ⟨rfl, _, cr, _⟩ := c
  exact dic_ty cr ⟨s.heap, I.hok⟩
theorem pe_dgetI {o i : Expr} {td ty : L2.TE} {pos : Pos} (hu : X.A.units + 12 < cLine) (ho : L2.PE X o td) (hi : L2.PE X i ty) (hs : isSlice i = false) : L2.PE X (.Subscript o i pos) (tDG X td ty) := by
  refine ⟨fun pins s σ H Q I h => ?_⟩
  refine L2.subD_of PySem.F.slot_dict_getitem.lookup (sub_no hs) (L2.thn (ho.run pins s σ H _ I h) fun u s1 ⟨x, H1, I1, rx, q1⟩ => L2.thn (hi.run pins s1 σ H1 _ I1 q1) fun v s2 ⟨y, H2, I2, ry, q2⟩ => ?_)
  obtain ⟨φ, a, k, d, kvs, c, hd, q⟩ := q2
  exact ⟨(isT_dic pins s2 σ H2 x u I2 rx (dicK_ty I2 c)).1, d_get hu I2 c rx ry hd fun w u' s' I' r1 r2 => ⟨w, H2, I', r2, q w r1⟩⟩
def rDIn (X : L2.Cx) : L2.R2 := fun x y H Q => ∃ (φ : List Addr) (a : Addr) (k : D) (kvs : List (D × D)), DicK (gd X) H y x k kvs φ a ∧ Q (.bl (dget kvs k).isSome) H
def rDNi (X : L2.Cx) : L2.R2 := fun x y H Q => ∃ (φ : List Addr) (a : Addr) (k : D) (kvs : List (D × D)), DicK (gd X) H y x k kvs φ a ∧ Q (.bl (!(dget kvs k).isSome)) H
theorem op_din (hu : X.A.units + 12 < cLine) : L2.OpR X (compareOp .In) (rDIn X) := by
  intro pins s σ H x y v u Q I rx ry h
  obtain ⟨φ, a, k, kvs, c, q⟩ := h
  exact d_isin hu I c ry rx fun s' I' => ⟨.bl _, H, I', rfl, q⟩
theorem op_dni (hu : X.A.units + 12 < cLine) : L2.OpR X (compareOp .NotIn) (rDNi X) := by
  intro pins s σ H x y v u Q I rx ry h
  obtain ⟨φ, a, k, kvs, c, q⟩ := h
  exact d_notin hu I c ry rx fun s' I' => ⟨.bl _, H, I', rfl, q⟩
def rDPut (X : L2.Cx) : L2.TSet := fun o i v H Q => ∃ (φ : List Addr) (a : Addr) (k d : D) (kvs : List (D × D)), a ∈ φ ∧ DicK (gd X) H o i k kvs φ a ∧ VR (gd X) φ H d v ∧ kvs.length < LIM ∧
  ∀ o' : HO, Stp φ H φ (L2.upd H a o') → CellR (gd X) φ (L2.upd H a o') a (.dic (dput kvs k d)) → Q (L2.upd H a o')
theorem set_dic (hu : X.A.units + 12 < cLine) : L2.PSet X (rDPut X) := by
  intro pins s σ H o i v ov iv u Q I r1 r2 r3 h
  obtain ⟨φ, a, k, d, kvs, hm, c, rv, hl, q⟩ := h
  exact d_set hu hm I c r1 r2 r3 rv hl fun o' s' st cr I' => ⟨_, I', q o' st cr⟩
def rDGet2 (X : L2.Cx) : V → List V → Hp → L2.VK → Prop := fun x xs H Q => ∃ (φ : List Addr) (a : Addr) (k d : D) (y z : V) (kvs : List (D × D)), xs = [y, z] ∧ DicK (gd X) H x y k kvs φ a ∧ VR (gd X) φ H d z ∧ ∀ w, VR (gd X) φ H ((dget kvs k).getD d) w → Q w H
theorem mt_dget2 (hu : X.A.units + 12 < cLine) : L2.MtR X "dict.get" (rDGet2 X) := by
  intro pins s σ H x xs v us Q I rx rxs h
  obtain ⟨φ, a, k, d, y, z, kvs, rfl, c, rd, q⟩ := h
  obtain ⟨u1, u2, rfl, r1, r2⟩ := L2.Vals.two rxs
  exact d_getD hu I c rx r1 r2 rd fun w u' s' I' k1 k2 => ⟨w, H, I', k2, q w k1⟩
/-- {} -/
def tDNew : L2.TE := fun _ H Q => ∀ (p : Addr) (o : Obj), H p = none → (p == sysModules) = false → o = { cls := .type "dict", data := .dict #[] } → Q (.ref p) (L2.upd H p (pinO p o))
theorem pe_dnewI {pos : Pos} : L2.PE X (.Dict [] [] pos) tDNew := ⟨fun pins s σ H Q I h => by
  have hn := I.hok.fresh (Nat.le_refl s.heap.objs.size)
  have e : (s.heap.push { cls := .type "dict", data := .dict #[] }).get? s.heap.objs.size = some { cls := .type "dict", data := .dict #[] } := Heap.get?_push_size _ rfl
  exact wpAny_Dict_empty ⟨.ref s.heap.objs.size, _, I.laid (t' := s.toks) (fun _ _ q => Heap.get?_push_of_some _ q) (Nat.le_refl _) (pinO_ok e), rfl, h _ _ hn (beq_eq_false_iff_ne.mpr (Ne.symm (Nat.ne_of_lt I.big))) rfl⟩⟩
theorem dic_nil {g : Gd} {φ : List Addr} {H : Hp} {p : Addr} (hs : (p == sysModules) = false) (e : H p = some (pinO p { cls := .type "dict", data := .dict #[] })) : CellR g φ H p (.dic []) := by
  refine ⟨_, e, hs, Nat.zero_le _, .inl ⟨fun _ h => absurd h (by simp), [], fun h q => ⟨_, #[], 0, q, ⟨rfl, rfl, rfl⟩, rfl, fun e he => absurd he (by simp), .nil, List.nodup_nil⟩, .nil⟩⟩

/-- the entries' keys, in order -/
theorem dic_keys {φ : List Addr} {H : Hp} {s : Shared} {pins : List (Addr × Obj)} {σ : L2.St} {a : Addr} {kvs : List (D × D)} (I : L2.Inv X pins σ H s) (c : CellR (gd X) φ H a (.dic kvs)) :
    (a == sysModules) = false ∧ ∃ (o : Obj) (es : Array DictEntry) (ep : Nat), H a = some (pinO a o) ∧ s.heap.get? a = some o ∧ o.ExactDict ∧ o.data = .dict es ep ∧ es.size = kvs.length ∧
      ∀ (i : Nat) (p : D × D), kvs[i]? = some p → ∃ (en : DictEntry) (v : V), es[i]? = some en ∧ L2.RelV v en.key ∧ VR (gd X) φ H p.1 v := by
  obtain ⟨o, h1, h2, h3, h4⟩ := c
  have ho := pin_get I h1
  refine ⟨h2, o, ?_⟩
  rcases h4 with ⟨k1, vs, q, p⟩ | ⟨k1, xs, es, ep, q1, q2, q3, q4, p⟩
  · obtain ⟨o', es, ep, h5, h6, h7, h8, h9, h10⟩ := q _ ho
    rw [ho] at h5; cases h5
    have hl : es.toList.length = vs.length := h9.length
    have hl2 : kvs.length = vs.length := Paired.length p
    refine ⟨es, ep, h1, ho, h6, h7, by rw [← Array.length_toList, hl, hl2], fun i pr e => ?_⟩
    obtain ⟨b, hb, e1, w, e2, e3⟩ := L2.paired_get p e
    have key : ∀ {l : List DictEntry} {m : List (L2.Key × Value)}, Pairs (L2.mixKind X.prog X.w) l m → ∀ (j : Nat) (b : L2.Key × Value), m[j]? = some b → ∃ en, l[j]? = some en ∧ (L2.mixKind X.prog X.w).is b.1 en.key = true := by
      intro l m r
      induction r with
      | nil => intro j b hj; simp at hj
      | cons r1 r2 r3 ih =>
        intro j b hj
        cases j with
        | zero => simp at hj; subst hj; exact ⟨_, rfl, r1⟩
        | succ j => exact ih j b (by simpa using hj)
    obtain ⟨en, he1, he2⟩ := key h9 i b hb
    refine ⟨en, L2.kV (toFlat pr.1), by simpa using he1, ?_, ?_⟩
    · rw [e1]; exact L2.relV_key he2
    · rcases flat_cases (k1 pr (List.mem_of_getElem? e)) with ⟨j, ej⟩ | ⟨x, ej⟩
      · rw [ej]; exact .int j
      · rw [ej]; exact .str x
  · have l1 : es.size = xs.length := size_of_entries q3
    have l2 : kvs.length = xs.length := Paired.length p
    refine ⟨es, ep, h1, ho, q1, q2, by omega, fun i pr e => ?_⟩
    obtain ⟨b, hb, e1, e2, _⟩ := L2.paired_get p e
    have q := entry_at q3 i
    rw [hb] at q
    exact ⟨_, .ref b.2.1, q, rfl, e2⟩
/-- list(d) -/
def rListD (X : L2.Cx) : List V → Hp → L2.VK → Prop := fun xs H Q => ∃ (φ : List Addr) (a : Addr) (kvs : List (D × D)), xs = [.ref a] ∧ CellR (gd X) φ H a (.dic kvs) ∧ ∀ vs, VRs (gd X) φ H (kvs.map (·.1)) vs → ∀ p, H p = none → Q (.ref p) (L2.upd H p (.lst vs))
theorem vrs_of_at {g : Gd} {φ : List Addr} {H : Hp} : ∀ {ds : List D} {us : List Value}, ds.length = us.length → (∀ (i : Nat) (d : D) (u : Value), ds[i]? = some d → us[i]? = some u → ∃ v, VR g φ H d v ∧ L2.RelV v u) → ∃ vs, VRs g φ H ds vs ∧ L2.Vals vs us
  | [], [], _, _ => ⟨[], .nil, .nil⟩
  | [], _ :: _, e, _ => by simp at e
  | _ :: _, [], e, _ => by simp at e
  | d :: ds, u :: us, e, h => by
    obtain ⟨v, h1, h2⟩ := h 0 d u rfl rfl
    obtain ⟨vs, h3, h4⟩ := vrs_of_at (ds := ds) (us := us) (by simpa using e) fun i d' u' e1 e2 => h (i + 1) d' u' (by simpa using e1) (by simpa using e2)
    exact ⟨v :: vs, .cons h1 h3, .cons h2 h4⟩
theorem cr_listD (hc : X.calm = true) : L2.CallR X (.type "list") (rListD X) := by
  intro pins s σ H xs us Q I r h
  obtain ⟨φ, a, kvs, rfl, c, q⟩ := h
  obtain ⟨u, rfl, rx⟩ := r.one
  cases rx
  obtain ⟨hs, o, es, ep, h1, h2, h3, h4, h5, h6⟩ := dic_keys I c
  have hz : kvs.length ≤ sizeLine := by obtain ⟨_, _, _, z, _⟩ := c; exact lim_line z
  refine PySem.W.kdl_call (L2.kdl_raw hs h3 h4) (I.ok.hd hc) h2 (by omega) fun h' tk acc' c' kp e it => ?_
  have hl : acc'.toList.length = kvs.length := by rw [Array.length_toList, it.1]; exact h5
  obtain ⟨vs, k1, k2⟩ := vrs_of_at (g := gd X) (φ := φ) (H := H) (ds := kvs.map (·.1)) (us := acc'.toList) (by rw [List.length_map]; exact hl.symm) fun i d u e1 e2 => by
    rw [List.getElem?_map] at e1
    obtain ⟨p, hp, rfl⟩ := Option.map_eq_some_iff.mp e1
    obtain ⟨en, v, g1, g2, g3⟩ := h6 i p hp
    obtain ⟨en', g4, g5⟩ := it.2 i u (by rw [← Array.getElem?_toList]; exact e2)
    rw [g1] at g4; cases g4
    exact ⟨v, g3, by rw [g5]; exact g2⟩
  have hlen : vs.length ≤ sizeLine := by rw [← k1.length, List.length_map]; exact hz
  refine ⟨.ref s.heap.objs.size, _, I.laid (t' := tk) (o := .lst vs) kp (Nat.le_refl _) ?_, rfl, q _ k1 _ (I.hok.fresh (Nat.le_refl _))⟩
  exact ⟨hlen, acc'.toList, c', k2, by rw [Array.toArray_toList]; exact e⟩
end
end IP

/-! IpH: what is walked. -/
namespace IP
open PySem PySem.Spec PyProof.Rows
/-- J walks the items ds, while the watched cells stay -/
structure IterR (g : Gd) (φ : List Addr) (H : Hp) (ds : List D) (w : Watch) (J : L2.It) : Prop where
  go : ∀ (φ' : List Addr) (H' : Hp) (st' : Sto) (i : Nat), Stp φ H φ' H' → StoR g φ' H' st' → okW w st' = true → i < ds.length → J.go i H'
  yld : ∀ (φ' : List Addr) (H' : Hp) (st' : Sto) (i : Nat) (x : V) (H'' : Hp) (d : D), Stp φ H φ' H' → StoR g φ' H' st' → okW w st' = true → ds[i]? = some d → J.yld i H' x H'' → Stp φ' H' φ' H'' ∧ StoR g φ' H'' st' ∧ VR g φ' H'' d x
  stop : ∀ (φ' : List Addr) (H' : Hp) (st' : Sto), Stp φ H φ' H' → StoR g φ' H' st' → okW w st' = true → J.stop ds.length H'
theorem okW_at {n : Nat} {c : Cell} {st : Sto} {w : Watch} (h : okW w st = true) (hm : (n, c) ∈ w) : st[n]? = some c := of_decide_eq_true (List.all_eq_true.mp h (n, c) hm)
section
variable {g : Gd} {φ : List Addr} {H : Hp} {st : Sto}
theorem iter_lst {n : Nat} {a : Addr} {ds : List D} {w : Watch} (hn : φ[n]? = some a) (hw : (n, Cell.lst ds) ∈ w) : IterR g φ H ds w (L2.Itl g.K a) where
  go := fun φ' H' st' i s S k hi => by
    obtain ⟨vs, h1, h2⟩ := lst_at S (okW_at k hw) (s.pre _ _ hn)
    obtain ⟨v, h3, _⟩ := h2.get (List.getElem?_eq_getElem hi)
    exact ⟨vs, v, L2.SqL.of h1, h3⟩
  yld := fun φ' H' st' i x H'' d s S k hi y => by
    obtain ⟨vs, h1, h2⟩ := lst_at S (okW_at k hw) (s.pre _ _ hn)
    obtain ⟨v, h3, h4⟩ := h2.get hi
    obtain ⟨e, y⟩ := y
    subst e
    have := y vs (L2.SqL.of h1)
    rw [h3] at this; cases this
    exact ⟨Stp.refl _ _, S, h4⟩
  stop := fun φ' H' st' s S k => by
    obtain ⟨vs, h1, h2⟩ := lst_at S (okW_at k hw) (s.pre _ _ hn)
    exact ⟨vs, L2.SqL.of h1, by rw [h2.length]; exact Nat.le_refl _⟩
theorem iter_tup {a : Addr} {ds : List D} {vs : List V} (h : H a = some (.tup vs)) (r : VRs g φ H ds vs) : IterR g φ H ds [] (L2.Itt g.K a) where
  go := fun φ' H' st' i s S k hi => by
    obtain ⟨v, h3, _⟩ := r.get (List.getElem?_eq_getElem hi)
    exact ⟨vs, v, L2.SqT.of (s.tup _ _ h), h3⟩
  yld := fun φ' H' st' i x H'' d s S k hi y => by
    obtain ⟨v, h3, h4⟩ := (r.mono s).get hi
    obtain ⟨e, y⟩ := y
    subst e
    have := y vs (L2.SqT.of (s.tup _ _ h))
    rw [h3] at this; cases this
    exact ⟨Stp.refl _ _, S, h4⟩
  stop := fun φ' H' st' s S k => ⟨vs, L2.SqT.of (s.tup _ _ h), by rw [r.length]; exact Nat.le_refl _⟩
theorem sq_ro {φ' : List Addr} {H' : Hp} {a : Addr} {ns : List Int} (s : Stp φ H φ' H') (r : VR g φ H (.ro ns) (.ref a)) : L2.SqL g.K H' a (ns.map L2.V.int) := sq_of_ro (r.mono s)
theorem iter_ro {a : Addr} {ns : List Int} (r : VR g φ H (.ro ns) (.ref a)) : IterR g φ H (ns.map D.int) [] (L2.Itl g.K a) where
  go := fun φ' H' st' i s S k hi => by
    rw [List.length_map] at hi
    exact ⟨_, .int ns[i], sq_ro s r, by rw [List.getElem?_map, List.getElem?_eq_getElem hi]; rfl⟩
  yld := fun φ' H' st' i x H'' d s S k hi y => by
    obtain ⟨e, y⟩ := y
    subst e
    have q := y _ (sq_ro s r)
    rw [List.getElem?_map] at q hi
    obtain ⟨n, h1, h2⟩ := Option.map_eq_some_iff.mp q
    rw [h1] at hi
    cases hi
    subst h2
    exact ⟨Stp.refl _ _, S, .int n⟩
  stop := fun φ' H' st' s S k => ⟨_, sq_ro s r, by simp⟩
theorem iter_str {x : Str} : IterR g φ H (x.cps.toList.map fun c => D.str ⟨#[c]⟩) [] (L2.Its x) where
  go := fun φ' H' st' i s S k hi => by
    have h : i < x.cps.size := by simpa using hi
    exact h
  yld := fun φ' H' st' i v H'' d s S k hi y => by
    obtain ⟨e, c, h1, h2⟩ := y
    subst e h2
    rw [List.getElem?_map, Array.getElem?_toList, h1] at hi
    cases hi
    exact ⟨Stp.refl _ _, S, .str _⟩
  stop := fun φ' H' st' s S k => by show x.cps.size ≤ _; simp
theorem rngD_length : ∀ (n : Nat) (lo : Int), (rngD lo n).length = n
  | 0, _ => rfl
  | n + 1, lo => by rw [rngD, List.length_cons, rngD_length n]
theorem rngD_get : ∀ (n : Nat) (lo : Int) (i : Nat), i < n → (rngD lo n)[i]? = some (.int (lo + i))
  | 0, _, _, h => absurd h (Nat.not_lt_zero _)
  | n + 1, lo, 0, _ => by simp [rngD]
  | n + 1, lo, i + 1, h => by
    rw [rngD, List.getElem?_cons_succ, rngD_get n (lo + 1) i (by omega)]
    congr 2; omega
theorem iter_rng {lo : Int} {n : Nat} : IterR g φ H (rngD lo n) [] (L2.Itr lo n) where
  go := fun φ' H' st' i s S k hi => by rw [rngD_length] at hi; exact hi
  yld := fun φ' H' st' i v H'' d s S k hi y => by
    obtain ⟨e, h2⟩ := y
    subst e h2
    have hl : i < n := by
      have := (List.getElem?_eq_some_iff.mp hi).1
      rwa [rngD_length] at this
    rw [rngD_get n lo i hl] at hi
    cases hi
    exact ⟨Stp.refl _ _, S, .int _⟩
  stop := fun φ' H' st' s S k => by show n ≤ _; rw [rngD_length]; exact Nat.le_refl _
theorem zipI_length : ∀ (ds : List D) (k : Nat), (zipI k ds).length = ds.length
  | [], _ => rfl
  | d :: ds, k => by rw [zipI, List.length_cons, List.length_cons, zipI_length ds]
theorem zipI_get : ∀ (ds : List D) (k i : Nat) (d : D), (zipI k ds)[i]? = some d → ∃ e, ds[i]? = some e ∧ d = .tup [.int ((k + i : Nat) : Int), e]
  | [], _, _, _, h => by simp [zipI] at h
  | d :: ds, k, 0, e, h => by
    simp [zipI] at h
    exact ⟨d, rfl, by rw [← h]; simp⟩
  | d :: ds, k, i + 1, e, h => by
    rw [zipI, List.getElem?_cons_succ] at h
    obtain ⟨f, h1, h2⟩ := zipI_get ds (k + 1) i e h
    exact ⟨f, by simpa using h1, by rw [h2]; congr 3; omega⟩
theorem laid_tup {φ' : List Addr} {H' : Hp} {st' : Sto} {T : Addr} {ds : List D} {vs : List V} (S : StoR g φ' H' st') (hT : H' T = none) (r : VRs g φ' H' ds vs) :
    Stp φ' H' φ' (L2.upd H' T (.tup vs)) ∧ StoR g φ' (L2.upd H' T (.tup vs)) st' ∧ VR g φ' (L2.upd H' T (.tup vs)) (.tup ds) (.ref T) := by
  obtain ⟨s, S'⟩ := S.laid (o := .tup vs) hT
  exact ⟨s, S', .tup L2.upd_same (r.mono s)⟩
theorem iter_enmL {n : Nat} {a : Addr} {ds : List D} (hn : φ[n]? = some a) : IterR g φ H (zipI 0 ds) [(n, Cell.lst ds)] (L2.Ite g.K a) where
  go := fun φ' H' st' i s S k hi => by
    rw [zipI_length] at hi
    obtain ⟨vs, h1, h2⟩ := lst_at S (okW_at (n := n) (c := .lst ds) k (by simp)) (s.pre _ _ hn)
    obtain ⟨v, h3, _⟩ := h2.get (List.getElem?_eq_getElem hi)
    exact ⟨vs, v, L2.SqL.of h1, h3⟩
  yld := fun φ' H' st' i x H'' d s S k hi y => by
    obtain ⟨e, he, hd⟩ := zipI_get ds 0 i d hi
    subst hd
    obtain ⟨vs, h1, h2⟩ := lst_at S (okW_at (n := n) (c := .lst ds) k (by simp)) (s.pre _ _ hn)
    obtain ⟨v, h3, h4⟩ := h2.get he
    obtain ⟨T, x', rfl, hT, rfl, hx⟩ := y
    have := hx vs (L2.SqL.of h1)
    rw [h3] at this; cases this
    rw [Nat.zero_add]
    exact laid_tup S hT (.cons (.int _) (.cons h4 .nil))
  stop := fun φ' H' st' s S k => by
    obtain ⟨vs, h1, h2⟩ := lst_at S (okW_at (n := n) (c := .lst ds) k (by simp)) (s.pre _ _ hn)
    exact ⟨vs, L2.SqL.of h1, by rw [zipI_length, h2.length]; exact Nat.le_refl _⟩
end

/-! ### enumerate(tuple) -/
/-- the tuple at a, each item in a new pair -/
def ItEt (K : PySem.W.Frag) (a : Addr) : L2.It :=
  ⟨fun i H => ∃ (xs : List V) (x : V), L2.SqT K H a xs ∧ xs[i]? = some x, fun i H v H' => ∃ T x, v = .ref T ∧ H T = none ∧ H' = L2.upd H T (.tup [.int (i : Nat), x]) ∧ ∀ xs, L2.SqT K H a xs → xs[i]? = some x, fun i H => ∃ xs : List V, L2.SqT K H a xs ∧ xs.length ≤ i⟩
theorem iter_enmT {g : Gd} {φ : List Addr} {H : Hp} {a : Addr} {ds : List D} {vs : List V} (h : H a = some (.tup vs)) (r : VRs g φ H ds vs) : IterR g φ H (zipI 0 ds) [] (ItEt g.K a) where
  go := fun φ' H' st' i s S k hi => by
    rw [zipI_length] at hi
    obtain ⟨v, h3, _⟩ := r.get (List.getElem?_eq_getElem hi)
    exact ⟨vs, v, L2.SqT.of (s.tup _ _ h), h3⟩
  yld := fun φ' H' st' i x H'' d s S k hi y => by
    obtain ⟨e, he, hd⟩ := zipI_get ds 0 i d hi
    subst hd
    obtain ⟨v, h3, h4⟩ := (r.mono s).get he
    obtain ⟨T, x', rfl, hT, rfl, hx⟩ := y
    have := hx vs (L2.SqT.of (s.tup _ _ h))
    rw [h3] at this; cases this
    rw [Nat.zero_add]
    exact laid_tup S hT (.cons (.int _) (.cons h4 .nil))
  stop := fun φ' H' st' s S k => ⟨vs, L2.SqT.of (s.tup _ _ h), by rw [zipI_length, r.length]; exact Nat.le_refl _⟩
namespace EnumT
theorem new_meets {v : Value} {o : Obj} {T : Heap → Prop} (B : Begins v o T) :
    Meets (Builtin.«enumerate.__new__» ⟨[.type "enumerate", v], []⟩) (fun _ R s => T s.heap ∧
      R (.ok (.ret (.ref (s.heap.push o).objs.size)))
        { s with heap := (s.heap.push o).push { cls := .type "enumerate", data := .fields #[.none, .bool false, .ref s.heap.objs.size, rawInt 0, .none, .none] } }) := by
  refine .of_wp fun prog w A R s h => ?_
  obtain ⟨hp, gs, dr, tks, oss⟩ := s
  obtain ⟨b1, b2⟩ := h
  have sb := sub_enumerate
  have it1 : ∀ {A' : Around} {E : Value → Shared → Prop} {Q : Value → Shared → Prop}, Q (.ref hp.objs.size) ⟨hp.push o, gs, dr, tks, oss⟩ → wpAny (model prog w) A' (pyIter v) Q E ⟨hp, gs, dr, tks, oss⟩ :=
    fun z => B.iter prog w _ _ ⟨hp, gs, dr, tks, oss⟩ _ b1 z
  wp_walk using it1
  refine wpAny_stack_any fun stk => wpAny_pure (?_)
  split
  · rename_i cc _ _ _ _ _
    cases (cc == Value.type "enumerate") <;> (wp_walk using it1; exact ⟨_, rfl, b2⟩)
  · wp_walk using it1
    exact ⟨_, rfl, b2⟩
theorem call_new {prog : Program} {w : World} {A : Around} {E : Value → Shared → Prop} {s : Shared} {v : Value} {o : Obj} {T : Heap → Prop} {Q : Value → Shared → Prop} (B : Begins v o T) (t1 : T s.heap)
    (q : ∀ h', IsEnum h' (s.heap.objs.size + 1) s.heap.objs.size 0 .none → h'.get? s.heap.objs.size = some o →
      (∀ b u, s.heap.get? b = some u → h'.get? b = some u) → Q (.ref (s.heap.objs.size + 1)) { s with heap := h' }) : wpAny (model prog w) A (call (.type "enumerate") [v]) Q E s := by
  refine callType_new PySem.F.called_enumerate (by decide) (PySem.F.typeCall_enumerate_1 _) (PySem.F.newCall_enumerate_1 _) (fun ob => PySem.F.args_object_init_2 ob _) PySem.F.entry_enumerate_new (new_meets B) ⟨t1, ?_⟩
  have sz : (s.heap.push o).objs.size = s.heap.objs.size + 1 := Heap.size_push _ _
  have at2 : ((s.heap.push o).push { cls := .type "enumerate", data := .fields #[.none, .bool false, .ref s.heap.objs.size, rawInt 0, .none, .none] }).get? (s.heap.objs.size + 1) = some { cls := .type "enumerate", data := .fields #[.none, .bool false, .ref s.heap.objs.size, rawInt 0, .none, .none] } := by
    have z := Heap.get?_push_size (s.heap.push o) (o := { cls := .type "enumerate", data := .fields #[.none, .bool false, .ref s.heap.objs.size, rawInt 0, .none, .none] }) rfl
    rwa [sz] at z
  rw [sz]
  exact ⟨⟨_, at2, rfl⟩, q _ at2 (Heap.get?_push_of_some _ (Heap.get?_push_size _ B.free)) fun b u x => Heap.get?_push_of_some _ (Heap.get?_push_of_some _ x)⟩
end EnumT
end IP

/-! IpI: for i, x in enumerate(tuple); for k in dict. -/
namespace IP
open PySem PySem.Spec PyProof.Rows
section
variable {P : Program} {w : World} {K : PySem.W.Frag} {elts : List Expr} {kk : Nat} {tpos : Pos}
theorem turn_enmT (a e it : Addr) (hat : a ≠ it) (hae : a ≠ e) :
    L2.Turn P w K (.Tuple elts kk tpos) (ItEt K a) [e, it] e (fun i h => (∃ old, IsEnum h e it ((i : Nat) : Int) old) ∧ h.IsTupleIter it a i ∧ e ≠ it) where
  mem := List.mem_cons_self
  obj := fun i h st b hb => by
    obtain ⟨⟨old, he⟩, ⟨o, ho, hc, hd⟩, _⟩ := st
    rcases List.mem_cons.mp hb with z | z
    · subst z; exact ⟨_, he, fun v q => nomatch q⟩
    · rw [List.mem_singleton.mp z]; exact ⟨o, ho, fun v q => by rw [hd] at q; cases q⟩
  keep := fun i h h' st k => by
    obtain ⟨⟨old, he⟩, hi, hne⟩ := st
    exact ⟨⟨old, k e List.mem_cons_self _ he⟩, hi.at fun o q => k it (List.mem_cons_of_mem _ List.mem_cons_self) o q, hne⟩
  item := by
    intro X e1 e2 e3 hc i pins s σ H E I hf st hg
    subst e1 e2 e3
    obtain ⟨⟨old, he⟩, hit, hne⟩ := st
    obtain ⟨xs, x, hq, hx⟩ := hg
    obtain ⟨its, rv, p, hz⟩ := I.tuple hq
    obtain ⟨u, hu, ru⟩ := rv.get hx
    have hil : i < its.toArray.size := by
      have := (List.getElem?_eq_some_iff.mp hu).1
      simpa using this
    have lt_e : e < s.heap.objs.size := Heap.lt_size he
    have lt_i : it < s.heap.objs.size := by obtain ⟨_, q, _⟩ := hit; exact Heap.lt_size q
    have hh : X.A.in1.handled = none := I.ok.hd hc
    have pT : s.heap.IsTuple a its.toArray := p
    refine wpAny_pyNext_enum_itemD (Draws.tuple hh it a hat its.toArray) he ⟨hit, pT⟩ hil hne (by simp [hne, hae.symm]) fun y h1 tk hy oe st1 hT hsz k1 => ?_
    have ey : y = u := by
      have q1 : its.toArray[i]? = some y := hy
      rw [List.getElem?_toArray, hu] at q1
      exact (Option.some.inj q1).symm
    subst ey
    refine ⟨_, rfl, wpAny_letOwnedTupleGo_enum (s := { s with heap := h1, toks := tk + 1 }) oe fun h2 he2 sb => ?_⟩
    have hT2 : h2.get? s.heap.objs.size = some { cls := .type "tuple", data := .seq #[.int i tk, y] } := (sb.2 _ (Nat.ne_of_gt lt_e)).trans hT
    have new : L2.ObjOk X.prog X.w (L2.upd H s.heap.objs.size (.tup [.int (i : Nat), x])) h2 s.heap.objs.size (.tup [.int (i : Nat), x]) :=
      ⟨by show 2 ≤ sizeLine; rw [sizeLine_eq]; decide, [.int i tk, y], .cons ⟨_, rfl⟩ (.cons ru .nil), ⟨_, hT2, rfl, _, rfl⟩⟩
    have I1 : L2.Inv X pins σ (L2.upd H s.heap.objs.size (.tup [.int (i : Nat), x])) { s with heap := h2, toks := tk + 1 } :=
      I.turnedNew (ch := [e, it]) (fun b ob hb q => by
        simp only [List.mem_cons, List.not_mem_nil, or_false, not_or] at hb
        exact (sb.2 b hb.1).trans (k1 b ob hb.1 hb.2 q)) hf (Nat.le_refl _) new
    refine ⟨.ref s.heap.objs.size, _, I1, rfl, ⟨_, x, rfl, I.hok.fresh (Nat.le_refl _), rfl, fun ys hy => by rw [I.tuple_inj hy hq]; exact hx⟩, ⟨⟨y, by rw [show (((i + 1 : Nat)) : Int) = (i : Int) + 1 by omega]; exact he2⟩, st1.1.at fun o q => (sb.2 it (Ne.symm hne)).trans q, hne⟩, fun b hb => ?_⟩
    have hb' : b < s.heap.objs.size := by
      rcases List.mem_cons.mp hb with z | z
      · rw [z]; exact lt_e
      · rw [List.mem_singleton.mp z]; exact lt_i
    rw [L2.upd_ne (Nat.ne_of_lt hb')]
    exact (hf b hb).1
  done := by
    intro X e1 e2 e3 hc i pins s σ H E I hf st hg
    subst e1 e2 e3
    obtain ⟨⟨old, he⟩, hit, hne⟩ := st
    obtain ⟨xs, hq, hx⟩ := hg
    obtain ⟨its, rv, p, hz⟩ := I.tuple hq
    obtain ⟨f0, f1, f2, f3, f4, f5⟩ := hf it (List.mem_cons_of_mem _ List.mem_cons_self)
    have hl := rv.length
    have hh : X.A.in1.handled = none := I.ok.hd hc
    have D0 : Draws X.prog X.w X.A.in1 it [it, a] i (fun _ _ => False) (fun j h => j = i ∧ h.IsTupleIter it a i ∧ h.IsTuple a its.toArray) := by
      refine ⟨fun j h st => by obtain ⟨_, ⟨o, ho, _⟩, _⟩ := st; exact ⟨o, ho⟩, fun j h h' st k => ⟨st.1, st.2.1.at fun o q => k it (by simp) o q, st.2.2.at fun o q => k a (by simp) o q⟩, fun j s Q E hj st _ => absurd hj (by rw [st.1]; exact Nat.lt_irrefl _), fun s Q E st q => ?_⟩
      obtain ⟨_, t1, t2⟩ := st
      exact wpAny_nextOf_tuple_end hh t1 t2 (by simp; omega) q
    exact wpAny_pyNext_enum_endD D0 he ⟨rfl, hit, p⟩ fun h' eb => ⟨rfl, I.turned (t' := s.toks) (fun b o hb q => eb b o hb q) f0 f1 f3 f4 f5⟩
  self := fun A i s Q E st h => by
    obtain ⟨⟨_, he⟩, _⟩ := st
    exact wpAny_pyIter_enum he h
end
end IP
namespace IP
open PySem PySem.Spec PyProof.Rows
section
variable {X : L2.Cx}
def iEnmT (K : PySem.W.Frag) (ta : L2.TA) : L2.TI := fun σ H R => ta σ H fun vs H1 => ∃ a xs, vs = [.ref a] ∧ L2.SqT K H1 a xs ∧ R (ItEt K a) H1
theorem pi_enmT {e : Expr} {ta : L2.TA} {p pos tpos : Pos} {elts : List Expr} {kk : Nat} (hg : L2.Gl X "enumerate") (hm : X.mg "enumerate" = none) (ha : L2.PA X [e] ta) (hs : starEach [e] X.env = [(false, eval e X.env)]) :
    L2.PI X (.Tuple elts kk tpos) (.Call (.Name "enumerate" p) [e] [] pos) (iEnmT X.K ta) := by
  refine ⟨fun pins s σ H R I h => ?_⟩
  refine Call_ (L2.ld_blt I hg hm boot_enumerate (PyProof.Rows.callWith_type1 (L2.thn (ha.run pos pins s σ H _ I h) fun us s1 ⟨vs, H1, I1, r1, q1⟩ => ?_) hs rfl))
  obtain ⟨a, xs, ex, hq, q⟩ := q1
  subst ex
  obtain ⟨u, rfl, r⟩ := L2.Vals.one r1
  cases r
  obtain ⟨its, rv, p', hz⟩ := I1.tuple hq
  have pT : s1.heap.IsTuple a its.toArray := p'
  have lt_a : a < s1.heap.objs.size := p'.lt
  refine EnumT.call_new (begins_tuple a its.toArray) pT fun h1 he hit hk => wpAny_pyIter_enum he ?_
  have I2 : L2.Inv X pins σ H1 { s1 with heap := h1 } := I1.kept (t' := s1.toks) hk
  have ti : h1.IsTupleIter s1.heap.objs.size a 0 := ⟨_, hit, rfl, rfl⟩
  refine ⟨s1.heap.objs.size + 1, [s1.heap.objs.size + 1, s1.heap.objs.size], _, _, H1, rfl, I2, turn_enmT a (s1.heap.objs.size + 1) s1.heap.objs.size (Nat.ne_of_lt lt_a) (Nat.ne_of_lt (Nat.lt_succ_of_lt lt_a)), ⟨⟨.none, he⟩, ti, Nat.succ_ne_self _⟩, fun b hb => ?_, q⟩
  have le_b : s1.heap.objs.size ≤ b := by
    rcases List.mem_cons.mp hb with z | z
    · rw [z]; exact Nat.le_add_right _ _
    · rw [List.mem_singleton.mp z]; exact Nat.le_refl _
  exact I1.fpOk le_b (I1.hok.fresh le_b)

/-! ### isinstance -/
def tyName : Ty → String
  | .int => "int"
  | .bool => "bool"
  | .str => "str"
  | .tuple => "tuple"
  | .list => "list"
def vTy : V → Hp → Option String
  | .non, _ => some "NoneType"
  | .bl _, _ => some "bool"
  | .int _, _ => some "int"
  | .str _, _ => some "str"
  | .ref a, H => match H a with
    | some (.tup _) => some "tuple"
    | some (.lst _) => some "list"
    | _ => none
  | _, _ => none
theorem tyX_of {K : PySem.W.Frag} {H : Hp} {x : V} {t : String} (h : vTy x H = some t) : L2.TyX K H x (.type t) := by
  cases x with
  | non => cases h; exact .base .non
  | bl b => cases h; exact .base (.bl b)
  | int i => cases h; exact .base (.int i)
  | str z => cases h; exact .base (.str z)
  | ref a =>
    simp only [vTy] at h
    split at h
    · rename_i vs e; cases h; exact .base (.tup e)
    · rename_i vs e; cases h; exact .base (.lst e)
    · cases h
  | _ => cases h
def subTy : String → Ty → Bool
  | "bool", .int => true
  | "bool", .bool => true
  | "int", .int => true
  | "str", .str => true
  | "tuple", .tuple => true
  | "list", .list => true
  | _, _ => false
theorem kit_of {K : PySem.W.Frag} {H : Hp} {x : V} {t : String} {T : Ty} (h : vTy x H = some t) : PySem.W.kitOne K (.type t) (.type (tyName T)) = some (subTy t T) := by
  have ht : t = "NoneType" ∨ t = "bool" ∨ t = "int" ∨ t = "str" ∨ t = "tuple" ∨ t = "list" := by
    cases x with
    | non => cases h; simp
    | bl b => cases h; simp
    | int i => cases h; simp
    | str z => cases h; simp
    | ref a =>
      simp only [vTy] at h
      split at h <;> cases h <;> simp
    | _ => cases h
  rcases ht with rfl | rfl | rfl | rfl | rfl | rfl <;> cases T <;> exact L2.kit_ty (by decide +kernel)
theorem isT_ok {g : Gd} {φ : List Addr} {H : Hp} {st : Sto} {a : D} {x : V} {T : Ty} {b : Bool} (S : StoR g φ H st) (r : VR g φ H a x) (h : isTD a T st = some b) : ∃ t, vTy x H = some t ∧ b = subTy t T := by
  cases r with
  | non => cases h; exact ⟨_, rfl, by cases T <;> rfl⟩
  | bl c => cases h; exact ⟨_, rfl, by cases T <;> rfl⟩
  | int i => cases h; exact ⟨_, rfl, by cases T <;> rfl⟩
  | str z => cases h; exact ⟨_, rfl, by cases T <;> rfl⟩
  | @tup p ds vs hp hs =>
    cases h
    exact ⟨"tuple", by simp only [vTy, hp], by cases T <;> rfl⟩
  | @ref n p hp =>
    simp only [isTD] at h
    split at h
    · rename_i ds h1
      obtain ⟨vs, k1, k2⟩ := lst_at S h1 hp
      cases h
      exact ⟨"list", by simp only [vTy, k1], by cases T <;> rfl⟩
    · cases h
  | _ => cases h
end
end IP

/-! IpJ: len(set(texts)), any number of texts. -/
namespace IP
open PySem PySem.Spec PyProof.Rows
theorem dedup_snoc (xs : List Str) : ∀ (acc : List Str) (x : Str), dedup acc (xs ++ [x]) = if x ∈ dedup acc xs then dedup acc xs else dedup acc xs ++ [x] := by
  induction xs with
  | nil =>
    intro acc x
    show dedup acc [x] = if x ∈ acc then acc else acc ++ [x]
    simp only [dedup]
  | cons y ys ih =>
    intro acc x
    simp only [List.cons_append, dedup]
    split <;> exact ih _ _
theorem dedup_mem (xs : List Str) : ∀ (acc : List Str) (k : Str), k ∈ dedup acc xs ↔ k ∈ acc ∨ k ∈ xs := by
  induction xs with
  | nil => intro acc k; simp [dedup]
  | cons y ys ih =>
    intro acc k
    simp only [dedup]
    split
    · rename_i h
      rw [ih]
      constructor
      · rintro (h1 | h1)
        · exact .inl h1
        · exact .inr (List.mem_cons_of_mem _ h1)
      · rintro (h1 | h1)
        · exact .inl h1
        · rcases List.mem_cons.mp h1 with rfl | h2
          · exact .inl h
          · exact .inr h2
    · rw [ih, List.mem_append, List.mem_singleton, List.mem_cons, or_assoc]
theorem dedup_len (xs : List Str) : ∀ acc : List Str, (dedup acc xs).length ≤ acc.length + xs.length := by
  induction xs with
  | nil => intro acc; simp [dedup]
  | cons y ys ih =>
    intro acc
    simp only [dedup]
    split
    · have := ih acc; simp only [List.length_cons]; omega
    · have := ih (acc ++ [y]); simp only [List.length_append, List.length_cons, List.length_nil] at this ⊢; omega
/-- the set at S holds the first i texts -/
def Has (P : Program) (w : World) (h : Heap) (S : Addr) (xs : List Str) (i : Nat) : Prop := h.SetOf (PySem.strKind P w) S (fun y => (xs.take i).any (· == y)) (distinct (xs.take i)).length
section
variable {P : Program} {w : World} {B : Around} {Rz : Result → Shared → Prop} {J : Addr} {fq wq : List Addr} {Gq : Array GenState → Array GenState → Prop} {n : Nat} {Pq : Nat → Value → Prop} {Sq : Nat → Shared → Prop}
theorem loopSet (Z : WalksS P w B.in1 J fq wq Gq n Pq Sq) (S : Addr) (hS1 : S ∉ fq) (xs : List Str) (hx : xs.length = n) (hn : n ≤ 100)
    (hv : ∀ i v, Pq i v → ∃ t, v = .str (xs.getD i Str.empty) t) :
    ∀ (m i : Nat) (s : Shared), n - i = m → i ≤ n → Sq i s → Has P w s.heap S xs i →
      (∀ z, Moved (S :: wq) Gq s z → Has P w z.heap S xs n → Rz (.ok (.ret .none)) z) → codeAny (model P w) B (.builtin "set.update.loop" ⟨[.ref S, .ref J], []⟩) Rz s := by
  have hS2 : S ∉ wq := fun q => hS1 (Z.sub _ q)
  have sub1 : ∀ b ∈ wq, b ∈ S :: wq := fun b q => List.mem_cons_of_mem _ q
  intro m
  induction m with
  | zero =>
    intro i s hm hi hq hS hR
    obtain rfl : i = n := by omega
    refine codeAny_builtin PyProof.Rows.F.entry_set_update_loop ?_
    rw [Around.under_plainId PyProof.Rows.F.plain_set_update_loop _]
    show wpAny _ B.in1 (pyNext (.ref J) >>= _) _ _ s
    refine wpAny_bind (Z.done s _ _ hq fun z mv => ?_)
    show wpAny _ B.in1 (ret Value.none) _ _ z
    obtain ⟨o, es, ep, tb, ho, rest⟩ := hS
    exact wpAny_pure (hR z (mv.mono sub1) ⟨o, es, ep, tb, mv.heap S _ hS2 ho, rest⟩)
  | succ m ih =>
    intro i s hm hi hq hS hR
    have lt : i < n := by omega
    refine codeAny_builtin PyProof.Rows.F.entry_set_update_loop ?_
    rw [Around.under_plainId PyProof.Rows.F.plain_set_update_loop _]
    show wpAny _ B.in1 (pyNext (.ref J) >>= _) _ _ s
    refine wpAny_bind (Z.item i s _ _ lt hq fun v z hP hq1 mv => ?_)
    obtain ⟨t, rfl⟩ := hv i v hP
    have hS' : Has P w z.heap S xs i := by
      obtain ⟨o, es, ep, tb, ho, rest⟩ := hS
      exact ⟨o, es, ep, tb, mv.heap S _ hS2 ho, rest⟩
    show wpAny _ B.in1 (holding [Value.str (xs.getD i Str.empty) t] (setAdd S (.str (xs.getD i Str.empty) t)) >>= _) _ _ z
    refine wpAny_bind (wpAny_holding ?_)
    unfold setAdd
    refine wpAny_holding (wpAny_bind ((PySem.strKind P w).pyHash (k := xs.getD i Str.empty) (strKind_is _ _ _ _) ?_))
    have small : (distinct (xs.take i)).length ≤ 100 := by
      have h1 := dedup_len (xs.take i) []
      have h2 : (xs.take i).length ≤ i := by rw [List.length_take]; omega
      show (dedup [] (xs.take i)).length ≤ 100
      simp only [List.length_nil] at h1
      omega
    refine wpAny_setAddHashed_of (knd := PySem.strKind P w) (s := { z with toks := z.toks + 1 }) (strKind_is _ _ _ _) rfl hS' (by unfold scanBound; omega) fun h2 sb hS2' => ?_
    have hlen : i < xs.length := by omega
    have tk : xs.take (i + 1) = xs.take i ++ [xs.getD i Str.empty] := by
      rw [List.take_succ, List.getElem?_eq_getElem hlen, List.getD_eq_getElem?_getD, List.getElem?_eq_getElem hlen]; rfl
    have hSi : Has P w h2 S xs (i + 1) := by
      refine SetOf_congr hS2' (fun y => ?_) ?_
      · rw [tk, List.any_append]
        congr 1
        by_cases e : y = xs.getD i Str.empty
        · subst e; simp
        · have hb : (xs.getD i Str.empty == y) = false := beq_eq_false_iff_ne.mpr fun q => e q.symm
          rw [decide_eq_false e]
          show false = ((xs.getD i Str.empty == y) || false)
          rw [hb]; rfl
      · rw [tk]
        show _ = (dedup [] (xs.take i ++ [xs.getD i Str.empty])).length
        rw [dedup_snoc]
        have key : ((xs.take i).any (· == xs.getD i Str.empty)) = true ↔ xs.getD i Str.empty ∈ dedup [] (xs.take i) := by
          rw [dedup_mem, List.any_eq_true]
          constructor
          · rintro ⟨y, h1, h3⟩; rw [beq_iff_eq.mp h3] at h1; exact .inr h1
          · rintro (h1 | h1)
            · cases h1
            · exact ⟨_, h1, beq_self_eq_true _⟩
        by_cases e : xs.getD i Str.empty ∈ dedup [] (xs.take i)
        · rw [if_pos (key.mpr e), if_pos e]; rfl
        · rw [if_neg (fun q => e (key.mp q)), if_neg e, List.length_append]; rfl
    refine wpAny_pure ⟨plainId_quiet PyProof.Rows.F.plain_set_update_loop _, ih (i + 1) _ (by omega) lt (Z.frame _ z _ _ hq1 (Nat.le_succ _) fun b q o e => ?_) hSi fun y my hy => ?_⟩
    · rw [sb.2 b (fun e2 : b = S => hS1 (by rw [← e2]; exact q))]; exact e
    · refine hR y (Moved.trans Z.gtrans ((mv.mono sub1).then_heap (Nat.le_succ _) fun b o q e => ?_) my) hy
      rw [sb.2 b (fun e2 : b = S => q (by rw [e2]; exact List.mem_cons_self))]; exact e
end
section
variable {P : Program} {w : World} {B : Around} {Ez : Value → Shared → Prop} {s : Shared}
abbrev eO (led : Bool) : Obj := { cls := .type "set", dict := none, data := .set #[] 0 (.fresh 0 0 led) }
theorem call_set (tup : Bool) {l : Addr} {its : Array Value} {xs : List Str} {Qz : Value → Shared → Prop} (hh : B.handled = none)
    (hl : if tup = true then s.heap.IsTuple l its else s.heap.IsList l its) (hi : PyProof.Rows.StrsAre its.toList xs) (hn : xs.length ≤ 100)
    (k : ∀ (h2 : Heap) (tk : Nat), Has P w h2 s.heap.objs.size xs xs.length → (∀ b o, b < s.heap.objs.size → s.heap.get? b = some o → h2.get? b = some o) → Qz (.ref s.heap.objs.size) { s with heap := h2, toks := tk }) :
    wpAny (model P w) B (call (.type "set") [.ref l]) Qz Ez s := by
  obtain ⟨c, tl, hmro⟩ := PySem.F.called_set.mro
  have q1 := PySem.F.called_set.made
  have q2 := PySem.F.called_set.sub
  refine wpAny_call (codeAny_of_tree ?_)
  show wpAny _ _ (callAny (.type "set") _) _ _ _
  refine wpAny_pure ⟨Code.quiet_builtin _ (by decide +kernel), codeAny_builtin PySem.F.entry_type_call ?_⟩
  rw [Around.under_plain (weight_type_call_type "set" [.ref l] []) rfl]
  have q3 := PySem.F.called_set.notType
  have q4 := PySem.F.called_set.canCreate
  have q5 := PySem.F.typeCall_set_1 (.ref l)
  repeat (any_goals (first | assumption | wp_step))
  refine codeAny_mono (code_set_new_1 (.ref l) (E := Ez) (Q₁ := fun ob z => ∃ led : Bool, ob = .ref s.heap.objs.size ∧ z = { s with heap := s.heap.push { cls := .type "set", dict := none, data := .set #[] 0 (.fresh 0 0 led) } }) fun led => ⟨led, rfl, rfl⟩) fun r z hr => ?_
  cases r with
  | error e => exact hr
  | ok fl =>
    cases fl with
    | ret ob =>
      obtain ⟨led, rfl, rfl⟩ := hr
      generalize hE : ({ cls := .type "set", dict := none, data := .set #[] 0 (.fresh 0 0 led) } : Obj) = eo
      have hS : (s.heap.push eo).get? s.heap.objs.size = some eo := Heap.get?_push_size _ (by rw [← hE]; rfl)
      have hT : Shared.TypeIs { s with heap := s.heap.push eo } (.ref s.heap.objs.size) "set" := ⟨_, hS, by rw [← hE]⟩
      have i1 := PySem.F.called_set.init.lookup
      have i2 := PySem.F.called_set.init.bind (.ref s.heap.objs.size)
      repeat (any_goals (first | assumption | wp_step))
      refine codeAny_mono (codeAny_call_builtin (R := wants (fun r y => r = .none ∧ ∃ h2 tk, y = { s with heap := h2, toks := tk } ∧ Has P w h2 s.heap.objs.size xs xs.length ∧
          (∀ b o, b < s.heap.objs.size → s.heap.get? b = some o → h2.get? b = some o)) Ez) PySem.F.called_set.init.plain PySem.F.entry_set_init (check_set_init_1 hT ?_)) fun r y hr2 => ?_
      · have hsz : xs.length = its.size := by rw [← StrsAre.len_eq hi, Array.length_toList]
        have hval : ∀ (i : Nat) (v : Value), its[i]? = some v → ∃ t, v = .str (xs.getD i Str.empty) t := fun i v q => SS.strs_at hi i v (by rw [Array.getElem?_toList]; exact q)
        cases tup with
        | true =>
          obtain ⟨⟨oc, od, dt, sl⟩, ho, hc, n, hd⟩ := (show s.heap.IsTuple l its from hl)
          simp only at hc hd
          subst hc; subst hd
          have ho' := Heap.get?_push_of_some eo ho
          have f1 := PySem.F.sub_tuple_set
          have f2 := PySem.F.sub_tuple_frozenset
          have f3 : (Value.type "tuple" == Value.type "dict") = false := by decide
          have hl1 : (s.heap.push eo).IsTuple l its := ⟨_, ho', rfl, n, rfl⟩
          subst hE
          unfold Builtin.«set.__init__» noKeywords Builtin.Frozenset.updateFrom
          generalize hPI : pyIter = PI
          wp_walk
          subst hPI
          refine wpAny_pyIter_tuple (s := { s with heap := s.heap.push (eO led) }) hl1 ?_
          refine wpAny_bind (wpAny_runValue ?_)
          have lS : l < s.heap.objs.size := Heap.lt_size ho
          have h3 : B.in1.in1.in1.handled = none := by simp [hh]
          have nI : l ≠ (s.heap.push (eO led)).objs.size := by rw [Heap.size_push]; exact Nat.ne_of_lt (Nat.lt_succ_of_lt lS)
          have nS : s.heap.objs.size ∉ [(s.heap.push (eO led)).objs.size, l] := by
            rw [Heap.size_push]
            simp only [List.mem_cons, List.not_mem_nil, or_false, not_or]
            exact ⟨Nat.ne_of_lt (Nat.lt_succ_self _), Nat.ne_of_gt lS⟩
          refine loopSet ((Walks.tuple h3 _ l nI its).toS) s.heap.objs.size nS xs hsz (by rw [← hsz]; exact hn) hval (its.size - 0) 0 _ (by omega) (Nat.zero_le _) ⟨⟨_, Heap.get?_push_size _ rfl, rfl, rfl⟩, (hl1.push _)⟩ ?h0 ?h1
          case h0 =>
            exact SetOf_congr ((PyProof.Rows.setObjOf_fresh (knd := PySem.strKind P w) led).setOf (Heap.get?_push_of_some _ hS) (by unfold scanBound; omega)) (fun _ => rfl) rfl
          case h1 =>
            intro y my hy
            obtain ⟨yh, yg, yd, yt, yo⟩ := y
            obtain rfl : yg = s.gens := my.gens
            obtain rfl : yd = s.drawn := my.drawn
            obtain rfl : yo = s.os := my.os
            show wpAny _ _ _ _ _ _
            refine wpAny_pure ?_
            show wpAny _ _ (ret Value.none) _ _ _
            refine wpAny_pure ⟨rfl, yh, yt, rfl, by rw [hsz]; exact hy, fun b o hb e => ?_⟩
            refine my.heap b o ?_ (Heap.get?_push_of_some _ (Heap.get?_push_of_some _ e))
            have e2 : b ≠ (s.heap.push (eO led)).objs.size := by rw [Heap.size_push]; exact Nat.ne_of_lt (Nat.lt_succ_of_lt hb)
            simp only [List.mem_cons, List.not_mem_nil, or_false, not_or]
            exact ⟨Nat.ne_of_lt hb, e2⟩
        | false =>
          obtain ⟨⟨oc, od, dt, sl⟩, ho, hc, n, hd⟩ := (show s.heap.IsList l its from hl)
          simp only at hc hd
          subst hc; subst hd
          have ho' := Heap.get?_push_of_some eo ho
          have f1 := PySem.F.sub_list_set
          have f2 := PySem.F.sub_list_frozenset
          have f3 : (Value.type "list" == Value.type "dict") = false := by decide
          have hl1 : (s.heap.push eo).IsList l its := ⟨_, ho', rfl, n, rfl⟩
          subst hE
          unfold Builtin.«set.__init__» noKeywords Builtin.Frozenset.updateFrom
          generalize hPI : pyIter = PI
          wp_walk
          subst hPI
          refine wpAny_pyIter_list (s := { s with heap := s.heap.push (eO led) }) hl1 ?_
          refine wpAny_bind (wpAny_runValue ?_)
          have lS : l < s.heap.objs.size := Heap.lt_size ho
          have h3 : B.in1.in1.in1.handled = none := by simp [hh]
          have nI : l ≠ (s.heap.push (eO led)).objs.size := by rw [Heap.size_push]; exact Nat.ne_of_lt (Nat.lt_succ_of_lt lS)
          have nS : s.heap.objs.size ∉ [(s.heap.push (eO led)).objs.size, l] := by
            rw [Heap.size_push]
            simp only [List.mem_cons, List.not_mem_nil, or_false, not_or]
            exact ⟨Nat.ne_of_lt (Nat.lt_succ_self _), Nat.ne_of_gt lS⟩
          refine loopSet ((Walks.list h3 _ l nI its).toS) s.heap.objs.size nS xs hsz (by rw [← hsz]; exact hn) hval (its.size - 0) 0 _ (by omega) (Nat.zero_le _) ⟨⟨_, Heap.get?_push_size _ rfl, rfl, rfl⟩, (hl1.push _)⟩ ?h0 ?h1
          case h0 =>
            exact SetOf_congr ((PyProof.Rows.setObjOf_fresh (knd := PySem.strKind P w) led).setOf (Heap.get?_push_of_some _ hS) (by unfold scanBound; omega)) (fun _ => rfl) rfl
          case h1 =>
            intro y my hy
            obtain ⟨yh, yg, yd, yt, yo⟩ := y
            obtain rfl : yg = s.gens := my.gens
            obtain rfl : yd = s.drawn := my.drawn
            obtain rfl : yo = s.os := my.os
            show wpAny _ _ _ _ _ _
            refine wpAny_pure ?_
            show wpAny _ _ (ret Value.none) _ _ _
            refine wpAny_pure ⟨rfl, yh, yt, rfl, by rw [hsz]; exact hy, fun b o hb e => ?_⟩
            refine my.heap b o ?_ (Heap.get?_push_of_some _ (Heap.get?_push_of_some _ e))
            have e2 : b ≠ (s.heap.push (eO led)).objs.size := by rw [Heap.size_push]; exact Nat.ne_of_lt (Nat.lt_succ_of_lt hb)
            simp only [List.mem_cons, List.not_mem_nil, or_false, not_or]
            exact ⟨Nat.ne_of_lt hb, e2⟩
      · cases r with
        | error e => exact hr2
        | ok fl2 =>
          cases fl2 with
          | ret v =>
            obtain ⟨rfl, h2, tk, rfl, hS', hk'⟩ := hr2
            repeat (any_goals (first | assumption | wp_step))
            exact k _ _ hS' hk'
          | _ => exact hr2.elim
    | _ => exact hr.elim
end
section
variable {X : L2.Cx}
def tLenSetI (K : PySem.W.Frag) (ta : L2.TE) : L2.TE := fun σ H Q => ta σ H fun x H1 => ∃ (l : Addr) (xs : List Str), x = .ref l ∧ (L2.SqL K H1 l (xs.map L2.V.str) ∨ L2.SqT K H1 l (xs.map L2.V.str)) ∧ xs.length ≤ 100 ∧ Q (.int (distinct xs).length) H1
theorem pe_lenSetI {a : Expr} {ta : L2.TE} {p p2 q pos : Pos} (hc : X.calm = true) (g1 : L2.Gl X "len") (m1 : X.mg "len" = none) (g2 : L2.Gl X "set") (m2 : X.mg "set" = none) (ha : L2.PE X a ta)
    (na : isStar a = false) : L2.PE X (.Call (.Name "len" p) [.Call (.Name "set" p2) [a] [] q] [] pos) (tLenSetI X.K ta) := by
  refine ⟨fun pins s σ H Q I h => ?_⟩
  refine Call_ (L2.ld_blt I g1 m1 boot_len ?_)
  refine PyProof.Rows.callWith_builtin1 (PyProof.Rows.args_cons ?_ rfl) rfl rfl
  refine Call_ (L2.ld_blt I g2 m2 boot_set ?_)
  refine PyProof.Rows.callWith_type1 (PyProof.Rows.args_cons (L2.thn (ha.run pins s σ H _ I h) fun v s1 ⟨x, H1, I1, r1, z1⟩ => PyProof.Rows.args_nil ?_) (star_cons na)) (star_cons na) rfl
  obtain ⟨l, xs, rfl, hq, hn, z1⟩ := z1
  cases r1
  have fin : ∀ (h2 : Heap) (tk : Nat), Has X.prog X.w h2 s1.heap.objs.size xs xs.length → (∀ b o, b < s1.heap.objs.size → s1.heap.get? b = some o → h2.get? b = some o) →
      wpAny (model X.prog X.w) X.A (spliced (backTo pos (starEach [] X.env))) (fun vs y => wpAny (model X.prog X.w) X.A (call (.builtin "len") (Value.ref s1.heap.objs.size :: vs)) (L2.EP X pins σ Q) X.xe y) X.xe { s1 with heap := h2, toks := tk } := fun h2 tk hS hk => by
    refine PyProof.Rows.args_nil ?_
    unfold Has at hS
    rw [List.take_length] at hS
    obtain ⟨o, es, ep, t, ho, hex, hd, _, _, _, hf, hn2⟩ := hS
    have I2 : L2.Inv X pins σ H1 { s1 with heap := h2, toks := tk } := I1.kept fun b o e => hk b o (Heap.lt_size e) e
    have small : (distinct xs).length ≤ 100 := by
      have h1 := dedup_len xs []
      show (dedup [] xs).length ≤ 100
      simp only [List.length_nil] at h1
      omega
    refine call_len_set ho hex hd hf (by rw [hn2] <;> omega) ⟨.int (distinct xs).length, H1, I2.tok _, ⟨_, by rw [hn2]⟩, z1⟩
  rcases hq with hq | hq
  · obtain ⟨its, r, pl, hz⟩ := I1.list hq
    exact call_set false (I1.ok.hd hc) pl.isList (by simpa using L2.strsAre_of r) hn fin
  · obtain ⟨its, r, pl, hz⟩ := I1.tuple hq
    exact call_set true (I1.ok.hd hc) pl (by simpa using L2.strsAre_of r) hn fin
theorem lset_ok {g : Gd} {φ : List Addr} {H : Hp} {st : Sto} {a : D} {x : V} {Q : L2.VK} {E : L2.XK} (S : StoR g φ H st) (r : VR g φ H a x) (h : post (VR g) g φ H (lsetD a st) Q E) :
    ∃ (l : Addr) (xs : List Str), x = .ref l ∧ (L2.SqL g.K H l (xs.map L2.V.str) ∨ L2.SqT g.K H l (xs.map L2.V.str)) ∧ xs.length ≤ 100 ∧ Q (.int (distinct xs).length) H := by
  unfold lsetD at h
  split at h
  · rename_i xs hx
    split at h
    · rename_i hn
      cases r with
      | @tup p ds vs hp hs =>
        have e := strs_of hs hx
        subst e
        exact ⟨p, xs, rfl, .inr (L2.SqT.of hp), hn, ok_here S (.int _) h⟩
      | @ref n p hp =>
        simp only at hx
        split at hx
        · rename_i ds h1
          obtain ⟨vs, k1, k2⟩ := lst_at S h1 hp
          have e := strs_of k2 hx
          subst e
          exact ⟨p, xs, rfl, .inl (L2.SqL.of k1), hn, ok_here S (.int _) h⟩
        · cases hx
      | _ => cases hx
    · exact h.elim
  · exact h.elim
end
end IP

/-! IpK: what a context gives, the readings of expressions. -/
namespace IP
open PySem PySem.Spec PyProof.Rows
abbrev CT := Str → List D → Sto → R D
/-- what a module's name stands for: an int, a text, a built-in thing, a def of np parameters, an error's class -/
inductive GK where
  | int (i : Int) | str (x : Str) | free | fn (np : Nat) | exc
  deriving DecidableEq
/-- a place in the text: its scope, the slots' names, the module's names, whether all cells are the frame's own -/
structure Cc where
  sc : Scope
  N : List Str
  gk : Str → Option GK
  all : Bool
def spD (g : Gd) (C : CT) (f : Str) (np : Nat) : L2.Sp := fun vs H Q E => vs.length = np ∧ ∃ ds st φ, StoR g φ H st ∧ VRs g φ H ds vs ∧ post (VR g) g φ H (C f ds st) Q E
def Callee (X : L2.Cx) (C : CT) (x : Str) (np : Nat) : Prop := ∃ (a : Addr) (fd : FuncData) (ps : List Str) (k : Nat), X.mg x = some (.ref a) ∧ PySem.W.keepIn X.K (.ref a) = true ∧ L2.Binds X.K fd ps [] ∧ (∀ ds st, ds.length ≠ np → C x ds st = .bad) ∧
  L2.FnOk X.prog X.w X.K X.mg X.base (L2.CX X.prog X.w) k a fd ps (spD (gd X) C x np) ∧ L2.Room k X.A
structure Good (c : Cc) (C : CT) (X : L2.Cx) (W : WX) : Prop where
  sc : X.env.scope = c.sc
  N : X.N = c.N
  nd : X.N.Nodup
  calm : X.calm = true
  un : X.A.units + 200 < cLine
  int : ∀ x i, c.gk x = some (.int i) → ∃ t, X.mg x = some (.int i t)
  str : ∀ x z, c.gk x = some (.str z) → ∃ t, X.mg x = some (.str z t)
  free : ∀ x, c.gk x = some .free → X.mg x = none
  call : ∀ x np, c.gk x = some (.fn np) → Callee X C x np
  exc : ∀ x, c.gk x = some .exc → ∃ a, X.mg x = some (.ref a) ∧ PySem.W.excIn X.K a He.veBase "ValueError.__new__" = true ∧ PySem.W.keepIn X.K (.ref a) = true ∧ L2.Raises X (.ref a)
  own : PassesOwn (model X.prog X.w) X.A X.env X.xe
  tk : L2.Takes X W
  fn : c.all = true → ∀ x, X.fn x = true

section
variable {X : L2.Cx} {W : WX} {C : CT} {pos : Pos} {a b c : Expr} {ea eb ec : Ex}
abbrev I1 (X : L2.Cx) (W : WX) (C : CT) (e : Ex) : L2.TE := tI (gd X) W (ev C e)
abbrev T1 (X : L2.Cx) (W : WX) (C : CT) (e : Ex) : L2.TT := tIt (gd X) W (ev C e)
abbrev A1 (X : L2.Cx) (W : WX) (C : CT) (es : Exs) : L2.TA := tIs (gd X) W (evs C es)

theorem seqE {β β' : Type} {rel' : List Addr → Hp → β → β' → Prop} {g : Gd} {f : Env → Sto → R D} {k : D → Sto → R β} {ρ : Env} {st : Sto} {φ : List Addr} {σ : L2.St} {H : Hp} {Q : β' → Hp → Prop} {Q1 : L2.VK} {E : L2.XK} (hE : E = fun c d H' => W c d σ H')
    (S : StoR g φ H st) (en : EnvR g φ H ρ σ) (h : post rel' g φ H ((f ρ st).bind k) Q E)
    (hk : ∀ x st1 φ1 H1 v, f ρ st = .ok x st1 → Stp φ H φ1 H1 → StoR g φ1 H1 st1 → EnvR g φ1 H1 ρ σ → VR g φ1 H1 x v → post rel' g φ1 H1 (k x st1) Q E → Q1 v H1) : tI g W f σ H Q1 := by
  subst hE
  exact ⟨ρ, st, φ, S, en, post_bind h fun x st1 φ1 H1 v e s S1 r q => hk x st1 φ1 H1 v e s S1 (en.mono s) r q⟩
theorem seqA {β β' : Type} {rel' : List Addr → Hp → β → β' → Prop} {g : Gd} {f : Env → Sto → R (List D)} {k : List D → Sto → R β} {ρ : Env} {st : Sto} {φ : List Addr} {σ : L2.St} {H : Hp} {Q : β' → Hp → Prop} {Q1 : List V → Hp → Prop} {E : L2.XK} (hE : E = fun c d H' => W c d σ H')
    (S : StoR g φ H st) (en : EnvR g φ H ρ σ) (h : post rel' g φ H ((f ρ st).bind k) Q E)
    (hk : ∀ x st1 φ1 H1 v, f ρ st = .ok x st1 → Stp φ H φ1 H1 → StoR g φ1 H1 st1 → EnvR g φ1 H1 ρ σ → VRs g φ1 H1 x v → post rel' g φ1 H1 (k x st1) Q E → Q1 v H1) : tIs g W f σ H Q1 := by
  subst hE
  exact ⟨ρ, st, φ, S, en, post_bind h fun x st1 φ1 H1 v e s S1 r q => hk x st1 φ1 H1 v e s S1 (en.mono s) r q⟩

/-! ### atoms -/
theorem k_const {e : Expr} {v : L2.V} {d : D} (hr : ∀ φ H, VR (gd X) φ H d v) (h : L2.PE X e (L2.tC v)) : L2.PE X e (I1 X W C (.k d)) :=
  pe_weak h fun σ H Q ⟨ρ, st, φ, S, en, q⟩ => ok_here S (hr φ H) (show post (VR (gd X)) (gd X) φ H (.ok d st) Q _ from q)
theorem k_var {i : Nat} {x : Str} (hN : X.N[i]? = some x) (hv : L2.Vis X.env.scope x) (h1 : (x == ("__debug__" : Str)) = false) (h2 : (x == ("__classdict__" : Str)) = false) : L2.PE X (.Name x pos) (I1 X W C (.lc i)) := by
  refine pe_weak (L2.pe_var hN hv h1 h2) fun σ H Q ⟨ρ, st, φ, S, en, q⟩ => ?_
  have q : post (VR (gd X)) (gd X) φ H (match ρ[i]? with
    | some (some d) => .ok d st
    | _ => .bad) Q (fun c d H' => W c d σ H') := q
  split at q
  · rename_i d hd
    obtain ⟨v, h3, h4⟩ := en.at_ i d hd
    exact ⟨v, h3, ok_here S h4 q⟩
  · exact q.elim

/-! ### two operands -/
theorem w_two {o : D → D → Sto → R D} {r : L2.R2} {f : Env → Sto → R D} (hf : ∀ ρ st, f ρ st = (ev C ea ρ st).bind fun x st1 => (ev C eb ρ st1).bind fun y st2 => o x y st2)
    (hr : ∀ {φ : List Addr} {H : Hp} {st : Sto} {x y : D} {u v : L2.V} {Q : L2.VK} {E : L2.XK}, StoR (gd X) φ H st → VR (gd X) φ H x u → VR (gd X) φ H y v → post (VR (gd X)) (gd X) φ H (o x y st) Q E → r u v H Q) :
    ∀ σ H Q, tI (gd X) W f σ H Q → L2.tOp r (I1 X W C ea) (I1 X W C eb) σ H Q := fun σ H Q ⟨ρ, st, φ, S, en, q⟩ => by
  rw [hf] at q
  exact seqE rfl S en q fun x st1 φ1 H1 u e1 s1 S1 en1 r1 q1 => seqE rfl S1 en1 q1 fun y st2 φ2 H2 v e2 s2 S2 en2 r2 q2 => hr S2 (r1.mono s2) r2 q2
theorem k_bin {o : Bop} {op : Operator} {r : L2.R2} (ho : L2.OpR X (binaryOp op) r)
    (hr : ∀ {φ : List Addr} {H : Hp} {st : Sto} {x y : D} {u v : L2.V} {Q : L2.VK} {E : L2.XK}, StoR (gd X) φ H st → VR (gd X) φ H x u → VR (gd X) φ H y v → post (VR (gd X)) (gd X) φ H (binD o x y st) Q E → r u v H Q)
    (ha : L2.PE X a (I1 X W C ea)) (hb : L2.PE X b (I1 X W C eb)) : L2.PE X (.BinOp a op b pos) (I1 X W C (.bin o ea eb)) := pe_weak (L2.pe_op ho ha hb) (w_two (fun _ _ => by rw [ev]) hr)
theorem k_neg (ha : L2.PE X a (I1 X W C ea)) : L2.PE X (.UnaryOp .USub a pos) (I1 X W C (.neg ea)) := by
  refine pe_weak (L2.pe_un L2.un_neg ha) fun σ H Q ⟨ρ, st, φ, S, en, q⟩ => ?_
  rw [ev] at q
  refine seqE rfl S en q fun x st1 φ1 H1 u e1 s1 S1 en1 r1 q1 => ?_
  cases r1 with
  | int i => exact ⟨i, rfl, ok_here S1 (.int (-i)) q1⟩
  | _ => exact q1.elim

/-! ### tests -/
theorem tIt_val {f : Env → Sto → R D} {σ : L2.St} {H : Hp} {Q : Bool → Hp → Prop} (h : tIt (gd X) W f σ H Q) : tI (gd X) W f σ H fun x H1 => ∃ k, x = .bl k ∧ Q k H1 := by
  obtain ⟨ρ, st, φ, S, en, q, hb⟩ := h
  refine ⟨ρ, st, φ, S, en, ?_⟩
  cases e : f ρ st with
  | bad => rw [e] at q; exact q
  | exc x st' => rw [e] at q; exact q
  | ok d st' =>
    rw [e] at q
    obtain ⟨k, rfl⟩ := hb d st' e
    intro φ1 H1 v s S1 r
    cases r
    exact ⟨k, rfl, q φ1 H1 k s S1 rfl⟩
theorem k_valT {e : Expr} {f : Env → Sto → R D} (h : L2.PE X e (tI (gd X) W f)) (he : ∀ whole, isTrue e X.env whole = (do let v ← whole; standAt e.pos; holding [v] (truthy v))) : L2.PT X e (tIt (gd X) W f) :=
  pt_weak (L2.pt_val h he) fun σ H Q q => tIt_val q
/-- a value's reading by a test's -/
theorem tI_of_T {f : Env → Sto → R D} {ρ : Env} {st : Sto} {φ : List Addr} {σ : L2.St} {H : Hp} {Q1 : Bool → Hp → Prop} {E : L2.XK} (hE : E = fun c d H' => W c d σ H') {β β' : Type} {rel' : List Addr → Hp → β → β' → Prop} {k : D → Sto → R β} {Q : β' → Hp → Prop}
    (S : StoR (gd X) φ H st) (en : EnvR (gd X) φ H ρ σ) (h : post rel' (gd X) φ H ((f ρ st).bind k) Q E) (hd : ∀ d st1, (∀ b, d ≠ .bl b) → k d st1 = .bad)
    (hk : ∀ x st1 φ1 H1, f ρ st = .ok (.bl x) st1 → Stp φ H φ1 H1 → StoR (gd X) φ1 H1 st1 → EnvR (gd X) φ1 H1 ρ σ → post rel' (gd X) φ1 H1 (k (.bl x) st1) Q E → Q1 x H1) : tIt (gd X) W f σ H Q1 := by
  subst hE
  refine ⟨ρ, st, φ, S, en, ?_, fun d st' e => ?_⟩
  · cases e : f ρ st with
    | bad => rw [e] at h; exact h
    | exc x st' => rw [e] at h; exact h
    | ok d st' =>
      intro φ1 H1 v s S1 r
      obtain rfl : d = .bl v := r
      rw [e] at h
      exact hk v st' φ1 H1 e s S1 (en.mono s) (post_mono s h)
  · rw [e] at h
    by_cases hb : ∃ b, d = .bl b
    · exact hb
    · have : post rel' (gd X) φ H (k d st') Q fun c d H' => W c d σ H' := h
      rw [hd d st' fun b z => hb ⟨b, z⟩] at this
      exact this.elim
theorem k_cmp {f : Env → Sto → R D} {op : CmpOp} {r : L2.R2} (ho : L2.OpR X (compareOp op) r) (ha : L2.PE X a (I1 X W C ea)) (hb : L2.PE X b (I1 X W C eb)) (hm : isSet b = false)
    (hw : ∀ σ H Q, tI (gd X) W f σ H Q → L2.tOp r (I1 X W C ea) (I1 X W C eb) σ H Q) : L2.PE X (.Compare a [op] [b] pos) (tI (gd X) W f) ∧ L2.PT X (.Compare a [op] [b] pos) (tIt (gd X) W f) :=
  ⟨pe_weak (L2.pe_cmpR ho ha hb (nomarks hm)) hw, pt_weak (L2.pt_cmpR ho ha hb (nomarks hm)) fun σ H Q q => hw σ H _ (tIt_val q)⟩
theorem w_chain {o p : Cop} {r r' : L2.R2}
    (hr : ∀ {φ : List Addr} {H : Hp} {st : Sto} {x y : D} {u v : L2.V} {Q : L2.VK} {E : L2.XK}, StoR (gd X) φ H st → VR (gd X) φ H x u → VR (gd X) φ H y v → post (VR (gd X)) (gd X) φ H (okB (cmpD o x y st) st) Q E → r u v H Q)
    (hr' : ∀ {φ : List Addr} {H : Hp} {st : Sto} {x y : D} {u v : L2.V} {Q : L2.VK} {E : L2.XK}, StoR (gd X) φ H st → VR (gd X) φ H x u → VR (gd X) φ H y v → post (VR (gd X)) (gd X) φ H (okB (cmpD p x y st) st) Q E → r' u v H Q) :
    ∀ σ H Q, I1 X W C (.chn o p ea eb ec) σ H Q → L2.tChain r r' (I1 X W C ea) (I1 X W C eb) (I1 X W C ec) σ H Q := fun σ H Q ⟨ρ, st, φ, S, en, q⟩ => by
  rw [ev] at q
  refine seqE rfl S en q fun x st1 φ1 H1 u e1 s1 S1 en1 r1 q1 => seqE rfl S1 en1 q1 fun y st2 φ2 H2 v e2 s2 S2 en2 r2 q2 => ?_
  refine hr (E := fun _ _ _ => False) S2 (r1.mono s2) r2 ?_
  cases e : cmpD o x y st2 with
  | none => simp only [e] at q2; exact q2.elim
  | some k =>
    intro φ3 H3 w s3 S3 r3
    cases r3
    refine ⟨k, rfl, ?_⟩
    cases k with
    | false => simp only [e] at q2; exact ok_here S3 (.bl _) (post_mono s3 q2)
    | true =>
      simp only [e] at q2
      exact seqE rfl S3 (en2.mono s3) (post_mono s3 q2) fun z st4 φ4 H4 w e4 s4 S4 en4 r4 q4 => hr' S4 (r2.mono (s3.trans s4)) r4 q4
theorem k_chain {o p : Cop} {op op' : CmpOp} {r r' : L2.R2} (ho : L2.OpR X (compareOp op) r) (ho' : L2.OpR X (compareOp op') r')
    (hr : ∀ {φ : List Addr} {H : Hp} {st : Sto} {x y : D} {u v : L2.V} {Q : L2.VK} {E : L2.XK}, StoR (gd X) φ H st → VR (gd X) φ H x u → VR (gd X) φ H y v → post (VR (gd X)) (gd X) φ H (okB (cmpD o x y st) st) Q E → r u v H Q)
    (hr' : ∀ {φ : List Addr} {H : Hp} {st : Sto} {x y : D} {u v : L2.V} {Q : L2.VK} {E : L2.XK}, StoR (gd X) φ H st → VR (gd X) φ H x u → VR (gd X) φ H y v → post (VR (gd X)) (gd X) φ H (okB (cmpD p x y st) st) Q E → r' u v H Q)
    (ha : L2.PE X a (I1 X W C ea)) (hb : L2.PE X b (I1 X W C eb)) (hc : L2.PE X c (I1 X W C ec)) (hm : isSet c = false) : L2.PE X (.Compare a [op, op'] [b, c] pos) (I1 X W C (.chn o p ea eb ec)) ∧ L2.PT X (.Compare a [op, op'] [b, c] pos) (T1 X W C (.chn o p ea eb ec)) :=
  ⟨pe_weak (L2.pe_chain ho ho' ha hb hc (show behindInMarks op' c = false from nomarks hm)) (w_chain hr hr'), pt_weak (L2.pt_chain ho ho' ha hb hc (show behindInMarks op' c = false from nomarks hm)) fun σ H Q q => w_chain hr hr' σ H _ (tIt_val q)⟩
theorem k_not (ha : L2.PE X a (I1 X W C ea)) (hp : L2.PT X a (T1 X W C ea)) : L2.PE X (.UnaryOp .Not a pos) (I1 X W C (.not ea)) ∧ L2.PT X (.UnaryOp .Not a pos) (T1 X W C (.not ea)) := by
  refine ⟨pe_weak (L2.pe_not ha) fun σ H Q ⟨ρ, st, φ, S, en, q⟩ => ?_, pt_weak (L2.pt_not hp) fun σ H Q q => ?_⟩
  · rw [ev] at q
    refine seqE rfl S en q fun x st1 φ1 H1 u e1 s1 S1 en1 r1 q1 => ?_
    cases r1 with
    | bl k => exact ⟨k, rfl, ok_here S1 (.bl _) q1⟩
    | _ => exact q1.elim
  · obtain ⟨ρ, st, φ, S, en, q⟩ := tIt_val q
    rw [ev] at q
    refine tI_of_T rfl S en q (fun d st1 h => ?_) fun x st1 φ1 H1 e1 s1 S1 en1 q1 => ?_
    · cases d <;> first | rfl | exact absurd rfl (h _)
    · obtain ⟨k, e, q⟩ := ok_here S1 (.bl _) q1
      cases e; exact q
theorem w_and {σ : L2.St} {H : Hp} {Q : L2.VK} (h : I1 X W C (.and ea eb) σ H Q) : I1 X W C ea σ H fun x H1 => ∃ c, x = .bl c ∧ if c = true then I1 X W C eb σ H1 Q else Q (.bl false) H1 := by
  obtain ⟨ρ, st, φ, S, en, q⟩ := h
  rw [ev] at q
  refine seqE rfl S en q fun x st1 φ1 H1 u e1 s1 S1 en1 r1 q1 => ?_
  cases r1 with
  | bl k =>
    refine ⟨k, rfl, ?_⟩
    cases k with
    | true => exact ⟨ρ, st1, φ1, S1, en1, q1⟩
    | false => exact ok_here S1 (.bl _) q1
  | _ => exact q1.elim
theorem w_or {σ : L2.St} {H : Hp} {Q : L2.VK} (h : I1 X W C (.or ea eb) σ H Q) : I1 X W C ea σ H fun x H1 => ∃ c, x = .bl c ∧ if c = true then Q (.bl true) H1 else I1 X W C eb σ H1 Q := by
  obtain ⟨ρ, st, φ, S, en, q⟩ := h
  rw [ev] at q
  refine seqE rfl S en q fun x st1 φ1 H1 u e1 s1 S1 en1 r1 q1 => ?_
  cases r1 with
  | bl k =>
    refine ⟨k, rfl, ?_⟩
    cases k with
    | false => exact ⟨ρ, st1, φ1, S1, en1, q1⟩
    | true => exact ok_here S1 (.bl _) q1
  | _ => exact q1.elim
theorem t_and {σ : L2.St} {H : Hp} {Q : Bool → Hp → Prop} (h : T1 X W C (.and ea eb) σ H Q) : L2.tAnd (T1 X W C ea) (T1 X W C eb) σ H Q := by
  obtain ⟨ρ, st, φ, S, en, q, hb⟩ := h
  have q := q
  rw [ev] at q
  refine tI_of_T rfl S en q (fun d st1 h => by cases d <;> first | rfl | exact absurd rfl (h _)) fun x st1 φ1 H1 e1 s1 S1 en1 q1 => ?_
  cases x with
  | false => exact q1 _ _ _ (Stp.refl _ _) S1 rfl
  | true => exact ⟨ρ, st1, φ1, S1, en1, q1, fun d st' e => hb d st' (by rw [ev, e1]; exact e)⟩
theorem t_or {σ : L2.St} {H : Hp} {Q : Bool → Hp → Prop} (h : T1 X W C (.or ea eb) σ H Q) : L2.tOr (T1 X W C ea) (T1 X W C eb) σ H Q := by
  obtain ⟨ρ, st, φ, S, en, q, hb⟩ := h
  have q := q
  rw [ev] at q
  refine tI_of_T rfl S en q (fun d st1 h => by cases d <;> first | rfl | exact absurd rfl (h _)) fun x st1 φ1 H1 e1 s1 S1 en1 q1 => ?_
  cases x with
  | true => exact q1 _ _ _ (Stp.refl _ _) S1 rfl
  | false => exact ⟨ρ, st1, φ1, S1, en1, q1, fun d st' e => hb d st' (by rw [ev, e1]; exact e)⟩
theorem k_and {vs : List Expr} (ha : L2.PE X a (I1 X W C ea)) (pa : L2.PT X a (T1 X W C ea)) (hb : L2.PE X (.BoolOp .And (b :: vs) pos) (I1 X W C eb)) (pb : L2.PW X (.BoolOp .And (b :: vs) pos) (T1 X W C eb)) :
    L2.PE X (.BoolOp .And (a :: b :: vs) pos) (I1 X W C (.and ea eb)) ∧ L2.PW X (.BoolOp .And (a :: b :: vs) pos) (T1 X W C (.and ea eb)) :=
  ⟨pe_weak (L2.pe_and ha hb) fun σ H Q q => w_and q, pw_weak (L2.pw_and pa pb) fun σ H Q q => t_and q⟩
theorem k_or {vs : List Expr} (ha : L2.PE X a (I1 X W C ea)) (pa : L2.PT X a (T1 X W C ea)) (hb : L2.PE X (.BoolOp .Or (b :: vs) pos) (I1 X W C eb)) (pb : L2.PW X (.BoolOp .Or (b :: vs) pos) (T1 X W C eb)) :
    L2.PE X (.BoolOp .Or (a :: b :: vs) pos) (I1 X W C (.or ea eb)) ∧ L2.PW X (.BoolOp .Or (a :: b :: vs) pos) (T1 X W C (.or ea eb)) :=
  ⟨pe_weak (L2.pe_or ha hb) fun σ H Q q => w_or q, pw_weak (L2.pw_or pa pb) fun σ H Q q => t_or q⟩
theorem k_ite (hc : L2.PT X c (T1 X W C ec)) (ha : L2.PE X a (I1 X W C ea)) (hb : L2.PE X b (I1 X W C eb)) : L2.PE X (.IfExp c a b pos) (I1 X W C (.ite ec ea eb)) := by
  refine pe_weak (L2.pe_ifExp hc ha hb) fun σ H Q ⟨ρ, st, φ, S, en, q⟩ => ?_
  rw [ev] at q
  refine tI_of_T rfl S en q (fun d st1 h => by cases d <;> first | rfl | exact absurd rfl (h _)) fun x st1 φ1 H1 e1 s1 S1 en1 q1 => ?_
  cases x with
  | true => exact ⟨ρ, st1, φ1, S1, en1, q1⟩
  | false => exact ⟨ρ, st1, φ1, S1, en1, q1⟩
theorem k_isN {p1 : Pos} {j : Nat} (ha : L2.PE X a (I1 X W C ea)) : (L2.PE X (.Compare a [.Is] [.Constant .none j p1] pos) (I1 X W C (.isN ea)) ∧ L2.PT X (.Compare a [.Is] [.Constant .none j p1] pos) (T1 X W C (.isN ea))) ∧
    (L2.PE X (.Compare a [.IsNot] [.Constant .none j p1] pos) (I1 X W C (.notN ea)) ∧ L2.PT X (.Compare a [.IsNot] [.Constant .none j p1] pos) (T1 X W C (.notN ea))) := by
  have non : ∀ {φ : List Addr} {H : Hp} {x : D} {v : L2.V}, VR (gd X) φ H x v → decide (x = .non) = decide (v = .non) := fun {φ H x v} r => by cases r <;> simp
  have w1 : ∀ σ H Q, I1 X W C (.isN ea) σ H Q → L2.tIsN (I1 X W C ea) σ H Q := fun σ H Q ⟨ρ, st, φ, S, en, q⟩ => by
    rw [ev] at q
    refine seqE rfl S en q fun x st1 φ1 H1 u e1 s1 S1 en1 r1 q1 => ?_
    rw [non r1] at q1
    exact ok_here S1 (.bl _) q1
  have w2 : ∀ σ H Q, I1 X W C (.notN ea) σ H Q → L2.tNotN (I1 X W C ea) σ H Q := fun σ H Q ⟨ρ, st, φ, S, en, q⟩ => by
    rw [ev] at q
    refine seqE rfl S en q fun x st1 φ1 H1 u e1 s1 S1 en1 r1 q1 => ?_
    rw [non r1] at q1
    exact ok_here S1 (.bl _) q1
  exact ⟨⟨pe_weak (L2.pe_cmp (L2.pc_isN ha) rfl) w1, pt_weak (L2.pt_cmp (L2.pc_isN ha) rfl) fun σ H Q q => w1 σ H _ (tIt_val q)⟩,
    ⟨pe_weak (L2.pe_cmp (L2.pc_notN ha) rfl) w2, pt_weak (L2.pt_cmp (L2.pc_notN ha) rfl) fun σ H Q q => w2 σ H _ (tIt_val q)⟩⟩

/-! ### arguments, displays -/
theorem k_nil : L2.PA X [] (A1 X W C .nil) := pa_weak L2.pa_nil fun σ H Q ⟨ρ, st, φ, S, en, q⟩ => by
  rw [evs] at q
  exact q _ _ _ (Stp.refl _ _) S .nil
theorem k_cons {es : List Expr} {xs : Exs} (ha : L2.PE X a (I1 X W C ea)) (hs : L2.PA X es (A1 X W C xs)) (h : isStar a = false) : L2.PA X (a :: es) (A1 X W C (.cons ea xs)) :=
  pa_weak (L2.pa_cons ha hs (star_cons h)) fun σ H Q ⟨ρ, st, φ, S, en, q⟩ => by
    rw [evs] at q
    refine seqE rfl S en q fun x st1 φ1 H1 u e1 s1 S1 en1 r1 q1 => seqA rfl S1 en1 q1 fun ys st2 φ2 H2 vs e2 s2 S2 en2 r2 q2 => ?_
    exact q2 _ _ _ (Stp.refl _ _) S2 (.cons (r1.mono s2) r2)
theorem k_tup {es : List Expr} {xs : Exs} {n : Nat} (h : L2.PA X es (A1 X W C xs)) : L2.PE X (.Tuple es n pos) (I1 X W C (.tup xs)) :=
  pe_weak (L2.pe_tup h) fun σ H Q ⟨ρ, st, φ, S, en, q⟩ => by
    rw [ev] at q
    refine seqA rfl S en q fun ds st1 φ1 H1 vs e1 s1 S1 en1 r1 q1 => ?_
    split at q1
    · rename_i hl
      exact ⟨by rw [← r1.length]; exact lim_line hl, fun p hp => alloc_tup S1 r1 q1 hp⟩
    · exact q1.elim
theorem k_lst {es : List Expr} {xs : Exs} (h : L2.PA X es (A1 X W C xs)) : L2.PE X (.List es pos) (I1 X W C (.lst xs)) :=
  pe_weak (L2.pe_lst h) fun σ H Q ⟨ρ, st, φ, S, en, q⟩ => by
    rw [ev] at q
    refine seqA rfl S en q fun ds st1 φ1 H1 vs e1 s1 S1 en1 r1 q1 => ?_
    split at q1
    · rename_i hl
      exact ⟨by rw [← r1.length]; exact lim_line hl, fun p hp => alloc_lst S1 r1 q1 hp⟩
    · exact q1.elim
theorem k_dnew : L2.PE X (.Dict [] [] pos) (I1 X W C (.dct .nil)) :=
  pe_weak pe_dnewI fun σ H Q ⟨ρ, st, φ, S, en, q⟩ => by
    rw [ev, evd] at q
    have q : post (VR (gd X)) (gd X) φ H (.ok (.ref st.length) (st ++ [.dic []])) Q (fun c d H' => W c d σ H') := q
    intro p o hp hs ho
    subst ho
    obtain ⟨s, S'⟩ := S.alloc (o := pinO p { cls := .type "dict", data := .dict #[] }) (c := .dic []) hp fun _ => dic_nil hs L2.upd_same
    exact q _ _ _ s S' (.ref (by rw [List.getElem?_append_right (by rw [S.len]; exact Nat.le_refl _), S.len]; simp))

/-! ### calls -/
theorem k_call {np : Nat} {x : Str} {p : Pos} {e : Expr} {es : List Expr} {xs : Exs} (K : Callee X C x np) (tk : L2.Takes X W) (hg : L2.Gl X x) (ha : L2.PA X (e :: es) (A1 X W C xs)) (hl : (e :: es).length = np) (hd : (x == ("__debug__" : Str)) = false)
    (hs : (e :: es).all (fun z => !isStar z) = true) : L2.PE X (.Call (.Name x p) (e :: es) [] pos) (I1 X W C (.call x xs)) := by
  obtain ⟨a, fd, ps, k, h1, h2, h3, h4, h5, h6⟩ := K
  have hs1 : isStar e = false := by
    rw [List.all_cons, Bool.and_eq_true] at hs
    simpa using hs.1
  have hs2 : es.all (fun z => !isStar z) = true := by
    rw [List.all_cons, Bool.and_eq_true] at hs
    exact hs.2
  refine pe_weak (L2.pe_callSD (E := L2.WE W) (dvs := []) (ds := []) h5 h6 hg h1 h2 h3 .nil (fun σ => L2.passAt tk σ) ha hd (star_cons hs1) (star_plain hs2)) fun σ H Q ⟨ρ, st, φ, S, en, q⟩ => ?_
  rw [ev] at q
  refine seqA rfl S en q fun ds st1 φ1 H1 vs e1 s1 S1 en1 r1 q1 => ?_
  rw [List.append_nil]
  by_cases hn : ds.length = np
  · exact ⟨by rw [← r1.length]; exact hn, ds, st1, φ1, S1, r1, q1⟩
  · rw [h4 ds st1 hn] at q1
    exact q1.elim

/-! ### built-in functions -/
theorem w_one {o : D → Sto → R D} {r : List V → Hp → L2.VK → Prop} {f : Env → Sto → R D} (hf : ∀ ρ st, f ρ st = (ev C ea ρ st).bind fun x st1 => o x st1)
    (hr : ∀ {φ : List Addr} {H : Hp} {st : Sto} {x : D} {u : L2.V} {Q : L2.VK} {E : L2.XK}, StoR (gd X) φ H st → VR (gd X) φ H x u → post (VR (gd X)) (gd X) φ H (o x st) Q E → r [u] H Q) :
    ∀ σ H Q, tI (gd X) W f σ H Q → L2.tCB r (L2.tCons (I1 X W C ea) L2.tNil) σ H Q := fun σ H Q ⟨ρ, st, φ, S, en, q⟩ => by
  rw [hf] at q
  exact seqE rfl S en q fun x st1 φ1 H1 u e1 s1 S1 en1 r1 q1 => hr S1 r1 q1
theorem k_bltB {id : String} {x : Str} {p : Pos} {o : D → Sto → R D} {r : List V → Hp → L2.VK → Prop} {f : Env → Sto → R D} (hc : L2.CallR X (.builtin id) r) (hg : L2.Gl X x) (hm : X.mg x = none) (hv : bootBuiltins x = some (.builtin id)) (ha : L2.PE X a (I1 X W C ea))
    (hs : isStar a = false) (hn : x ≠ "__name__") (hd : (x == ("__debug__" : Str)) = false) (hf : ∀ ρ st, f ρ st = (ev C ea ρ st).bind fun x st1 => o x st1)
    (hr : ∀ {φ : List Addr} {H : Hp} {st : Sto} {x : D} {u : L2.V} {Q : L2.VK} {E : L2.XK}, StoR (gd X) φ H st → VR (gd X) φ H x u → post (VR (gd X)) (gd X) φ H (o x st) Q E → r [u] H Q) : L2.PE X (.Call (.Name x p) [a] [] pos) (tI (gd X) W f) :=
  pe_weak (L2.pe_callB hc hg hm hv (L2.pa_cons ha L2.pa_nil (star_cons hs)) hn hd (star_cons hs) rfl) (w_one hf hr)
theorem k_bltT {id : String} {x : Str} {p : Pos} {o : D → Sto → R D} {r : List V → Hp → L2.VK → Prop} {f : Env → Sto → R D} (hc : L2.CallR X (.type id) r) (hg : L2.Gl X x) (hm : X.mg x = none) (hv : bootBuiltins x = some (.type id)) (ha : L2.PE X a (I1 X W C ea))
    (hs : isStar a = false) (hn : x ≠ "__name__") (hd : (x == ("__debug__" : Str)) = false) (hf : ∀ ρ st, f ρ st = (ev C ea ρ st).bind fun x st1 => o x st1)
    (hr : ∀ {φ : List Addr} {H : Hp} {st : Sto} {x : D} {u : L2.V} {Q : L2.VK} {E : L2.XK}, StoR (gd X) φ H st → VR (gd X) φ H x u → post (VR (gd X)) (gd X) φ H (o x st) Q E → r [u] H Q) : L2.PE X (.Call (.Name x p) [a] [] pos) (tI (gd X) W f) :=
  pe_weak (L2.pe_callTy hc hg hm hv (L2.pa_cons ha L2.pa_nil (star_cons hs)) hn hd (star_cons hs) rfl) (w_one hf hr)
/-- list(x): of a list, a tuple, a dict -/
def rListI (X : L2.Cx) : List V → Hp → L2.VK → Prop := fun xs H Q => (∃ p ys, xs = [.ref p] ∧ (L2.SqL X.K H p ys ∨ L2.SqT X.K H p ys) ∧ ∀ l, H l = none → Q (.ref l) (L2.upd H l (.lst ys))) ∨ rListD X xs H Q
theorem cr_listI (hc : X.calm = true) : L2.CallR X (.type "list") (rListI X) := L2.call_list_of.or (cr_listD hc)
theorem list_ok {φ : List Addr} {H : Hp} {st : Sto} {d : D} {x : L2.V} {Q : L2.VK} {E : L2.XK} (S : StoR (gd X) φ H st) (r : VR (gd X) φ H d x) (h : post (VR (gd X)) (gd X) φ H (biD .list d st) Q E) : rListI X [x] H Q := by
  cases r with
  | @tup p ds vs hp hs => exact .inl ⟨p, vs, rfl, .inr (L2.SqT.of hp), fun l hl => alloc_lst S hs h hl⟩
  | @ref n p hp =>
    simp only [biD] at h
    split at h
    · rename_i ds h1
      obtain ⟨vs, k1, k2⟩ := lst_at S h1 hp
      exact .inl ⟨p, vs, rfl, .inl (L2.SqL.of k1), fun l hl => alloc_lst S k2 h hl⟩
    · rename_i kvs h1
      obtain ⟨a, ha, hc⟩ := S.lt h1
      rw [hp] at ha; cases ha
      exact .inr ⟨φ, p, kvs, rfl, hc, fun vs r l hl => alloc_lst S r h hl⟩
    · exact h.elim
  | _ => exact h.elim
end
end IP

/-! IpL: readings: subscripts, slices, membership, types, methods. -/
namespace IP
open PySem PySem.Spec PyProof.Rows
theorem po_weak {X : L2.Cx} {e : Option Expr} {t t' : L2.TO} (h : L2.PO X e t) (k : ∀ σ H Q, t' σ H Q → t σ H Q) : L2.PO X e t' := ⟨fun pins s σ H Q I q => h.run pins s σ H Q I (k σ H Q q)⟩
section
variable {X : L2.Cx} {W : WX} {C : CT} {pos : Pos} {a b c : Expr} {ea eb ec : Ex}
/-! ### isinstance -/
theorem k_isT {T : Ty} {x y : Str} {p p1 : Pos} (g1 : L2.Gl X x) (m1 : X.mg x = none) (v1 : bootBuiltins x = some (.builtin "isinstance")) (g2 : L2.Gl X y) (m2 : X.mg y = none) (v2 : bootBuiltins y = some (.type (tyName T)))
    (ha : L2.PE X a (I1 X W C ea)) (hs : isStar a = false) (n1 : x ≠ "__name__") (d1 : (x == ("__debug__" : Str)) = false) (n2 : y ≠ "__name__") (d2 : (y == ("__debug__" : Str)) = false) : L2.PE X (.Call (.Name x p) [a, .Name y p1] [] pos) (I1 X W C (.isT ea T)) := by
  have hT : L2.PE X (.Name y p1) (L2.tC (.ty (tyName T))) := L2.pe_bltn g2 m2 v2 rfl n2 d2
  refine pe_weak (L2.pe_callB L2.call_isi g1 m1 v1 (L2.pa_cons ha (L2.pa_cons hT L2.pa_nil rfl) (star_cons hs)) n1 d1 (star_cons hs) rfl) fun σ H Q ⟨ρ, st, φ, S, en, q⟩ => ?_
  rw [ev] at q
  refine seqE rfl S en q fun x st1 φ1 H1 u e1 s1 S1 en1 r1 q1 => ?_
  obtain ⟨k, hk, q2⟩ := okB_ok q1
  obtain ⟨t, ht, rfl⟩ := isT_ok S1 r1 hk
  exact ⟨u, .ty (tyName T), .type t, .type (tyName T), subTy t T, rfl, .ty _, tyX_of ht, kit_of ht, ok_here S1 (.bl _) q2⟩

/-! ### subscripts -/
theorem k_ix (hu : X.A.units + 12 < cLine) (ha : L2.PE X a (I1 X W C ea)) (hb : L2.PE X b (I1 X W C eb)) (hs : isSlice b = false) : L2.PE X (.Subscript a b pos) (I1 X W C (.ix ea eb)) := by
  refine pe_weak (pe_or2 (L2.pe_ix L2.ix_seq ha hb (fun o i => sub_no hs o i)) (pe_dgetI hu ha hb hs)) fun σ H Q ⟨ρ, st, φ, S, en, q⟩ => ?_
  rw [ev] at q
  by_cases hd : ∃ x st1 y st2, ev C ea ρ st = .ok x st1 ∧ ev C eb ρ st1 = .ok y st2 ∧ isDic st2 x
  · refine .inr (seqE rfl S en q fun x st1 φ1 H1 u e1 s1 S1 en1 r1 q1 => seqE rfl S1 en1 q1 fun y st2 φ2 H2 v e2 s2 S2 en2 r2 q2 => ?_)
    obtain ⟨x', st1', y', st2', k1, k2, k3⟩ := hd
    rw [e1] at k1; cases k1
    rw [e2] at k2; cases k2
    cases x with
    | ref n =>
      obtain ⟨kvs, hk⟩ := k3
      cases r1 with
      | @ref _ p hp =>
        obtain ⟨p', hp', hc⟩ := S2.lt hk
        rw [s2.pre _ _ hp] at hp'; cases hp'
        simp only [ixD, hk] at q2
        split at q2
        · rename_i hal
          split at q2
          · rename_i w hw
            exact ⟨φ2, p, y, w, kvs, ⟨rfl, r2, hc, hal⟩, hw, fun z rz => ok_here S2 rz q2⟩
          · exact q2.elim
        · exact q2.elim
    | _ => exact k3.elim
  · refine .inl (seqE rfl S en q fun x st1 φ1 H1 u e1 s1 S1 en1 r1 q1 => seqE rfl S1 en1 q1 fun y st2 φ2 H2 v e2 s2 S2 en2 r2 q2 => ?_)
    exact ix_ok S2 (r1.mono s2) r2 (fun z => hd ⟨x, st1, y, st2, e1, e2, z⟩) q2
abbrev O1 (X : L2.Cx) (W : WX) (C : CT) (o : Exo) : L2.TO := fun σ H Q => ∃ ρ st φ, StoR (gd X) φ H st ∧ EnvR (gd X) φ H ρ σ ∧ post (fun _ _ (a b : Option Int) => a = b) (gd X) φ H (evo C o ρ st) Q (fun c d H' => W c d σ H')
theorem k_none : L2.PO X none (O1 X W C .none) := po_weak L2.po_none fun σ H Q ⟨ρ, st, φ, S, en, q⟩ => by
  rw [evo] at q
  exact q _ _ _ (Stp.refl _ _) S rfl
theorem k_some (ha : L2.PE X a (I1 X W C ea)) : L2.PO X (some a) (O1 X W C (.some ea)) := po_weak (L2.po_some ha) fun σ H Q ⟨ρ, st, φ, S, en, q⟩ => by
  rw [evo] at q
  refine seqE rfl S en q fun x st1 φ1 H1 u e1 s1 S1 en1 r1 q1 => ?_
  cases r1 with
  | int i => exact ⟨i, rfl, q1 _ _ _ (Stp.refl _ _) S1 rfl⟩
  | _ => exact q1.elim
theorem k_sl {lo hi : Option Expr} {xl xh : Exo} {p2 : Pos} (ha : L2.PE X a (I1 X W C ea)) (hl : L2.PO X lo (O1 X W C xl)) (hh : L2.PO X hi (O1 X W C xh)) : L2.PE X (.Subscript a (.Slice lo hi none p2) pos) (I1 X W C (.sl ea xl xh)) := by
  refine pe_weak (L2.pe_slice sl_all ha hl hh) fun σ H Q ⟨ρ, st, φ, S, en, q⟩ => ?_
  rw [ev] at q
  refine seqE rfl S en q fun x st1 φ1 H1 u e1 s1 S1 en1 r1 q1 => ?_
  refine ⟨ρ, st1, φ1, S1, en1, post_bind q1 fun l st2 φ2 H2 l' e2 s2 S2 r2 q2 => ?_⟩
  subst r2
  refine ⟨ρ, st2, φ2, S2, en1.mono s2, post_bind q2 fun h st3 φ3 H3 h' e3 s3 S3 r3 q3 => ?_⟩
  subst r3
  exact sl_ok S3 ((r1.mono s2).mono s3) q3

/-! ### in, not in -/
def rMemD (X : L2.Cx) (neg : Bool) : L2.R2 := fun x y H Q => rMem X.K neg x y H Q ∨ if neg = true then rDNi X x y H Q else rDIn X x y H Q
theorem op_memD (h1 : X.A.units + 65 < cLine) : L2.OpR X (compareOp .In) (rMemD X false) := (op_memI h1).or (op_din (by omega))
theorem op_nmemD (h1 : X.A.units + 65 < cLine) : L2.OpR X (compareOp .NotIn) (rMemD X true) := (op_nmemI h1).or (op_dni (by omega))
theorem memD_ok (neg : Bool) {φ : List Addr} {H : Hp} {st : Sto} {x y : D} {u v : L2.V} {Q : L2.VK} {E : L2.XK} (S : StoR (gd X) φ H st) (r1 : VR (gd X) φ H x u) (r2 : VR (gd X) φ H y v)
    (h : post (VR (gd X)) (gd X) φ H (okB (if neg = true then (memD x y st).map (!·) else memD x y st) st) Q E) : rMemD X neg u v H Q := by
  obtain ⟨k, hk, q⟩ := okB_ok h
  have hm : ∃ c, memD x y st = some c ∧ k = if neg = true then !c else c := by
    cases neg with
    | false => exact ⟨k, hk, rfl⟩
    | true =>
      obtain ⟨c, h1, h2⟩ := Option.map_eq_some_iff.mp (show (memD x y st).map (!·) = some k from hk)
      exact ⟨c, h1, h2.symm⟩
  obtain ⟨c, hc, rfl⟩ := hm
  have q := ok_here S (.bl _) q
  by_cases hd : isDic st y
  · refine .inr ?_
    cases y with
    | ref n =>
      obtain ⟨kvs, h1⟩ := hd
      cases r2 with
      | @ref _ p hp =>
        obtain ⟨p', hp', hcell⟩ := S.lt h1
        rw [hp] at hp'; cases hp'
        simp only [memD, h1] at hc
        split at hc
        · rename_i hal
          cases hc
          cases neg with
          | false => exact ⟨φ, p, x, kvs, ⟨rfl, r1, hcell, hal⟩, q⟩
          | true => exact ⟨φ, p, x, kvs, ⟨rfl, r1, hcell, hal⟩, q⟩
        · cases hc
    | _ => exact hd.elim
  · exact .inl (mem_ok neg S r1 r2 hd hc q)
theorem k_in (h1 : X.A.units + 65 < cLine) (ha : L2.PE X a (I1 X W C ea)) (hb : L2.PE X b (I1 X W C eb)) (hm : isSet b = false) : L2.PE X (.Compare a [.In] [b] pos) (I1 X W C (.cmp .isin ea eb)) ∧ L2.PT X (.Compare a [.In] [b] pos) (T1 X W C (.cmp .isin ea eb)) :=
  k_cmp (op_memD h1) ha hb hm (w_two (o := fun x y st => okB (cmpD .isin x y st) st) (fun _ _ => by rw [ev]) fun S r1 r2 q => memD_ok false S r1 r2 q)
theorem k_nin (h1 : X.A.units + 65 < cLine) (ha : L2.PE X a (I1 X W C ea)) (hb : L2.PE X b (I1 X W C eb)) (hm : isSet b = false) : L2.PE X (.Compare a [.NotIn] [b] pos) (I1 X W C (.cmp .notin ea eb)) ∧ L2.PT X (.Compare a [.NotIn] [b] pos) (T1 X W C (.cmp .notin ea eb)) :=
  k_cmp (op_nmemD h1) ha hb hm (w_two (o := fun x y st => okB (cmpD .notin x y st) st) (fun _ _ => by rw [ev]) fun S r1 r2 q => memD_ok true S r1 r2 q)
theorem k_lset {p p2 q : Pos} (hc : X.calm = true) (g1 : L2.Gl X "len") (m1 : X.mg "len" = none) (g2 : L2.Gl X "set") (m2 : X.mg "set" = none) (ha : L2.PE X a (I1 X W C ea)) (na : isStar a = false) :
    L2.PE X (.Call (.Name "len" p) [.Call (.Name "set" p2) [a] [] q] [] pos) (I1 X W C (.lset ea)) :=
  pe_weak (pe_lenSetI hc g1 m1 g2 m2 ha na) fun σ H Q ⟨ρ, st, φ, S, en, q⟩ => by
    rw [ev] at q
    exact seqE rfl S en q fun x st1 φ1 H1 u e1 s1 S1 en1 r1 q1 => lset_ok S1 r1 q1

/-! ### methods -/
theorem rcv_lst {x : D} {v : L2.V} {φ : List Addr} {H : Hp} {st : Sto} (S : StoR (gd X) φ H st) (r : VR (gd X) φ H x v) (h : isLst x st = true) : L2.tyV X.K "list" v H := by
  cases r with
  | @ref n p hp =>
    simp only [isLst] at h
    split at h
    · rename_i ds h1
      obtain ⟨vs, k1, k2⟩ := lst_at S h1 hp
      exact .inl ⟨rfl, vs, L2.SqL.of k1⟩
    · cases h
  | _ => cases h
def tyD (X : L2.Cx) : V → Hp → Prop := fun v H => ∃ (φ : List Addr) (a : Addr) (kvs : List (D × D)), v = .ref a ∧ CellR (gd X) φ H a (.dic kvs)
theorem isT_dicR : IsT X "dict" (tyD X) := fun pins s σ H x v I r ⟨φ, a, kvs, e, c⟩ => by
  subst e
  exact isT_dic pins s σ H _ v I r (dic_ty c ⟨s.heap, I.hok⟩)
theorem rcv_dic {x : D} {v : L2.V} {φ : List Addr} {H : Hp} {st : Sto} (S : StoR (gd X) φ H st) (r : VR (gd X) φ H x v) (h : isDct x st = true) : tyD X v H := by
  cases r with
  | @ref n p hp =>
    simp only [isDct] at h
    split at h
    · rename_i kvs h1
      obtain ⟨p', hp', hc⟩ := S.lt h1
      rw [hp] at hp'; cases hp'
      exact ⟨φ, p, kvs, rfl, hc⟩
    · cases h
  | _ => cases h
/-- a method of a built-in type, one argument at least -/
theorem k_bm {m : Bm} {T id : String} {name : Str} {o e0 : Expr} {es : List Expr} {eo : Ex} {xs : Exs} {apos cpos : Pos} {ty : V → Hp → Prop} {r : V → List V → Hp → L2.VK → Prop} (hT : IsT X T ty) (pa : PlainAttrs T) (slot : Slot T name id)
    (hty : typeOf (.builtin id) = pure (.type "method_descriptor")) (hm : L2.MtR X id r) (ho : L2.PE X o (I1 X W C eo)) (ha : L2.PA X (e0 :: es) (A1 X W C xs)) (hb : isSup o = false) (hs : (e0 :: es).all (fun e => !isStar e) = true) (hl : (e0 :: es).length < 30) (hline : (apos.endLine == cpos.line) = true)
    (h1 : ∀ {φ : List Addr} {H : Hp} {st : Sto} {x : D} {v : L2.V}, StoR (gd X) φ H st → VR (gd X) φ H x v → rcv m x st = true → ty v H)
    (h2 : ∀ {φ : List Addr} {H : Hp} {st : Sto} {x : D} {ds : List D} {v : L2.V} {vs : List V} {Q : L2.VK} {E : L2.XK}, StoR (gd X) φ H st → VR (gd X) φ H x v → VRs (gd X) φ H ds vs → post (VR (gd X)) (gd X) φ H (bmD m x ds st) Q E → r v vs H Q) :
    L2.PE X (.Call (.Attribute o name apos) (e0 :: es) [] cpos) (I1 X W C (.bm m eo xs)) := by
  refine pe_weak (pe_mt hT pa slot hty hm ho ha hb hs hl hline) fun σ H Q ⟨ρ, st, φ, S, en, q⟩ => ?_
  rw [ev] at q
  refine seqE rfl S en q fun x st1 φ1 H1 u e1 s1 S1 en1 r1 q1 => ?_
  split at q1
  · rename_i hr
    exact ⟨h1 S1 r1 hr, seqA rfl S1 en1 q1 fun ds st2 φ2 H2 vs e2 s2 S2 en2 r2 q2 => h2 S2 (r1.mono s2) r2 q2⟩
  · exact q1.elim
section
variable {φ : List Addr} {H : Hp} {st : Sto} {x : D} {ds : List D} {v : L2.V} {vs : List V} {Q : L2.VK} {E : L2.XK}
theorem app_okI (S : StoR (gd X) φ H st) (r : VR (gd X) φ H x v) (rs : VRs (gd X) φ H ds vs) (h : post (VR (gd X)) (gd X) φ H (appD x ds st) Q E) : L2.rAppend v vs H Q := by
  cases r with
  | @ref n p hp =>
    cases rs with
    | nil => exact h.elim
    | @cons d w _ _ rd t =>
      cases t with
      | cons _ _ => exact h.elim
      | nil =>
        simp only [appD] at h
        split at h
        · rename_i es h1
          split at h
          · rename_i hlt
            obtain ⟨us, k1, k2⟩ := lst_at S h1 hp
            refine ⟨p, us, w, rfl, rfl, k1, by rw [← k2.length]; exact lim_line' hlt, ?_⟩
            obtain ⟨s, S'⟩ := S.write (o := .lst (us ++ [w])) (c := .lst (es ++ [d])) hp fun s => ⟨_, L2.upd_same, (k2.mono s).append (.one (rd.mono s))⟩
            exact h _ _ _ s S' .non
          · exact h.elim
        · exact h.elim
  | _ => exact h.elim
theorem ext_okI (S : StoR (gd X) φ H st) (r : VR (gd X) φ H x v) (rs : VRs (gd X) φ H ds vs) (h : post (VR (gd X)) (gd X) φ H (extD x ds st) Q E) : L2.rExtend v vs H Q := by
  cases r with
  | @ref n p hp =>
    cases rs with
    | nil => exact h.elim
    | @cons d w _ _ rd t =>
      cases t with
      | cons _ _ => cases rd <;> exact h.elim
      | nil =>
        cases rd with
        | @ref m p2 hp2 =>
          simp only [extD] at h
          split at h
          · rename_i es fs h1 h2
            split at h
            · rename_i hlt
              obtain ⟨us, k1, k2⟩ := lst_at S h1 hp
              obtain ⟨ws, k3, k4⟩ := lst_at S h2 hp2
              refine ⟨p, p2, us, ws, rfl, rfl, k1, k3, by rw [← k2.length, ← k4.length]; exact lim_line hlt, ?_⟩
              obtain ⟨s, S'⟩ := S.write (o := .lst (us ++ ws)) (c := .lst (es ++ fs)) hp fun s => ⟨_, L2.upd_same, (k2.mono s).append (k4.mono s)⟩
              exact h _ _ _ s S' .non
            · exact h.elim
          · exact h.elim
        | _ => exact h.elim
  | _ => exact h.elim
theorem vrs_last {g : Gd} {ds : List D} {vs : List V} {d : D} (r : VRs g φ H ds vs) (h : ds[ds.length - 1]? = some d) : ∃ v, vs[vs.length - 1]? = some v ∧ VR g φ H d v := by
  rw [← r.length]
  exact r.get h
theorem pop_okI (S : StoR (gd X) φ H st) (r : VR (gd X) φ H x v) (h : post (VR (gd X)) (gd X) φ H (popD x [] st) Q E) : L2.rPop v [] H Q := by
  cases r with
  | @ref n p hp =>
    simp only [popD] at h
    split at h
    · rename_i es h1
      split at h
      · rename_i d hd
        obtain ⟨us, k1, k2⟩ := lst_at S h1 hp
        obtain ⟨w, k3, k4⟩ := vrs_last k2 hd
        refine ⟨p, us, w, rfl, rfl, k1, k3, ?_⟩
        obtain ⟨s, S'⟩ := S.write (o := .lst us.dropLast) (c := .lst es.dropLast) hp fun s => ⟨_, L2.upd_same, (k2.mono s).dropLast⟩
        exact h _ _ _ s S' (k4.mono s)
      · exact h.elim
    · exact h.elim
  | _ => exact h.elim
theorem popi_okI (S : StoR (gd X) φ H st) (r : VR (gd X) φ H x v) (rs : VRs (gd X) φ H ds vs) (h : post (VR (gd X)) (gd X) φ H (popiD x ds st) Q E) : L2.rPopAt v vs H Q := by
  cases r with
  | @ref n p hp =>
    cases rs with
    | nil => exact h.elim
    | @cons d w _ _ rd t =>
      cases t with
      | cons _ _ => cases rd <;> exact h.elim
      | nil =>
        cases rd with
        | int i =>
          simp only [popiD] at h
          split at h
          · rename_i es h1
            split at h
            · rename_i k hk
              split at h
              · rename_i d hd
                split at h
                · rename_i hlt
                  obtain ⟨us, k1, k2⟩ := lst_at S h1 hp
                  obtain ⟨w, k3, k4⟩ := k2.get hd
                  obtain ⟨q1, q2, q3, q4⟩ := L2.ixN_seq hk
                  rw [k2.length] at q1 q3 q4 hlt
                  unfold LIM at hlt
                  refine ⟨p, us, i, k, w, rfl, rfl, k1, by omega, by omega, q1, k3, ?_⟩
                  obtain ⟨s, S'⟩ := S.write (o := .lst (us.eraseIdx k)) (c := .lst (es.eraseIdx k)) hp fun s => ⟨_, L2.upd_same, (k2.mono s).eraseIdx k⟩
                  exact h _ _ _ s S' (k4.mono s)
                · exact h.elim
              · exact h.elim
            · exact h.elim
          · exact h.elim
        | _ => exact h.elim
  | _ => exact h.elim
theorem get_okI (S : StoR (gd X) φ H st) (r : VR (gd X) φ H x v) (rs : VRs (gd X) φ H ds vs) (h : post (VR (gd X)) (gd X) φ H (getDD x ds st) Q E) : rDGet2 X v vs H Q := by
  cases r with
  | @ref n p hp =>
    cases rs with
    | nil => exact h.elim
    | @cons k y _ _ rk t =>
      cases t with
      | nil => exact h.elim
      | @cons d z _ _ rd t =>
        cases t with
        | cons _ _ => exact h.elim
        | nil =>
          simp only [getDD] at h
          split at h
          · rename_i kvs h1
            split at h
            · rename_i hal
              obtain ⟨p', hp', hc⟩ := S.lt h1
              rw [hp] at hp'; cases hp'
              exact ⟨φ, p, k, d, y, z, kvs, rfl, ⟨rfl, rk, hc, hal⟩, rd, fun w rw => ok_here S rw h⟩
            · exact h.elim
          · exact h.elim
  | _ => exact h.elim
theorem index_okI (S : StoR (gd X) φ H st) (r : VR (gd X) φ H x v) (rs : VRs (gd X) φ H ds vs) (h : post (VR (gd X)) (gd X) φ H (indexD x ds st) Q E) : L2.rIndexD X.K v vs H Q := by
  cases r with
  | @ref n p hp =>
    cases rs with
    | nil => exact h.elim
    | @cons d y _ _ rd t =>
      cases t with
      | cons _ _ => exact h.elim
      | nil =>
        simp only [indexD] at h
        split at h
        · rename_i j hj
          unfold idxD at hj
          split at hj
          · rename_i q ps h1 h2
            obtain ⟨a1, a2, a3⟩ := dp_of S 64 _ _ _ rd h1
            obtain ⟨b1, b2, b3⟩ := dp_of S 64 _ _ _ (.ref hp) h2
            rw [List.findIdx?_eq_some_iff_getElem] at hj
            obtain ⟨hl, c1, c2⟩ := hj
            refine ⟨p, y, q, ps, j, ps[j], rfl, rfl, b1, a1, shaped_of b2 b3, shaped_of a2 a3, List.getElem?_eq_getElem hl, c1, fun m z hm hz => ?_, ok_here S (.int _) h⟩
            obtain ⟨hm', rfl⟩ := List.getElem?_eq_some_iff.mp hz
            simpa using c2 m hm
          · cases hj
        · exact h.elim
  | _ => exact h.elim
end
theorem k_pop {name : Str} {o : Expr} {eo : Ex} {apos cpos : Pos} (slot : Slot "list" name "list.pop") (ho : L2.PE X o (I1 X W C eo)) (hb : isSup o = false) (hline : (apos.endLine == cpos.line) = true) : L2.PE X (.Call (.Attribute o name apos) [] [] cpos) (I1 X W C (.bm .pop eo .nil)) := by
  refine pe_weak (L2.pe_bm0 PySem.F.plainAttrs_list slot PySem.F.type_list_pop L2.mt_pop ho (attr_base hb) hline) fun σ H Q ⟨ρ, st, φ, S, en, q⟩ => ?_
  rw [ev] at q
  refine seqE rfl S en q fun x st1 φ1 H1 u e1 s1 S1 en1 r1 q1 => ?_
  split at q1
  · rename_i hr
    rw [evs] at q1
    exact ⟨rcv_lst S1 r1 hr, pop_okI S1 r1 q1⟩
  · exact q1.elim
end
end IP

/-! IpM: readings: targets, what is walked. -/
namespace IP
open PySem PySem.Spec PyProof.Rows
theorem pg_weak {X : L2.Cx} {e : Expr} {t t' : L2.TG} (h : L2.PG X e t) (k : ∀ v σ H Q, t' v σ H Q → t v σ H Q) : L2.PG X e t' := ⟨fun pins s σ H v u Q I r q => h.run pins s σ H v u Q I r (k v σ H Q q)⟩
theorem pgs_weak {X : L2.Cx} {e : List Expr} {t t' : L2.TGs} (h : L2.PGs X e t) (k : ∀ v σ H Q, t' v σ H Q → t v σ H Q) : L2.PGs X e t' := ⟨fun pins s σ H v u Q I r q => h.run pins s σ H v u Q I r (k v σ H Q q)⟩
theorem pi_weak {X : L2.Cx} {tg e : Expr} {t t' : L2.TI} (h : L2.PI X tg e t) (k : ∀ σ H R, t' σ H R → t σ H R) : L2.PI X tg e t' := ⟨fun pins s σ H R I q => h.run pins s σ H R I (k σ H R q)⟩
mutual
def Tg.ix : Tg → List Nat
  | .nm i => [i]
  | .tp ts => ts.ixs
def Tgs.ixs : Tgs → List Nat
  | .nil => []
  | .cons t ts => t.ix ++ ts.ixs
end
/-- the slots but those at l are kept -/
def Off (l : List Nat) (σ σ' : L2.St) : Prop := σ'.length = σ.length ∧ ∀ i, i ∉ l → σ'[i]? = σ[i]?
theorem Off.trans {l m : List Nat} {σ σ' σ'' : L2.St} (a : Off l σ σ') (b : Off m σ' σ'') : Off (l ++ m) σ σ'' := ⟨b.1.trans a.1, fun i h => (b.2 i fun z => h (List.mem_append_right _ z)).trans (a.2 i fun z => h (List.mem_append_left _ z))⟩
def gI (g : Gd) (t : Tg) : L2.TG := fun v σ H Q => ∃ d ρ st φ ρ', StoR g φ H st ∧ EnvR g φ H ρ σ ∧ VR g φ H d v ∧ asg t d ρ st = some ρ' ∧ ∀ σ', EnvR g φ H ρ' σ' → Off t.ix σ σ' → Q σ' H
def gIs (g : Gd) (ts : Tgs) : L2.TGs := fun vs σ H Q => ∃ ds ρ st φ ρ', StoR g φ H st ∧ EnvR g φ H ρ σ ∧ VRs g φ H ds vs ∧ asgs ts ds ρ st = some ρ' ∧ ∀ σ', EnvR g φ H ρ' σ' → Off ts.ixs σ σ' → Q σ' H
theorem EnvR.set {g : Gd} {φ : List Addr} {H : Hp} {ρ : Env} {σ : L2.St} {i : Nat} {d : D} {v : L2.V} (e : EnvR g φ H ρ σ) (r : VR g φ H d v) : EnvR g φ H (ρ.set i (some d)) (σ.set i (some v)) := by
  refine ⟨by rw [List.length_set, List.length_set]; exact e.len, fun j d' h => ?_⟩
  by_cases q : i = j
  · subst q
    by_cases hl : i < ρ.length
    · rw [List.getElem?_set_self hl] at h
      cases h
      exact ⟨v, List.getElem?_set_self (by rw [← e.len]; exact hl), r⟩
    · rw [List.getElem?_eq_none (by rw [List.length_set]; omega)] at h; cases h
  · rw [List.getElem?_set_ne q] at h ⊢
    exact e.at_ j d' h
theorem off_set {i : Nat} {x : Option L2.V} {σ : L2.St} : Off [i] σ (σ.set i x) := ⟨List.length_set, fun j h => List.getElem?_set_ne (fun e => h (by rw [e]; exact List.mem_singleton.mpr rfl))⟩
theorem asgE_len : ∀ {es : List Expr} {env : PySem.Env}, es.all (fun e => !isStar e) = true → (assignEach es env).length = es.length ∧ (assignEach es env).findIdx? (·.1) = none
  | [], _, _ => ⟨rfl, rfl⟩
  | e :: es, env, h => by
    rw [List.all_cons, Bool.and_eq_true] at h
    obtain ⟨h1, h2⟩ := asgE_len (env := env) h.2
    have hs : isStar e = false := by simpa using h.1
    have hc : assignEach (e :: es) env = (false, assign e env) :: assignEach es env := by cases e <;> first | rfl | cases hs
    rw [hc]
    refine ⟨by rw [List.length_cons, List.length_cons, h1], ?_⟩
    rw [List.findIdx?_cons, h2]; rfl
theorem asgE_cons {e : Expr} {es : List Expr} {env : PySem.Env} (h : isStar e = false) : (assignEach (e :: es) env).map (·.2) = assign e env :: (assignEach es env).map (·.2) := by
  cases e <;> first | rfl | cases h
section
variable {X : L2.Cx} {pos : Pos}
theorem k_name {i : Nat} {x : Str} (hN : X.N.Nodup) (hi : X.N[i]? = some x) (hx : L2.Loc X.env.scope x) (hf : X.fn x = true ∨ X.env.scope.names.lookup x = some .local) : L2.PG X (.Name x pos) (gI (gd X) (.nm i)) :=
  pg_weak (L2.pg_name hN hi hx hf) fun v σ H Q ⟨d, ρ, st, φ, ρ', S, en, r, e, h⟩ => by
    simp only [asg] at e
    split at e
    · cases e; exact h _ (en.set r) off_set
    · cases e
theorem k_tnil : L2.PGs X [] (gIs (gd X) .nil) := pgs_weak L2.pgs_nil fun vs σ H Q ⟨ds, ρ, st, φ, ρ', S, en, r, e, h⟩ => by
  cases r with
  | nil => simp only [asgs] at e; cases e; exact ⟨rfl, h _ en ⟨rfl, fun _ _ => rfl⟩⟩
  | cons _ _ => simp [asgs] at e
theorem k_tcons {e : Expr} {es : List Expr} {t : Tg} {ts : Tgs} (h1 : L2.PG X e (gI (gd X) t)) (h2 : L2.PGs X es (gIs (gd X) ts)) (hs : isStar e = false) : L2.PGs X (e :: es) (gIs (gd X) (.cons t ts)) :=
  pgs_weak (L2.pgs_cons h1 h2 (asgE_cons hs)) fun vs σ H Q ⟨ds, ρ, st, φ, ρ', S, en, r, e, h⟩ => by
    cases r with
    | nil => simp [asgs] at e
    | @cons d v ds vs rd rt =>
      simp only [asgs] at e
      split at e
      · rename_i ρ1 h3
        exact ⟨v, vs, rfl, d, ρ, st, φ, ρ1, S, en, rd, h3, fun σ1 en1 o1 => ⟨ds, ρ1, st, φ, ρ', S, en1, rt, e, fun σ2 en2 o2 => h σ2 en2 (o1.trans o2)⟩⟩
      · cases e
theorem k_tt {es : List Expr} {n : Nat} {ts : Tgs} (hc : X.calm = true) (h : L2.PGs X es (gIs (gd X) ts)) (hs : es.all (fun e => !isStar e) = true) (hl : ∀ ds ρ st ρ', asgs ts ds ρ st = some ρ' → ds.length = es.length) : L2.PG X (.Tuple es n pos) (gI (gd X) (.tp ts)) := by
  obtain ⟨h1, h2⟩ := asgE_len (env := X.env) hs
  refine pg_weak (pg_or2 (L2.pg_tup hc h h1 h2) (L2.pg_unl hc h h1 h2)) fun v σ H Q ⟨d, ρ, st, φ, ρ', S, en, r, e, q⟩ => ?_
  cases r with
  | @tup a ds vs ha rs =>
    exact .inl ⟨a, vs, rfl, L2.SqT.of ha, by rw [← rs.length]; exact hl ds ρ st ρ' e, ds, ρ, st, φ, ρ', S, en, rs, e, q⟩
  | @ref m a hp =>
    simp only [asg] at e
    split at e
    · rename_i ds h3
      obtain ⟨vs, k1, k2⟩ := lst_at S h3 hp
      exact .inr ⟨a, vs, rfl, L2.SqL.of k1, by rw [← k2.length]; exact hl ds ρ st ρ' e, ds, ρ, st, φ, ρ', S, en, k2, e, q⟩
    · cases e
  | _ => cases e
end
/-! ### what is walked -/
def itR (g : Gd) (φ : List Addr) (H : Hp) (p : List D × Watch) (J : L2.It) : Prop := IterR g φ H p.1 p.2 J
def iI (g : Gd) (W : WX) (f : Env → Sto → R (List D × Watch)) : L2.TI := fun σ H R => ∃ ρ st φ, StoR g φ H st ∧ EnvR g φ H ρ σ ∧ post (itR g) g φ H (f ρ st) R (fun c d H' => W c d σ H')
section
variable {X : L2.Cx} {W : WX} {C : CT} {pos : Pos} {a b c : Expr} {ea eb ec : Ex}
abbrev J1 (X : L2.Cx) (W : WX) (C : CT) (it : Itr) : L2.TI := iI (gd X) W (evi C it)
theorem it_here {φ : List Addr} {H : Hp} {st : Sto} {p : List D × Watch} {J : L2.It} {R : L2.It → Hp → Prop} {E : L2.XK} (S : StoR (gd X) φ H st) (r : IterR (gd X) φ H p.1 p.2 J) (h : post (itR (gd X)) (gd X) φ H (.ok p st) R E) : R J H := h _ _ _ (Stp.refl _ _) S r
theorem k_val {tg : Expr} (ha : L2.PE X a (I1 X W C ea)) : L2.PI X tg a (J1 X W C (.val ea)) := by
  refine pi_weak (pi_or2 (L2.pi_list ha) (pi_or2 (L2.pi_tup ha) (L2.pi_str ha))) fun σ H R ⟨ρ, st, φ, S, en, q⟩ => ?_
  rw [evi] at q
  by_cases h1 : ∃ ds st1, ev C ea ρ st = .ok (.tup ds) st1
  · refine .inr (.inl (seqE rfl S en q fun x st1 φ1 H1 u e1 s1 S1 en1 r1 q1 => ?_))
    obtain ⟨ds, st', e⟩ := h1
    rw [e1] at e; cases e
    cases r1 with
    | @tup p _ vs hp rs => exact ⟨p, rfl, ⟨vs, L2.SqT.of hp⟩, it_here S1 (iter_tup hp rs) q1⟩
  · by_cases h2 : ∃ z st1, ev C ea ρ st = .ok (.str z) st1
    · refine .inr (.inr (seqE rfl S en q fun x st1 φ1 H1 u e1 s1 S1 en1 r1 q1 => ?_))
      obtain ⟨z, st', e⟩ := h2
      rw [e1] at e; cases e
      cases r1
      exact ⟨z, rfl, it_here S1 iter_str q1⟩
    · refine .inl (seqE rfl S en q fun x st1 φ1 H1 u e1 s1 S1 en1 r1 q1 => ?_)
      have ro : ∀ {ns : List Int} {p : Addr}, x = .ro ns → u = .ref p → VR (gd X) φ1 H1 (.ro ns) (.ref p) → ∃ a, u = .ref a ∧ (∃ xs, L2.SqL X.K H1 a xs) ∧ R (L2.Itl X.K a) H1 := fun {ns p} ex eu r => by
        subst ex eu
        exact ⟨p, rfl, ⟨_, sq_of_ro r⟩, it_here S1 (p := (ns.map D.int, [])) (iter_ro r) q1⟩
      cases r1 with
      | tup hp rs => exact absurd ⟨_, _, e1⟩ h1
      | str z => exact absurd ⟨_, _, e1⟩ h2
      | rof hp => exact ro rfl rfl (.rof hp)
      | rok hp => exact ro rfl rfl (.rok hp)
      | @ref n p hp =>
        simp only [walkOf] at q1
        split at q1
        · rename_i pr hpr
          split at hpr
          · rename_i ds h3
            cases hpr
            obtain ⟨vs, k1, k2⟩ := lst_at S1 h3 hp
            exact ⟨p, rfl, ⟨vs, L2.SqL.of k1⟩, it_here S1 (iter_lst hp (by simp)) q1⟩
          · cases hpr
        · exact q1.elim
      | _ => exact q1.elim
theorem small_of {j : Int} (h : small62 j = true) : -(2 ^ 62) ≤ j ∧ j < 2 ^ 62 := of_decide_eq_true h
theorem k_rng {tg : Expr} {p : Pos} (hg : L2.Gl X "range") (hm : X.mg "range" = none) (ha : L2.PE X a (I1 X W C ea)) (hs : isStar a = false) : L2.PI X tg (.Call (.Name "range" p) [a] [] pos) (J1 X W C (.rng ea)) := by
  refine pi_weak (L2.pi_range1 hg hm (L2.pa_cons ha L2.pa_nil (star_cons hs)) (star_cons hs)) fun σ H R ⟨ρ, st, φ, S, en, q⟩ => ?_
  rw [evi] at q
  refine seqE rfl S en q fun x st1 φ1 H1 u e1 s1 S1 en1 r1 q1 => ?_
  cases r1 with
  | int j =>
    dsimp only at q1
    split at q1
    · rename_i hj
      obtain ⟨j1, j2⟩ := small_of hj
      exact ⟨j, rfl, j1, j2, it_here S1 (p := (rngD 0 j.toNat, [])) iter_rng q1⟩
    · exact q1.elim
  | _ => exact q1.elim
theorem k_rng2 {tg : Expr} {p : Pos} (hg : L2.Gl X "range") (hm : X.mg "range" = none) (ha : L2.PE X a (I1 X W C ea)) (hb : L2.PE X b (I1 X W C eb)) (hs : isStar a = false) (hs2 : isStar b = false) : L2.PI X tg (.Call (.Name "range" p) [a, b] [] pos) (J1 X W C (.rng2 ea eb)) := by
  have e2 : starEach [b] X.env = [(false, eval b X.env)] := star_cons hs2
  have e1 : starEach [a, b] X.env = [(false, eval a X.env), (false, eval b X.env)] := by rw [star_cons hs, e2]
  refine pi_weak (L2.pi_range2 hg hm (L2.pa_cons ha (L2.pa_cons hb L2.pa_nil (star_cons hs2)) (star_cons hs)) e1 e2) fun σ H R ⟨ρ, st, φ, S, en, q⟩ => ?_
  rw [evi] at q
  refine seqE rfl S en q fun x st1 φ1 H1 u e1 s1 S1 en1 r1 q1 => seqE rfl S1 en1 q1 fun y st2 φ2 H2 v e2 s2 S2 en2 r2 q2 => ?_
  cases r1 with
  | int i =>
    cases r2 with
    | int j =>
      dsimp only at q2
      split at q2
      · rename_i hj
        rw [Bool.and_eq_true] at hj
        obtain ⟨i1, i2⟩ := small_of hj.1
        obtain ⟨j1, j2⟩ := small_of hj.2
        exact ⟨i, j, rfl, ⟨i1, i2, j1, j2⟩, it_here S2 (p := (rngD i (j - i).toNat, [])) iter_rng q2⟩
      · exact q2.elim
    | _ => exact q2.elim
  | _ => exact q2.elim
theorem k_enm {elts : List Expr} {kk : Nat} {p tpos : Pos} (hg : L2.Gl X "enumerate") (hm : X.mg "enumerate" = none) (ha : L2.PE X a (I1 X W C ea)) (hs : isStar a = false) : L2.PI X (.Tuple elts kk tpos) (.Call (.Name "enumerate" p) [a] [] pos) (J1 X W C (.enm ea)) := by
  have hA := L2.pa_cons ha L2.pa_nil (star_cons hs)
  refine pi_weak (pi_or2 (L2.pi_enum hg hm hA (star_cons hs)) (pi_enmT hg hm hA (star_cons hs))) fun σ H R ⟨ρ, st, φ, S, en, q⟩ => ?_
  rw [evi] at q
  by_cases h1 : ∃ ds st1, ev C ea ρ st = .ok (.tup ds) st1
  · refine .inr (seqE rfl S en q fun x st1 φ1 H1 u e1 s1 S1 en1 r1 q1 => ?_)
    obtain ⟨ds, st', e⟩ := h1
    rw [e1] at e; cases e
    cases r1 with
    | @tup p _ vs hp rs => exact ⟨p, vs, rfl, L2.SqT.of hp, it_here S1 (p := (zipI 0 ds, [])) (iter_enmT hp rs) q1⟩
  · refine .inl (seqE rfl S en q fun x st1 φ1 H1 u e1 s1 S1 en1 r1 q1 => ?_)
    cases r1 with
    | tup hp rs => exact absurd ⟨_, _, e1⟩ h1
    | @ref n p hp =>
      simp only [seqOf] at q1
      split at q1
      · rename_i pr hpr
        split at hpr
        · rename_i ds h3
          cases hpr
          obtain ⟨vs, k1, k2⟩ := lst_at S1 h3 hp
          exact ⟨p, vs, rfl, L2.SqL.of k1, it_here S1 (p := (zipI 0 ds, [(n, Cell.lst ds)])) (iter_enmL hp) q1⟩
        · cases hpr
      · exact q1.elim
    | _ => exact q1.elim
theorem zipD_get : ∀ (as bs : List D) (i : Nat) (d : D), (zipD as bs)[i]? = some d → ∃ x y, as[i]? = some x ∧ bs[i]? = some y ∧ d = .tup [x, y]
  | [], _, i, d, h => by simp [zipD] at h
  | _ :: _, [], i, d, h => by simp [zipD] at h
  | a :: as, b :: bs, 0, d, h => by simp [zipD] at h; exact ⟨a, b, rfl, rfl, h.symm⟩
  | a :: as, b :: bs, i + 1, d, h => by
    rw [zipD, List.getElem?_cons_succ] at h
    obtain ⟨x, y, h1, h2, h3⟩ := zipD_get as bs i d h
    exact ⟨x, y, by simpa using h1, by simpa using h2, h3⟩
theorem zipD_len : ∀ (as bs : List D), (zipD as bs).length = min as.length bs.length
  | [], _ => by simp [zipD]
  | _ :: _, [] => by simp [zipD]
  | a :: as, b :: bs => by rw [zipD, List.length_cons, zipD_len as bs, List.length_cons, List.length_cons]; omega
theorem iter_zipL {g : Gd} {φ : List Addr} {H : Hp} {n m : Nat} {a b : Addr} {ds es : List D} (hn : φ[n]? = some a) (hm : φ[m]? = some b) : IterR g φ H (zipD ds es) ([(n, Cell.lst ds)] ++ [(m, Cell.lst es)]) (L2.Itz g.K a b) where
  go := fun φ' H' st' i s S k hi => by
    rw [zipD_len] at hi
    obtain ⟨vs, h1, h2⟩ := lst_at S (okW_at (n := n) (c := .lst ds) k (by simp)) (s.pre _ _ hn)
    obtain ⟨us, h3, h4⟩ := lst_at S (okW_at (n := m) (c := .lst es) k (by simp)) (s.pre _ _ hm)
    obtain ⟨v, h5, _⟩ := h2.get (List.getElem?_eq_getElem (i := i) (by omega))
    obtain ⟨u, h6, _⟩ := h4.get (List.getElem?_eq_getElem (i := i) (by omega))
    exact ⟨vs, us, v, u, L2.SqL.of h1, L2.SqL.of h3, h5, h6⟩
  yld := fun φ' H' st' i x H'' d s S k hi y => by
    obtain ⟨e, f, he, hf, hd⟩ := zipD_get ds es i d hi
    subst hd
    obtain ⟨vs, h1, h2⟩ := lst_at S (okW_at (n := n) (c := .lst ds) k (by simp)) (s.pre _ _ hn)
    obtain ⟨us, h3, h4⟩ := lst_at S (okW_at (n := m) (c := .lst es) k (by simp)) (s.pre _ _ hm)
    obtain ⟨v, h5, r5⟩ := h2.get he
    obtain ⟨u, h6, r6⟩ := h4.get hf
    obtain ⟨T, x', y', rfl, hT, rfl, hx, hy⟩ := y
    have e1 := hx vs (L2.SqL.of h1)
    rw [h5] at e1; cases e1
    have e2 := hy us (L2.SqL.of h3)
    rw [h6] at e2; cases e2
    exact laid_tup S hT (.cons r5 (.cons r6 .nil))
  stop := fun φ' H' st' s S k => by
    obtain ⟨vs, h1, h2⟩ := lst_at S (okW_at (n := n) (c := .lst ds) k (by simp)) (s.pre _ _ hn)
    obtain ⟨us, h3, h4⟩ := lst_at S (okW_at (n := m) (c := .lst es) k (by simp)) (s.pre _ _ hm)
    refine ⟨vs, us, L2.SqL.of h1, L2.SqL.of h3, ?_⟩
    rw [zipD_len, ← h2.length, ← h4.length]; omega
theorem iter_zipT {g : Gd} {φ : List Addr} {H : Hp} {a b : Addr} {ds es : List D} {vs us : List V} (h : H a = some (.tup vs)) (r : VRs g φ H ds vs) (h' : H b = some (.tup us)) (r' : VRs g φ H es us) : IterR g φ H (zipD ds es) [] (RZ.ItzT g.K a b) where
  go := fun φ' H' st' i s S k hi => by
    rw [zipD_len] at hi
    obtain ⟨v, h5, _⟩ := r.get (List.getElem?_eq_getElem (i := i) (by omega))
    obtain ⟨u, h6, _⟩ := r'.get (List.getElem?_eq_getElem (i := i) (by omega))
    exact ⟨vs, us, v, u, L2.SqT.of (s.tup _ _ h), L2.SqT.of (s.tup _ _ h'), h5, h6⟩
  yld := fun φ' H' st' i x H'' d s S k hi y => by
    obtain ⟨e, f, he, hf, hd⟩ := zipD_get ds es i d hi
    subst hd
    obtain ⟨v, h5, r5⟩ := (r.mono s).get he
    obtain ⟨u, h6, r6⟩ := (r'.mono s).get hf
    obtain ⟨T, x', y', rfl, hT, rfl, hx, hy⟩ := y
    have e1 := hx vs (L2.SqT.of (s.tup _ _ h))
    rw [h5] at e1; cases e1
    have e2 := hy us (L2.SqT.of (s.tup _ _ h'))
    rw [h6] at e2; cases e2
    exact laid_tup S hT (.cons r5 (.cons r6 .nil))
  stop := fun φ' H' st' s S k => by
    refine ⟨vs, us, L2.SqT.of (s.tup _ _ h), L2.SqT.of (s.tup _ _ h'), ?_⟩
    rw [zipD_len, ← r.length, ← r'.length]; omega
theorem k_zip {elts : List Expr} {kk : Nat} {p tpos : Pos} (hg : L2.Gl X "zip") (hm : X.mg "zip" = none) (ha : L2.PE X a (I1 X W C ea)) (hb : L2.PE X b (I1 X W C eb)) (hs : isStar a = false) (hs2 : isStar b = false) :
    L2.PI X (.Tuple elts kk tpos) (.Call (.Name "zip" p) [a, b] [] pos) (J1 X W C (.zip ea eb)) := by
  have pl : (backTo pos (starEach [b] X.env)).any (·.1) = false := by rw [star_cons hs2]; rfl
  refine pi_weak (RZ.pi_zipA hg hm (L2.pa_cons ha (L2.pa_cons hb L2.pa_nil (star_cons hs2)) (star_cons hs)) (star_cons hs) pl) fun σ H R ⟨ρ, st, φ, S, en, q⟩ => ?_
  rw [evi] at q
  refine seqE rfl S en q fun x st1 φ1 H1 u e1 s1 S1 en1 r1 q1 => seqE rfl S1 en1 q1 fun y st2 φ2 H2 v e2 s2 S2 en2 r2 q2 => ?_
  have r1 := r1.mono s2
  split at q2
  · rename_i p q hp hq
    split at q2
    · rename_i hk
      cases r1 with
      | @tup a1 ds vs h1 k1 =>
        cases r2 with
        | @tup b1 es us h2 k2 =>
          cases hp; cases hq
          exact ⟨a1, b1, vs, us, rfl, .inr ⟨L2.SqT.of h1, L2.SqT.of h2, it_here S2 (p := (zipD ds es, [])) (iter_zipT h1 k1 h2 k2) q2⟩⟩
        | _ => cases hk
      | @ref n a1 h1 =>
        cases r2 with
        | @ref m b1 h2 =>
          simp only [seqOf] at hp hq
          split at hp
          · rename_i ds h3
            cases hp
            split at hq
            · rename_i es h4
              cases hq
              obtain ⟨vs, k1, k2⟩ := lst_at S2 h3 h1
              obtain ⟨us, k3, k4⟩ := lst_at S2 h4 h2
              exact ⟨a1, b1, vs, us, rfl, .inl ⟨L2.SqL.of k1, L2.SqL.of k3, it_here S2 (p := (zipD ds es, [(n, Cell.lst ds)] ++ [(m, Cell.lst es)])) (iter_zipL h1 h2) q2⟩⟩
            · cases hq
          · cases hp
        | _ => cases hk
      | _ => cases hk
    · exact q2.elim
  · exact q2.elim
end
end IP

/-! IpN: readings: comprehensions. -/
namespace IP
open PySem PySem.Spec PyProof.Rows
/-- values and cells as they were, in a heap with more -/
structure Grow (φ : List Addr) (H : Hp) (φ' : List Addr) (H' : Hp) : Prop where
  pre : ∀ (n : Nat) (a : Addr), φ[n]? = some a → φ'[n]? = some a
  tup : ∀ (a : Addr) (vs : List V), H a = some (.tup vs) → H' a = some (.tup vs)
  frz : ∀ (a : Addr) (o : Obj) (u : HO), H a = some (.frz o u) → H' a = some (.frz o u)
section
variable {g : Gd} {φ φ' : List Addr} {H H' : Hp} {st : Sto}
mutual
theorem VR.grow (s : Grow φ H φ' H') : ∀ {d : D} {v : V}, VR g φ H d v → VR g φ' H' d v
  | _, _, .non => .non
  | _, _, .bl b => .bl b
  | _, _, .int i => .int i
  | _, _, .str x => .str x
  | _, _, .tup e r => .tup (s.tup _ _ e) (VRs.grow s r)
  | _, _, .ref e => .ref (s.pre _ _ e)
  | _, _, .rof e => .rof (s.frz _ _ _ e)
  | _, _, .rok e => .rok e
  | _, _, .fn e => .fn e
theorem VRs.grow (s : Grow φ H φ' H') : ∀ {ds : List D} {vs : List V}, VRs g φ H ds vs → VRs g φ' H' ds vs
  | _, _, .nil => .nil
  | _, _, .cons r t => .cons (VR.grow s r) (VRs.grow s t)
end
theorem CellR.grow {a : Addr} {c : Cell} (s : Grow φ H φ' H') (e : H' a = H a) (r : CellR g φ H a c) : CellR g φ' H' a c := by
  cases c with
  | lst ds =>
    obtain ⟨vs, h1, h2⟩ := r
    exact ⟨vs, e.trans h1, h2.grow s⟩
  | dic kvs =>
    obtain ⟨o, h1, h2, h3, h4⟩ := r
    refine ⟨o, e.trans h1, h2, h3, ?_⟩
    rcases h4 with ⟨k, vs, q, p⟩ | ⟨k, xs, es, ep, q1, q2, q3, q4, p⟩
    · exact .inl ⟨k, vs, q, Paired.mapR p fun _ _ ⟨z1, v, z2, z3⟩ => ⟨z1, v, z2.grow s, z3⟩⟩
    · exact .inr ⟨k, xs, es, ep, q1, q2, q3, q4, Paired.mapR p fun _ _ ⟨z1, z0, v, z2, z3⟩ => ⟨z1, z0.grow s, v, z2.grow s, z3⟩⟩
  | ins C fs =>
    obtain ⟨Ca, dx, fs', h1, h2, h3⟩ := r
    exact ⟨Ca, dx, fs', h1, e.trans h2, Paired.mapR h3 fun _ _ h => ⟨h.1, h.2.grow s⟩⟩
/-- a list beside the store becomes its cell -/
theorem StoR.adopt {p : Addr} {acc : List D} {vs : List V} (S : StoR g φ H st) (hn : p ∉ φ) (hp : H p = some (.lst vs)) (r : VRs g φ H acc vs) : StoR g (φ ++ [p]) H (st ++ [.lst acc]) := by
  have s : Grow φ H (φ ++ [p]) H := ⟨fun n a e => by rw [List.getElem?_append_left (List.getElem?_eq_some_iff.mp e).1]; exact e, fun _ _ e => e, fun _ _ _ e => e⟩
  refine ⟨by rw [List.length_append, List.length_append, S.len]; rfl, ?_, fun n a c' h1 h2 => ?_⟩
  · rw [List.nodup_append]
    exact ⟨S.nd, by simp, fun a ha b hb e => hn (by rw [List.mem_singleton.mp hb] at e; rw [← e]; exact ha)⟩
  · by_cases hlt : n < st.length
    · rw [List.getElem?_append_left (by rw [S.len]; exact hlt)] at h1
      rw [List.getElem?_append_left hlt] at h2
      exact (S.cell n a c' h1 h2).grow s rfl
    · have e : n = st.length := by
        have := (List.getElem?_eq_some_iff.mp h2).1
        rw [List.length_append] at this
        simp at this; omega
      subst e
      rw [List.getElem?_append_right (Nat.le_refl _)] at h2
      rw [List.getElem?_append_right (by rw [S.len]; exact Nat.le_refl _)] at h1
      simp at h2
      rw [S.len] at h1
      simp at h1
      subst h1 h2
      exact ⟨vs, hp, r.grow s⟩
/-- a list beside the store is written -/
theorem StoR.aside {p : Addr} {vs us : List V} (S : StoR g φ H st) (hn : p ∉ φ) (hp : H p = some (.lst vs)) : Grow φ H φ (L2.upd H p (.lst us)) ∧ StoR g φ (L2.upd H p (.lst us)) st := by
  have s : Grow φ H φ (L2.upd H p (.lst us)) := ⟨fun _ _ e => e, fun a ws e => by rw [L2.upd_ne (L2.ne_of e hp (fun z => by cases z))]; exact e, fun a o u e => by rw [L2.upd_ne (L2.ne_of e hp (fun z => by cases z))]; exact e⟩
  exact ⟨s, S.len, S.nd, fun n a c h1 h2 => (S.cell n a c h1 h2).grow s (L2.upd_ne fun q => hn (by rw [← q]; exact List.mem_of_getElem? h1))⟩
theorem Stp.updNew {p : Addr} {o : HO} (s : Stp φ H φ' H') (hp : H p = none) : Stp φ H φ' (L2.upd H' p o) where
  pre := s.pre
  fr := fun a u e n => by rw [L2.upd_ne (L2.ne_of_none e hp)]; exact s.fr a u e n
  tup := fun a vs e => by rw [L2.upd_ne (L2.ne_of_none e hp)]; exact s.tup a vs e
  frz := fun a ob u e => by rw [L2.upd_ne (L2.ne_of_none e hp)]; exact s.frz a ob u e
  new := s.new
theorem Stp.adopt {p : Addr} (s : Stp φ H φ' H') (hp : H p = none) : Stp φ H (φ' ++ [p]) H' where
  pre := fun n a e => by
    have := s.pre n a e
    rw [List.getElem?_append_left (List.getElem?_eq_some_iff.mp this).1]; exact this
  fr := s.fr
  tup := s.tup
  frz := s.frz
  new := fun a h n => by
    rcases List.mem_append.mp h with h | h
    · exact s.new a h n
    · rw [List.mem_singleton.mp h]; exact hp
theorem Stp.still {p : Addr} {o : HO} (s : Stp φ H φ' H') (hp : H p = some o) (hn : p ∉ φ) : p ∉ φ' ∧ H' p = some o := by
  refine ⟨fun h => ?_, s.fr p o hp hn⟩
  have z := s.new p h hn
  rw [hp] at z
  cases z
end
theorem wipe_len (ρ : Env) : ∀ l : List Nat, (wipe ρ l).length = ρ.length
  | [] => rfl
  | i :: l => by rw [wipe, List.length_set, wipe_len ρ l]
theorem envR_wipe {g : Gd} {φ : List Addr} {H : Hp} {ρ : Env} {σ : L2.St} (e : EnvR g φ H ρ σ) : ∀ l : List Nat, EnvR g φ H (wipe ρ l) (L2.wipe σ l)
  | [] => e
  | i :: l => by
    have e1 := envR_wipe e l
    refine ⟨by rw [wipe, L2.wipe, List.length_set, List.length_set]; exact e1.len, fun j d h => ?_⟩
    rw [wipe] at h
    rw [L2.wipe]
    by_cases q : i = j
    · subst q
      by_cases hl : i < (wipe ρ l).length
      · rw [List.getElem?_set_self hl] at h; cases h
      · rw [List.getElem?_eq_none (by rw [List.length_set]; omega)] at h; cases h
    · rw [List.getElem?_set_ne q] at h ⊢
      exact e1.at_ j d h
theorem wipe_in {σ : L2.St} {i : Nat} : ∀ {l : List Nat}, i ∈ l → i < σ.length → (L2.wipe σ l)[i]? = some none
  | j :: l, h, hl => by
    rw [L2.wipe]
    by_cases q : j = i
    · subst q; exact List.getElem?_set_self (by rw [L2.wipe_length]; exact hl)
    · rw [List.getElem?_set_ne q]
      exact wipe_in ((List.mem_cons.mp h).resolve_left (Ne.symm q)) hl
theorem wipe_off {l m : List Nat} {σ σ' : L2.St} (o : Off m (L2.wipe σ l) σ') (h : ∀ i ∈ m, i ∈ l) : L2.wipe σ' l = L2.wipe σ l := by
  have hl : σ'.length = σ.length := by rw [o.1, L2.wipe_length]
  refine List.ext_getElem? fun i => ?_
  by_cases hi : i < σ.length
  · by_cases him : i ∈ l
    · rw [wipe_in him (by rw [hl]; exact hi), wipe_in him hi]
    · rw [L2.wipe_out him]
      exact o.2 i fun z => him (h i z)
  · rw [List.getElem?_eq_none (by rw [L2.wipe_length]; omega), List.getElem?_eq_none (by rw [L2.wipe_length]; omega)]
theorem pts_weak {X : L2.Cx} {e : List Expr} {t t' : L2.TT} (h : L2.PTs X e t) (k : ∀ σ H Q, t' σ H Q → t σ H Q) : L2.PTs X e t' := ⟨fun pins s σ H Q I q => h.run pins s σ H Q I (k σ H Q q)⟩
section
variable {X : L2.Cx} {W : WX} {C : CT} {pos : Pos} {a b c : Expr} {ea eb ec : Ex}
abbrev Wn : WX := fun _ _ _ _ => False
def cI (g : Gd) (W : WX) (f : Env → Sto → R Bool) : L2.TT := fun σ H Q => ∃ ρ st φ, StoR g φ H st ∧ EnvR g φ H ρ σ ∧ post (fun _ _ (a b : Bool) => a = b) g φ H (f ρ st) Q (fun c d H' => W c d σ H')
theorem k_ifs0 : L2.PTs X [] (cI (gd X) W (evc C .none)) := pts_weak L2.pts_nil fun σ H Q ⟨ρ, st, φ, S, en, q⟩ => by
  rw [evc] at q
  exact q _ _ _ (Stp.refl _ _) S rfl
theorem k_ifs1 (ha : L2.PT X a (T1 X W C ea)) : L2.PTs X [a] (cI (gd X) W (evc C (.some ea))) := pts_weak (L2.pts_one ha) fun σ H Q ⟨ρ, st, φ, S, en, q⟩ => by
  rw [evc] at q
  refine tI_of_T rfl S en q (fun d st1 h => by cases d <;> first | rfl | exact absurd rfl (h _)) fun x st1 φ1 H1 e1 s1 S1 en1 q1 => ?_
  exact q1 _ _ _ (Stp.refl _ _) S1 rfl
theorem w_comp {e : Ex} {t : Tg} {it : Itr} {c : Exo} {own : List Nat} (ht : ∀ i ∈ t.ix, i ∈ own) : ∀ σ H Q, I1 X W C (.comp e t it c own) σ H Q → L2.tLc (J1 X W C it) (gI (gd X) t) (cI (gd X) Wn (evc C c)) (I1 X Wn C e) own σ H Q := fun σ H Q ⟨ρ, st, φ, S, en, q⟩ => by
  rw [ev] at q
  refine ⟨ρ, st, φ, S, en, post_bind q fun p st1 φ1 H1 J e1 s1 S1 r1 q1 => ?_⟩
  have en1 := en.mono s1
  obtain ⟨ds, w⟩ := p
  dsimp only at q1
  split at q1
  case isFalse => exact q1.elim
  rename_i hw
  intro A hA
  generalize hF : (fun d st2 => match asg t d (wipe ρ own) st2 with
    | some ρ' => (evc C c ρ' st2).bind fun b st3 => if b then (ev C e ρ' st3).bind fun y st4 => R.ok (some y) st4 else R.ok none st3
    | none => R.bad : D → Sto → R (Option D)) = F at q1
  refine ⟨fun i m H2 => m = ds.length - i ∧ i ≤ ds.length ∧ ∃ φ2 st2 acc vs, Stp φ1 H1 φ2 H2 ∧ StoR (gd X) φ2 H2 st2 ∧ okW w st2 = true ∧ A ∉ φ2 ∧ H2 A = some (.lst vs) ∧ VRs (gd X) φ2 H2 acc vs ∧
    post (VR (gd X)) (gd X) φ1 H1 ((compL F w (ds.drop i) acc st2).bind fun ys st3 => R.ok (D.ref st3.length) (st3 ++ [Cell.lst ys])) Q fun c d H' => W c d σ H', ⟨ds.length, ?_⟩, fun i m H2 hW => ?_⟩
  · obtain ⟨s2, S2⟩ := S1.laid (o := .lst []) hA
    exact ⟨by omega, Nat.zero_le _, φ1, st1, [], [], s2, S2, hw, S1.notin hA, L2.upd_same, .nil, q1⟩
  obtain ⟨rfl, hi, φ2, st2, acc, vs, s2, S2, hw2, nA, hA2, racc, q2⟩ := hW
  have r1 : IterR (gd X) φ1 H1 ds w J := r1
  by_cases hlt : i < ds.length
  case neg =>
    have ei : i = ds.length := by omega
    subst ei
    rw [List.drop_length] at q2
    refine .inl ⟨r1.stop φ2 H2 st2 s2 S2 hw2, ?_⟩
    have q2 : post (VR (gd X)) (gd X) φ1 H1 (.ok (D.ref st2.length) (st2 ++ [Cell.lst acc])) Q fun c d H' => W c d σ H' := q2
    exact q2 (φ2 ++ [A]) H2 (.ref A) (s2.adopt hA) (S2.adopt nA hA2 racc) (.ref (by rw [List.getElem?_append_right (by rw [S2.len]; exact Nat.le_refl _), S2.len]; simp))
  refine .inr ⟨r1.go φ2 H2 st2 i s2 S2 hw2 hlt, _, fun H' h => ⟨ds.length - (i + 1), by omega, h⟩, fun x H3 hy => ?_⟩
  obtain ⟨s3, S3, rx⟩ := r1.yld φ2 H2 st2 i x H3 ds[i] s2 S2 hw2 (List.getElem?_eq_getElem hlt) hy
  obtain ⟨nA3, hA3⟩ := s3.still hA2 nA
  rw [List.drop_eq_getElem_cons hlt] at q2
  have s13 := s2.trans s3
  have en3 := envR_wipe (en1.mono s13) own
  -- the turn
  cases hf : F ds[i] st2 with
  | bad => simp only [compL, hf] at q2; exact q2.elim
  | exc _ _ => simp only [compL, hf] at q2; exact q2.elim
  | ok o st5 =>
    simp only [compL, hf] at q2
    rw [← hF] at hf
    dsimp only at hf
    cases hg : asg t ds[i] (wipe ρ own) st2 with
    | none => rw [hg] at hf; cases hf
    | some ρ' =>
      rw [hg] at hf
      dsimp only at hf
      refine ⟨ds[i], wipe ρ own, st2, φ2, ρ', S3, en3, rx, hg, fun σ2 en4 off => ⟨wipe_off off ht, ρ', st2, φ2, S3, en4, ?_⟩⟩
      cases hc : evc C c ρ' st2 with
      | bad => rw [hc] at hf; cases hf
      | exc _ _ => rw [hc] at hf; cases hf
      | ok k st3 =>
        rw [hc] at hf
        intro φ3 H4 k' s4 S4 ek
        subst ek
        obtain ⟨nA4, hA4⟩ := s4.still hA3 nA3
        have s14 := s13.trans s4
        cases k with
        | false =>
          have hf : (R.ok none st3 : R (Option D)) = .ok o st5 := hf
          cases hf
          dsimp only at q2
          split at q2
          case isFalse => exact q2.elim
          rename_i hw4
          rw [if_neg (by simp)]
          exact ⟨rfl, hlt, φ3, st5, acc, vs, s14, S4, hw4, nA4, hA4, (racc.mono s3).mono s4, q2⟩
        | true =>
          have hf : ((ev C e ρ' st3).bind fun y st4 => R.ok (some y) st4) = .ok o st5 := hf
          rw [if_pos rfl]
          refine ⟨ρ', st3, φ3, S4, en4.mono s4, ?_⟩
          cases he : ev C e ρ' st3 with
          | bad => rw [he] at hf; cases hf
          | exc _ _ => rw [he] at hf; cases hf
          | ok y st4 =>
            rw [he] at hf
            have hf : (R.ok (some y) st4 : R (Option D)) = .ok o st5 := hf
            cases hf
            intro φ4 H5 v s5 S5 rv
            obtain ⟨nA5, hA5⟩ := s5.still hA4 nA4
            have s15 := s14.trans s5
            dsimp only at q2
            split at q2
            case isFalse => exact q2.elim
            rename_i hw5
            rw [Bool.and_eq_true, decide_eq_true_eq] at hw5
            have racc5 := ((racc.mono s3).mono s4).mono s5
            refine ⟨vs, hA5, by rw [← racc5.length]; exact lim_line' hw5.2, ?_⟩
            obtain ⟨gr, S6⟩ := S5.aside (us := vs ++ [v]) nA5 hA5
            exact ⟨rfl, hlt, φ4, st5, acc ++ [y], vs ++ [v], s15.updNew hA, S6, hw5.1, nA5, L2.upd_same, (racc5.grow gr).append (.one (rv.grow gr)), q2⟩
/-- a comprehension as a value -/
theorem k_comp {elt tg iter : Expr} {ifs : List Expr} {scope : Scope} {own : List (Str × Nat)} {t : Tg} {it : Itr} {c : Exo} {e : Ex} (hc : X.calm = true) (hN : X.N.Nodup) (hi : L2.PI X tg iter (J1 X W C it)) (ok : L2.BlkOk X.N X.env.scope scope own)
    (hg : ∀ (s : Shared) (H : Hp) (A : Addr) (cl : List (Str × Addr)) (fp : List Addr), L2.PG (X.blk s H scope (compEnvC scope cl A X.env) fp) tg (gI (gd X) t))
    (hf : ∀ (s : Shared) (H : Hp) (A : Addr) (cl : List (Str × Addr)) (fp : List Addr), L2.PTs (X.blk s H scope (compEnvC scope cl A X.env) fp) ifs (cI (gd X) Wn (evc C c)))
    (he : ∀ (s : Shared) (H : Hp) (A : Addr) (cl : List (Str × Addr)) (fp : List Addr), L2.PE (X.blk s H scope (compEnvC scope cl A X.env) fp) elt (tI (gd X) Wn (ev C e))) (hs : isSet iter = false) (ht : ∀ i ∈ t.ix, i ∈ own.map (·.2)) :
    L2.PE X (.ListComp elt [⟨tg, iter, ifs, 0⟩] scope pos) (I1 X W C (.comp e t it c (own.map (·.2)))) :=
  pe_weak (L2.pe_lc hc hN hi ok hg hf he (folded_no hs)) (w_comp ht)
end
end IP

/-! IpO: readings: statements. -/
namespace IP
open PySem PySem.Spec PyProof.Rows
def postS (g : Gd) (W : WX) (φ : List Addr) (H : Hp) (r : SR) (Z : L2.Ends) : Prop :=
  match r with
  | .bad => False
  | .exc x ρ' st' => ∀ φ' H' σ' cls dx, Stp φ H φ' H' → StoR g φ' H' st' → EnvR g φ' H' ρ' σ' → ExnR g φ' H' x cls dx → W cls dx σ' H'
  | .next ρ' st' => ∀ φ' H' σ', Stp φ H φ' H' → StoR g φ' H' st' → EnvR g φ' H' ρ' σ' → Z.nx σ' H'
  | .ret d st' => ∀ φ' H' v, Stp φ H φ' H' → StoR g φ' H' st' → VR g φ' H' d v → Z.rt v H'
  | .brk ρ' st' => ∀ φ' H' σ', Stp φ H φ' H' → StoR g φ' H' st' → EnvR g φ' H' ρ' σ' → Z.bk σ' H'
  | .cont ρ' st' => ∀ φ' H' σ', Stp φ H φ' H' → StoR g φ' H' st' → EnvR g φ' H' ρ' σ' → Z.ct σ' H'
def sI (g : Gd) (W : WX) (f : Env → Sto → SR) : L2.TS := fun Z σ H => ∃ ρ st φ, StoR g φ H st ∧ EnvR g φ H ρ σ ∧ postS g W φ H (f ρ st) Z
section
variable {g : Gd} {W : WX} {φ φ' : List Addr} {H H' : Hp} {Z Z' : L2.Ends}
theorem postS_mono {r : SR} (s : Stp φ H φ' H') (h : postS g W φ H r Z) : postS g W φ' H' r Z := by
  cases r with
  | bad => exact h
  | exc x ρ st => exact fun φ2 H2 σ2 c d t => h φ2 H2 σ2 c d (s.trans t)
  | next ρ st => exact fun φ2 H2 σ2 t => h φ2 H2 σ2 (s.trans t)
  | ret d st => exact fun φ2 H2 σ2 t => h φ2 H2 σ2 (s.trans t)
  | brk ρ st => exact fun φ2 H2 σ2 t => h φ2 H2 σ2 (s.trans t)
  | cont ρ st => exact fun φ2 H2 σ2 t => h φ2 H2 σ2 (s.trans t)
theorem postS_ofR {α β : Type} {rel : List Addr → Hp → α → β → Prop} {ρ : Env} {σ : L2.St} {r : R α} {f : α → Sto → SR} {Q : β → Hp → Prop} (en : EnvR g φ H ρ σ) (h : postS g W φ H (SR.ofR ρ r f) Z)
    (k : ∀ a st1 φ1 H1 v, r = .ok a st1 → Stp φ H φ1 H1 → StoR g φ1 H1 st1 → EnvR g φ1 H1 ρ σ → rel φ1 H1 a v → postS g W φ1 H1 (f a st1) Z → Q v H1) : post rel g φ H r Q (fun c d H' => W c d σ H') := by
  cases r with
  | bad => exact h
  | exc x st => exact fun φ1 H1 c d s S x => h φ1 H1 σ c d s S (en.mono s) x
  | ok a st => exact fun φ1 H1 v s S q => k a st φ1 H1 v rfl s S (en.mono s) q (postS_mono s h)
end
section
variable {X : L2.Cx} {W : WX} {C : CT} {Wf : Nat} {pos : Pos} {a b c : Expr} {ea eb ec : Ex}
abbrev S1 (X : L2.Cx) (W : WX) (C : CT) (Wf : Nat) (s : St) : L2.TS := sI (gd X) W (exc C Wf s)
abbrev SS1 (X : L2.Cx) (W : WX) (C : CT) (Wf : Nat) (s : Sts) : L2.TS := sI (gd X) W (excs C Wf s)
/-- an expression's reading ahead of the rest of a statement -/
theorem seqS {f : Env → Sto → R D} {k : D → Sto → SR} {ρ : Env} {st : Sto} {φ : List Addr} {σ : L2.St} {H : Hp} {Z : L2.Ends} {Q1 : L2.VK} (S : StoR (gd X) φ H st) (en : EnvR (gd X) φ H ρ σ) (h : postS (gd X) W φ H (SR.ofR ρ (f ρ st) k) Z)
    (hk : ∀ x st1 φ1 H1 v, f ρ st = .ok x st1 → Stp φ H φ1 H1 → StoR (gd X) φ1 H1 st1 → EnvR (gd X) φ1 H1 ρ σ → VR (gd X) φ1 H1 x v → postS (gd X) W φ1 H1 (k x st1) Z → Q1 v H1) : tI (gd X) W f σ H Q1 :=
  ⟨ρ, st, φ, S, en, postS_ofR en h hk⟩
theorem q_nil : L2.PSs X [] (SS1 X W C Wf .nil) := pss_weak L2.pss_nil fun Z σ H ⟨ρ, st, φ, S, en, q⟩ => by
  rw [excs] at q
  exact q _ _ _ (Stp.refl _ _) S en
theorem q_cons {s : Stmt} {ss : List Stmt} {x : St} {xs : Sts} (h1 : L2.PS X s (S1 X W C Wf x)) (h2 : L2.PSs X ss (SS1 X W C Wf xs)) : L2.PSs X (s :: ss) (SS1 X W C Wf (.cons x xs)) :=
  pss_weak (L2.pss_cons h1 h2) fun Z σ H ⟨ρ, st, φ, S, en, q⟩ => by
    rw [excs] at q
    refine ⟨ρ, st, φ, S, en, ?_⟩
    cases e : exc C Wf x ρ st with
    | bad => rw [e] at q; exact q
    | exc y ρ' st' => rw [e] at q; exact q
    | ret d st' => rw [e] at q; exact q
    | brk ρ' st' => rw [e] at q; exact q
    | cont ρ' st' => rw [e] at q; exact q
    | next ρ' st' => rw [e] at q; exact fun φ1 H1 σ1 s S1 en1 => ⟨ρ', st', φ1, S1, en1, postS_mono s q⟩
theorem q_pass : L2.PS X (.Pass pos) (S1 X W C Wf .pass) := ps_weak L2.ps_pass fun Z σ H ⟨ρ, st, φ, S, en, q⟩ => by
  rw [exc] at q
  exact q _ _ _ (Stp.refl _ _) S en
theorem q_doc {x : Str} {j : Nat} {p1 : Pos} : L2.PS X (.Expr (.Constant (.str x) j p1) pos) (S1 X W C Wf .pass) := ps_weak L2.ps_doc fun Z σ H ⟨ρ, st, φ, S, en, q⟩ => by
  rw [exc] at q
  exact q _ _ _ (Stp.refl _ _) S en
theorem q_cont : L2.PS X (.Continue pos) (S1 X W C Wf .cont) := ps_weak L2.ps_continue fun Z σ H ⟨ρ, st, φ, S, en, q⟩ => by
  rw [exc] at q
  exact q _ _ _ (Stp.refl _ _) S en
theorem q_ret (ha : L2.PE X a (I1 X W C ea)) : L2.PS X (.Return (some a) pos) (S1 X W C Wf (.ret ea)) := ps_weak (L2.ps_ret ha) fun Z σ H ⟨ρ, st, φ, S, en, q⟩ => by
  rw [exc] at q
  exact seqS S en q fun x st1 φ1 H1 u e1 s1 S1 en1 r1 q1 => q1 _ _ _ (Stp.refl _ _) S1 r1
theorem q_exp (ha : L2.PE X a (I1 X W C ea)) (h : isLc a = false) : L2.PS X (.Expr a pos) (S1 X W C Wf (.exp ea)) := ps_weak (L2.ps_expr ha (swaps_no h)) fun Z σ H ⟨ρ, st, φ, S, en, q⟩ => by
  rw [exc] at q
  exact seqS S en q fun x st1 φ1 H1 u e1 s1 S1 en1 r1 q1 => q1 _ _ _ (Stp.refl _ _) S1 en1
theorem q_if {p q : List Stmt} {xp xq : Sts} (hc : L2.PT X c (T1 X W C ec)) (hp : L2.PSs X p (SS1 X W C Wf xp)) (hq : L2.PSs X q (SS1 X W C Wf xq)) : L2.PS X (.If c p q pos) (S1 X W C Wf (.ife ec xp xq)) :=
  ps_weak (L2.ps_if hc hp hq) fun Z σ H ⟨ρ, st, φ, S, en, q⟩ => by
    rw [exc] at q
    refine ⟨ρ, st, φ, S, en, ?_, fun d st' e => ?_⟩
    · cases e : ev C ec ρ st with
      | bad => rw [e] at q; exact q
      | exc y st' => rw [e] at q; exact fun φ1 H1 c d s S x => q φ1 H1 σ c d s S (en.mono s) x
      | ok d st' =>
        rw [e] at q
        intro φ1 H1 k s S1 hk
        obtain rfl : d = .bl k := hk
        cases k with
        | true => exact ⟨ρ, st', φ1, S1, en.mono s, postS_mono s q⟩
        | false => exact ⟨ρ, st', φ1, S1, en.mono s, postS_mono s q⟩
    · rw [e] at q
      cases d with
      | bl k => exact ⟨k, rfl⟩
      | _ => exact q.elim
/-- target = value -/
def isTupE : Expr → Bool
  | .Tuple _ _ _ => true
  | _ => false
theorem swp_no {t e : Expr} {env : PySem.Env} (h : isTupE e = false) : swappedStores [t] e env = pure none := by
  cases e <;> first | rfl | (cases t <;> rfl) | cases h
theorem swp_name {e : Expr} {x : Str} {p : Pos} {env : PySem.Env} : swappedStores [.Name x p] e env = pure none := by
  cases e <;> rfl
theorem w_asg {t : Tg} {Z : L2.Ends} {σ : L2.St} {H : Hp} (h : S1 X W C Wf (.asg t ea) Z σ H) : L2.tAsg (I1 X W C ea) (gI (gd X) t) Z σ H := by
  obtain ⟨ρ, st, φ, S, en, q⟩ := h
  rw [exc] at q
  refine seqS S en q fun x st1 φ1 H1 u e1 s1 S1 en1 r1 q1 => ?_
  split at q1
  · rename_i ρ' h
    exact ⟨x, ρ, st1, φ1, ρ', S1, en1, r1, h, fun σ' en' _ => q1 _ _ _ (Stp.refl _ _) S1 en'⟩
  · exact q1.elim
theorem q_asg {tg : Expr} {t : Tg} (ha : L2.PE X a (I1 X W C ea)) (hg : L2.PG X tg (gI (gd X) t)) (hs : swapsWith a (some tg) pos.line X.env = pure false) (hw : swappedStores [tg] a X.env = pure none) (ht : isStar tg = false) : L2.PS X (.Assign [tg] a pos) (S1 X W C Wf (.asg t ea)) :=
  ps_weak (L2.ps_asg ha hg hs hw (asgE_cons ht)) fun Z σ H q => w_asg q
/-- name = [..] on one line -/
theorem q_setLc {i : Nat} {y : Str} {py : Pos} {elt tg iter : Expr} {ifs : List Expr} {scope : Scope} {own : List (Str × Nat)} {p1 : Pos} {t : Tg} {it : Itr} {xc : Exo} {e : Ex} (hc : X.calm = true) (hN : X.N.Nodup) (hy : X.N[i]? = some y) (hyl : X.env.scope.names.lookup y = some .local)
    (hsw : swapsWith (.ListComp elt [⟨tg, iter, ifs, 0⟩] scope p1) (some (.Name y py)) pos.line X.env = pure true) (hi : L2.PI X tg iter (J1 X W C it)) (ok : L2.BlkOk X.N X.env.scope scope own)
    (hg : ∀ (s : Shared) (H : Hp) (A : Addr) (cl : List (Str × Addr)) (fp : List Addr), L2.PG (X.blk s H scope (compEnvC scope cl A X.env) fp) tg (gI (gd X) t))
    (hf : ∀ (s : Shared) (H : Hp) (A : Addr) (cl : List (Str × Addr)) (fp : List Addr), L2.PTs (X.blk s H scope (compEnvC scope cl A X.env) fp) ifs (cI (gd X) Wn (evc C xc)))
    (he : ∀ (s : Shared) (H : Hp) (A : Addr) (cl : List (Str × Addr)) (fp : List Addr), L2.PE (X.blk s H scope (compEnvC scope cl A X.env) fp) elt (tI (gd X) Wn (ev C e))) (hs : isSet iter = false) (ht : ∀ i ∈ t.ix, i ∈ own.map (·.2)) :
    L2.PS X (.Assign [.Name y py] (.ListComp elt [⟨tg, iter, ifs, 0⟩] scope p1) pos) (S1 X W C Wf (.asg (.nm i) (.comp e t it xc (own.map (·.2))))) :=
  ps_weak (L2.ps_setLc hc hN hy hyl hsw hi ok hg hf he (folded_no hs)) fun Z σ H q => by
    obtain ⟨ρ, st, φ, S, en, q⟩ := q
    rw [exc] at q
    refine w_comp ht _ _ _ (seqS S en q fun x st1 φ1 H1 u e1 s1 S1 en1 r1 q1 => ?_)
    split at q1
    · rename_i ρ' h
      simp only [asg] at h
      split at h
      · cases h; exact q1 _ _ _ (Stp.refl _ _) S1 (en1.set r1)
      · cases h
    · exact q1.elim
/-- o[i] = e -/
def rPutI (X : L2.Cx) : L2.TSet := fun o i v H Q => L2.rSetL o i v H Q ∨ rDPut X o i v H Q
theorem set_any (hu : X.A.units + 12 < cLine) : L2.PSet X (rPutI X) := pset_or2 L2.set_list (set_dic hu)
theorem q_aset {p1 : Pos} (hu : X.A.units + 12 < cLine) (ha : L2.PE X a (I1 X W C ea)) (hb : L2.PE X b (I1 X W C eb)) (hc : L2.PE X c (I1 X W C ec)) (h : isLc c = false) (h2 : isTupE c = false)
    (hasg : ∀ v, assign (.Subscript a b p1) X.env v = (do
      let ov ← holding [v] (eval a X.env)
      let iv ← holding [v, ov] (eval b X.env)
      standAt p1
      holding [v, ov, iv] (setItem ov iv v)
      release [v, ov, iv] [])) :
    L2.PS X (.Assign [.Subscript a b p1] c pos) (S1 X W C Wf (.aset ea eb ec)) :=
  ps_weak (L2.ps_asg hc (L2.pg_sub ha hb (set_any hu) hasg) (swaps_no (t := some (.Subscript a b p1)) (l := pos.line) (env := X.env) h) (swp_no h2) rfl) fun Z σ H ⟨ρ, st, φ, S, en, q⟩ => by
    rw [exc] at q
    refine seqS S en q fun x st1 φ1 H1 u e1 s1 S1 en1 r1 q1 => seqS S1 en1 q1 fun y st2 φ2 H2 v e2 s2 S2 en2 r2 q2 => seqS S2 en2 q2 fun z st3 φ3 H3 w e3 s3 S3 en3 r3 q3 => ?_
    have r1 := (r1.mono s2).mono s3
    have r2 := r2.mono s3
    cases r2 with
    | @ref n p hp =>
      dsimp only at q3
      split at q3
      · rename_i ds h1
        obtain ⟨vs, k1, k2⟩ := lst_at S3 h1 hp
        cases r3 with
        | int j =>
          dsimp only at q3
          split at q3
          · rename_i k hk
            refine .inl ⟨p, vs, j, k, rfl, rfl, k1, by rw [← k2.length]; exact hk, ?_⟩
            obtain ⟨s4, S4⟩ := S3.write (o := .lst (vs.set k u)) (c := .lst (ds.set k x)) hp fun s => ⟨_, L2.upd_same, (k2.mono s).set k (r1.mono s)⟩
            exact q3 _ _ _ s4 S4 (en3.mono s4)
          · exact q3.elim
        | _ => exact q3.elim
      · rename_i kvs h1
        split at q3
        · rename_i hal
          rw [Bool.and_eq_true, decide_eq_true_eq] at hal
          obtain ⟨p', hp', hcell⟩ := S3.lt h1
          rw [hp] at hp'; cases hp'
          refine .inr ⟨φ3, p, z, x, kvs, List.mem_of_getElem? hp, ⟨rfl, r3, hcell, hal.1⟩, r1, hal.2, fun o' st' cr => ?_⟩
          obtain ⟨s4, S4⟩ := S3.write (o := o') (c := .dic (dput kvs z x)) hp fun s => cr
          exact q3 _ _ _ s4 S4 (en3.mono s4)
        · exact q3.elim
      · exact q3.elim
    | _ => exact q3.elim
/-! ### loops -/
theorem q_for {tg iter : Expr} {body : List Stmt} {t : Tg} {it : Itr} {xb : Sts} (own : PassesOwn (model X.prog X.w) X.A X.env X.xe) (hc : X.calm = true) (hi : L2.PI X tg iter (J1 X W C it)) (hg : L2.PG X tg (gI (gd X) t)) (hb : L2.PSs X body (SS1 X W C Wf xb)) (hs : isSet iter = false) :
    L2.PS X (.For tg iter body [] pos) (S1 X W C Wf (.fr t it xb)) :=
  ps_weak (L2.ps_for own hc hi hg hb (folded_no hs)) fun Z σ H ⟨ρ, st, φ, S, en, q⟩ => by
    rw [exc] at q
    refine ⟨ρ, st, φ, S, en, postS_ofR en q fun p st1 φ1 H1 J e1 s1 S1 en1 r1 q1 => ?_⟩
    obtain ⟨ds, w⟩ := p
    dsimp only at q1
    split at q1
    case isFalse => exact q1.elim
    rename_i hw
    generalize hF : (fun d ρ' st' => match IP.asg t d ρ' st' with
        | some ρ'' => excs C Wf xb ρ'' st'
        | none => SR.bad : D → Env → Sto → SR) = F at q1
    refine ⟨fun i m σ2 H2 => m = ds.length - i ∧ i ≤ ds.length ∧ ∃ φ2 st2 ρ2, Stp φ1 H1 φ2 H2 ∧ StoR (gd X) φ2 H2 st2 ∧ EnvR (gd X) φ2 H2 ρ2 σ2 ∧ okW w st2 = true ∧ postS (gd X) W φ2 H2 (forL F w (ds.drop i) ρ2 st2) Z,
      ⟨ds.length, by omega, Nat.zero_le _, φ1, st1, ρ, Stp.refl _ _, S1, en1, hw, q1⟩, fun i m σ2 H2 hW => ?_⟩
    obtain ⟨rfl, hi, φ2, st2, ρ2, s2, S2, en2, hw2, q2⟩ := hW
    have r1 : IterR (gd X) φ1 H1 ds w J := r1
    by_cases hlt : i < ds.length
    case neg =>
      have ei : i = ds.length := by omega
      subst ei
      rw [List.drop_length] at q2
      exact .inl ⟨r1.stop φ2 H2 st2 s2 S2 hw2, q2 _ _ _ (Stp.refl _ _) S2 en2⟩
    refine .inr ⟨r1.go φ2 H2 st2 i s2 S2 hw2 hlt, _, fun σ' H' h => ⟨ds.length - (i + 1), by omega, h⟩, fun x H3 hy => ?_⟩
    obtain ⟨s3, S3, rx⟩ := r1.yld φ2 H2 st2 i x H3 ds[i] s2 S2 hw2 (List.getElem?_eq_getElem hlt) hy
    rw [List.drop_eq_getElem_cons hlt] at q2
    have en3 := en2.mono s3
    cases hg : IP.asg t ds[i] ρ2 st2 with
    | none =>
      have hf : F ds[i] ρ2 st2 = .bad := by rw [← hF]; simp only [hg]
      simp only [forL, hf] at q2
      exact q2.elim
    | some ρ3 =>
      have hf : F ds[i] ρ2 st2 = excs C Wf xb ρ3 st2 := by rw [← hF]; simp only [hg]
      simp only [forL, hf] at q2
      refine ⟨ds[i], ρ2, st2, φ2, ρ3, S3, en3, rx, hg, fun σ3 en4 off => ⟨ρ3, st2, φ2, S3, en4, ?_⟩⟩
      have q3 := postS_mono s3 q2
      cases he : excs C Wf xb ρ3 st2 with
      | bad => simp only [he] at q3; exact q3.elim
      | exc y ρ' st' => simp only [he] at q3; exact q3
      | ret d st' => simp only [he] at q3; exact q3
      | brk ρ' st' => simp only [he] at q3; exact q3
      | cont ρ' st' =>
        simp only [he] at q3
        split at q3
        case isFalse => exact q3.elim
        rename_i hw4
        exact fun φ4 H4 σ4 s4 S4 en5 => ⟨rfl, hlt, φ4, st', ρ', (s2.trans s3).trans s4, S4, en5, hw4, postS_mono s4 q3⟩
      | next ρ' st' =>
        simp only [he] at q3
        split at q3
        case isFalse => exact q3.elim
        rename_i hw4
        exact fun φ4 H4 σ4 s4 S4 en5 => ⟨rfl, hlt, φ4, st', ρ', (s2.trans s3).trans s4, S4, en5, hw4, postS_mono s4 q3⟩
theorem q_whl {body : List Stmt} {xb : Sts} (own : PassesOwn (model X.prog X.w) X.A X.env X.xe) (hc : L2.PT X c (T1 X W C ec)) (hb : L2.PSs X body (SS1 X W C Wf xb)) : L2.PS X (.While c body [] pos) (S1 X W C Wf (.whl ec xb)) :=
  ps_weak (L2.ps_while own hc hb) fun Z σ H ⟨ρ, st, φ, S, en, q⟩ => by
    rw [exc] at q
    refine ⟨fun m σ2 H2 => ∃ φ2 st2 ρ2, StoR (gd X) φ2 H2 st2 ∧ EnvR (gd X) φ2 H2 ρ2 σ2 ∧ postS (gd X) W φ2 H2 (whlL (fun ρ' st' => ev C ec ρ' st') (fun ρ' st' => excs C Wf xb ρ' st') m ρ2 st2) Z, ⟨Wf, φ, st, ρ, S, en, q⟩, fun m σ2 H2 hW => ?_⟩
    obtain ⟨φ2, st2, ρ2, S2, en2, q2⟩ := hW
    cases m with
    | zero => exact q2.elim
    | succ m =>
      refine ⟨ρ2, st2, φ2, S2, en2, ?_, fun d st' e => ?_⟩
      · cases e : ev C ec ρ2 st2 with
        | bad => simp only [whlL, e] at q2; exact q2
        | exc y st' => simp only [whlL, e] at q2; exact fun φ1 H1 c d s S x => q2 φ1 H1 σ2 c d s S (en2.mono s) x
        | ok d st' =>
          intro φ3 H3 k s3 S3 hk
          obtain rfl : d = .bl k := hk
          cases k with
          | false => simp only [whlL, e] at q2; exact q2 φ3 H3 σ2 s3 S3 (en2.mono s3)
          | true =>
            simp only [whlL, e] at q2
            rw [if_pos rfl]
            refine ⟨_, fun σ' H' h => ⟨m, by omega, h⟩, ρ2, st', φ3, S3, en2.mono s3, ?_⟩
            have q3 := postS_mono s3 q2
            cases he : excs C Wf xb ρ2 st' with
            | bad => simp only [he] at q3; exact q3.elim
            | exc y ρ' st4 => simp only [he] at q3; exact q3
            | ret d st4 => simp only [he] at q3; exact q3
            | brk ρ' st4 => simp only [he] at q3; exact q3
            | cont ρ' st4 =>
              simp only [he] at q3
              exact fun φ4 H4 σ4 s4 S4 en5 => ⟨φ4, st4, ρ', S4, en5, postS_mono s4 q3⟩
            | next ρ' st4 =>
              simp only [he] at q3
              exact fun φ4 H4 σ4 s4 S4 en5 => ⟨φ4, st4, ρ', S4, en5, postS_mono s4 q3⟩
      · cases d with
        | bl k => exact ⟨k, rfl⟩
        | _ => simp only [whlL, e] at q2; exact q2.elim
/-- raise X('m') -/
theorem q_rse {x m : Str} {j : Nat} {p p2 p3 : Pos} {A : Addr} (hc : X.calm = true) (tk : L2.Takes X W) (gC : X.mg x = some (.ref A)) (q1 : PySem.W.excIn X.K A He.veBase "ValueError.__new__" = true) (kC : PySem.W.keepIn X.K (.ref A) = true) (r : L2.Raises X (.ref A))
    (hg : L2.Gl X x) (hd : (x == ("__debug__" : Str)) = false) : L2.PS X (.Raise (some (.Call (.Name x p) [.Constant (.str m) j p2] [] p3)) none pos) (S1 X W C Wf (.rse x)) :=
  ps_weak (L2.ps_raise hc tk (L2.pmk_own PySem.F.excBase_ValueError q1 gC kC r hg hd)) fun Z σ H ⟨ρ, st, φ, S, en, q⟩ => by
    rw [exc] at q
    exact q φ H σ (.ref A) none (Stp.refl _ _) S en ⟨⟨A, gC, rfl⟩, rfl⟩
end
end IP

/-! IpP: from the text to the small language, each step with its reading: expressions. -/
namespace IP
open PySem PySem.Spec PyProof.Rows
theorem Good.gl {c : Cc} {C : CT} {X : L2.Cx} {W : WX} (G : Good c C X W) {x : Str} (h : c.sc.names.lookup x = some .globalImplicit) : L2.Gl X x := by
  show X.env.scope.names.lookup x = _
  rw [G.sc]; exact h
theorem Good.u65 {c : Cc} {C : CT} {X : L2.Cx} {W : WX} (G : Good c C X W) : X.A.units + 65 < cLine := by have := G.un; omega
theorem Good.u66 {c : Cc} {C : CT} {X : L2.Cx} {W : WX} (G : Good c C X W) : X.A.units + 66 < cLine := by have := G.un; omega
theorem Good.u12 {c : Cc} {C : CT} {X : L2.Cx} {W : WX} (G : Good c C X W) : X.A.units + 12 < cLine := by have := G.un; omega
/-- an expression of the text: what it is, its reading; as a test too, if tst -/
structure CE (c : Cc) (e : Expr) where
  ex : Ex
  tst : Bool
  ok : ∀ (C : CT) (X : L2.Cx) (W : WX), Good c C X W → L2.PE X e (I1 X W C ex) ∧ (tst = true → L2.PT X e (T1 X W C ex))
structure CA (c : Cc) (es : List Expr) where
  xs : Exs
  ok : ∀ (C : CT) (X : L2.Cx) (W : WX), Good c C X W → L2.PA X es (A1 X W C xs)
structure CB (c : Cc) (op : BoolOp) (es : List Expr) where
  ex : Ex
  ok : ∀ (C : CT) (X : L2.Cx) (W : WX) (pos : Pos), Good c C X W → L2.PE X (.BoolOp op es pos) (I1 X W C ex) ∧ L2.PW X (.BoolOp op es pos) (T1 X W C ex)
structure CI (c : Cc) (tg e : Expr) where
  it : Itr
  ok : ∀ (C : CT) (X : L2.Cx) (W : WX), Good c C X W → L2.PI X tg e (J1 X W C it)
/-- a test that is made of the value -/
def plainT : Expr → Bool
  | .UnaryOp .Not _ _ => false
  | .BoolOp _ _ _ => false
  | .IfExp _ _ _ _ => false
  | .Compare _ _ _ _ => false
  | _ => true
theorem plain_is {e : Expr} {env : PySem.Env} (h : plainT e = true) : ∀ whole, isTrue e env whole = (do let v ← whole; standAt e.pos; holding [v] (truthy v)) := by
  intro whole
  cases e with
  | UnaryOp op a p => cases op <;> first | rfl | cases h
  | BoolOp _ _ _ => cases h
  | IfExp _ _ _ _ => cases h
  | Compare _ _ _ _ => cases h
  | _ => rfl
def CE.mk' {c : Cc} {e : Expr} (ex : Ex) (h : plainT e = true) (ok : ∀ (C : CT) (X : L2.Cx) (W : WX), Good c C X W → L2.PE X e (I1 X W C ex)) : CE c e := ⟨ex, true, fun C X W G => ⟨ok C X W G, fun _ => k_valT (ok C X W G) (plain_is h)⟩⟩
abbrev ExpF (c : Cc) := (e : Expr) → Option (CE c e)
def slot (c : Cc) (x : Str) : Option Nat := c.N.findIdx? fun y => decide (y = x)
def visB (c : Cc) (x : Str) : Bool := match c.sc.names.lookup x with
  | some .local => true
  | some .cell => true
  | some .free => true
  | _ => false
theorem vis_of {c : Cc} {x : Str} (h : visB c x = true) : L2.Vis c.sc x := by
  unfold visB at h
  split at h <;> first | exact .inl (by assumption) | exact .inr (.inl (by assumption)) | exact .inr (.inr (by assumption)) | cases h
/-- no name with a meaning of its own -/
def plainN (x : Str) : Bool := !(x == ("__debug__" : Str)) && !(x == ("__classdict__" : Str)) && !(x == ("__name__" : Str))
theorem plainN_of {x : Str} (h : plainN x = true) : (x == ("__debug__" : Str)) = false ∧ (x == ("__classdict__" : Str)) = false ∧ x ≠ "__name__" := by
  unfold plainN at h
  simp only [Bool.and_eq_true, Bool.not_eq_true', beq_eq_false_iff_ne] at h ⊢
  exact ⟨h.1.1, h.1.2, h.2⟩
def cName (c : Cc) (x : Str) (pos : Pos) : Option (CE c (.Name x pos)) :=
  if hp : plainN x = true then
    match slot c x with
    | some i => if h : c.N[i]? = some x ∧ visB c x = true then
        some (.mk' (.lc i) rfl fun C X W G => k_var (by rw [G.N]; exact h.1) (by rw [G.sc]; exact vis_of h.2) (plainN_of hp).1 (plainN_of hp).2.1)
      else none
    | none => if hg : c.sc.names.lookup x = some .globalImplicit then
        match hk : c.gk x with
        | some (.int i) => some (.mk' (.k (.int i)) rfl fun C X W G => by
            obtain ⟨t, h⟩ := G.int x i hk
            exact k_const (v := .int i) (fun _ _ => .int i) (L2.pe_glob (G.gl hg) h ⟨t, rfl⟩ (plainN_of hp).1))
        | some (.str z) => some (.mk' (.k (.str z)) rfl fun C X W G => by
            obtain ⟨t, h⟩ := G.str x z hk
            exact k_const (v := .str z) (fun _ _ => .str z) (L2.pe_glob (G.gl hg) h ⟨t, rfl⟩ (plainN_of hp).1))
        | _ => none
      else none
  else none
def cConst (c : Cc) (k : Const) (j : Nat) (pos : Pos) : Option (CE c (.Constant k j pos)) := match k with
  | .none => some (.mk' (.k .non) rfl fun C X W G => k_const (v := .non) (fun _ _ => .non) L2.pe_non)
  | .bool b => some (.mk' (.k (.bl b)) rfl fun C X W G => k_const (v := .bl b) (fun _ _ => .bl b) L2.pe_bl)
  | .int i => some (.mk' (.k (.int i)) rfl fun C X W G => k_const (v := .int i) (fun _ _ => .int i) L2.pe_int)
  | .str x => some (.mk' (.k (.str x)) rfl fun C X W G => k_const (v := .str x) (fun _ _ => .str x) L2.pe_str)
  | _ => none
def cArgs {c : Cc} (f : ExpF c) : (es : List Expr) → Option (CA c es)
  | [] => some ⟨.nil, fun C X W G => k_nil⟩
  | e :: es => if hs : isStar e = false then
      match f e, cArgs f es with
      | some a, some r => some ⟨.cons a.ex r.xs, fun C X W G => k_cons (a.ok C X W G).1 (r.ok C X W G) hs⟩
      | _, _ => none
    else none
def cBool {c : Cc} (f : ExpF c) : (op : BoolOp) → (es : List Expr) → Option (CB c op es)
  | _, [] => none
  | op, [e] => match f e with
    | some a => if ht : a.tst = true then some ⟨a.ex, fun C X W pos G => ⟨L2.pe_one (a.ok C X W G).1, by
        cases op with
        | And => exact L2.pw_and1 ((a.ok C X W G).2 ht)
        | Or => exact L2.pw_or1 ((a.ok C X W G).2 ht)⟩⟩ else none
    | none => none
  | .And, e :: b :: es => match f e, cBool f .And (b :: es) with
    | some a, some r => if ht : a.tst = true then some ⟨.and a.ex r.ex, fun C X W pos G => k_and (a.ok C X W G).1 ((a.ok C X W G).2 ht) (r.ok C X W pos G).1 (r.ok C X W pos G).2⟩ else none
    | _, _ => none
  | .Or, e :: b :: es => match f e, cBool f .Or (b :: es) with
    | some a, some r => if ht : a.tst = true then some ⟨.or a.ex r.ex, fun C X W pos G => k_or (a.ok C X W G).1 ((a.ok C X W G).2 ht) (r.ok C X W pos G).1 (r.ok C X W pos G).2⟩ else none
    | _, _ => none
def cBin {c : Cc} (f : ExpF c) (a : Expr) (op : Operator) (b : Expr) (pos : Pos) : Option (CE c (.BinOp a op b pos)) := match f a, f b with
  | some x, some y => match op with
    | .Add => some (.mk' (.bin .add x.ex y.ex) rfl fun C X W G => k_bin op_addI (fun S r1 r2 q => add_ok S r1 r2 q) (x.ok C X W G).1 (y.ok C X W G).1)
    | .Sub => some (.mk' (.bin .sub x.ex y.ex) rfl fun C X W G => k_bin L2.op_sub (fun S r1 r2 q => sub_ok S r1 r2 q) (x.ok C X W G).1 (y.ok C X W G).1)
    | .Mult => some (.mk' (.bin .mul x.ex y.ex) rfl fun C X W G => k_bin op_mulI (fun S r1 r2 q => mul_ok S r1 r2 q) (x.ok C X W G).1 (y.ok C X W G).1)
    | .Mod => some (.mk' (.bin .mod x.ex y.ex) rfl fun C X W G => k_bin L2.op_modN (fun S r1 r2 q => mod_ok S r1 r2 q) (x.ok C X W G).1 (y.ok C X W G).1)
    | .FloorDiv => some (.mk' (.bin .fdiv x.ex y.ex) rfl fun C X W G => k_bin L2.op_fdivN (fun S r1 r2 q => fdiv_ok S r1 r2 q) (x.ok C X W G).1 (y.ok C X W G).1)
    | _ => none
  | _, _ => none
def cUn {c : Cc} (f : ExpF c) (op : UnaryOp) (a : Expr) (pos : Pos) : Option (CE c (.UnaryOp op a pos)) := match f a with
  | some x => match op with
    | .USub => some (.mk' (.neg x.ex) rfl fun C X W G => k_neg (x.ok C X W G).1)
    | .Not => if ht : x.tst = true then some ⟨.not x.ex, true, fun C X W G => ⟨(k_not (x.ok C X W G).1 ((x.ok C X W G).2 ht)).1, fun _ => (k_not (x.ok C X W G).1 ((x.ok C X W G).2 ht)).2⟩⟩ else none
    | _ => none
  | none => none
/-- two operands of a comparison, none a set display -/
def cCmp {c : Cc} (f : ExpF c) (a : Expr) (op : CmpOp) (b : Expr) (pos : Pos) : Option (CE c (.Compare a [op] [b] pos)) := match f a with
  | some x => match op, b with
    | .Is, .Constant .none j p => some ⟨.isN x.ex, true, fun C X W G => ⟨(k_isN (x.ok C X W G).1).1.1, fun _ => (k_isN (x.ok C X W G).1).1.2⟩⟩
    | .IsNot, .Constant .none j p => some ⟨.notN x.ex, true, fun C X W G => ⟨(k_isN (x.ok C X W G).1).2.1, fun _ => (k_isN (x.ok C X W G).1).2.2⟩⟩
    | op, b => if hm : isSet b = false then
      match f b with
      | some y => match op with
        | .Eq => some ⟨.cmp .eq x.ex y.ex, true, fun C X W G => have k := k_cmp (f := ev C (.cmp .eq x.ex y.ex)) (pos := pos) (L2.op_eqD (by have := G.un; omega)) (x.ok C X W G).1 (y.ok C X W G).1 hm (w_two (o := fun x y st => okB (cmpD .eq x y st) st) (fun _ _ => by rw [ev]) fun S r1 r2 q => eq_ok S r1 r2 q); ⟨k.1, fun _ => k.2⟩⟩
        | .NotEq => some ⟨.cmp .ne x.ex y.ex, true, fun C X W G => have k := k_cmp (f := ev C (.cmp .ne x.ex y.ex)) (pos := pos) (L2.op_neD (by have := G.un; omega)) (x.ok C X W G).1 (y.ok C X W G).1 hm (w_two (o := fun x y st => okB (cmpD .ne x y st) st) (fun _ _ => by rw [ev]) fun S r1 r2 q => ne_ok S r1 r2 q); ⟨k.1, fun _ => k.2⟩⟩
        | .Lt => some ⟨.cmp .lt x.ex y.ex, true, fun C X W G => have k := k_cmp (f := ev C (.cmp .lt x.ex y.ex)) (pos := pos) L2.op_lt (x.ok C X W G).1 (y.ok C X W G).1 hm (w_two (o := fun x y st => okB (cmpD .lt x y st) st) (fun _ _ => by rw [ev]) fun S r1 r2 q => lt_ok S r1 r2 q); ⟨k.1, fun _ => k.2⟩⟩
        | .LtE => some ⟨.cmp .le x.ex y.ex, true, fun C X W G => have k := k_cmp (f := ev C (.cmp .le x.ex y.ex)) (pos := pos) L2.op_le (x.ok C X W G).1 (y.ok C X W G).1 hm (w_two (o := fun x y st => okB (cmpD .le x y st) st) (fun _ _ => by rw [ev]) fun S r1 r2 q => le_ok S r1 r2 q); ⟨k.1, fun _ => k.2⟩⟩
        | .Gt => some ⟨.cmp .gt x.ex y.ex, true, fun C X W G => have k := k_cmp (f := ev C (.cmp .gt x.ex y.ex)) (pos := pos) L2.op_gt (x.ok C X W G).1 (y.ok C X W G).1 hm (w_two (o := fun x y st => okB (cmpD .gt x y st) st) (fun _ _ => by rw [ev]) fun S r1 r2 q => gt_ok S r1 r2 q); ⟨k.1, fun _ => k.2⟩⟩
        | .GtE => some ⟨.cmp .ge x.ex y.ex, true, fun C X W G => have k := k_cmp (f := ev C (.cmp .ge x.ex y.ex)) (pos := pos) L2.op_ge (x.ok C X W G).1 (y.ok C X W G).1 hm (w_two (o := fun x y st => okB (cmpD .ge x y st) st) (fun _ _ => by rw [ev]) fun S r1 r2 q => ge_ok S r1 r2 q); ⟨k.1, fun _ => k.2⟩⟩
        | .In => some ⟨.cmp .isin x.ex y.ex, true, fun C X W G => have k := k_in (pos := pos) G.u65 (x.ok C X W G).1 (y.ok C X W G).1 hm; ⟨k.1, fun _ => k.2⟩⟩
        | .NotIn => some ⟨.cmp .notin x.ex y.ex, true, fun C X W G => have k := k_nin (pos := pos) G.u65 (x.ok C X W G).1 (y.ok C X W G).1 hm; ⟨k.1, fun _ => k.2⟩⟩
        | _ => none
      | none => none
    else none
  | none => none
/-- x <= y <= z, x <= y < z, x < y < z, of ints -/
def cChn {c : Cc} (f : ExpF c) (a : Expr) (op op' : CmpOp) (b d : Expr) (pos : Pos) : Option (CE c (.Compare a [op, op'] [b, d] pos)) := match f a, f b, f d with
  | some x, some y, some z => if hm : isSet d = false then match op, op' with
    | .LtE, .LtE => some ⟨.chn .le .le x.ex y.ex z.ex, true, fun C X W G => have k := k_chain (o := .le) (p := .le) (pos := pos) L2.op_le L2.op_le (fun S r1 r2 q => le_ok S r1 r2 q) (fun S r1 r2 q => le_ok S r1 r2 q) (x.ok C X W G).1 (y.ok C X W G).1 (z.ok C X W G).1 hm; ⟨k.1, fun _ => k.2⟩⟩
    | .LtE, .Lt => some ⟨.chn .le .lt x.ex y.ex z.ex, true, fun C X W G => have k := k_chain (o := .le) (p := .lt) (pos := pos) L2.op_le L2.op_lt (fun S r1 r2 q => le_ok S r1 r2 q) (fun S r1 r2 q => lt_ok S r1 r2 q) (x.ok C X W G).1 (y.ok C X W G).1 (z.ok C X W G).1 hm; ⟨k.1, fun _ => k.2⟩⟩
    | _, _ => none
    else none
  | _, _, _ => none
def cIf {c : Cc} (f : ExpF c) (t a b : Expr) (pos : Pos) : Option (CE c (.IfExp t a b pos)) := match f t, f a, f b with
  | some x, some y, some z => if ht : x.tst = true then some ⟨.ite x.ex y.ex z.ex, false, fun C X W G => ⟨k_ite ((x.ok C X W G).2 ht) (y.ok C X W G).1 (z.ok C X W G).1, fun h => nomatch h⟩⟩ else none
  | _, _, _ => none
def cIx {c : Cc} (f : ExpF c) (a i : Expr) (pos : Pos) : Option (CE c (.Subscript a i pos)) := match f a with
  | some x => match i with
    | .Slice lo hi none p => match lo, hi with
      | none, none => some (.mk' (.sl x.ex .none .none) rfl fun C X W G => k_sl (x.ok C X W G).1 k_none k_none)
      | some l, none => (match f l with
        | some y => some (.mk' (.sl x.ex (.some y.ex) .none) rfl fun C X W G => k_sl (x.ok C X W G).1 (k_some (y.ok C X W G).1) k_none)
        | none => none)
      | none, some h => (match f h with
        | some y => some (.mk' (.sl x.ex .none (.some y.ex)) rfl fun C X W G => k_sl (x.ok C X W G).1 k_none (k_some (y.ok C X W G).1))
        | none => none)
      | some l, some h => (match f l, f h with
        | some y, some z => some (.mk' (.sl x.ex (.some y.ex) (.some z.ex)) rfl fun C X W G => k_sl (x.ok C X W G).1 (k_some (y.ok C X W G).1) (k_some (z.ok C X W G).1))
        | _, _ => none)
    | i => if hs : isSlice i = false then (match f i with
      | some y => some (.mk' (.ix x.ex y.ex) rfl fun C X W G => k_ix G.u12 (x.ok C X W G).1 (y.ok C X W G).1 hs)
      | none => none) else none
  | none => none
def cMeth {c : Cc} (f : ExpF c) (o : Expr) (m : Str) (apos : Pos) (es : List Expr) (pos : Pos) : Option (CE c (.Call (.Attribute o m apos) es [] pos)) :=
  if hb : isSup o = false ∧ (apos.endLine == pos.line) = true then match f o, cArgs f es with
  | some x, some r => match es, r with
    | [], r => if hm : m = "pop" then some (.mk' (.bm .pop x.ex .nil) rfl fun C X W G => k_pop (by rw [hm]; exact PySem.F.slot_list_pop) (x.ok C X W G).1 hb.1 hb.2) else none
    | e0 :: es, r => if hs : (e0 :: es).all (fun e => !isStar e) = true ∧ (e0 :: es).length < 30 then
        if hm : m = "append" then some (.mk' (.bm .append x.ex r.xs) rfl fun C X W G => k_bm (m := .append) isT_ty PySem.F.plainAttrs_list (by rw [hm]; exact PySem.F.slot_list_append) PySem.F.type_list_append L2.mt_append (x.ok C X W G).1 (r.ok C X W G) hb.1 hs.1 hs.2 hb.2 (fun S r q => rcv_lst S r q) fun S r1 r2 q => app_okI S r1 r2 q)
        else if hm : m = "extend" then some (.mk' (.bm .extend x.ex r.xs) rfl fun C X W G => k_bm (m := .extend) isT_ty PySem.F.plainAttrs_list (by rw [hm]; exact PySem.F.slot_list_extend) PySem.F.type_list_extend L2.mt_extend (x.ok C X W G).1 (r.ok C X W G) hb.1 hs.1 hs.2 hb.2 (fun S r q => rcv_lst S r q) fun S r1 r2 q => ext_okI S r1 r2 q)
        else if hm : m = "pop" then some (.mk' (.bm .popi x.ex r.xs) rfl fun C X W G => k_bm (m := .popi) isT_ty PySem.F.plainAttrs_list (by rw [hm]; exact PySem.F.slot_list_pop) PySem.F.type_list_pop L2.mt_popAt (x.ok C X W G).1 (r.ok C X W G) hb.1 hs.1 hs.2 hb.2 (fun S r q => rcv_lst S r q) fun S r1 r2 q => popi_okI S r1 r2 q)
        else if hm : m = "index" then some (.mk' (.bm .index x.ex r.xs) rfl fun C X W G => k_bm (m := .index) isT_ty PySem.F.plainAttrs_list (by rw [hm]; exact PySem.F.slot_list_index) PySem.F.type_list_index (L2.mt_indexD G.u65) (x.ok C X W G).1 (r.ok C X W G) hb.1 hs.1 hs.2 hb.2 (fun S r q => rcv_lst S r q) fun S r1 r2 q => index_okI S r1 r2 q)
        else if hm : m = "get" then some (.mk' (.bm .get x.ex r.xs) rfl fun C X W G => k_bm (m := .get) isT_dicR PySem.F.plainAttrs_dict (by rw [hm]; exact PySem.F.slot_dict_get) PySem.F.type_dict_get (mt_dget2 G.u12) (x.ok C X W G).1 (r.ok C X W G) hb.1 hs.1 hs.2 hb.2 (fun S r q => rcv_dic S r q) fun S r1 r2 q => get_okI S r1 r2 q)
        else none
      else none
  | _, _ => none
  else none
def tyOf (x : Str) : Option Ty := if x = "int" then some .int else if x = "bool" then some .bool else if x = "str" then some .str else if x = "tuple" then some .tuple else if x = "list" then some .list else none
theorem tyOf_boot {x : Str} {T : Ty} (h : tyOf x = some T) : bootBuiltins x = some (.type (tyName T)) := by
  unfold tyOf at h
  split at h
  · subst x; cases h; exact boot_int
  · split at h
    · subst x; cases h; exact boot_bool
    · split at h
      · subst x; cases h; exact boot_str
      · split at h
        · subst x; cases h; exact boot_tuple
        · split at h
          · subst x; cases h; exact boot_list
          · cases h
/-- a built-in name -/
def bltB (c : Cc) (x : Str) : Bool := decide (c.sc.names.lookup x = some .globalImplicit) && decide (c.gk x = some .free) && plainN x
theorem blt_of {c : Cc} {C : CT} {X : L2.Cx} {W : WX} (G : Good c C X W) {x : Str} (h : bltB c x = true) : L2.Gl X x ∧ X.mg x = none ∧ x ≠ "__name__" ∧ (x == ("__debug__" : Str)) = false := by
  unfold bltB at h
  simp only [Bool.and_eq_true, decide_eq_true_eq] at h
  obtain ⟨⟨h1, h2⟩, h3⟩ := h
  obtain ⟨p1, p2, p3⟩ := plainN_of h3
  exact ⟨G.gl h1, G.free x h2, p3, p1⟩
def cB1 {c : Cc} (f : ExpF c) (x : Str) (p : Pos) (a : Expr) (pos : Pos) : Option (CE c (.Call (.Name x p) [a] [] pos)) :=
  if hb : bltB c x = true ∧ isStar a = false then match f a with
    | some y =>
      if h : x = "len" then some (.mk' (.bi .len y.ex) rfl fun C X W G => have b := blt_of G hb.1; k_bltB (o := biD .len) L2.call_len b.1 b.2.1 (by rw [h]; exact boot_len) (y.ok C X W G).1 hb.2 b.2.2.1 b.2.2.2 (fun _ _ => by rw [ev]) fun S r q => len_ok S r q)
      else if h : x = "all" then some (.mk' (.bi .all y.ex) rfl fun C X W G => have b := blt_of G hb.1; k_bltB (o := biD .all) (L2.cr_all G.calm) b.1 b.2.1 (by rw [h]; exact boot_all) (y.ok C X W G).1 hb.2 b.2.2.1 b.2.2.2 (fun _ _ => by rw [ev]) fun S r q => all_ok S r q)
      else if h : x = "any" then some (.mk' (.bi .any y.ex) rfl fun C X W G => have b := blt_of G hb.1; k_bltB (o := biD .any) (L2.cr_any G.calm) b.1 b.2.1 (by rw [h]; exact boot_any) (y.ok C X W G).1 hb.2 b.2.2.1 b.2.2.2 (fun _ _ => by rw [ev]) fun S r q => any_ok S r q)
      else if h : x = "sorted" then some (.mk' (.bi .sorted y.ex) rfl fun C X W G => have b := blt_of G hb.1; k_bltB (o := biD .sorted) (cr_sort3 G.u66) b.1 b.2.1 (by rw [h]; exact boot_sorted) (y.ok C X W G).1 hb.2 b.2.2.1 b.2.2.2 (fun _ _ => by rw [ev]) fun S r q => sorted_ok S r q)
      else if h : x = "list" then some (.mk' (.bi .list y.ex) rfl fun C X W G => have b := blt_of G hb.1; k_bltT (o := biD .list) (cr_listI G.calm) b.1 b.2.1 (by rw [h]; exact boot_list) (y.ok C X W G).1 hb.2 b.2.2.1 b.2.2.2 (fun _ _ => by rw [ev]) fun S r q => list_ok S r q)
      else if h : x = "tuple" then some (.mk' (.bi .tuple y.ex) rfl fun C X W G => have b := blt_of G hb.1; k_bltT (o := biD .tuple) L2.call_tuple_of b.1 b.2.1 (by rw [h]; exact boot_tuple) (y.ok C X W G).1 hb.2 b.2.2.1 b.2.2.2 (fun _ _ => by rw [ev]) fun S r q => tuple_ok S r q)
      else if h : x = "int" then some (.mk' (.bi .int y.ex) rfl fun C X W G => have b := blt_of G hb.1; k_bltT (o := biD .int) L2.call_int1 b.1 b.2.1 (by rw [h]; exact boot_int) (y.ok C X W G).1 hb.2 b.2.2.1 b.2.2.2 (fun _ _ => by rw [ev]) fun S r q => int_ok S r q)
      else none
    | none => none
  else none
def cLset {c : Cc} (f : ExpF c) (x : Str) (p : Pos) (y : Str) (p2 : Pos) (a : Expr) (q pos : Pos) : Option (CE c (.Call (.Name x p) [.Call (.Name y p2) [a] [] q] [] pos)) :=
  if h : x = "len" ∧ y = "set" ∧ bltB c x = true ∧ bltB c y = true ∧ isStar a = false then match f a with
    | some z => some (.mk' (.lset z.ex) rfl fun C X W G => by
        obtain ⟨rfl, rfl, h1, h2, h3⟩ := h
        have b1 := blt_of G h1
        have b2 := blt_of G h2
        exact k_lset G.calm b1.1 b1.2.1 b2.1 b2.2.1 (z.ok C X W G).1 h3)
    | none => none
  else none
def cIsT {c : Cc} (f : ExpF c) (x : Str) (p : Pos) (a : Expr) (y : Str) (p1 pos : Pos) : Option (CE c (.Call (.Name x p) [a, .Name y p1] [] pos)) :=
  if h : x = "isinstance" ∧ bltB c x = true ∧ bltB c y = true ∧ isStar a = false then match f a, hT : tyOf y with
    | some z, some T => some (.mk' (.isT z.ex T) rfl fun C X W G => by
        obtain ⟨h0, h1, h2, h3⟩ := h
        have b1 := blt_of G h1
        have b2 := blt_of G h2
        exact k_isT b1.1 b1.2.1 (by rw [h0]; exact boot_isinstance) b2.1 b2.2.1 (tyOf_boot hT) (z.ok C X W G).1 h3 b1.2.2.1 b1.2.2.2 b2.2.2.1 b2.2.2.2)
    | _, _ => none
  else none
def cFn {c : Cc} (f : ExpF c) (x : Str) (p : Pos) (es : List Expr) (pos : Pos) : Option (CE c (.Call (.Name x p) es [] pos)) := match es with
  | [] => none
  | e :: es => match hk : c.gk x with
    | some (.fn np) => if h : (e :: es).length = np ∧ (e :: es).all (fun z => !isStar z) = true ∧ c.sc.names.lookup x = some .globalImplicit ∧ plainN x = true then match cArgs f (e :: es) with
        | some r => some (.mk' (.call x r.xs) rfl fun C X W G => k_call (G.call x np hk) G.tk (G.gl h.2.2.1) (r.ok C X W G) h.1 (plainN_of h.2.2.2).1 h.2.1)
        | none => none
      else none
    | _ => none
def isFn (c : Cc) (x : Str) : Bool := match c.gk x with
  | some (.fn _) => true
  | _ => false
def cCall {c : Cc} (f : ExpF c) (x : Str) (p : Pos) (es : List Expr) (pos : Pos) : Option (CE c (.Call (.Name x p) es [] pos)) :=
  if isFn c x = true then cFn f x p es pos else match es with
    | [.Call (.Name y p2) [a] [] q] => if y = "set" then cLset f x p y p2 a q pos else cB1 f x p _ pos
    | [a] => cB1 f x p a pos
    | [a, .Name y p1] => cIsT f x p a y p1 pos
    | _ => none
end IP

/-! IpQ: from the text to the small language: targets, walks, comprehensions, statements. -/
namespace IP
open PySem PySem.Spec PyProof.Rows
structure CG (c : Cc) (tg : Expr) where
  t : Tg
  ok : ∀ (C : CT) (X : L2.Cx) (W : WX), Good c C X W → L2.PG X tg (gI (gd X) t)
structure CGs (c : Cc) (tgs : List Expr) where
  ts : Tgs
  ok : ∀ (C : CT) (X : L2.Cx) (W : WX), Good c C X W → L2.PGs X tgs (gIs (gd X) ts)
  len : ∀ ds ρ st ρ', asgs ts ds ρ st = some ρ' → ds.length = tgs.length
def locB (c : Cc) (x : Str) : Bool := match c.sc.names.lookup x with
  | some .local => true
  | some .cell => c.all
  | _ => false
theorem loc_of {c : Cc} {C : CT} {X : L2.Cx} {W : WX} (G : Good c C X W) {x : Str} (h : locB c x = true) : L2.Loc X.env.scope x ∧ (X.fn x = true ∨ X.env.scope.names.lookup x = some .local) := by
  unfold locB at h
  unfold L2.Loc
  rw [G.sc]
  split at h
  · rename_i h1; exact ⟨.inl h1, .inr h1⟩
  · rename_i h1; exact ⟨.inr h1, .inl (G.fn h x)⟩
  · cases h
def cTn (c : Cc) (x : Str) (pos : Pos) : Option (CG c (.Name x pos)) := match slot c x with
  | some i => if h : c.N[i]? = some x ∧ locB c x = true then some ⟨.nm i, fun C X W G => k_name G.nd (by rw [G.N]; exact h.1) (loc_of G h.2).1 (loc_of G h.2).2⟩ else none
  | none => none
def cTs (c : Cc) : (es : List Expr) → Option (CGs c es)
  | [] => some ⟨.nil, fun C X W G => k_tnil, fun ds ρ st ρ' h => by cases ds <;> first | rfl | simp [asgs] at h⟩
  | .Name x p :: es => match cTn c x p, cTs c es with
    | some a, some r => some ⟨.cons a.t r.ts, fun C X W G => k_tcons (a.ok C X W G) (r.ok C X W G) rfl, fun ds ρ st ρ' h => by
        cases ds with
        | nil => simp [asgs] at h
        | cons d ds =>
          simp only [asgs] at h
          split at h
          · rw [List.length_cons, List.length_cons, r.len _ _ _ _ h]
          · cases h⟩
    | _, _ => none
  | _ => none
/-- pairs of names, names in pairs -/
def cT1 (c : Cc) (tg : Expr) : Option (CG c tg) := match tg with
  | .Name x pos => cTn c x pos
  | .Tuple es n pos => if hs : es.all (fun e => !isStar e) = true then match cTs c es with
    | some r => some ⟨.tp r.ts, fun C X W G => k_tt G.calm (r.ok C X W G) hs r.len⟩
    | none => none
    else none
  | _ => none
def cT2 (c : Cc) : (es : List Expr) → Option (CGs c es)
  | [] => some ⟨.nil, fun C X W G => k_tnil, fun ds ρ st ρ' h => by cases ds <;> first | rfl | simp [asgs] at h⟩
  | e :: es => if hs : isStar e = false then match cT1 c e, cT2 c es with
    | some a, some r => some ⟨.cons a.t r.ts, fun C X W G => k_tcons (a.ok C X W G) (r.ok C X W G) hs, fun ds ρ st ρ' h => by
        cases ds with
        | nil => simp [asgs] at h
        | cons d ds =>
          simp only [asgs] at h
          split at h
          · rw [List.length_cons, List.length_cons, r.len _ _ _ _ h]
          · cases h⟩
    | _, _ => none
    else none
def cTg (c : Cc) (tg : Expr) : Option (CG c tg) := match tg with
  | .Name x pos => cTn c x pos
  | .Tuple es n pos => if hs : es.all (fun e => !isStar e) = true then match cT2 c es with
    | some r => some ⟨.tp r.ts, fun C X W G => k_tt G.calm (r.ok C X W G) hs r.len⟩
    | none => none
    else none
  | _ => none
/-! ### what is walked -/
def cItc {c : Cc} (f : ExpF c) (tg : Expr) (x : Str) (p : Pos) (es : List Expr) (pos : Pos) : Option (CI c tg (.Call (.Name x p) es [] pos)) :=
  if hb : bltB c x = true then match es with
    | [a] => if hs : isStar a = false then match f a with
      | some y => if h : x = "range" then some ⟨.rng y.ex, fun C X W G => by subst h; have b := blt_of G hb; exact k_rng b.1 b.2.1 (y.ok C X W G).1 hs⟩
        else if h : x = "enumerate" then match tg with
          | .Tuple ts k tp => some ⟨.enm y.ex, fun C X W G => by subst h; have b := blt_of G hb; exact k_enm b.1 b.2.1 (y.ok C X W G).1 hs⟩
          | _ => none
        else none
      | none => none
      else none
    | [a, b] => if hs : isStar a = false ∧ isStar b = false then match f a, f b with
      | some y, some z => if h : x = "range" then some ⟨.rng2 y.ex z.ex, fun C X W G => by subst h; have b := blt_of G hb; exact k_rng2 b.1 b.2.1 (y.ok C X W G).1 (z.ok C X W G).1 hs.1 hs.2⟩
        else if h : x = "zip" then match tg with
          | .Tuple ts k tp => some ⟨.zip y.ex z.ex, fun C X W G => by subst h; have b := blt_of G hb; exact k_zip b.1 b.2.1 (y.ok C X W G).1 (z.ok C X W G).1 hs.1 hs.2⟩
          | _ => none
        else none
      | _, _ => none
      else none
    | _ => none
  else none
def cItv {c : Cc} (f : ExpF c) (tg e : Expr) : Option (CI c tg e) := match f e with
  | some y => some ⟨.val y.ex, fun C X W G => k_val (y.ok C X W G).1⟩
  | none => none
def walkN (x : Str) : Bool := decide (x = "range") || decide (x = "enumerate") || decide (x = "zip")
def cIt {c : Cc} (f : ExpF c) (tg e : Expr) : Option (CI c tg e) := match e with
  | .Call (.Name x p) es [] pos => if walkN x = true then cItc f tg x p es pos else cItv f tg _
  | e => cItv f tg e
/-! ### comprehensions -/
def blkCc (c : Cc) (scope : Scope) : Cc := { sc := L2.relS scope c.sc, N := c.N, gk := c.gk, all := false }
theorem Good.blk {c : Cc} {C : CT} {X : L2.Cx} {W : WX} (G : Good c C X W) (scope : Scope) (s : Shared) (H : Hp) (A : Addr) (cl : List (Str × Addr)) (fp : List Addr) : Good (blkCc c scope) C (X.blk s H scope (compEnvC scope cl A X.env) fp) Wn where
  sc := by
    show L2.relS scope X.env.scope = L2.relS scope c.sc
    rw [G.sc]
  N := G.N
  nd := G.nd
  calm := G.calm
  un := G.un
  int := G.int
  str := G.str
  free := G.free
  call := G.call
  exc := G.exc
  own := PassesOwn.never
  tk := fun _ _ ⟨_, _, _, _, _, _, _, _, _, _, _, _, _, _, _, _, w⟩ => w.elim
  fn := fun h => nomatch h
def ownOf (c : Cc) (scope : Scope) : List (Str × Nat) := scope.names.filterMap fun p => match p.2 with
  | .local => (slot c p.1).map fun i => (p.1, i)
  | .cell => (slot c p.1).map fun i => (p.1, i)
  | _ => none
/-- the parts of a comprehension -/
structure CC (c : Cc) (elt tg iter : Expr) (ifs : List Expr) (scope : Scope) where
  e : Ex
  t : Tg
  it : Itr
  xc : Exo
  own : List (Str × Nat)
  hb : L2.blkC c.N c.sc scope own = true
  hs : isSet iter = false
  ht : ∀ i ∈ t.ix, i ∈ own.map (·.2)
  hi : ∀ (C : CT) (X : L2.Cx) (W : WX), Good c C X W → L2.PI X tg iter (J1 X W C it)
  hg : ∀ (C : CT) (X : L2.Cx) (W : WX), Good (blkCc c scope) C X W → L2.PG X tg (gI (gd X) t)
  hf : ∀ (C : CT) (X : L2.Cx) (W : WX), Good (blkCc c scope) C X W → L2.PTs X ifs (cI (gd X) W (evc C xc))
  he : ∀ (C : CT) (X : L2.Cx) (W : WX), Good (blkCc c scope) C X W → L2.PE X elt (I1 X W C e)
def cIfs {c : Cc} (f : ExpF c) (ifs : List Expr) : Option { x : Exo // ∀ (C : CT) (X : L2.Cx) (W : WX), Good c C X W → L2.PTs X ifs (cI (gd X) W (evc C x)) } := match ifs with
  | [] => some ⟨.none, fun C X W G => k_ifs0⟩
  | [a] => match f a with
    | some y => if ht : y.tst = true then some ⟨.some y.ex, fun C X W G => k_ifs1 ((y.ok C X W G).2 ht)⟩ else none
    | none => none
  | _ => none
def cParts {c : Cc} (f : (c : Cc) → ExpF c) (elt tg iter : Expr) (ifs : List Expr) (scope : Scope) : Option (CC c elt tg iter ifs scope) :=
  match cIt (f c) tg iter, cTg (blkCc c scope) tg, cIfs (f (blkCc c scope)) ifs, f (blkCc c scope) elt with
  | some i, some g, some q, some e =>
    if h : L2.blkC c.N c.sc scope (ownOf c scope) = true ∧ isSet iter = false ∧ ∀ i ∈ g.t.ix, i ∈ (ownOf c scope).map (·.2) then
      some ⟨e.ex, g.t, i.it, q.1, ownOf c scope, h.1, h.2.1, h.2.2, i.ok, g.ok, q.2, fun C X W G => (e.ok C X W G).1⟩
    else none
  | _, _, _, _ => none
theorem CC.blkOk {c : Cc} {elt tg iter : Expr} {ifs : List Expr} {scope : Scope} (p : CC c elt tg iter ifs scope) {C : CT} {X : L2.Cx} {W : WX} (G : Good c C X W) : L2.BlkOk X.N X.env.scope scope p.own := by
  rw [G.N, G.sc]
  exact L2.blkOk_by p.hb
def cLc {c : Cc} (f : (c : Cc) → ExpF c) (elt : Expr) (gs : List Comprehension) (scope : Scope) (pos : Pos) : Option (CE c (.ListComp elt gs scope pos)) := match gs with
  | [⟨tg, iter, ifs, 0⟩] => match cParts (c := c) f elt tg iter ifs scope with
    | some p => some (.mk' (.comp p.e p.t p.it p.xc (p.own.map (·.2))) rfl fun C X W G => k_comp G.calm G.nd (p.hi C X W G) (p.blkOk G) (fun s H A cl fp => p.hg C _ _ (G.blk scope s H A cl fp)) (fun s H A cl fp => p.hf C _ _ (G.blk scope s H A cl fp)) (fun s H A cl fp => p.he C _ _ (G.blk scope s H A cl fp)) p.hs p.ht)
    | none => none
  | _ => none
/-! ### expressions -/
def stepE (f : (c : Cc) → ExpF c) (c : Cc) (e : Expr) : Option (CE c e) := match e with
  | .Constant k j pos => cConst c k j pos
  | .Name x pos => cName c x pos
  | .BinOp a op b pos => cBin (f c) a op b pos
  | .UnaryOp op a pos => cUn (f c) op a pos
  | .BoolOp op es pos => match cBool (f c) op es with
    | some r => some ⟨r.ex, true, fun C X W G => ⟨(r.ok C X W pos G).1, fun _ => (r.ok C X W pos G).2.pt⟩⟩
    | none => none
  | .Compare a [op] [b] pos => cCmp (f c) a op b pos
  | .Compare a [op, op'] [b, d] pos => cChn (f c) a op op' b d pos
  | .IfExp t a b pos => cIf (f c) t a b pos
  | .Subscript a i pos => cIx (f c) a i pos
  | .Call (.Name x p) es [] pos => cCall (f c) x p es pos
  | .Call (.Attribute o m apos) es [] pos => cMeth (f c) o m apos es pos
  | .Tuple es n pos => match cArgs (f c) es with
    | some r => some (.mk' (.tup r.xs) rfl fun C X W G => k_tup (r.ok C X W G))
    | none => none
  | .List es pos => match cArgs (f c) es with
    | some r => some (.mk' (.lst r.xs) rfl fun C X W G => k_lst (r.ok C X W G))
    | none => none
  | .Dict [] [] pos => some (.mk' (.dct .nil) rfl fun C X W G => k_dnew)
  | .ListComp elt gs scope pos => cLc f elt gs scope pos
  | _ => none
def cE : Nat → (c : Cc) → ExpF c
  | 0, _, _ => none
  | n + 1, c, e => stepE (cE n) c e
/-! ### statements -/
structure CS (c : Cc) (s : Stmt) where
  x : St
  ok : ∀ (C : CT) (Wf : Nat) (X : L2.Cx) (W : WX), Good c C X W → L2.PS X s (S1 X W C Wf x)
structure CSs (c : Cc) (ss : List Stmt) where
  xs : Sts
  ok : ∀ (C : CT) (Wf : Nat) (X : L2.Cx) (W : WX), Good c C X W → L2.PSs X ss (SS1 X W C Wf xs)
abbrev StmF (c : Cc) := (s : Stmt) → Option (CS c s)
def cSs {c : Cc} (f : StmF c) : (ss : List Stmt) → Option (CSs c ss)
  | [] => some ⟨.nil, fun C Wf X W G => q_nil⟩
  | s :: ss => match f s, cSs f ss with
    | some a, some r => some ⟨.cons a.x r.xs, fun C Wf X W G => q_cons (a.ok C Wf X W G) (r.ok C Wf X W G)⟩
    | _, _ => none
/-- name = [..] on one line, the name a local: it is stored within -/
def swB (c : Cc) (y : Str) (py : Pos) (scope : Scope) (p1 : Pos) : Bool := decide (c.sc.names.lookup y = some .local) && (py.line == p1.line) && !(scope.names.any fun p => p.1 == y && (p.2 == .local || p.2 == .cell))
theorem sw_is {c : Cc} {C : CT} {X : L2.Cx} {W : WX} (G : Good c C X W) {elt : Expr} {gs : List Comprehension} {scope : Scope} {p1 py : Pos} {y : Str} {l : Nat} (hk : c.sc.kind = .function) : swapsWith (.ListComp elt gs scope p1) (some (.Name y py)) l X.env = pure (swB c y py scope p1) := by
  have hk' : X.env.scope.kind = .function := by rw [G.sc]; exact hk
  have hb : X.env.blockKind = .function := by unfold Env.blockKind; rw [hk']; rfl
  have ky : X.env.kindOf y = c.sc.names.lookup y := by unfold Env.kindOf; rw [G.sc]
  unfold swapsWith
  simp only [hb, ky, Expr.pos]
  unfold swB
  cases h : c.sc.names.lookup y with
  | none => rfl
  | some k => cases k <;> rfl
def cAsgLc {c : Cc} (f : (c : Cc) → ExpF c) (y : Str) (py : Pos) (elt tg iter : Expr) (ifs : List Expr) (scope : Scope) (p1 pos : Pos) : Option (CS c (.Assign [.Name y py] (.ListComp elt [⟨tg, iter, ifs, 0⟩] scope p1) pos)) :=
  if hk : c.sc.kind = .function then match slot c y, cParts (c := c) f elt tg iter ifs scope with
    | some i, some p => if h : c.N[i]? = some y ∧ locB c y = true then
        if hs : swB c y py scope p1 = true then
          if hl : c.sc.names.lookup y = some .local then some ⟨.asg (.nm i) (.comp p.e p.t p.it p.xc (p.own.map (·.2))), fun C Wf X W G => q_setLc G.calm G.nd (by rw [G.N]; exact h.1) (by rw [G.sc]; exact hl) (by rw [sw_is G hk, hs]) (p.hi C X W G) (p.blkOk G)
            (fun s H A cl fp => p.hg C _ _ (G.blk scope s H A cl fp)) (fun s H A cl fp => p.hf C _ _ (G.blk scope s H A cl fp)) (fun s H A cl fp => p.he C _ _ (G.blk scope s H A cl fp)) p.hs p.ht⟩
          else none
        else some ⟨.asg (.nm i) (.comp p.e p.t p.it p.xc (p.own.map (·.2))), fun C Wf X W G => q_asg (k_comp G.calm G.nd (p.hi C X W G) (p.blkOk G) (fun s H A cl fp => p.hg C _ _ (G.blk scope s H A cl fp)) (fun s H A cl fp => p.hf C _ _ (G.blk scope s H A cl fp))
            (fun s H A cl fp => p.he C _ _ (G.blk scope s H A cl fp)) p.hs p.ht) (k_name G.nd (by rw [G.N]; exact h.1) (loc_of G h.2).1 (loc_of G h.2).2) (by rw [sw_is G hk, Bool.eq_false_iff.mpr hs]) swp_name rfl⟩
      else none
    | _, _ => none
  else none
theorem asg_sub {a b : Expr} {p1 : Pos} {env : PySem.Env} (h : isSlice b = false) : ∀ v, assign (.Subscript a b p1) env v = (do
      let ov ← holding [v] (eval a env)
      let iv ← holding [v, ov] (eval b env)
      standAt p1
      holding [v, ov, iv] (setItem ov iv v)
      release [v, ov, iv] []) := by
  intro v
  cases b <;> first | rfl | cases h
def cAsg {c : Cc} (f : (c : Cc) → ExpF c) (tg e : Expr) (pos : Pos) : Option (CS c (.Assign [tg] e pos)) :=
  if hl : isLc e = false then match f c e with
    | some y => match tg with
      | .Subscript a b p1 => if hs : isSlice b = false ∧ isTupE e = false then match f c a, f c b with
        | some u, some v => some ⟨.aset u.ex v.ex y.ex, fun C Wf X W G => q_aset G.u12 (u.ok C X W G).1 (v.ok C X W G).1 (y.ok C X W G).1 hl hs.2 (asg_sub hs.1)⟩
        | _, _ => none
        else none
      | .Name x p => match cTg c (.Name x p) with
        | some g => some ⟨.asg g.t y.ex, fun C Wf X W G => q_asg (y.ok C X W G).1 (g.ok C X W G) (swaps_no hl) swp_name rfl⟩
        | none => none
      | tg => if ht : isTupE e = false ∧ isStar tg = false then match cTg c tg with
        | some g => some ⟨.asg g.t y.ex, fun C Wf X W G => q_asg (y.ok C X W G).1 (g.ok C X W G) (swaps_no hl) (swp_no ht.1) ht.2⟩
        | none => none
        else none
    | none => none
  else none
def stepS (fe : (c : Cc) → ExpF c) (f : (c : Cc) → StmF c) (c : Cc) (s : Stmt) : Option (CS c s) := match s with
  | .Pass pos => some ⟨.pass, fun C Wf X W G => q_pass⟩
  | .Continue pos => some ⟨.cont, fun C Wf X W G => q_cont⟩
  | .Expr (.Constant (.str x) j p1) pos => some ⟨.pass, fun C Wf X W G => q_doc⟩
  | .Expr e pos => if h : isLc e = false then match fe c e with
    | some y => some ⟨.exp y.ex, fun C Wf X W G => q_exp (y.ok C X W G).1 h⟩
    | none => none
    else none
  | .Return (some e) pos => match fe c e with
    | some y => some ⟨.ret y.ex, fun C Wf X W G => q_ret (y.ok C X W G).1⟩
    | none => none
  | .Assign [.Name y py] (.ListComp elt [⟨tg, iter, ifs, 0⟩] scope p1) pos => cAsgLc fe y py elt tg iter ifs scope p1 pos
  | .Assign [tg] e pos => cAsg fe tg e pos
  | .If t p q pos => match fe c t, cSs (f c) p, cSs (f c) q with
    | some x, some y, some z => if ht : x.tst = true then some ⟨.ife x.ex y.xs z.xs, fun C Wf X W G => q_if ((x.ok C X W G).2 ht) (y.ok C Wf X W G) (z.ok C Wf X W G)⟩ else none
    | _, _, _ => none
  | .For tg iter body [] pos => if hs : isSet iter = false then match cIt (fe c) tg iter, cTg c tg, cSs (f c) body with
    | some i, some g, some b => some ⟨.fr g.t i.it b.xs, fun C Wf X W G => q_for G.own G.calm (i.ok C X W G) (g.ok C X W G) (b.ok C Wf X W G) hs⟩
    | _, _, _ => none
    else none
  | .While t body [] pos => match fe c t, cSs (f c) body with
    | some x, some b => if ht : x.tst = true then some ⟨.whl x.ex b.xs, fun C Wf X W G => q_whl G.own ((x.ok C X W G).2 ht) (b.ok C Wf X W G)⟩ else none
    | _, _ => none
  | .Raise (some (.Call (.Name x p) [.Constant (.str m) j p2] [] p3)) none pos => if h : c.gk x = some .exc ∧ c.sc.names.lookup x = some .globalImplicit ∧ plainN x = true then
      some ⟨.rse x, fun C Wf X W G => by
        obtain ⟨a, e1, e2, e3, e4⟩ := G.exc x h.1
        exact q_rse G.calm G.tk e1 e2 e3 e4 (G.gl h.2.1) (plainN_of h.2.2).1⟩
    else none
  | _ => none
def cS : Nat → (c : Cc) → StmF c
  | 0, _, _ => none
  | n + 1, c, s => stepS (cE n) (cS n) c s
end IP

/-! IpR: all defs keep their promise; a law's end. -/
namespace IP
open PySem PySem.Spec PyProof.Rows
/-- a def of the text: its name, where it stands, its slots, its parameters' number, what it is -/
structure Ent where
  x : Str
  d : He.DefD
  N : List Str
  np : Nat
  xs : Sts
/-- the module's other names -/
abbrev Gl := List (Str × GK)
def gkE (es : List Ent) (gl : Gl) (x : Str) : Option GK := match es.find? fun e => decide (e.x = x) with
  | some e => some (.fn e.np)
  | none => gl.lookup x
def tabE (es : List Ent) : Tab := fun x => (es.find? fun e => decide (e.x = x)).map fun e => .fn e.np e.N.length e.xs
def fa1 (p : Str × GK) : List He.Fa := match p.2 with
  | .int i => [.int p.1 i]
  | .str z => [.str p.1 z]
  | .free => [.free p.1]
  | .exc => [.glo p.1, .exc p.1]
  | .fn _ => []
def faE (es : List Ent) (gl : Gl) : List He.Fa := gl.flatMap fa1 ++ es.map fun e => .glo e.x
def fnE (es : List Ent) : List He.DefD := es.map (·.d)
def notFn (p : Str × GK) : Bool := match p.2 with
  | .fn _ => false
  | _ => true
def nodupB : List Str → Bool
  | [] => true
  | x :: xs => !(xs.any fun y => decide (y = x)) && nodupB xs
theorem nodup_of : ∀ {l : List Str}, nodupB l = true → l.Nodup
  | [], _ => List.nodup_nil
  | x :: xs, h => by
    unfold nodupB at h
    simp only [Bool.and_eq_true, Bool.not_eq_true', List.any_eq_false, decide_eq_true_eq] at h
    exact List.nodup_cons.mpr ⟨fun m => h.1 x m rfl, nodup_of h.2⟩
def fnScB (N P : List Str) (sc : Scope) : Bool := (match sc.kind with | .function => true | _ => false) && !sc.isCoroutine && !sc.isGenerator && nodupB N && decide (N.take P.length = P) &&
  (P.all fun x => match sc.names.lookup x with | some .local => true | some .cell => true | _ => false) && (sc.names.all fun y => match y.2 with | .free => false | _ => true)
theorem fnSc_of {N P : List Str} {sc : Scope} (h : fnScB N P sc = true) : L2.FnScope N P sc := by
  unfold fnScB at h
  simp only [Bool.and_eq_true, Bool.not_eq_true', decide_eq_true_eq, List.all_eq_true] at h
  obtain ⟨⟨⟨⟨⟨⟨h1, h2⟩, h3⟩, h4⟩, h5⟩, h6⟩, h7⟩ := h
  refine ⟨?_, h2, h3, nodup_of h4, h5, fun x hx => ?_, fun y hy e => ?_⟩
  · split at h1
    · assumption
    · cases h1
  · have := h6 x hx
    split at this
    · exact .inl (by assumption)
    · exact .inr (by assumption)
    · cases this
  · have := h7 y hy
    rw [e] at this
    cases this
/-- the fuel of the reading of the text -/
def FUEL : Nat := 60
structure EntOk (gk : Str → Option GK) (e : Ent) : Prop where
  at_ : e.d.at_ = (e.x, none)
  dfl : e.d.dfl = []
  kwd : e.d.kwd = []
  sc : fnScB e.N (e.N.take e.np) e.d.scope = true
  np : e.np ≤ e.N.length
  body : (cSs (c := ⟨e.d.scope, e.N, gk, true⟩) (cS FUEL _) e.d.body).map (·.xs) = some e.xs
  bind : ∀ (kV doc pm : Value) (an : Option Addr) (cdv ct : Value) (us : List Value), us.length = (e.N.take e.np).length → bindArgs (PySem.W.fnOf e.d.name e.d.qual e.d.params e.d.body e.d.scope .none kV doc pm an cdv ct) ⟨us, []⟩ = pure ((e.N.take e.np).zip us)
section
variable {es : List Ent} {gl : Gl} {P : Program} {w : World} {K : PySem.W.Frag} {mg : Str → Option Value} {h : Heap}
theorem lookupS {α : Type} {x : Str} {k : α} : ∀ {l : List (Str × α)}, l.lookup x = some k → (x, k) ∈ l
  | [], h => by cases h
  | (b, u) :: r, h => by
    have h2 : (match x == b with | true => some u | false => r.lookup x) = some k := h
    cases q : (x == b) with
    | true =>
      rw [q] at h2
      rw [beq_iff_eq.mp q, Option.some.inj h2]
      exact List.mem_cons_self
    | false =>
      rw [q] at h2
      exact List.mem_cons_of_mem _ (lookupS h2)
theorem find_ent {x : Str} {e : Ent} (q : es.find? (fun e => decide (e.x = x)) = some e) : e ∈ es ∧ e.x = x := ⟨List.mem_of_find?_eq_some q, of_decide_eq_true (List.find?_some (p := fun e : Ent => decide (e.x = x)) q)⟩
theorem gk_fn (hg : gl.all notFn = true) {x : Str} {np : Nat} (q : gkE es gl x = some (.fn np)) : ∃ e ∈ es, e.x = x ∧ e.np = np ∧ tabE es x = some (.fn e.np e.N.length e.xs) := by
  unfold gkE at q
  split at q
  · rename_i e he
    cases q
    exact ⟨e, (find_ent he).1, (find_ent he).2, rfl, by unfold tabE; rw [he]; rfl⟩
  · have := List.all_eq_true.mp hg (x, .fn np) (lookupS q)
    cases this
theorem gk_gl {x : Str} {k : GK} (q : gkE es gl x = some k) (hk : notFn (x, k) = true) : (x, k) ∈ gl := by
  unfold gkE at q
  split at q
  · cases q; cases hk
  · exact lookupS q
theorem fin_post {g : Gd} {W : WX} {φ : List Addr} {H : Hp} {r : SR} {Q : L2.VK} {E : L2.XK} (hW : W = fun c d _ H' => E c d H') (h : post (VR g) g φ H r.fin Q E) : postS g W φ H r { nx := fun _ H' => Q .non H', rt := Q } := by
  subst hW
  cases r with
  | bad => exact h
  | exc x ρ st => exact fun φ' H' σ' c d s S en x => h φ' H' c d s S x
  | next ρ st => exact fun φ' H' σ' s S en => h φ' H' .non s S .non
  | ret d st => exact fun φ' H' v s S r => h φ' H' v s S r
  | brk ρ st => exact h.elim
  | cont ρ st => exact h.elim
theorem env_start {g : Gd} {φ : List Addr} {H : Hp} {ds : List D} {vs : List V} (r : VRs g φ H ds vs) (N : List Str) : EnvR g φ H (ds.map some ++ List.replicate (N.length - ds.length) none) (L2.start N vs) := by
  have hl := r.length
  refine ⟨by unfold L2.start; simp [hl], fun i d h => ?_⟩
  unfold L2.start
  by_cases hi : i < ds.length
  · rw [List.getElem?_append_left (by simpa using hi)] at h
    rw [List.getElem?_append_left (by simpa [← hl] using hi)]
    rw [List.getElem?_map] at h ⊢
    cases q : ds[i]? with
    | none => rw [q] at h; cases h
    | some d' =>
      rw [q] at h; cases h
      obtain ⟨v, h1, h2⟩ := r.get q
      exact ⟨v, by rw [h1]; rfl, h2⟩
  · rw [List.getElem?_append_right (by simpa using hi)] at h
    rw [List.getElem?_replicate] at h
    split at h <;> cases h
theorem callD_len {T : Tab} {Wf n : Nat} {x : Str} {np ns : Nat} {b : Sts} (h : T x = some (.fn np ns b)) (ds : List D) (st : Sto) (hl : ds.length ≠ np) : callD T Wf n x ds st = .bad := by
  cases n with
  | zero => rfl
  | succ n => unfold callD; simp only [h]; rw [if_neg hl]
abbrev FunE (K : PySem.W.Frag) (e : Ent) (fd : FuncData) : Prop := L2.FunD K e.d.name e.d.qual e.d.params e.d.body e.d.scope [] (e.d.kws K) (He.ga K e.x) fd
theorem fun_ent {gk : Str → Option GK} (c : He.SaysD (faE es gl) (fnE es) K) {e : Ent} (he : e ∈ es) (ok : EntOk gk e) : ∃ fd, FunE K e fd := by
  obtain ⟨fd, F⟩ := c.defs (d := e.d) (List.mem_map_of_mem he)
  have ea : He.fAd K e.d.at_ = He.ga K e.x := by rw [ok.at_]; rfl
  have dvs : e.d.dvs K = [] := by unfold He.DefD.dvs; rw [ok.dfl]; rfl
  rw [ea, dvs] at F
  exact ⟨fd, F⟩
theorem glo_ent (X : K.In h) (G : h.Ns mainGlobals mg) (c : He.SaysD (faE es gl) (fnE es) K) {e : Ent} (he : e ∈ es) : mg e.x = some (.ref (He.ga K e.x)) := He.glo_ok X G (c.facts (f := .glo e.x) (List.mem_append_right _ (List.mem_map_of_mem he)))
theorem all_kept (X : K.In h) (G : h.Ns mainGlobals mg) (c : He.SaysD (faE es gl) (fnE es) K) (hg : gl.all notFn = true) (hes : ∀ e ∈ es, EntOk (gkE es gl) e) (Wf : Nat) (base : Heap) (FD : Ent → FuncData) (hFD : ∀ e ∈ es, FunE K e (FD e)) :
    ∀ (n : Nat) (x : Str) (e : Ent), es.find? (fun e => decide (e.x = x)) = some e → L2.FnOk P w K mg base (L2.CX P w) n (He.ga K e.x) (FD e) (e.N.take e.np) (spD ⟨P, w, K, mg⟩ (callD (tabE es) Wf n) x e.np) := by
  have fact : ∀ {x : Str} {k : GK}, gkE es gl x = some k → notFn (x, k) = true → ∀ f ∈ fa1 (x, k), f.ok K = true := fun q hk f hf => c.facts (List.mem_append_left _ (List.mem_flatMap.mpr ⟨_, gk_gl q hk, hf⟩))
  have len : ∀ {e : Ent}, e ∈ es → (e.N.take e.np).length = e.np := fun he => by rw [List.length_take]; have := (hes _ he).np; omega
  intro n
  induction n with
  | zero =>
    intro x e q
    refine ⟨fun vs H Q E h => h.1.trans (len (find_ent q).1).symm, fun A outer s H args us vs Q E _ _ _ _ h => ?_⟩
    obtain ⟨_, ds, st, φ, _, _, hp⟩ := h
    exact False.elim hp
  | succ n ih =>
    intro x e q
    obtain ⟨he, ex⟩ := find_ent q
    have F := hFD e he
    have ok := hes e he
    have hT : tabE es x = some (.fn e.np e.N.length e.xs) := by unfold tabE; rw [q]; rfl
    have S := fnSc_of ok.sc
    refine F.ok (CX := L2.CX P w) (P := P) (w := w) (mg := mg) (base := base) S (fun vs H Q E h => h.1.trans (len he).symm) fun cdv A outer s H vs Q E hr hsp => ?_
    have hb := ok.body
    cases hcs : cSs (c := ⟨e.d.scope, e.N, gkE es gl, true⟩) (cS FUEL _) e.d.body with
    | none => rw [hcs] at hb; cases hb
    | some r =>
      rw [hcs] at hb
      have exs : r.xs = e.xs := Option.some.inj hb
      have Gd : Good ⟨e.d.scope, e.N, gkE es gl, true⟩ (callD (tabE es) Wf n) (L2.cxOf (L2.CX P w) P w K mg base e.N e.d.qual e.d.scope (He.ga K e.x) cdv A outer s H E) (fun cls d _ H' => E cls d H') :=
        { sc := rfl, N := rfl, nd := S.nd, calm := rfl, un := by
            have := hr.un
            show (A.deeper _).units + 200 < cLine
            omega
          int := fun x i q => He.int_ok X G (fact q rfl _ (List.mem_singleton.mpr rfl))
          str := fun x z q => He.str_ok X G (fact q rfl _ (List.mem_singleton.mpr rfl))
          free := fun x q => He.free_ok X G (fact q rfl _ (List.mem_singleton.mpr rfl))
          call := fun y np q => by
            obtain ⟨e', he', ey, hnp, hT'⟩ := gk_fn hg q
            have hq : ∃ e2, es.find? (fun e => decide (e.x = y)) = some e2 ∧ e2.np = np := by
              have q : gkE es gl y = some (.fn np) := q
              unfold gkE at q
              split at q
              · rename_i e2 h2; cases q; exact ⟨e2, h2, rfl⟩
              · have := List.all_eq_true.mp hg (y, .fn np) (lookupS q)
                cases this
            obtain ⟨e2, h2, rfl⟩ := hq
            obtain ⟨he2, ey2⟩ := find_ent h2
            have F2 := hFD e2 he2
            refine ⟨He.ga K e2.x, FD e2, e2.N.take e2.np, n, ?_, F2.kp, F2.bindsN fun kV doc pm an cdv ct us hl => (hes e2 he2).bind kV doc pm an cdv ct us hl, fun ds st hl => callD_len (by unfold tabE; rw [h2]; rfl) ds st hl, ih y e2 h2, hr⟩
            rw [← ey2]
            exact glo_ent X G c he2
          exc := fun x q => by
            have g1 := He.glo_ok X G (fact q rfl (.glo x) (by simp [fa1]))
            obtain ⟨k1, k2, k3, k4⟩ := He.exc_ok (fact q rfl (.exc x) (by simp [fa1]))
            exact ⟨_, g1, k1, k2, L2.raises_own k3 k4⟩
          own := L2.passes_of rfl
          tk := L2.takes_of rfl rfl rfl rfl
          fn := fun _ _ => rfl }
      refine ⟨_, r.ok _ Wf _ _ Gd, ?_⟩
      obtain ⟨hl, ds, st, φ, St, rs, hp⟩ := hsp
      refine ⟨_, st, φ, St, env_start rs e.N, ?_⟩
      rw [exs]
      have hd : ds.length = e.np := by rw [rs.length]; exact hl
      unfold callD at hp
      simp only [hT] at hp
      rw [if_pos hd, ← hd] at hp
      exact fin_post rfl hp
/-- the law's end: the law's def answers True in the small language -/
theorem law_end {l : PySem.W.OpenLaw} {n k Wf : Nat} {q : Program} {loose : List Str} {XP : (Str → Option Value) → Heap → Prop} {d : DefRec} {x : Str} {es : List Ent} {gl : Gl} {e : Ent}
    (hn : l.most = some n) (hn2 : n ≤ sizeLine) (hdf : d.params.defaults = []) (hr : L2.Room k callerA) (hg : gl.all notFn = true) (hes : ∀ e ∈ es, EntOk (gkE es gl) e) (hd : es.find? (fun e => decide (e.x = d.name)) = some e)
    (h1 : e.np = 1) (hx : e.N.take 1 = [x]) (hlaw : ∀ ns : List Int, ns.length ≤ n → ∃ st, callD (tabE es) Wf k d.name [.ro ns] [] = .ok (.bl true) st) :
    PySem.W.WalkO q loose XP (fun _ h => ∃ K : PySem.W.Frag, K.In h ∧ He.SaysD (faE es gl) (fnE es) K) l.row.toRowW d [] (fun f vs => PySem.call f vs) := by
  refine L2.walk_ofE (CX := L2.CX0) (k := k) (x := x) hn hn2 hdf hr ?_ (fun _ _ _ _ z => z)
  intro w mg fa h Y G hmg
  obtain ⟨K, KX, c⟩ := Y
  have hex : ∀ e' : Ent, ∃ fd, e' ∈ es → FunE K e' fd := fun e' => by
    by_cases he : e' ∈ es
    · obtain ⟨fd, F⟩ := fun_ent c he (hes e' he)
      exact ⟨fd, fun _ => F⟩
    · exact ⟨default, fun z => absurd z he⟩
  obtain ⟨FD, hFD⟩ := Classical.axiomOfChoice hex
  obtain ⟨he, ey⟩ := find_ent hd
  have ps : e.N.take e.np = [x] := by rw [h1]; exact hx
  have ga := glo_ent KX G c he
  rw [ey, hmg] at ga
  have F := hFD e he
  refine ⟨K, FD e, fun vs H Q E => spD ⟨l.prog, w, K, mg⟩ (callD (tabE es) Wf k) d.name e.np vs H Q (fun _ _ _ => False), KX, fun s u => ?_, fun H a ns hlen hO hS => ?_, fun base hb1 hb2 => ?_⟩
  · have b := F.bindsA (ps := e.N.take e.np) (fun kV doc pm an cdv ct us hl => (hes e he).bind kV doc pm an cdv ct us hl) s [u] (by rw [ps]; rfl)
    rw [ps] at b
    exact b
  · obtain ⟨st, hst⟩ := hlaw ns hlen
    refine ⟨h1.symm, [.ro ns], [], [], ⟨rfl, List.nodup_nil, fun n a c h1 h2 => by simp at h1⟩, .one ?_, ?_⟩
    · rcases hS with hS | hS
      · rcases hS with hS | ⟨o, hS⟩
        · rcases hO a with h0 | ⟨o, xs, h0⟩
          · rw [h0] at hS; cases hS
          · rw [h0] at hS; cases hS
        · exact .rof hS
      · exact .rok (.inr hS)
    · rw [hst]
      intro φ' H' v s S r
      cases r
      rfl
  · have A := all_kept (P := l.prog) (w := w) KX G c hg hes Wf base FD hFD k d.name e hd
    have e2 : He.ga K e.x = fa := by
      have := ga
      cases this
      rw [ey]
    rw [e2, ps] at A
    refine ⟨fun vs H Q E hq => ?_, fun A' outer s H args us vs Q E hr' e0 hb hv hq => ?_⟩
    · exact A.len vs H Q _ hq
    · refine codeAny_mono (A.run A' outer s H args us vs Q (fun _ _ _ => False) hr' e0 hb hv hq) fun r s' hc => ?_
      cases r with
      | ok f => cases f <;> exact hc
      | error e3 =>
        obtain ⟨_, _, _, _, _, _, _, _, _, _, _, _, z⟩ := hc
        exact z.elim
end
end IP

/-! PrA: what the small language answers: the calculus. -/
namespace IP.Q
open PySem
def ok {α : Type} (r : R α) (Q : α → Sto → Prop) : Prop := match r with
  | .ok a st => Q a st
  | _ => False
theorem ok_ok {α : Type} {a : α} {st : Sto} {Q : α → Sto → Prop} : ok (.ok a st) Q = Q a st := rfl
theorem ok_bad {α : Type} {Q : α → Sto → Prop} : ok (.bad : R α) Q = False := rfl
theorem ok_bind {α β : Type} {r : R α} {f : α → Sto → R β} {Q : β → Sto → Prop} : ok (r.bind f) Q = ok r fun a st => ok (f a st) Q := by cases r <;> rfl
theorem ok_mono {α : Type} {r : R α} {Q Q' : α → Sto → Prop} (h : ok r Q) (k : ∀ a st, Q a st → Q' a st) : ok r Q' := by
  cases r with
  | ok a st => exact k a st h
  | _ => exact h
/-- a suite's end: next, return, continue -/
def okS (r : SR) (N : Env → Sto → Prop) (Rt : D → Sto → Prop) (Ct : Env → Sto → Prop) : Prop := match r with
  | .next ρ st => N ρ st
  | .ret d st => Rt d st
  | .cont ρ st => Ct ρ st
  | _ => False
theorem okS_mono {r : SR} {N N' : Env → Sto → Prop} {Rt Rt' : D → Sto → Prop} {Ct Ct' : Env → Sto → Prop} (h : okS r N Rt Ct) (h1 : ∀ ρ st, N ρ st → N' ρ st) (h2 : ∀ d st, Rt d st → Rt' d st) (h3 : ∀ ρ st, Ct ρ st → Ct' ρ st) : okS r N' Rt' Ct' := by
  cases r with
  | next ρ st => exact h1 _ _ h
  | ret d st => exact h2 _ _ h
  | cont ρ st => exact h3 _ _ h
  | _ => exact h
theorem okS_ofR {α : Type} {ρ : Env} {r : R α} {f : α → Sto → SR} {N : Env → Sto → Prop} {Rt : D → Sto → Prop} {Ct : Env → Sto → Prop} : okS (SR.ofR ρ r f) N Rt Ct = ok r fun a st => okS (f a st) N Rt Ct := by cases r <;> rfl
section
variable {C : Str → List D → Sto → R D} {W : Nat} {ρ : Env} {st : Sto} {Q : D → Sto → Prop} {N : Env → Sto → Prop} {Rt : D → Sto → Prop} {Ct : Env → Sto → Prop}
theorem w_k {d : D} : ok (ev C (.k d) ρ st) Q = Q d st := by rw [ev]; rfl
theorem w_lc {i : Nat} {d : D} (h : ρ[i]? = some (some d)) : ok (ev C (.lc i) ρ st) Q = Q d st := by rw [ev]; simp only [h]; rfl
theorem w_bin {o : Bop} {a b : Ex} : ok (ev C (.bin o a b) ρ st) Q = ok (ev C a ρ st) fun x s1 => ok (ev C b ρ s1) fun y s2 => ok (binD o x y s2) Q := by rw [ev]; simp only [ok_bind]
theorem w_cmp {o : Cop} {a b : Ex} : ok (ev C (.cmp o a b) ρ st) Q = ok (ev C a ρ st) fun x s1 => ok (ev C b ρ s1) fun y s2 => ok (okB (cmpD o x y s2) s2) Q := by rw [ev]; simp only [ok_bind]
theorem w_neg {a : Ex} : ok (ev C (.neg a) ρ st) Q = ok (ev C a ρ st) fun x s1 => ∃ i, x = .int i ∧ Q (.int (-i)) s1 := by
  rw [ev, ok_bind]
  congr 1; funext x s1
  cases x <;> simp [ok]
theorem w_not {a : Ex} : ok (ev C (.not a) ρ st) Q = ok (ev C a ρ st) fun x s1 => ∃ b, x = .bl b ∧ Q (.bl (!b)) s1 := by
  rw [ev, ok_bind]
  congr 1; funext x s1
  cases x <;> simp [ok]
theorem w_and {a b : Ex} : ok (ev C (.and a b) ρ st) Q = ok (ev C a ρ st) fun x s1 => (x = .bl true ∧ ok (ev C b ρ s1) Q) ∨ (x = .bl false ∧ Q (.bl false) s1) := by
  rw [ev, ok_bind]
  congr 1; funext x s1
  cases x <;> simp [ok]
  rename_i b
  cases b <;> simp [ok]
theorem w_or {a b : Ex} : ok (ev C (.or a b) ρ st) Q = ok (ev C a ρ st) fun x s1 => (x = .bl true ∧ Q (.bl true) s1) ∨ (x = .bl false ∧ ok (ev C b ρ s1) Q) := by
  rw [ev, ok_bind]
  congr 1; funext x s1
  cases x <;> simp [ok]
  rename_i b
  cases b <;> simp [ok]
theorem w_chn {o p : Cop} {a b c : Ex} : ok (ev C (.chn o p a b c) ρ st) Q = ok (ev C a ρ st) fun x s1 => ok (ev C b ρ s1) fun y s2 => (cmpD o x y s2 = some true ∧ ok (ev C c ρ s2) fun z s3 => ok (okB (cmpD p y z s3) s3) Q) ∨ (cmpD o x y s2 = some false ∧ Q (.bl false) s2) := by
  rw [ev]
  simp only [ok_bind]
  congr 1; funext x s1
  congr 1; funext y s2
  cases cmpD o x y s2 with
  | none => simp [ok]
  | some b => cases b <;> simp [ok_bind, ok_ok]
theorem w_isN {a : Ex} : ok (ev C (.isN a) ρ st) Q = ok (ev C a ρ st) fun x s1 => Q (.bl (decide (x = .non))) s1 := by rw [ev]; simp only [ok_bind]; rfl
theorem w_notN {a : Ex} : ok (ev C (.notN a) ρ st) Q = ok (ev C a ρ st) fun x s1 => Q (.bl (!decide (x = .non))) s1 := by rw [ev]; simp only [ok_bind]; rfl
theorem w_call {f : Str} {es : Exs} : ok (ev C (.call f es) ρ st) Q = ok (evs C es ρ st) fun ds s1 => ok (C f ds s1) Q := by rw [ev, ok_bind]
theorem w_bi {b : Bi} {e : Ex} : ok (ev C (.bi b e) ρ st) Q = ok (ev C e ρ st) fun x s1 => ok (biD b x s1) Q := by rw [ev, ok_bind]
theorem w_lset {e : Ex} : ok (ev C (.lset e) ρ st) Q = ok (ev C e ρ st) fun x s1 => ok (lsetD x s1) Q := by rw [ev, ok_bind]
theorem w_bm {m : Bm} {o : Ex} {es : Exs} : ok (ev C (.bm m o es) ρ st) Q = ok (ev C o ρ st) fun x s1 => rcv m x s1 = true ∧ ok (evs C es ρ s1) fun ds s2 => ok (bmD m x ds s2) Q := by
  rw [ev, ok_bind]
  congr 1; funext x s1
  split
  · rename_i h; simp only [h, true_and, ok_bind]
  · rename_i h; simp [h, ok]
theorem w_isT {e : Ex} {T : Ty} : ok (ev C (.isT e T) ρ st) Q = ok (ev C e ρ st) fun x s1 => ok (okB (isTD x T s1) s1) Q := by rw [ev, ok_bind]
theorem w_ix {a i : Ex} : ok (ev C (.ix a i) ρ st) Q = ok (ev C a ρ st) fun x s1 => ok (ev C i ρ s1) fun y s2 => ok (ixD x y s2) Q := by rw [ev]; simp only [ok_bind]
theorem w_sl {a : Ex} {l h : Exo} : ok (ev C (.sl a l h) ρ st) Q = ok (ev C a ρ st) fun x s1 => ok (evo C l ρ s1) fun i s2 => ok (evo C h ρ s2) fun j s3 => ok (slD x i j s3) Q := by rw [ev]; simp only [ok_bind]
theorem w_tup {es : Exs} : ok (ev C (.tup es) ρ st) Q = ok (evs C es ρ st) fun ds s1 => ds.length ≤ LIM ∧ Q (.tup ds) s1 := by
  rw [ev, ok_bind]
  congr 1; funext ds s1
  split
  · rename_i h; simp [h, ok]
  · rename_i h; simp [h, ok]
theorem w_lst {es : Exs} : ok (ev C (.lst es) ρ st) Q = ok (evs C es ρ st) fun ds s1 => ds.length ≤ LIM ∧ Q (.ref s1.length) (s1 ++ [.lst ds]) := by
  rw [ev, ok_bind]
  congr 1; funext ds s1
  split
  · rename_i h; simp [h, ok]
  · rename_i h; simp [h, ok]
theorem w_dnew : ok (ev C (.dct .nil) ρ st) Q = Q (.ref st.length) (st ++ [.dic []]) := by rw [ev, evd]; rfl
theorem w_nil {Q : List D → Sto → Prop} : ok (evs C .nil ρ st) Q = Q [] st := by rw [evs]; rfl
theorem w_cons {e : Ex} {es : Exs} {Q : List D → Sto → Prop} : ok (evs C (.cons e es) ρ st) Q = ok (ev C e ρ st) fun d s1 => ok (evs C es ρ s1) fun ds s2 => Q (d :: ds) s2 := by
  rw [evs]; simp only [ok_bind]; rfl
theorem w_none {Q : Option Int → Sto → Prop} : ok (evo C .none ρ st) Q = Q none st := by rw [evo]; rfl
theorem w_some {e : Ex} {Q : Option Int → Sto → Prop} : ok (evo C (.some e) ρ st) Q = ok (ev C e ρ st) fun x s1 => ∃ i, x = .int i ∧ Q (some i) s1 := by
  rw [evo, ok_bind]
  congr 1; funext x s1
  cases x <;> simp [ok]
theorem w_cno {Q : Bool → Sto → Prop} : ok (evc C .none ρ st) Q = Q true st := by rw [evc]; rfl
theorem w_csome {e : Ex} {Q : Bool → Sto → Prop} : ok (evc C (.some e) ρ st) Q = ok (ev C e ρ st) fun x s1 => ∃ b, x = .bl b ∧ Q b s1 := by
  rw [evc, ok_bind]
  congr 1; funext x s1
  cases x <;> simp [ok]
theorem w_comp {e : Ex} {t : Tg} {it : Itr} {c : Exo} {own : List Nat} : ok (ev C (.comp e t it c own) ρ st) Q = ok (evi C it ρ st) fun p s1 => okW p.2 s1 = true ∧
    ok (compL (fun d st2 => match asg t d (wipe ρ own) st2 with
      | some ρ' => (evc C c ρ' st2).bind fun b st3 => if b then (ev C e ρ' st3).bind fun y st4 => .ok (some y) st4 else .ok none st3
      | none => .bad) p.2 p.1 [] s1) fun ys s2 => Q (.ref s2.length) (s2 ++ [.lst ys]) := by
  rw [ev, ok_bind]
  congr 1; funext p s1
  split
  · rename_i h; simp only [h, true_and, ok_bind]; rfl
  · rename_i h; simp [h, ok]
theorem w_val {e : Ex} {Q : List D × Watch → Sto → Prop} : ok (evi C (.val e) ρ st) Q = ok (ev C e ρ st) fun d s1 => ∃ p, walkOf d s1 = some p ∧ Q p s1 := by
  rw [evi, ok_bind]
  congr 1; funext x s1
  cases walkOf x s1 <;> simp [ok]
theorem w_enm {e : Ex} {Q : List D × Watch → Sto → Prop} : ok (evi C (.enm e) ρ st) Q = ok (ev C e ρ st) fun d s1 => ∃ p, seqOf d s1 = some p ∧ Q (zipI 0 p.1, p.2) s1 := by
  rw [evi, ok_bind]
  congr 1; funext x s1
  cases seqOf x s1 <;> simp [ok]
theorem w_rng {e : Ex} {Q : List D × Watch → Sto → Prop} : ok (evi C (.rng e) ρ st) Q = ok (ev C e ρ st) fun d s1 => ∃ j, d = .int j ∧ small62 j = true ∧ Q (rngD 0 j.toNat, []) s1 := by
  rw [evi, ok_bind]
  congr 1; funext x s1
  cases x with
  | int j =>
    by_cases h : small62 j = true
    · simp [h, ok]
    · simp [h, ok]
  | _ => simp [ok]
/-! statements -/
theorem s_nil : okS (excs C W .nil ρ st) N Rt Ct = N ρ st := by rw [excs]; rfl
theorem s_cons {s : St} {ss : Sts} : okS (excs C W (.cons s ss) ρ st) N Rt Ct = okS (exc C W s ρ st) (fun ρ' st' => okS (excs C W ss ρ' st') N Rt Ct) Rt Ct := by
  rw [excs]
  cases exc C W s ρ st <;> rfl
theorem s_asg {t : Tg} {e : Ex} : okS (exc C W (.asg t e) ρ st) N Rt Ct = ok (ev C e ρ st) fun d s1 => ∃ ρ', asg t d ρ s1 = some ρ' ∧ N ρ' s1 := by
  rw [exc, okS_ofR]
  congr 1; funext d s1
  cases asg t d ρ s1 <;> simp [okS]
theorem s_ife {c : Ex} {a b : Sts} : okS (exc C W (.ife c a b) ρ st) N Rt Ct = ok (ev C c ρ st) fun d s1 => (d = .bl true ∧ okS (excs C W a ρ s1) N Rt Ct) ∨ (d = .bl false ∧ okS (excs C W b ρ s1) N Rt Ct) := by
  rw [exc, okS_ofR]
  congr 1; funext d s1
  cases d <;> simp [okS]
  rename_i b
  cases b <;> simp
theorem s_ret {e : Ex} : okS (exc C W (.ret e) ρ st) N Rt Ct = ok (ev C e ρ st) fun d s1 => Rt d s1 := by
  rw [exc, okS_ofR]; rfl
theorem s_exp {e : Ex} : okS (exc C W (.exp e) ρ st) N Rt Ct = ok (ev C e ρ st) fun d s1 => N ρ s1 := by
  rw [exc, okS_ofR]; rfl
theorem s_pass : okS (exc C W .pass ρ st) N Rt Ct = N ρ st := by rw [exc]; rfl
theorem s_fr {t : Tg} {it : Itr} {b : Sts} : okS (exc C W (.fr t it b) ρ st) N Rt Ct = ok (evi C it ρ st) fun p s1 => okW p.2 s1 = true ∧ okS (forL (fun d ρ' st' => match asg t d ρ' st' with
      | some ρ'' => excs C W b ρ'' st'
      | none => .bad) p.2 p.1 ρ s1) N Rt Ct := by
  rw [exc, okS_ofR]
  congr 1; funext p s1
  split
  · rename_i h; (simp only [h, true_and]) <;> rfl
  · rename_i h; simp [h, okS]
/-- the turns of a for: I by the turn -/
theorem for_rule {f : D → Env → Sto → SR} {w : Watch} (I : Nat → Env → Sto → Prop) : ∀ (ds : List D) (k : Nat) (ρ : Env) (st : Sto), I k ρ st →
    (∀ i d ρ st, ds[i]? = some d → I (k + i) ρ st → okS (f d ρ st) (fun ρ' st' => I (k + i + 1) ρ' st' ∧ okW w st' = true) Rt (fun ρ' st' => I (k + i + 1) ρ' st' ∧ okW w st' = true)) →
    (∀ ρ st, I (k + ds.length) ρ st → N ρ st) → okS (forL f w ds ρ st) N Rt Ct
  | [], k, ρ, st, h0, _, hn => hn ρ st h0
  | d :: ds, k, ρ, st, h0, hs, hn => by
    have h1 := hs 0 d ρ st rfl h0
    unfold forL
    cases e : f d ρ st with
    | next ρ' st' =>
      rw [e] at h1
      have h1 : I (k + 0 + 1) ρ' st' ∧ okW w st' = true := h1
      dsimp only
      rw [if_pos h1.2]
      exact for_rule I ds (k + 1) ρ' st' h1.1 (fun i d ρ st hi hI => by
        have := hs (i + 1) d ρ st (by simpa using hi) (by rw [show k + (i + 1) = k + 1 + i by omega]; exact hI)
        rw [show k + (i + 1) = k + 1 + i by omega] at this
        exact this) fun ρ st hI => hn ρ st (by rw [List.length_cons, show k + (ds.length + 1) = k + 1 + ds.length by omega]; exact hI)
    | cont ρ' st' =>
      rw [e] at h1
      have h1 : I (k + 0 + 1) ρ' st' ∧ okW w st' = true := h1
      dsimp only
      rw [if_pos h1.2]
      exact for_rule I ds (k + 1) ρ' st' h1.1 (fun i d ρ st hi hI => by
        have := hs (i + 1) d ρ st (by simpa using hi) (by rw [show k + (i + 1) = k + 1 + i by omega]; exact hI)
        rw [show k + (i + 1) = k + 1 + i by omega] at this
        exact this) fun ρ st hI => hn ρ st (by rw [List.length_cons, show k + (ds.length + 1) = k + 1 + ds.length by omega]; exact hI)
    | ret d' st' => rw [e] at h1; exact h1
    | bad => rw [e] at h1; exact h1
    | exc _ _ _ => rw [e] at h1; exact h1
    | brk _ _ => rw [e] at h1; exact h1.elim
end
/-- more of the store, the old cells as they were -/
def Ext (st st' : Sto) : Prop := ∃ t, st' = st ++ t
theorem Ext.refl (st : Sto) : Ext st st := ⟨[], by simp⟩
theorem Ext.trans {a b c : Sto} (h : Ext a b) (k : Ext b c) : Ext a c := by
  obtain ⟨t, rfl⟩ := h
  obtain ⟨u, rfl⟩ := k
  exact ⟨t ++ u, by rw [List.append_assoc]⟩
theorem Ext.more {a : Sto} (t : Sto) : Ext a (a ++ t) := ⟨t, rfl⟩
theorem Ext.at_ {a b : Sto} (h : Ext a b) {n : Nat} {c : Cell} (e : a[n]? = some c) : b[n]? = some c := by
  obtain ⟨t, rfl⟩ := h
  rw [List.getElem?_append_left (List.getElem?_eq_some_iff.mp e).1]; exact e
theorem Ext.okW {a b : Sto} (h : Ext a b) {w : Watch} (e : okW w a = true) : okW w b = true := by
  unfold IP.okW at *
  rw [List.all_eq_true] at *
  intro p hp
  have := of_decide_eq_true (e p hp)
  exact decide_eq_true (h.at_ this)
theorem Ext.len {a b : Sto} (h : Ext a b) : a.length ≤ b.length := by
  obtain ⟨t, rfl⟩ := h
  simp
/-- a cell behind the old ones is written -/
theorem Ext.set {a b : Sto} (h : Ext a b) {n : Nat} {c : Cell} (hn : a.length ≤ n) : Ext a (b.set n c) := by
  obtain ⟨t, rfl⟩ := h
  rw [List.set_append_right _ _ hn]
  exact ⟨_, rfl⟩
/-- a comprehension's turns, each of its value: g by the item -/
theorem comp_rule {f : D → Sto → R (Option D)} {w : Watch} {st0 : Sto} (g : D → Option D) (hw : okW w st0 = true) : ∀ (ds acc : List D) (st : Sto), Ext st0 st → acc.length + ds.length ≤ LIM → (∀ d ∈ ds, ∀ st, Ext st0 st → ok (f d st) fun o st' => Ext st st' ∧ o = g d) →
    ok (compL f w ds acc st) fun ys st' => Ext st st' ∧ ys = acc ++ ds.filterMap g
  | [], acc, st, _, _, _ => ⟨Ext.refl _, by simp⟩
  | d :: ds, acc, st, h0, hl, hs => by
    have h1 := hs d List.mem_cons_self st h0
    unfold compL
    rw [List.length_cons] at hl
    cases e : f d st with
    | ok o st' =>
      rw [e] at h1
      obtain ⟨h2, rfl⟩ := h1
      have h3 := h0.trans h2
      have h4 : okW w st' = true := h3.okW hw
      cases hg : g d with
      | none =>
        dsimp only
        rw [if_pos h4]
        refine ok_mono (comp_rule g hw ds acc st' h3 (by omega) fun d hd => hs d (List.mem_cons_of_mem _ hd)) fun ys s ⟨k1, k2⟩ => ⟨h2.trans k1, ?_⟩
        rw [List.filterMap_cons, hg]; exact k2
      | some y =>
        dsimp only
        rw [h4, if_pos (by simp; omega)]
        refine ok_mono (comp_rule g hw ds (acc ++ [y]) st' h3 (by rw [List.length_append, List.length_singleton]; omega) fun d hd => hs d (List.mem_cons_of_mem _ hd)) fun ys s ⟨k1, k2⟩ => ⟨h2.trans k1, ?_⟩
        rw [List.filterMap_cons, hg]
        simpa using k2
    | bad => rw [e] at h1; exact h1.elim
    | exc _ _ => rw [e] at h1; exact h1.elim
/-- a call -/
theorem call_ok {T : Tab} {W n : Nat} {f : Str} {np ns : Nat} {body : Sts} {ds : List D} {st : Sto} {Q : D → Sto → Prop} (hT : T f = some (.fn np ns body)) (hl : ds.length = np)
    (h : okS (excs (callD T W n) W body (ds.map some ++ List.replicate (ns - np) none) st) (fun _ s => Q .non s) Q fun _ _ => False) : ok (callD T W (n + 1) f ds st) Q := by
  unfold callD
  simp only [hT]
  rw [if_pos hl]
  cases e : excs (callD T W n) W body (ds.map some ++ List.replicate (ns - np) none) st with
  | next ρ s => rw [e] at h; exact h
  | ret d s => rw [e] at h; exact h
  | cont ρ s => rw [e] at h; exact h.elim
  | bad => rw [e] at h; exact h
  | exc _ _ _ => rw [e] at h; exact h
  | brk _ _ => rw [e] at h; exact h
end IP.Q

namespace IP.Q
open PySem
def p_is_word : Sts :=
  (.cons (.ret (.and (.isT (.lc 0) .str) (.and (.chn .le .le (.k (.int 1)) (.bi .len (.lc 0)) (.k (.int 6))) (.bi .all (.comp (.cmp .isin (.lc 1) (.k (.str "abcdefghijklmnopqrstuvwxyz"))) (.nm 1) (.val (.lc 0)) .none [1]))))) .nil)
def p_is_whole : Sts :=
  (.cons (.ret (.and (.isT (.lc 0) .int) (.and (.not (.isT (.lc 0) .bool)) (.chn .le .le (.lc 1) (.lc 0) (.lc 2))))) .nil)
def p_is_row : Sts :=
  (.cons (.ife (.or (.not (.isT (.lc 0) .tuple)) (.or (.cmp .eq (.bi .len (.lc 0)) (.k (.int 0))) (.not (.isT (.ix (.lc 0) (.k (.int 0))) .str)))) 
    (.cons (.ret (.k (.bl false))) .nil) .nil)
  (.cons (.ife (.cmp .eq (.ix (.lc 0) (.k (.int 0))) (.k (.str "put"))) 
    (.cons (.ret (.and (.cmp .eq (.bi .len (.lc 0)) (.k (.int 3))) (.and (.call "is_word" (.cons (.ix (.lc 0) (.k (.int 1))) .nil)) (.call "is_whole" (.cons (.ix (.lc 0) (.k (.int 2))) (.cons (.k (.int 0)) (.cons (.k (.int 99)) .nil))))))) .nil) .nil)
  (.cons (.ife (.cmp .eq (.ix (.lc 0) (.k (.int 0))) (.k (.str "read"))) 
    (.cons (.ret (.and (.cmp .eq (.bi .len (.lc 0)) (.k (.int 4))) (.bi .all (.comp (.call "is_word" (.cons (.lc 1) .nil)) (.nm 1) (.val (.sl (.lc 0) (.some (.k (.int 1))) .none)) .none [1])))) .nil) .nil)
  (.cons (.ret (.and (.cmp .isin (.ix (.lc 0) (.k (.int 0))) (.tup (.cons (.k (.str "need")) (.cons (.k (.str "note")) (.cons (.k (.str "fail")) .nil))))) (.and (.cmp .eq (.bi .len (.lc 0)) (.k (.int 2))) (.call "is_word" (.cons (.ix (.lc 0) (.k (.int 1))) .nil))))) .nil))))
def p_is_file : Sts :=
  (.cons (.ife (.or (.not (.isT (.lc 0) .tuple)) (.or (.cmp .ne (.bi .len (.lc 0)) (.k (.int 5))) (.not (.isT (.ix (.lc 0) (.k (.int 0))) .str)))) 
    (.cons (.ret (.k (.bl false))) .nil) .nil)
  (.cons (.ife (.or (.cmp .notin (.ix (.lc 0) (.k (.int 0))) (.tup (.cons (.k (.str "class")) (.cons (.k (.str "face")) .nil)))) (.not (.call "is_word" (.cons (.ix (.lc 0) (.k (.int 1))) .nil)))) 
    (.cons (.ret (.k (.bl false))) .nil) .nil)
  (.cons (.ife (.and (.notN (.ix (.lc 0) (.k (.int 2)))) (.or (.cmp .eq (.ix (.lc 0) (.k (.int 0))) (.k (.str "face"))) (.not (.call "is_word" (.cons (.ix (.lc 0) (.k (.int 2))) .nil))))) 
    (.cons (.ret (.k (.bl false))) .nil) .nil)
  (.cons (.ife (.or (.not (.isT (.ix (.lc 0) (.k (.int 3))) .tuple)) (.or (.cmp .gt (.bi .len (.ix (.lc 0) (.k (.int 3)))) (.k (.int 2))) (.not (.bi .all (.comp (.call "is_word" (.cons (.lc 1) .nil)) (.nm 1) (.val (.ix (.lc 0) (.k (.int 3)))) .none [1]))))) 
    (.cons (.ret (.k (.bl false))) .nil) .nil)
  (.cons (.ife (.or (.cmp .ne (.lset (.ix (.lc 0) (.k (.int 3)))) (.bi .len (.ix (.lc 0) (.k (.int 3))))) (.or (.not (.isT (.ix (.lc 0) (.k (.int 4))) .tuple)) (.cmp .gt (.bi .len (.ix (.lc 0) (.k (.int 4)))) (.k (.int 5))))) 
    (.cons (.ret (.k (.bl false))) .nil) .nil)
  (.cons (.ret (.bi .all (.comp (.call "is_row" (.cons (.lc 2) .nil)) (.nm 2) (.val (.ix (.lc 0) (.k (.int 4)))) .none [2]))) .nil))))))
def p_is_shelf : Sts :=
  (.cons (.ife (.or (.not (.isT (.lc 0) .tuple)) (.or (.cmp .gt (.bi .len (.lc 0)) (.k (.int 4))) (.not (.bi .all (.comp (.call "is_file" (.cons (.lc 1) .nil)) (.nm 1) (.val (.lc 0)) .none [1]))))) 
    (.cons (.ret (.k (.bl false))) .nil) .nil)
  (.cons (.ret (.cmp .eq (.lset (.comp (.ix (.lc 1) (.k (.int 1))) (.nm 1) (.val (.lc 0)) .none [1])) (.bi .len (.lc 0)))) .nil))
def p_is_world : Sts :=
  (.cons (.ife (.or (.not (.isT (.lc 0) .tuple)) (.not (.chn .le .le (.k (.int 1)) (.bi .len (.lc 0)) (.k (.int 4))))) 
    (.cons (.ret (.k (.bl false))) .nil) .nil)
  (.cons (.fr (.tp (.cons (.nm 1) (.cons (.nm 2) .nil))) (.enm (.lc 0)) 
    (.cons (.ife (.or (.not (.isT (.lc 2) .tuple)) (.or (.cmp .ne (.bi .len (.lc 2)) (.k (.int 2))) (.not (.call "is_shelf" (.cons (.ix (.lc 2) (.k (.int 1))) .nil))))) 
      (.cons (.ret (.k (.bl false))) .nil) .nil)
    (.cons (.ife (.and (.notN (.ix (.lc 2) (.k (.int 0)))) (.not (.call "is_whole" (.cons (.ix (.lc 2) (.k (.int 0))) (.cons (.k (.int 0)) (.cons (.bin .sub (.lc 1) (.k (.int 1))) .nil)))))) 
      (.cons (.ret (.k (.bl false))) .nil) .nil) .nil)))
  (.cons (.ret (.k (.bl true))) .nil)))
def p_need_world : Sts :=
  (.cons (.ife (.not (.call "is_world" (.cons (.lc 0) .nil))) 
    (.cons (.rse "NoWorld") .nil) .nil) .nil)
def p_file_on : Sts :=
  (.cons (.fr (.nm 2) (.val (.lc 0)) 
    (.cons (.ife (.cmp .eq (.ix (.lc 2) (.k (.int 1))) (.lc 1)) 
      (.cons (.ret (.lc 2)) .nil) .nil) .nil))
  (.cons (.ret (.k .non)) .nil))
def p_line_of : Sts :=
  (.cons (.asg (.nm 2) (.lst .nil))
  (.cons (.whl (.notN (.lc 1)) 
    (.cons (.asg (.nm 2) (.bin .add (.lst (.cons (.lc 1) .nil)) (.lc 2)))
    (.cons (.asg (.nm 1) (.ix (.ix (.lc 0) (.lc 1)) (.k (.int 0)))) .nil)))
  (.cons (.ret (.lc 2)) .nil)))
def p_found_by : Sts :=
  (.cons (.fr (.nm 3) (.val (.call "line_of" (.cons (.lc 0) (.cons (.lc 1) .nil)))) 
    (.cons (.ife (.notN (.call "file_on" (.cons (.ix (.ix (.lc 0) (.lc 3)) (.k (.int 1))) (.cons (.lc 2) .nil)))) 
      (.cons (.ret (.tup (.cons (.lc 3) (.cons (.lc 2) .nil)))) .nil) .nil) .nil))
  (.cons (.ret (.k .non)) .nil))
def p_classes : Sts :=
  (.cons (.exp (.call "need_world" (.cons (.lc 0) .nil)))
  (.cons (.asg (.nm 1) (.lst .nil))
  (.cons (.fr (.tp (.cons (.nm 2) (.cons (.nm 3) .nil))) (.enm (.lc 0)) 
    (.cons (.exp (.bm .extend (.lc 1) (.cons (.comp (.tup (.cons (.lc 2) (.cons (.ix (.lc 4) (.k (.int 1))) .nil))) (.nm 4) (.val (.ix (.lc 3) (.k (.int 1)))) (.some (.cmp .eq (.call "found_by" (.cons (.lc 0) (.cons (.lc 2) (.cons (.ix (.lc 4) (.k (.int 1))) .nil)))) (.tup (.cons (.lc 2) (.cons (.ix (.lc 4) (.k (.int 1))) .nil))))) [4]) .nil))) .nil))
  (.cons (.ret (.bi .sorted (.lc 1))) .nil))))
def p_shadowed : Sts :=
  (.cons (.exp (.call "need_world" (.cons (.lc 0) .nil)))
  (.cons (.asg (.nm 1) (.lst .nil))
  (.cons (.fr (.tp (.cons (.nm 2) (.cons (.nm 3) .nil))) (.enm (.lc 0)) 
    (.cons (.exp (.bm .extend (.lc 1) (.cons (.comp (.tup (.cons (.lc 2) (.cons (.ix (.lc 4) (.k (.int 1))) .nil))) (.nm 4) (.val (.ix (.lc 3) (.k (.int 1)))) (.some (.cmp .ne (.call "found_by" (.cons (.lc 0) (.cons (.lc 2) (.cons (.ix (.lc 4) (.k (.int 1))) .nil)))) (.tup (.cons (.lc 2) (.cons (.ix (.lc 4) (.k (.int 1))) .nil))))) [4]) .nil))) .nil))
  (.cons (.ret (.bi .sorted (.lc 1))) .nil))))
def l_cell_at : Sts :=
  (.cons (.ife (.cmp .lt (.lc 1) (.bi .len (.lc 0))) 
    (.cons (.ret (.ix (.lc 0) (.lc 1))) .nil) .nil)
  (.cons (.ife (.cmp .eq (.lc 0) (.lst .nil)) 
    (.cons (.ret (.k (.int 0))) .nil) .nil)
  (.cons (.ret (.bin .add (.bin .mul (.ix (.lc 0) (.bin .mod (.lc 1) (.bi .len (.lc 0)))) (.k (.int 31))) (.lc 1))) .nil)))
def l_mixed : Sts :=
  (.cons (.asg (.nm 3) (.bin .mod (.bin .mul (.bin .add (.bin .add (.call "_law_cell_at" (.cons (.lc 0) (.cons (.lc 1) .nil))) (.bin .mul (.k (.int 7919)) (.lc 1))) (.k (.int 1))) (.k (.int 48271))) (.k (.int 2147483647))))
  (.cons (.ret (.bin .mod (.bin .mod (.bin .add (.bin .add (.bin .mul (.lc 3) (.lc 3)) (.bin .mul (.k (.int 7)) (.lc 3))) (.lc 1)) (.k (.int 2147483629))) (.lc 2))) .nil))
def l_word : Sts :=
  (.cons (.asg (.nm 2) (.k (.str "")))
  (.cons (.fr (.nm 3) (.rng (.ix (.lst (.cons (.k (.int 1)) (.cons (.k (.int 2)) (.cons (.k (.int 3)) (.cons (.k (.int 6)) (.cons (.k (.int 1)) (.cons (.k (.int 4)) .nil))))))) (.call "_law_mixed" (.cons (.lc 0) (.cons (.lc 1) (.cons (.k (.int 6)) .nil)))))) 
    (.cons (.asg (.nm 2) (.bin .add (.lc 2) (.ix (.k (.str "abcdefghijklmnopqrstuvwxyz")) (.call "_law_mixed" (.cons (.lc 0) (.cons (.bin .add (.bin .add (.lc 1) (.k (.int 1))) (.lc 3)) (.cons (.k (.int 26)) .nil))))))) .nil))
  (.cons (.ret (.lc 2)) .nil)))
def l_names : Sts :=
  (.cons (.asg (.nm 2) (.dct .nil))
  (.cons (.fr (.nm 3) (.rng (.k (.int 4))) 
    (.cons (.aset (.lc 2) (.call "_law_word" (.cons (.lc 0) (.cons (.bin .add (.lc 1) (.bin .mul (.k (.int 8)) (.lc 3))) .nil))) (.k (.bl true))) .nil))
  (.cons (.ret (.bi .list (.lc 2))) .nil)))
def l_row : Sts :=
  (.cons (.asg (.nm 3) (.call "_law_mixed" (.cons (.lc 0) (.cons (.lc 1) (.cons (.k (.int 12)) .nil)))))
  (.cons (.asg (.nm 4) (.ix (.lc 2) (.call "_law_mixed" (.cons (.lc 0) (.cons (.bin .add (.lc 1) (.k (.int 1))) (.cons (.bi .len (.lc 2)) .nil))))))
  (.cons (.asg (.nm 5) (.ix (.lst (.cons (.k (.str "f")) (.cons (.k (.str "g")) .nil))) (.call "_law_mixed" (.cons (.lc 0) (.cons (.bin .add (.lc 1) (.k (.int 2))) (.cons (.k (.int 2)) .nil))))))
  (.cons (.ife (.cmp .lt (.lc 3) (.k (.int 4))) 
    (.cons (.ret (.tup (.cons (.k (.str "put")) (.cons (.lc 5) (.cons (.call "_law_mixed" (.cons (.lc 0) (.cons (.bin .add (.lc 1) (.k (.int 3))) (.cons (.k (.int 100)) .nil)))) .nil))))) .nil) .nil)
  (.cons (.ife (.cmp .lt (.lc 3) (.k (.int 7))) 
    (.cons (.ret (.tup (.cons (.k (.str "read")) (.cons (.lc 5) (.cons (.lc 4) (.cons (.ix (.lst (.cons (.k (.str "f")) (.cons (.k (.str "g")) .nil))) (.call "_law_mixed" (.cons (.lc 0) (.cons (.bin .add (.lc 1) (.k (.int 3))) (.cons (.k (.int 2)) .nil))))) .nil)))))) .nil) .nil)
  (.cons (.ife (.cmp .lt (.lc 3) (.k (.int 10))) 
    (.cons (.ret (.tup (.cons (.k (.str "need")) (.cons (.lc 4) .nil)))) .nil) .nil)
  (.cons (.ret (.tup (.cons (.ix (.lst (.cons (.k (.str "note")) (.cons (.k (.str "note")) (.cons (.k (.str "fail")) .nil)))) (.call "_law_mixed" (.cons (.lc 0) (.cons (.bin .add (.lc 1) (.k (.int 3))) (.cons (.k (.int 3)) .nil))))) (.cons (.ix (.lst (.cons (.k (.str "x")) (.cons (.k (.str "y")) .nil))) (.call "_law_mixed" (.cons (.lc 0) (.cons (.bin .add (.lc 1) (.k (.int 2))) (.cons (.k (.int 2)) .nil))))) .nil)))) .nil)))))))
def l_file : Sts :=
  (.cons (.asg (.nm 5) (.k (.str "class")))
  (.cons (.ife (.ix (.lst (.cons (.cmp .eq (.lc 3) (.ix (.lc 2) (.neg (.k (.int 1))))) (.cons (.cmp .eq (.call "_law_mixed" (.cons (.lc 0) (.cons (.lc 1) (.cons (.k (.int 2)) .nil)))) (.k (.int 0))) .nil))) (.bi .int (.cmp .eq (.call "_law_mixed" (.cons (.lc 0) (.cons (.bin .add (.lc 1) (.k (.int 1))) (.cons (.k (.int 8)) .nil)))) (.k (.int 0))))) 
    (.cons (.asg (.nm 5) (.k (.str "face"))) .nil) .nil)
  (.cons (.asg (.nm 6) (.k .non))
  (.cons (.ife (.and (.cmp .eq (.lc 5) (.k (.str "class"))) (.cmp .eq (.call "_law_mixed" (.cons (.lc 0) (.cons (.bin .add (.lc 1) (.k (.int 1))) (.cons (.k (.int 3)) .nil)))) (.k (.int 0)))) 
    (.cons (.asg (.nm 6) (.ix (.lc 2) (.call "_law_mixed" (.cons (.lc 0) (.cons (.bin .add (.lc 1) (.k (.int 2))) (.cons (.bi .len (.lc 2)) .nil)))))) .nil) .nil)
  (.cons (.asg (.nm 7) (.lst .nil))
  (.cons (.ife (.cmp .eq (.call "_law_mixed" (.cons (.lc 0) (.cons (.bin .add (.lc 1) (.k (.int 3))) (.cons (.k (.int 3)) .nil)))) (.k (.int 0))) 
    (.cons (.exp (.bm .append (.lc 7) (.cons (.ix (.lc 2) (.neg (.k (.int 1)))) .nil))) .nil) .nil)
  (.cons (.ife (.cmp .eq (.call "_law_mixed" (.cons (.lc 0) (.cons (.bin .add (.lc 1) (.k (.int 3))) (.cons (.k (.int 5)) .nil)))) (.k (.int 1))) 
    (.cons (.exp (.bm .append (.lc 7) (.cons (.ix (.lc 2) (.call "_law_mixed" (.cons (.lc 0) (.cons (.bin .add (.lc 1) (.k (.int 4))) (.cons (.bi .len (.lc 2)) .nil))))) .nil))) .nil) .nil)
  (.cons (.asg (.nm 7) (.sl (.lc 7) .none (.some (.lset (.lc 7)))))
  (.cons (.asg (.nm 8) (.bi .tuple (.comp (.call "_law_row" (.cons (.lc 0) (.cons (.bin .add (.bin .add (.lc 1) (.k (.int 10))) (.bin .mul (.k (.int 5)) (.lc 9))) (.cons (.lc 2) .nil)))) (.nm 9) (.rng (.call "_law_mixed" (.cons (.lc 0) (.cons (.bin .add (.lc 1) (.k (.int 5))) (.cons (.bin .add (.lc 4) (.k (.int 1))) .nil))))) .none [9])))
  (.cons (.ret (.tup (.cons (.lc 5) (.cons (.lc 3) (.cons (.lc 6) (.cons (.bi .tuple (.lc 7)) (.cons (.lc 8) .nil))))))) .nil))))))))))
def l_world : Sts :=
  (.cons (.asg (.nm 5) (.lst .nil))
  (.cons (.asg (.nm 6) (.and (.cmp .eq (.call "_law_mixed" (.cons (.lc 0) (.cons (.k (.int 95)) (.cons (.k (.int 4)) .nil)))) (.k (.int 0))) (.cmp .gt (.lc 4) (.k (.int 0)))))
  (.cons (.fr (.nm 7) (.rng (.bin .add (.k (.int 1)) (.call "_law_mixed" (.cons (.lc 0) (.cons (.lc 1) (.cons (.lc 3) .nil)))))) 
    (.cons (.asg (.nm 8) (.bin .add (.lc 1) (.bin .mul (.k (.int 200)) (.bin .add (.lc 7) (.k (.int 1))))))
    (.cons (.asg (.nm 9) (.k .non))
    (.cons (.ife (.and (.cmp .gt (.lc 7) (.k (.int 0))) (.cmp .gt (.call "_law_mixed" (.cons (.lc 0) (.cons (.lc 8) (.cons (.k (.int 4)) .nil)))) (.k (.int 0)))) 
      (.cons (.asg (.nm 9) (.call "_law_mixed" (.cons (.lc 0) (.cons (.bin .add (.lc 8) (.k (.int 1))) (.cons (.lc 7) .nil))))) .nil) .nil)
    (.cons (.asg (.nm 10) (.lst .nil))
    (.cons (.fr (.tp (.cons (.nm 11) (.cons (.nm 12) .nil))) (.enm (.lc 2)) 
      (.cons (.ife (.and (.lc 6) (.and (.cmp .eq (.lc 7) (.k (.int 0))) (.and (.cmp .lt (.lc 11) (.k (.int 2))) (.cmp .gt (.bi .len (.lc 2)) (.k (.int 1)))))) 
        (.cons (.asg (.nm 13) (.call "_law_row" (.cons (.lc 0) (.cons (.bin .add (.bin .add (.lc 8) (.k (.int 10))) (.bin .mul (.k (.int 45)) (.lc 11))) (.cons (.lc 2) .nil)))))
        (.cons (.exp (.bm .append (.lc 10) (.cons (.tup (.cons (.k (.str "class")) (.cons (.lc 12) (.cons (.k .non) (.cons (.tup .nil) (.cons (.sl (.tup (.cons (.lc 13) (.cons (.tup (.cons (.k (.str "need")) (.cons (.ix (.lc 2) (.bin .sub (.k (.int 1)) (.lc 11))) .nil))) .nil))) (.some (.call "_law_mixed" (.cons (.lc 0) (.cons (.bin .add (.lc 8) (.k (.int 5))) (.cons (.k (.int 2)) .nil))))) .none) .nil)))))) .nil))) .nil)) 
        (.cons (.ife (.cmp .gt (.call "_law_mixed" (.cons (.lc 0) (.cons (.bin .add (.bin .add (.lc 8) (.k (.int 2))) (.lc 11)) (.cons (.k (.int 3)) .nil)))) (.k (.int 0))) 
          (.cons (.exp (.bm .append (.lc 10) (.cons (.call "_law_file" (.cons (.lc 0) (.cons (.bin .add (.bin .add (.lc 8) (.k (.int 10))) (.bin .mul (.k (.int 45)) (.lc 11))) (.cons (.lc 2) (.cons (.lc 12) (.cons (.lc 4) .nil)))))) .nil))) .nil) .nil) .nil)) .nil))
    (.cons (.asg (.nm 14) (.call "_law_mixed" (.cons (.lc 0) (.cons (.bin .add (.lc 8) (.k (.int 8))) (.cons (.k (.int 4)) .nil)))))
    (.cons (.exp (.bm .append (.lc 5) (.cons (.tup (.cons (.lc 9) (.cons (.bi .tuple (.bin .add (.sl (.lc 10) (.some (.lc 14)) .none) (.sl (.lc 10) .none (.some (.lc 14))))) .nil))) .nil))) .nil))))))))
  (.cons (.ret (.bi .tuple (.lc 5))) .nil))))
def l_line : Sts :=
  (.cons (.asg (.nm 2) (.lst (.cons (.lc 1) .nil)))
  (.cons (.whl (.notN (.ix (.ix (.lc 0) (.ix (.lc 2) (.k (.int 0)))) (.k (.int 0)))) 
    (.cons (.asg (.nm 2) (.bin .add (.lst (.cons (.ix (.ix (.lc 0) (.ix (.lc 2) (.k (.int 0)))) (.k (.int 0))) .nil)) (.lc 2))) .nil))
  (.cons (.ret (.lc 2)) .nil)))
def l_on : Sts :=
  (.cons (.ret (.comp (.lc 2) (.nm 2) (.val (.lc 0)) (.some (.cmp .eq (.ix (.lc 2) (.k (.int 1))) (.lc 1))) [2])) .nil)
def l_find : Sts :=
  (.cons (.asg (.nm 3) (.comp (.lc 4) (.nm 4) (.val (.call "_law_line" (.cons (.lc 0) (.cons (.lc 1) .nil)))) (.some (.cmp .ne (.call "_law_on" (.cons (.ix (.ix (.lc 0) (.lc 4)) (.k (.int 1))) (.cons (.lc 2) .nil))) (.lst .nil))) [4]))
  (.cons (.ife (.cmp .eq (.lc 3) (.lst .nil)) 
    (.cons (.ret (.k .non)) .nil) .nil)
  (.cons (.ret (.tup (.cons (.ix (.lc 3) (.k (.int 0))) (.cons (.lc 2) .nil)))) .nil)))
def l_classes : Sts :=
  (.cons (.asg (.nm 1) (.lst .nil))
  (.cons (.fr (.tp (.cons (.nm 2) (.cons (.nm 3) .nil))) (.enm (.lc 0)) 
    (.cons (.exp (.bm .extend (.lc 1) (.cons (.comp (.tup (.cons (.lc 2) (.cons (.ix (.lc 4) (.k (.int 1))) .nil))) (.nm 4) (.val (.ix (.lc 3) (.k (.int 1)))) (.some (.cmp .eq (.call "_law_find" (.cons (.lc 0) (.cons (.lc 2) (.cons (.ix (.lc 4) (.k (.int 1))) .nil)))) (.tup (.cons (.lc 2) (.cons (.ix (.lc 4) (.k (.int 1))) .nil))))) [4]) .nil))) .nil))
  (.cons (.ret (.bi .sorted (.lc 1))) .nil)))
def law_k04 : Sts :=
  (.cons (.asg (.nm 1) (.call "_law_names" (.cons (.lc 0) (.cons (.k (.int 20)) .nil))))
  (.cons (.asg (.nm 2) (.call "_law_world" (.cons (.lc 0) (.cons (.k (.int 100)) (.cons (.lc 1) (.cons (.k (.int 4)) (.cons (.k (.int 1)) .nil)))))))
  (.cons (.asg (.nm 3) (.call "_law_classes" (.cons (.lc 2) .nil)))
  (.cons (.asg (.nm 4) (.lst .nil))
  (.cons (.fr (.tp (.cons (.nm 5) (.cons (.nm 6) .nil))) (.enm (.lc 2)) 
    (.cons (.exp (.bm .extend (.lc 4) (.cons (.comp (.tup (.cons (.lc 5) (.cons (.ix (.lc 7) (.k (.int 1))) .nil))) (.nm 7) (.val (.ix (.lc 6) (.k (.int 1)))) (.some (.cmp .notin (.tup (.cons (.lc 5) (.cons (.ix (.lc 7) (.k (.int 1))) .nil))) (.lc 3))) [7]) .nil))) .nil))
  (.cons (.ret (.and (.cmp .eq (.call "classes" (.cons (.lc 2) .nil)) (.lc 3)) (.cmp .eq (.call "shadowed" (.cons (.lc 2) .nil)) (.bi .sorted (.lc 4))))) .nil))))))
end IP.Q

/-! PrE: expressions that only add to the store: their values by rules. -/
namespace IP.Q
open PySem
/-! ### plain values: None, ints, texts, tuples of them -/
mutual
def plainT : Nat → D → Bool
  | _, .non => true
  | _, .int _ => true
  | _, .str x => PyData.strOk x
  | n + 1, .tup ds => plainTs n ds
  | _, _ => false
def plainTs : Nat → List D → Bool
  | _, [] => true
  | n, d :: ds => plainT n d && plainTs n ds
end
mutual
def toP : D → PyData
  | .non => .none
  | .int i => .int i
  | .str x => .str x
  | .tup ds => .tuple (toPs ds)
  | _ => .none
def toPs : List D → List PyData
  | [] => []
  | d :: ds => toP d :: toPs ds
end
theorem plainTs_all {n : Nat} : ∀ {ds : List D}, plainTs n ds = ds.all (plainT n)
  | [] => by rw [plainTs]; rfl
  | d :: ds => by rw [plainTs, plainTs_all]; rfl
theorem toPs_map : ∀ {ds : List D}, toPs ds = ds.map toP
  | [] => by rw [toPs]; rfl
  | d :: ds => by rw [toPs, toPs_map]; rfl
theorem plain_int {n : Nat} {i : Int} : plainT n (.int i) = true := by unfold plainT; rfl
theorem plain_non {n : Nat} : plainT n .non = true := by unfold plainT; rfl
theorem plain_str {n : Nat} {x : Str} (h : PyData.strOk x = true) : plainT n (.str x) = true := by unfold plainT; exact h
mutual
theorem plain_data (st : Sto) : ∀ (n m : Nat) (d : D), n ≤ m → plainT n d = true → toData st m d = some (toP d)
  | n, m, .non, _, _ => by unfold toData toP; rfl
  | n, m, .int i, _, _ => by unfold toData toP; rfl
  | n, m, .str x, _, h => by
    have h : PyData.strOk x = true := by unfold plainT at h; exact h
    unfold toData toP
    rw [if_pos h]
  | n + 1, m, .tup ds, hm, h => by
    unfold plainT at h
    cases m with
    | zero => omega
    | succ m =>
      unfold toData toP
      rw [plain_datas st n m ds (by omega) h]; rfl
  | 0, m, .tup ds, _, h => by unfold plainT at h; cases h
  | n, m, .bl _, _, h => by unfold plainT at h; cases h
  | n, m, .ref _, _, h => by unfold plainT at h; cases h
  | n, m, .ro _, _, h => by unfold plainT at h; cases h
  | n, m, .fn _, _, h => by unfold plainT at h; cases h
  | n, m, .exn _ _, _, h => by unfold plainT at h; cases h
theorem plain_datas (st : Sto) : ∀ (n m : Nat) (ds : List D), n ≤ m → plainTs n ds = true → toDatas st m ds = some (toPs ds)
  | n, m, [], _, _ => by unfold toDatas toPs; rfl
  | n, m, d :: ds, hm, h => by
    unfold plainTs at h
    rw [Bool.and_eq_true] at h
    unfold toDatas toPs
    rw [plain_data st n m d hm h.1, plain_datas st n m ds hm h.2]
end
mutual
theorem plain_eqv : ∀ (n m : Nat) (a b : D), plainT n a = true → plainT m b = true → PyData.eqv (toP a) (toP b) = decide (a = b)
  | n, m, a, b, h1, h2 => by
    cases a with
    | non => cases b <;> first | (simp [toP, PyData.eqv, Bool.beq_eq_decide_eq]; done) | (unfold plainT at h2; cases h2; done)
    | int i => cases b <;> first | (simp [toP, PyData.eqv, Bool.beq_eq_decide_eq]; done) | (unfold plainT at h2; cases h2; done)
    | str x => cases b <;> first | (simp [toP, PyData.eqv, Bool.beq_eq_decide_eq]; done) | (unfold plainT at h2; cases h2; done)
    | tup ds =>
      cases b with
      | tup es =>
        cases n with
        | zero => unfold plainT at h1; cases h1
        | succ n =>
          cases m with
          | zero => unfold plainT at h2; cases h2
          | succ m =>
            unfold plainT at h1 h2
            have := plain_eqvs n m ds es h1 h2
            simp only [toP, PyData.eqv, this]
            simp
      | non => simp [toP, PyData.eqv]
      | int i => simp [toP, PyData.eqv]
      | str x => simp [toP, PyData.eqv]
      | bl _ => unfold plainT at h2; cases h2
      | ref _ => unfold plainT at h2; cases h2
      | ro _ => unfold plainT at h2; cases h2
      | fn _ => unfold plainT at h2; cases h2
      | exn _ _ => unfold plainT at h2; cases h2
    | bl _ => unfold plainT at h1; cases h1
    | ref _ => unfold plainT at h1; cases h1
    | ro _ => unfold plainT at h1; cases h1
    | fn _ => unfold plainT at h1; cases h1
    | exn _ _ => unfold plainT at h1; cases h1
theorem plain_eqvs : ∀ (n m : Nat) (as bs : List D), plainTs n as = true → plainTs m bs = true → PyData.eqvAll (toPs as) (toPs bs) = decide (as = bs)
  | n, m, [], [], _, _ => by simp [toPs, PyData.eqvAll]
  | n, m, [], b :: bs, _, _ => by simp [toPs, PyData.eqvAll]
  | n, m, a :: as, [], _, _ => by simp [toPs, PyData.eqvAll]
  | n, m, a :: as, b :: bs, h1, h2 => by
    unfold plainTs at h1 h2
    rw [Bool.and_eq_true] at h1 h2
    simp only [toPs, PyData.eqvAll]
    rw [plain_eqv n m a b h1.1 h2.1, plain_eqvs n m as bs h1.2 h2.2]
    simp
end

theorem eqD_plain {st : Sto} {a b : D} {n m : Nat} (hn : n ≤ 64) (hm : m ≤ 64) (h1 : plainT n a = true) (h2 : plainT m b = true) : eqD st a b = some (decide (a = b)) := by
  unfold eqD
  rw [plain_data st n 64 a hn h1, plain_data st m 64 b hm h2]
  dsimp only
  rw [plain_eqv n m a b h1 h2]
theorem inD_plain {st : Sto} {a : D} {ds : List D} {n m : Nat} (hn : n ≤ 64) (hm : m ≤ 63) (h1 : plainT n a = true) (h2 : plainTs m ds = true) : inD st a ds = some (decide (a ∈ ds)) := by
  unfold inD
  rw [plain_data st n 64 a hn h1, plain_datas st m 63 ds hm h2]
  dsimp only
  congr 1
  induction ds with
  | nil => simp [toPs]
  | cons d ds ih =>
    unfold plainTs at h2
    rw [Bool.and_eq_true] at h2
    simp only [toPs, List.any_cons, ih h2.2]
    rw [plain_eqv m n d a h2.1 h1]
    by_cases e : d = a
    · subst e; simp
    · have e' : ¬ a = d := fun z => e z.symm
      simp [e, e']
/-- lists of plain values -/
theorem eqD_lists {st : Sto} {a b : Nat} {ds es : List D} {n m : Nat} (hn : n ≤ 63) (hm : m ≤ 63) (h1 : st[a]? = some (.lst ds)) (h2 : st[b]? = some (.lst es)) (p1 : plainTs n ds = true) (p2 : plainTs m es = true) : eqD st (.ref a) (.ref b) = some (decide (ds = es)) := by
  unfold eqD
  have e1 : toData st 64 (.ref a) = some (.list (toPs ds)) := by
    unfold toData
    simp only [h1, plain_datas st n 63 ds hn p1]; rfl
  have e2 : toData st 64 (.ref b) = some (.list (toPs es)) := by
    unfold toData
    simp only [h2, plain_datas st m 63 es hm p2]; rfl
  rw [e1, e2]
  simp only [PyData.eqv, plain_eqvs n m ds es p1 p2]
/-! ### values by rules -/
/-- e's value is d, from st on -/
def Ev (C : Str → List D → Sto → R D) (ρ : Env) (st : Sto) (e : Ex) (d : D) : Prop := ∀ s, Ext st s → ok (ev C e ρ s) fun x s' => Ext s s' ∧ x = d
/-- e's value is a list of ds -/
def EvL (C : Str → List D → Sto → R D) (ρ : Env) (st : Sto) (e : Ex) (ds : List D) : Prop := ∀ s, Ext st s → ok (ev C e ρ s) fun x s' => Ext s s' ∧ ∃ n, x = .ref n ∧ st.length ≤ n ∧ s'[n]? = some (.lst ds)
def Evs (C : Str → List D → Sto → R D) (ρ : Env) (st : Sto) (es : Exs) (ds : List D) : Prop := ∀ s, Ext st s → ok (evs C es ρ s) fun x s' => Ext s s' ∧ x = ds
/-- what is walked -/
def Evi (C : Str → List D → Sto → R D) (ρ : Env) (st : Sto) (it : Itr) (ds : List D) : Prop := ∀ s, Ext st s → ok (evi C it ρ s) fun p s' => Ext s s' ∧ p.1 = ds ∧ okW p.2 s' = true
/-- a call's answer -/
def Fn (C : Str → List D → Sto → R D) (st : Sto) (f : Str) (ds : List D) (d : D) : Prop := ∀ s, Ext st s → ok (C f ds s) fun x s' => Ext s s' ∧ x = d
/-- a suite's answer -/
def Bd (C : Str → List D → Sto → R D) (W : Nat) (ρ : Env) (st : Sto) (ss : Sts) (d : D) : Prop := ∀ s, Ext st s → okS (excs C W ss ρ s) (fun _ s' => Ext s s' ∧ d = .non) (fun x s' => Ext s s' ∧ x = d) fun _ _ => False
section
variable {C : Str → List D → Sto → R D} {W : Nat} {ρ ρ' : Env} {st st' : Sto} {a b c e : Ex} {x y d d' : D} {p q : Bool}
theorem Ev.ext (h : Ev C ρ st e d) (k : Ext st st') : Ev C ρ st' e d := fun s hs => h s (k.trans hs)
theorem Ev.to (h : Ev C ρ st e d) (hd : d = d') : Ev C ρ st e d' := hd ▸ h
theorem Bd.to {ss : Sts} (h : Bd C W ρ st ss d) (hd : d = d') : Bd C W ρ st ss d' := hd ▸ h
theorem Ev.run {Q : D → Sto → Prop} (h : Ev C ρ st e d) (k : ∀ s, Ext st s → Q d s) : ok (ev C e ρ st) Q := ok_mono (h st (Ext.refl _)) fun x s ⟨h1, h2⟩ => by rw [h2]; exact k s h1
theorem Ev.k : Ev C ρ st (.k d) d := fun s hs => by rw [w_k]; exact ⟨Ext.refl _, rfl⟩
theorem Ev.lc {i : Nat} (h : ρ[i]? = some (some d)) : Ev C ρ st (.lc i) d := fun s hs => by rw [w_lc h]; exact ⟨Ext.refl _, rfl⟩
/-- two operands -/
theorem Ev.two {o : D → D → Sto → R D} {f : Ex} (hf : ∀ s (Q : D → Sto → Prop), ok (ev C f ρ s) Q = ok (ev C a ρ s) fun x s1 => ok (ev C b ρ s1) fun y s2 => ok (o x y s2) Q) (ha : Ev C ρ st a x) (hb : Ev C ρ st b y) (ho : ∀ s, Ext st s → o x y s = .ok d s) : Ev C ρ st f d := fun s hs => by
  rw [hf]
  refine ok_mono (ha s hs) fun u s1 ⟨e1, hu⟩ => ?_
  subst hu
  refine ok_mono (hb s1 (hs.trans e1)) fun v s2 ⟨e2, hv⟩ => ?_
  subst hv
  rw [ho s2 ((hs.trans e1).trans e2)]
  exact ⟨e1.trans e2, rfl⟩
theorem Ev.bin {o : Bop} (ha : Ev C ρ st a x) (hb : Ev C ρ st b y) (ho : ∀ s, binD o x y s = .ok d s) : Ev C ρ st (.bin o a b) d := Ev.two (fun s Q => w_bin) ha hb fun s _ => ho s
theorem Ev.cmp {o : Cop} (ha : Ev C ρ st a x) (hb : Ev C ρ st b y) (ho : ∀ s, Ext st s → cmpD o x y s = some p) : Ev C ρ st (.cmp o a b) (.bl p) := Ev.two (fun s Q => w_cmp) ha hb fun s hs => by rw [ho s hs]; rfl
theorem Ev.eq {n m : Nat} (ha : Ev C ρ st a x) (hb : Ev C ρ st b y) (h1 : plainT n x = true) (h2 : plainT m y = true) (hn : n ≤ 64 := by decide) (hm : m ≤ 64 := by decide) : Ev C ρ st (.cmp .eq a b) (.bl (decide (x = y))) := Ev.cmp ha hb fun s _ => eqD_plain hn hm h1 h2
theorem Ev.ne {n m : Nat} (ha : Ev C ρ st a x) (hb : Ev C ρ st b y) (h1 : plainT n x = true) (h2 : plainT m y = true) (hn : n ≤ 64 := by decide) (hm : m ≤ 64 := by decide) : Ev C ρ st (.cmp .ne a b) (.bl (!decide (x = y))) := Ev.cmp ha hb fun s _ => by
  show (eqD s x y).map (!·) = _
  rw [eqD_plain hn hm h1 h2]; rfl
theorem Ev.ix (ha : Ev C ρ st a x) (hb : Ev C ρ st b y) (ho : ∀ s, Ext st s → ixD x y s = .ok d s) : Ev C ρ st (.ix a b) d := Ev.two (fun s Q => w_ix) ha hb ho
theorem Ev.ixT {ds : List D} {i : Int} (ha : Ev C ρ st a (.tup ds)) (hb : Ev C ρ st b (.int i)) (h : L2.atI ds i = some d) : Ev C ρ st (.ix a b) d := Ev.ix ha hb fun s _ => by simp only [ixD, h]
theorem Ev.not (ha : Ev C ρ st a (.bl p)) : Ev C ρ st (.not a) (.bl (!p)) := fun s hs => by
  rw [w_not]
  exact ok_mono (ha s hs) fun u s1 ⟨e1, hu⟩ => ⟨p, hu, e1, rfl⟩
theorem Ev.and (ha : Ev C ρ st a (.bl p)) (hb : p = true → Ev C ρ st b (.bl q)) : Ev C ρ st (.and a b) (.bl (p && q)) := fun s hs => by
  rw [w_and]
  refine ok_mono (ha s hs) fun u s1 ⟨e1, hu⟩ => ?_
  cases p with
  | false => exact .inr ⟨hu, e1, rfl⟩
  | true => exact .inl ⟨hu, ok_mono (hb rfl s1 (hs.trans e1)) fun v s2 ⟨e2, hv⟩ => ⟨e1.trans e2, hv⟩⟩
theorem Ev.or (ha : Ev C ρ st a (.bl p)) (hb : p = false → Ev C ρ st b (.bl q)) : Ev C ρ st (.or a b) (.bl (p || q)) := fun s hs => by
  rw [w_or]
  refine ok_mono (ha s hs) fun u s1 ⟨e1, hu⟩ => ?_
  cases p with
  | true => exact .inl ⟨hu, e1, rfl⟩
  | false => exact .inr ⟨hu, ok_mono (hb rfl s1 (hs.trans e1)) fun v s2 ⟨e2, hv⟩ => ⟨e1.trans e2, hv⟩⟩
theorem Ev.isN (ha : Ev C ρ st a x) : Ev C ρ st (.isN a) (.bl (decide (x = .non))) := fun s hs => by
  rw [w_isN]
  exact ok_mono (ha s hs) fun u s1 ⟨e1, hu⟩ => ⟨e1, by rw [hu]⟩
theorem Ev.notN (ha : Ev C ρ st a x) : Ev C ρ st (.notN a) (.bl (!decide (x = .non))) := fun s hs => by
  rw [w_notN]
  exact ok_mono (ha s hs) fun u s1 ⟨e1, hu⟩ => ⟨e1, by rw [hu]⟩
theorem Ev.neg {i : Int} (ha : Ev C ρ st a (.int i)) : Ev C ρ st (.neg a) (.int (-i)) := fun s hs => by
  rw [w_neg]
  exact ok_mono (ha s hs) fun u s1 ⟨e1, hu⟩ => ⟨i, hu, e1, rfl⟩
theorem Ev.chn {o o' : Cop} {z : D} (ha : Ev C ρ st a x) (hb : Ev C ρ st b y) (h1 : ∀ s, cmpD o x y s = some p) (hc : p = true → Ev C ρ st c z) (h2 : ∀ s, cmpD o' y z s = some q) : Ev C ρ st (.chn o o' a b c) (.bl (p && q)) := fun s hs => by
  rw [w_chn]
  refine ok_mono (ha s hs) fun u s1 ⟨e1, hu⟩ => ?_
  subst hu
  refine ok_mono (hb s1 (hs.trans e1)) fun v s2 ⟨e2, hv⟩ => ?_
  subst hv
  cases p with
  | false => exact .inr ⟨h1 s2, e1.trans e2, rfl⟩
  | true =>
    refine .inl ⟨h1 s2, ok_mono (hc rfl s2 ((hs.trans e1).trans e2)) fun w s3 ⟨e3, hw⟩ => ?_⟩
    subst hw
    rw [h2 s3]
    exact ⟨(e1.trans e2).trans e3, rfl⟩
theorem Ev.one {o : D → Sto → R D} {f : Ex} (hf : ∀ s (Q : D → Sto → Prop), ok (ev C f ρ s) Q = ok (ev C a ρ s) fun x s1 => ok (o x s1) Q) (ha : Ev C ρ st a x) (ho : ∀ s, Ext st s → o x s = .ok d s) : Ev C ρ st f d := fun s hs => by
  rw [hf]
  refine ok_mono (ha s hs) fun u s1 ⟨e1, hu⟩ => ?_
  subst hu
  rw [ho s1 (hs.trans e1)]
  exact ⟨e1, rfl⟩
theorem Ev.bi {o : Bi} (ha : Ev C ρ st a x) (ho : ∀ s, Ext st s → biD o x s = .ok d s) : Ev C ρ st (.bi o a) d := Ev.one (fun s Q => w_bi) ha ho
theorem Ev.lenT {ds : List D} (ha : Ev C ρ st a (.tup ds)) : Ev C ρ st (.bi .len a) (.int ds.length) := Ev.bi ha fun s _ => rfl
theorem Ev.lenS {z : Str} (ha : Ev C ρ st a (.str z)) (h : z.length ≤ LIM) : Ev C ρ st (.bi .len a) (.int z.length) := Ev.bi ha fun s _ => by simp only [biD, h, if_true]
theorem Ev.isT {T : Ty} (ha : Ev C ρ st a x) (ho : ∀ s, isTD x T s = some p) : Ev C ρ st (.isT a T) (.bl p) := Ev.one (o := fun x s => okB (isTD x T s) s) (fun s Q => w_isT) ha fun s _ => by rw [ho s]; rfl
/-- of a new list -/
theorem Ev.ofL {o : D → Sto → R D} {f : Ex} {ds : List D} (hf : ∀ s (Q : D → Sto → Prop), ok (ev C f ρ s) Q = ok (ev C a ρ s) fun x s1 => ok (o x s1) Q) (ha : EvL C ρ st a ds) (ho : ∀ s n, s[n]? = some (.lst ds) → o (.ref n) s = .ok d s) : Ev C ρ st f d := fun s hs => by
  rw [hf]
  refine ok_mono (ha s hs) fun u s1 ⟨e1, n, hu, hn, hc⟩ => ?_
  subst hu
  rw [ho s1 n hc]
  exact ⟨e1, rfl⟩
theorem boolsOf_map : ∀ {bs : List Bool}, boolsOf (bs.map D.bl) = some bs
  | [] => rfl
  | b :: bs => by rw [List.map_cons, boolsOf, boolsOf_map]; rfl
theorem Ev.all {bs : List Bool} (ha : EvL C ρ st a (bs.map D.bl)) : Ev C ρ st (.bi .all a) (.bl (bs.all id)) := Ev.ofL (fun s Q => w_bi) ha fun s n h => by simp only [biD, h, boolsOf_map]
theorem Ev.any {bs : List Bool} (ha : EvL C ρ st a (bs.map D.bl)) : Ev C ρ st (.bi .any a) (.bl (bs.any id)) := Ev.ofL (fun s Q => w_bi) ha fun s n h => by simp only [biD, h, boolsOf_map]
theorem Ev.tupL {ds : List D} (ha : EvL C ρ st a ds) : Ev C ρ st (.bi .tuple a) (.tup ds) := Ev.ofL (fun s Q => w_bi) ha fun s n h => by simp only [biD, h]
theorem Ev.lenL {ds : List D} (ha : EvL C ρ st a ds) : Ev C ρ st (.bi .len a) (.int ds.length) := Ev.ofL (fun s Q => w_bi) ha fun s n h => by simp only [biD, h]
theorem strsOf_map : ∀ {bs : List Str}, strsOf (bs.map D.str) = some bs
  | [] => rfl
  | b :: bs => by rw [List.map_cons, strsOf, strsOf_map]; rfl
theorem Ev.lsetL {xs : List Str} (ha : EvL C ρ st a (xs.map D.str)) (h : xs.length ≤ 100) : Ev C ρ st (.lset a) (.int (distinct xs).length) := Ev.ofL (fun s Q => w_lset) ha fun s n hc => by simp only [lsetD, hc, strsOf_map, h, if_true]
theorem Ev.lsetT {xs : List Str} (ha : Ev C ρ st a (.tup (xs.map D.str))) (h : xs.length ≤ 100) : Ev C ρ st (.lset a) (.int (distinct xs).length) := Ev.one (fun s Q => w_lset) ha fun s _ => by simp only [lsetD, strsOf_map, h, if_true]
theorem Evs.nil : Evs C ρ st .nil [] := fun s hs => by rw [w_nil]; exact ⟨Ext.refl _, rfl⟩
theorem Evs.cons {es : Exs} {ds : List D} (ha : Ev C ρ st a x) (hs : Evs C ρ st es ds) : Evs C ρ st (.cons a es) (x :: ds) := fun s hx => by
  rw [w_cons]
  refine ok_mono (ha s hx) fun u s1 ⟨e1, hu⟩ => ok_mono (hs s1 (hx.trans e1)) fun us s2 ⟨e2, hv⟩ => ⟨e1.trans e2, by rw [hu, hv]⟩
theorem Ev.tup {es : Exs} {ds : List D} (h : Evs C ρ st es ds) (hl : ds.length ≤ LIM) : Ev C ρ st (.tup es) (.tup ds) := fun s hs => by
  rw [w_tup]
  exact ok_mono (h s hs) fun us s1 ⟨e1, hu⟩ => by subst hu; exact ⟨hl, e1, rfl⟩
theorem EvL.lst {es : Exs} {ds : List D} (h : Evs C ρ st es ds) (hl : ds.length ≤ LIM) : EvL C ρ st (.lst es) ds := fun s hs => by
  rw [w_lst]
  refine ok_mono (h s hs) fun us s1 ⟨e1, hu⟩ => ?_
  subst hu
  exact ⟨hl, e1.trans (Ext.more _), _, rfl, Nat.le_trans hs.len e1.len, by rw [List.getElem?_append_right (Nat.le_refl _)]; simp⟩
theorem Ev.call {f : Str} {es : Exs} {ds : List D} (h : Evs C ρ st es ds) (hf : Fn C st f ds d) : Ev C ρ st (.call f es) d := fun s hs => by
  rw [w_call]
  refine ok_mono (h s hs) fun us s1 ⟨e1, hu⟩ => ?_
  subst hu
  exact ok_mono (hf s1 (hs.trans e1)) fun u s2 ⟨e2, hv⟩ => ⟨e1.trans e2, hv⟩
theorem Ev.slT {ds : List D} {l h : Option Int} {el eh : Exo} (ha : Ev C ρ st a (.tup ds)) (hl : ∀ s (Q : Option Int → Sto → Prop), Ext st s → (∀ s', Ext s s' → Q l s') → ok (evo C el ρ s) Q) (hh : ∀ s (Q : Option Int → Sto → Prop), Ext st s → (∀ s', Ext s s' → Q h s') → ok (evo C eh ρ s) Q) : Ev C ρ st (.sl a el eh) (.tup (cutL ds l h)) := fun s hs => by
  rw [w_sl]
  refine ok_mono (ha s hs) fun u s1 ⟨e1, hu⟩ => ?_
  subst hu
  exact hl s1 _ (hs.trans e1) fun s2 e2 => hh s2 _ ((hs.trans e1).trans e2) fun s3 e3 => ⟨(e1.trans e2).trans e3, rfl⟩
theorem evo_none {s : Sto} {Q : Option Int → Sto → Prop} (h : ∀ s', Ext s s' → Q none s') : ok (evo C .none ρ s) Q := by rw [w_none]; exact h s (Ext.refl _)
theorem evo_some {s : Sto} {i : Int} {Q : Option Int → Sto → Prop} (hs : Ext st s) (ha : Ev C ρ st a (.int i)) (h : ∀ s', Ext s s' → Q (some i) s') : ok (evo C (.some a) ρ s) Q := by
  rw [w_some]
  exact ok_mono (ha s hs) fun u s1 ⟨e1, hu⟩ => ⟨i, hu, h s1 e1⟩
/-! what is walked -/
theorem Evi.tup {ds : List D} (h : Ev C ρ st a (.tup ds)) : Evi C ρ st (.val a) ds := fun s hs => by
  rw [w_val]
  exact ok_mono (h s hs) fun u s1 ⟨e1, hu⟩ => by subst hu; exact ⟨_, rfl, e1, rfl, rfl⟩
theorem Evi.str {z : Str} (h : Ev C ρ st a (.str z)) : Evi C ρ st (.val a) (z.cps.toList.map fun c => .str ⟨#[c]⟩) := fun s hs => by
  rw [w_val]
  exact ok_mono (h s hs) fun u s1 ⟨e1, hu⟩ => by subst hu; exact ⟨_, rfl, e1, rfl, rfl⟩
theorem Evi.lst {ds : List D} (h : EvL C ρ st a ds) : Evi C ρ st (.val a) ds := fun s hs => by
  rw [w_val]
  refine ok_mono (h s hs) fun u s1 ⟨e1, n, hu, hn, hc⟩ => ?_
  subst hu
  exact ⟨(ds, [(n, .lst ds)]), by simp only [walkOf, hc], e1, rfl, by simp [okW, hc]⟩
theorem Evi.enm {ds : List D} (h : Ev C ρ st a (.tup ds)) : Evi C ρ st (.enm a) (zipI 0 ds) := fun s hs => by
  rw [w_enm]
  exact ok_mono (h s hs) fun u s1 ⟨e1, hu⟩ => by subst hu; exact ⟨_, rfl, e1, rfl, rfl⟩
theorem Evi.rng {i : Int} (h : Ev C ρ st a (.int i)) (hi : small62 i = true) : Evi C ρ st (.rng a) (rngD 0 i.toNat) := fun s hs => by
  rw [w_rng]
  exact ok_mono (h s hs) fun u s1 ⟨e1, hu⟩ => ⟨i, hu, hi, e1, rfl, rfl⟩
/-- a comprehension: each item's place, its test, its value -/
theorem EvL.comp {t : Tg} {it : Itr} {xc : Exo} {own : List Nat} {ds : List D} (g : D → Option D) (hi : Evi C ρ st it ds) (hl : ds.length ≤ LIM)
    (hs : ∀ x ∈ ds, ∀ s, Ext st s → ∃ ρ', asg t x (wipe ρ own) s = some ρ' ∧ ok (evc C xc ρ' s) fun k s1 => Ext s s1 ∧ if k = true then ok (ev C e ρ' s1) fun y s2 => Ext s1 s2 ∧ g x = some y else g x = none) :
    EvL C ρ st (.comp e t it xc own) (ds.filterMap g) := fun s h0 => by
  rw [w_comp]
  refine ok_mono (hi s h0) fun p s1 ⟨e1, h1, h2⟩ => ⟨h2, ?_⟩
  subst h1
  refine ok_mono (comp_rule (st0 := s1) g h2 p.1 [] s1 (Ext.refl _) (by simpa using hl) fun x hx s2 e2 => ?_) fun ys s2 ⟨e2, hy⟩ => ?_
  · obtain ⟨ρ', ha, hk⟩ := hs x hx s2 ((h0.trans e1).trans e2)
    simp only [ha, ok_bind]
    refine ok_mono hk fun k s3 ⟨e3, hq⟩ => ?_
    cases k with
    | false =>
      rw [if_neg (by simp)] at hq
      exact ⟨e3, hq.symm⟩
    | true =>
      rw [if_pos rfl] at hq
      rw [if_pos rfl, ok_bind]
      exact ok_mono hq fun y s4 ⟨e4, hy⟩ => ⟨e3.trans e4, hy.symm⟩
  · subst hy
    exact ⟨(e1.trans e2).trans (Ext.more _), _, rfl, Nat.le_trans h0.len (e1.trans e2).len, by rw [List.getElem?_append_right (Nat.le_refl _)]; simp⟩
/-- .. without a test -/
theorem EvL.map {t : Tg} {it : Itr} {own : List Nat} {ds : List D} (g : D → D) (hi : Evi C ρ st it ds) (hl : ds.length ≤ LIM) (hs : ∀ x ∈ ds, ∀ s, Ext st s → ∃ ρ', asg t x (wipe ρ own) s = some ρ' ∧ Ev C ρ' s e (g x)) :
    EvL C ρ st (.comp e t it .none own) (ds.map g) := by
  have := EvL.comp (e := e) (xc := .none) (own := own) (t := t) (fun d => some (g d)) hi hl fun x hx s h => by
    obtain ⟨ρ', ha, hv⟩ := hs x hx s h
    refine ⟨ρ', ha, ?_⟩
    rw [w_cno]
    exact ⟨Ext.refl _, by rw [if_pos rfl]; exact ok_mono (hv s (Ext.refl _)) fun y s2 ⟨e2, hy⟩ => ⟨e2, by rw [hy]⟩⟩
  have e2 : ds.filterMap (fun d => some (g d)) = ds.map g := by rw [← List.filterMap_eq_map]; rfl
  rw [e2] at this
  exact this
/-- .. with a test -/
theorem EvL.filt {t : Tg} {it : Itr} {own : List Nat} {ds : List D} (r : D → Bool) (g : D → D) (hi : Evi C ρ st it ds) (hl : ds.length ≤ LIM) (hs : ∀ x ∈ ds, ∀ s, Ext st s → ∃ ρ', asg t x (wipe ρ own) s = some ρ' ∧ Ev C ρ' s c (.bl (r x)) ∧ (r x = true → Ev C ρ' s e (g x))) :
    EvL C ρ st (.comp e t it (.some c) own) ((ds.filter r).map g) := by
  have := EvL.comp (e := e) (xc := .some c) (own := own) (t := t) (fun d => if r d = true then some (g d) else none) hi hl fun x hx s h => by
    obtain ⟨ρ', ha, hc, hv⟩ := hs x hx s h
    refine ⟨ρ', ha, ?_⟩
    rw [w_csome]
    refine ok_mono (hc s (Ext.refl _)) fun u s1 ⟨e1, hu⟩ => ⟨r x, hu, e1, ?_⟩
    by_cases hr : r x = true
    · rw [if_pos hr]
      exact ok_mono (hv hr s1 e1) fun y s2 ⟨e2, hy⟩ => ⟨e2, by rw [if_pos hr, hy]⟩
    · rw [if_neg hr, if_neg hr]
  have e1 : ds.filterMap (fun d => if r d = true then some (g d) else none) = (ds.filter r).map g := by
    rw [← List.filterMap_eq_map, List.filterMap_filter]; rfl
  rw [e1] at this
  exact this
/-! suites -/
theorem Bd.ret {ss : Sts} (h : Ev C ρ st e d) : Bd C W ρ st (.cons (.ret e) ss) d := fun s hs => by
  rw [s_cons, s_ret]
  exact h s hs
theorem Bd.nil : Bd C W ρ st .nil .non := fun s hs => by
  rw [s_nil]
  exact ⟨Ext.refl _, rfl⟩
theorem okS_le {r : SR} {N N' : Env → Sto → Prop} {Rt Rt' : D → Sto → Prop} {Ct : Env → Sto → Prop} (h : okS r N Rt fun _ _ => False) (h1 : ∀ ρ st, N ρ st → N' ρ st) (h2 : ∀ d st, Rt d st → Rt' d st) : okS r N' Rt' Ct := okS_mono h h1 h2 fun _ _ z => z.elim
/-- if: return ..; the rest -/
theorem Bd.ife {ss ta : Sts} (hc : Ev C ρ st c (.bl p)) (h1 : p = true → Bd C W ρ st ta x ∧ x ≠ .non) (h2 : p = false → Bd C W ρ st ss y) : Bd C W ρ st (.cons (.ife c ta .nil) ss) (if p = true then x else y) := fun s hs => by
  rw [s_cons, s_ife]
  refine ok_mono (hc s hs) fun u s1 ⟨e1, hu⟩ => ?_
  cases p with
  | true =>
    refine .inl ⟨hu, ?_⟩
    rw [if_pos rfl]
    obtain ⟨h3, h4⟩ := h1 rfl
    exact okS_le (h3 s1 (hs.trans e1)) (fun _ _ z => absurd z.2 h4) fun _ _ z => ⟨e1.trans z.1, z.2⟩
  | false =>
    refine .inr ⟨hu, ?_⟩
    rw [s_nil, if_neg (by simp)]
    exact okS_le (h2 rfl s1 (hs.trans e1)) (fun _ _ z => ⟨e1.trans z.1, z.2⟩) fun _ _ z => ⟨e1.trans z.1, z.2⟩
theorem Bd.asg {ss : Sts} {t : Tg} (h : Ev C ρ st e x) (ha : ∀ s, asg t x ρ s = some ρ') (hs : Bd C W ρ' st ss d) : Bd C W ρ st (.cons (.asg t e) ss) d := fun s h0 => by
  rw [s_cons, s_asg]
  refine ok_mono (h s h0) fun u s1 ⟨e1, hu⟩ => ?_
  subst hu
  exact ⟨ρ', ha s1, okS_le (hs s1 (h0.trans e1)) (fun _ _ z => ⟨e1.trans z.1, z.2⟩) fun _ _ z => ⟨e1.trans z.1, z.2⟩⟩
/-- a def's answer by its body's -/
theorem Fn.of {T : Tab} {W n : Nat} {f : Str} {np ns : Nat} {body : Sts} {ds : List D} (hT : T f = some (.fn np ns body)) (hl : ds.length = np) (h : Bd (callD T W n) W (ds.map some ++ List.replicate (ns - np) none) st body d) : Fn (callD T W (n + 1)) st f ds d := fun s hs =>
  call_ok hT hl (okS_mono (h s hs) (fun _ s' z => ⟨z.1, z.2.symm⟩) (fun _ _ z => z) fun _ _ z => z)
theorem Fn.to {f : Str} {ds : List D} (h : Fn C st f ds d) (hd : d = d') : Fn C st f ds d' := hd ▸ h
theorem Fn.ext {f : Str} {ds : List D} (h : Fn C st f ds d) (k : Ext st st') : Fn C st' f ds d := fun s hs => h s (k.trans hs)
theorem Evi.ext {it : Itr} {ds : List D} (h : Evi C ρ st it ds) (k : Ext st st') : Evi C ρ st' it ds := fun s hs => h s (k.trans hs)
theorem EvL.ext {ds : List D} (h : EvL C ρ st' a ds) (k : Ext st st') : EvL C ρ st' a ds := h
/-! statements from a store on -/
section
variable {s : Sto} {N : Env → Sto → Prop} {Rt : D → Sto → Prop} {Ct : Env → Sto → Prop}
theorem S_fr {t : Tg} {it : Itr} {b : Sts} {ds : List D} (hs : Ext st s) (hi : Evi C ρ st it ds) (k : ∀ s1 w, Ext s s1 → okW w s1 = true → okS (forL (fun d ρ' st' => match asg t d ρ' st' with
      | some ρ'' => excs C W b ρ'' st'
      | none => .bad) w ds ρ s1) N Rt Ct) : okS (exc C W (.fr t it b) ρ s) N Rt Ct := by
  rw [s_fr]
  refine ok_mono (hi s hs) fun p s1 ⟨e1, h1, h2⟩ => ⟨h2, ?_⟩
  rw [h1]
  exact k s1 p.2 e1 h2
theorem S_asg {t : Tg} (hs : Ext st s) (h : Ev C ρ st e x) (k : ∀ s1, Ext s s1 → ∃ ρ', asg t x ρ s1 = some ρ' ∧ N ρ' s1) : okS (exc C W (.asg t e) ρ s) N Rt Ct := by
  rw [s_asg]
  refine ok_mono (h s hs) fun u s1 ⟨e1, hu⟩ => ?_
  subst hu
  exact k s1 e1
theorem S_asgL {i : Nat} {ds : List D} (h : EvL C ρ s e ds) (hi : i < ρ.length) (k : ∀ s1 n, Ext s s1 → s.length ≤ n → s1[n]? = some (.lst ds) → N (ρ.set i (some (.ref n))) s1) : okS (exc C W (.asg (.nm i) e) ρ s) N Rt Ct := by
  rw [s_asg]
  refine ok_mono (h s (Ext.refl _)) fun u s1 ⟨e1, n, hu, hn, hc⟩ => ?_
  subst hu
  exact ⟨_, by simp only [asg, hi, if_true], k s1 n e1 hn hc⟩
theorem S_ife {ta tb : Sts} (hs : Ext st s) (h : Ev C ρ st c (.bl p)) (h1 : p = true → ∀ s1, Ext s s1 → okS (excs C W ta ρ s1) N Rt Ct) (h2 : p = false → ∀ s1, Ext s s1 → okS (excs C W tb ρ s1) N Rt Ct) : okS (exc C W (.ife c ta tb) ρ s) N Rt Ct := by
  rw [s_ife]
  refine ok_mono (h s hs) fun u s1 ⟨e1, hu⟩ => ?_
  cases p with
  | true => exact .inl ⟨hu, h1 rfl s1 e1⟩
  | false => exact .inr ⟨hu, h2 rfl s1 e1⟩
theorem S_ifeP {ta tb : Sts} (J : Env → Sto → Prop) (hs : Ext st s) (h : Ev C ρ st c (.bl p)) (h1 : p = true → ∀ s1, Ext s s1 → okS (excs C W ta ρ s1) J Rt Ct) (h2 : p = false → ∀ s1, Ext s s1 → okS (excs C W tb ρ s1) J Rt Ct) (k : ∀ ρ' s', J ρ' s' → N ρ' s') : okS (exc C W (.ife c ta tb) ρ s) N Rt Ct :=
  S_ife hs h (fun hp s1 e1 => okS_mono (h1 hp s1 e1) k (fun _ _ z => z) fun _ _ z => z) fun hp s1 e1 => okS_mono (h2 hp s1 e1) k (fun _ _ z => z) fun _ _ z => z
theorem S_ret (hs : Ext st s) (h : Ev C ρ st e x) (k : ∀ s1, Ext s s1 → Rt x s1) : okS (exc C W (.ret e) ρ s) N Rt Ct := by
  rw [s_ret]
  refine ok_mono (h s hs) fun u s1 ⟨e1, hu⟩ => ?_
  subst hu
  exact k s1 e1
/-- l.append(e) -/
theorem S_app {m : Nat} {ds : List D} {j : Nat} (hl : ρ[j]? = some (some (.ref m))) (hm : s[m]? = some (.lst ds)) (h : Ev C ρ s e x) (hz : ds.length < LIM) (k : ∀ s1, Ext s s1 → N ρ (s1.set m (.lst (ds ++ [x])))) : okS (exc C W (.exp (.bm .append (.lc j) (.cons e .nil))) ρ s) N Rt Ct := by
  rw [s_exp, w_bm, w_lc hl]
  refine ⟨by show isLst (.ref m) s = true; simp only [isLst, hm], ?_⟩
  rw [w_cons]
  refine ok_mono (h s (Ext.refl _)) fun u s1 ⟨e1, hu⟩ => ?_
  subst hu
  rw [w_nil]
  show ok (appD (.ref m) [u] s1) _
  simp only [appD, e1.at_ hm, hz, if_true]
  exact k s1 e1
end
def EviW (C : Str → List D → Sto → R D) (ρ : Env) (st : Sto) (it : Itr) (ds : List D) (w : Watch) : Prop := ∀ s, Ext st s → ok (evi C it ρ s) fun p s' => Ext s s' ∧ p = (ds, w)
theorem EviW.tup {ds : List D} (h : Ev C ρ st a (.tup ds)) : EviW C ρ st (.val a) ds [] := fun s hs => by
  rw [w_val]
  exact ok_mono (h s hs) fun u s1 ⟨e1, hu⟩ => by subst hu; exact ⟨_, rfl, e1, rfl⟩
theorem EviW.enm {ds : List D} (h : Ev C ρ st a (.tup ds)) : EviW C ρ st (.enm a) (zipI 0 ds) [] := fun s hs => by
  rw [w_enm]
  exact ok_mono (h s hs) fun u s1 ⟨e1, hu⟩ => by subst hu; exact ⟨_, rfl, e1, rfl⟩
theorem EviW.rng {i : Int} (h : Ev C ρ st a (.int i)) (hi : small62 i = true) : EviW C ρ st (.rng a) (rngD 0 i.toNat) [] := fun s hs => by
  rw [w_rng]
  exact ok_mono (h s hs) fun u s1 ⟨e1, hu⟩ => ⟨i, hu, hi, e1, rfl⟩
theorem EviW.lstV {m : Nat} {ds : List D} (h : Ev C ρ st a (.ref m)) (hm : st[m]? = some (.lst ds)) : EviW C ρ st (.val a) ds [(m, .lst ds)] := fun s hs => by
  rw [w_val]
  exact ok_mono (h s hs) fun u s1 ⟨e1, hu⟩ => by subst hu; exact ⟨(ds, [(m, .lst ds)]), by simp only [walkOf, (hs.trans e1).at_ hm], e1, rfl⟩
theorem EviW.enmV {m : Nat} {ds : List D} (h : Ev C ρ st a (.ref m)) (hm : st[m]? = some (.lst ds)) : EviW C ρ st (.enm a) (zipI 0 ds) [(m, .lst ds)] := fun s hs => by
  rw [w_enm]
  exact ok_mono (h s hs) fun u s1 ⟨e1, hu⟩ => by subst hu; exact ⟨(ds, [(m, .lst ds)]), by simp only [seqOf, (hs.trans e1).at_ hm], e1, rfl⟩
section
variable {s : Sto} {N : Env → Sto → Prop} {Rt : D → Sto → Prop} {Ct : Env → Sto → Prop}
theorem S_frW {t : Tg} {it : Itr} {b : Sts} {ds : List D} {w : Watch} (hs : Ext st s) (hi : EviW C ρ st it ds w) (hw : okW w st = true) (k : ∀ s1, Ext s s1 → okW w s1 = true → okS (forL (fun d ρ' st' => match asg t d ρ' st' with
      | some ρ'' => excs C W b ρ'' st'
      | none => .bad) w ds ρ s1) N Rt Ct) : okS (exc C W (.fr t it b) ρ s) N Rt Ct := by
  rw [s_fr]
  refine ok_mono (hi s hs) fun p s1 ⟨e1, h1⟩ => ?_
  subst h1
  have := (hs.trans e1).okW hw
  exact ⟨this, k s1 e1 this⟩
end
theorem rng_len : ∀ (n : Nat) (lo : Int), (rngD lo n).length = n
  | 0, _ => rfl
  | n + 1, lo => by rw [rngD, List.length_cons, rng_len n]
theorem rng_at : ∀ (n : Nat) (lo : Int) (i : Nat) (d : D), (rngD lo n)[i]? = some d → i < n ∧ d = .int (lo + i)
  | 0, _, i, d, h => by simp [rngD] at h
  | n + 1, lo, 0, d, h => by simp [rngD] at h; exact ⟨by omega, by rw [← h]; simp⟩
  | n + 1, lo, i + 1, d, h => by
    rw [rngD, List.getElem?_cons_succ] at h
    obtain ⟨h1, h2⟩ := rng_at n (lo + 1) i d h
    exact ⟨by omega, by rw [h2]; congr 1; omega⟩
theorem zip_at : ∀ (ds : List D) (k i : Nat) (d : D), (zipI k ds)[i]? = some d → ∃ e, ds[i]? = some e ∧ d = .tup [.int ((k + i : Nat) : Int), e]
  | [], _, _, _, h => by simp [zipI] at h
  | d :: ds, k, 0, e, h => by
    simp [zipI] at h
    exact ⟨d, rfl, by rw [← h]; simp⟩
  | d :: ds, k, i + 1, e, h => by
    rw [zipI, List.getElem?_cons_succ] at h
    obtain ⟨f, h1, h2⟩ := zip_at ds (k + 1) i e h
    exact ⟨f, by simpa using h1, by rw [h2]; congr 3; omega⟩
theorem zip_len : ∀ (ds : List D) (k : Nat), (zipI k ds).length = ds.length
  | [], _ => rfl
  | d :: ds, k => by rw [zipI, List.length_cons, List.length_cons, zip_len ds]
end
end IP.Q

/-! PrH: the laws' helpers: drawing numbers, words. -/
namespace IP.Q
open PySem
structure TDraw (T : Tab) : Prop where
  cell : T "_law_cell_at" = some (.fn 2 2 l_cell_at)
  mixed : T "_law_mixed" = some (.fn 3 4 l_mixed)
  word : T "_law_word" = some (.fn 2 4 l_word)
  names : T "_law_names" = some (.fn 2 4 l_names)
def cellV (ns : List Int) (k : Int) : Int := if k < ns.length then ns.getD k.toNat 0 else if ns = [] then 0 else ns.getD (k.fmod ns.length).toNat 0 * 31 + k
def drawnV (ns : List Int) (k : Int) : Int := ((cellV ns k + 7919 * k + 1) * 48271).fmod 2147483647
def mixV (ns : List Int) (k m : Int) : Int := ((drawnV ns k * drawnV ns k + 7 * drawnV ns k + k).fmod 2147483629).fmod m
theorem mixV_nn (ns : List Int) (k : Int) {m : Int} (h : 0 < m) : 0 ≤ mixV ns k m := Int.fmod_nonneg_of_pos _ h
theorem mixV_lt (ns : List Int) (k : Int) {m : Int} (h : 0 < m) : mixV ns k m < m := Int.fmod_lt_of_pos _ h
theorem atI_get {α : Type} {xs : List α} {i : Int} {d : α} (h0 : 0 ≤ i) (h1 : i < xs.length) : L2.atI xs i = some (xs.getD i.toNat d) := by
  unfold L2.atI L2.ixN
  rw [if_pos h0, if_pos h1]
  show xs[i.toNat]? = _
  have hl : i.toNat < xs.length := by omega
  rw [List.getElem?_eq_getElem hl, List.getD_eq_getElem?_getD, List.getElem?_eq_getElem hl]; rfl
section
variable {T : Tab} {W n : Nat} {C : Str → List D → Sto → R D} {ρ : Env} {st : Sto} {a b : Ex}
theorem Ev.ltI {i j : Int} (ha : Ev C ρ st a (.int i)) (hb : Ev C ρ st b (.int j)) : Ev C ρ st (.cmp .lt a b) (.bl (decide (i < j))) := Ev.cmp ha hb fun s _ => rfl
theorem Ev.gtI {i j : Int} (ha : Ev C ρ st a (.int i)) (hb : Ev C ρ st b (.int j)) : Ev C ρ st (.cmp .gt a b) (.bl (decide (j < i))) := Ev.cmp ha hb fun s _ => rfl
theorem Ev.addI {i j : Int} (ha : Ev C ρ st a (.int i)) (hb : Ev C ρ st b (.int j)) : Ev C ρ st (.bin .add a b) (.int (i + j)) := Ev.bin ha hb fun s => rfl
theorem Ev.subI {i j : Int} (ha : Ev C ρ st a (.int i)) (hb : Ev C ρ st b (.int j)) : Ev C ρ st (.bin .sub a b) (.int (i - j)) := Ev.bin ha hb fun s => rfl
theorem Ev.mulI {i j : Int} (ha : Ev C ρ st a (.int i)) (hb : Ev C ρ st b (.int j)) (h : mulOk i j = true) : Ev C ρ st (.bin .mul a b) (.int (i * j)) := Ev.bin ha hb fun s => by simp only [binD, h, if_true]
theorem Ev.modI {i j : Int} (ha : Ev C ρ st a (.int i)) (hb : Ev C ρ st b (.int j)) (h : j ≠ 0) : Ev C ρ st (.bin .mod a b) (.int (i.fmod j)) := Ev.bin ha hb fun s => by simp only [binD, h, ne_eq, not_false_eq_true, if_true]
theorem Ev.lenR {ns : List Int} (ha : Ev C ρ st a (.ro ns)) : Ev C ρ st (.bi .len a) (.int ns.length) := Ev.bi ha fun s _ => rfl
theorem Ev.ixR {ns : List Int} {i : Int} (ha : Ev C ρ st a (.ro ns)) (hb : Ev C ρ st b (.int i)) (h0 : 0 ≤ i) (h1 : i < ns.length) : Ev C ρ st (.ix a b) (.int (ns.getD i.toNat 0)) := Ev.ix ha hb fun s _ => by
  simp only [ixD, atI_get (d := 0) h0 h1]
theorem mulOk_l {i j : Int} (h : -(2 ^ 64) < i) (h2 : i < 2 ^ 64) : mulOk i j = true := by
  unfold mulOk
  rw [decide_eq_true (⟨h, h2⟩ : -(2 ^ 64) < i ∧ i < 2 ^ 64)]; rfl
theorem mulOk_r {i j : Int} (h : -(2 ^ 64) < j) (h2 : j < 2 ^ 64) : mulOk i j = true := by
  unfold mulOk
  rw [decide_eq_true (⟨h, h2⟩ : -(2 ^ 64) < j ∧ j < 2 ^ 64), Bool.or_true]
theorem ro_nil (ns : List Int) {s : Sto} {m : Nat} (h : s[m]? = some (.lst [])) : eqD s (.ro ns) (.ref m) = some (decide (ns = [])) := by
  unfold eqD toData
  simp only [h, toDatas, Option.map]
  cases ns with
  | nil => simp [PyData.eqv, PyData.eqvAll]
  | cons x xs => simp [PyData.eqv, PyData.eqvAll]
/-- a comparison with a new list -/
theorem Ev.cmpL {o : Cop} {x : D} {ds : List D} {p : Bool} (ha : Ev C ρ st a x) (hb : EvL C ρ st b ds) (ho : ∀ s m, Ext st s → s[m]? = some (.lst ds) → cmpD o x (.ref m) s = some p) : Ev C ρ st (.cmp o a b) (.bl p) := fun s hs => by
  rw [w_cmp]
  refine ok_mono (ha s hs) fun u s1 ⟨e1, hu⟩ => ?_
  subst hu
  refine ok_mono (hb s1 (hs.trans e1)) fun v s2 ⟨e2, m, hv, hn, hc⟩ => ?_
  subst hv
  rw [ho s2 m ((hs.trans e1).trans e2) hc]
  exact ⟨e1.trans e2, rfl⟩
theorem cell_says (hT : TDraw T) (ns : List Int) (k : Int) (hk : 0 ≤ k) : Fn (callD T W (n + 1)) st "_law_cell_at" [.ro ns, .int k] (.int (cellV ns k)) := by
  refine Fn.of hT.cell rfl ?_
  show Bd _ _ [some (.ro ns), some (.int k)] _ _ _
  unfold l_cell_at
  refine Bd.to (Bd.ife (Ev.ltI (Ev.lc rfl) (Ev.lenR (Ev.lc rfl))) (fun h => ⟨Bd.ret (Ev.ixR (Ev.lc rfl) (Ev.lc rfl) hk (of_decide_eq_true h)), fun z => nomatch z⟩)
    fun h => Bd.ife (Ev.cmpL (o := .eq) (Ev.lc rfl) (EvL.lst Evs.nil (Nat.zero_le _)) fun s m _ hc => ro_nil ns hc) (fun _ => ⟨Bd.ret Ev.k, fun z => nomatch z⟩)
      fun h2 => Bd.ret (Ev.addI (Ev.mulI (Ev.ixR (Ev.lc rfl) (Ev.modI (Ev.lc rfl) (Ev.lenR (Ev.lc rfl)) ?_) ?_ ?_) Ev.k (mulOk_r (by decide) (by decide))) (Ev.lc rfl))) ?_
  · have h3 : ns ≠ [] := of_decide_eq_false h2
    have : 0 < ns.length := List.length_pos_iff.mpr h3
    omega
  · have h3 : ns ≠ [] := of_decide_eq_false h2
    have : 0 < ns.length := List.length_pos_iff.mpr h3
    exact Int.fmod_nonneg_of_pos _ (by omega)
  · have h3 : ns ≠ [] := of_decide_eq_false h2
    have : 0 < ns.length := List.length_pos_iff.mpr h3
    exact Int.fmod_lt_of_pos _ (by omega)
  · unfold cellV
    simp only [decide_eq_true_eq]
    split
    · rfl
    · split <;> rfl
theorem mixed_says (hT : TDraw T) (ns : List Int) (k m : Int) (hk : 0 ≤ k) (hm : 0 < m) : Fn (callD T W (n + 2)) st "_law_mixed" [.ro ns, .int k, .int m] (.int (mixV ns k m)) := by
  refine Fn.of hT.mixed rfl ?_
  show Bd _ _ [some (.ro ns), some (.int k), some (.int m), none] _ _ _
  unfold l_mixed
  have d1 : 0 ≤ drawnV ns k := Int.fmod_nonneg_of_pos _ (by decide)
  have d2 : drawnV ns k < 2147483647 := Int.fmod_lt_of_pos _ (by decide)
  have hc : Fn (callD T W (n + 1)) st "_law_cell_at" [.ro ns, .int k] (.int (cellV ns k)) := cell_says hT ns k hk
  refine Bd.asg (x := .int (drawnV ns k)) (ρ' := [some (.ro ns), some (.int k), some (.int m), some (.int (drawnV ns k))])
    (Ev.modI (Ev.mulI (Ev.addI (Ev.addI (Ev.call (Evs.cons (Ev.lc rfl) (Evs.cons (Ev.lc rfl) Evs.nil)) hc) (Ev.mulI Ev.k (Ev.lc rfl) (mulOk_l (by decide) (by decide)))) Ev.k) Ev.k (mulOk_r (by decide) (by decide))) Ev.k (by decide)) (fun s => rfl) ?_
  exact Bd.ret (Ev.modI (Ev.modI (Ev.addI (Ev.addI (Ev.mulI (Ev.lc rfl) (Ev.lc rfl) (mulOk_l (by omega) (by omega))) (Ev.mulI Ev.k (Ev.lc rfl) (mulOk_l (by decide) (by decide)))) (Ev.lc rfl)) Ev.k (by decide)) (Ev.lc rfl) (by omega))
/-! ### words -/
def abc : Str := "abcdefghijklmnopqrstuvwxyz"
theorem abc_list : abc.cps.toList = (List.range 26).map (97 + ·) := by decide +kernel
theorem abc_len : abc.length = 26 := by decide +kernel
def letV (i : Int) : Nat := 97 + i.toNat
def lensV : List Int := [1, 2, 3, 6, 1, 4]
def wlenV (ns : List Int) (at_ : Int) : Nat := (lensV.getD (mixV ns at_ 6).toNat 0).toNat
def wordCs (ns : List Int) (at_ : Int) (j : Nat) : List Nat := (List.range j).map fun k : Nat => letV (mixV ns (at_ + 1 + (k : Int)) 26)
def wordV (ns : List Int) (at_ : Int) : Str := ⟨(wordCs ns at_ (wlenV ns at_)).toArray⟩
theorem str_add (xs : List Nat) (c : Nat) : (⟨xs.toArray⟩ : Str) ++ (⟨#[c]⟩ : Str) = ⟨(xs ++ [c]).toArray⟩ := by
  show (⟨xs.toArray ++ #[c]⟩ : Str) = _
  congr 1
  simp
theorem Ev.ixL {es : Exs} {ds : List D} {i : Int} {d : D} (h : EvL C ρ st a ds) (hb : Ev C ρ st b (.int i)) (hd : L2.atI ds i = some d) : Ev C ρ st (.ix a b) d := fun s hs => by
  rw [w_ix]
  refine ok_mono (h s hs) fun u s1 ⟨e1, m, hu, hn, hc⟩ => ?_
  subst hu
  refine ok_mono (hb s1 (hs.trans e1)) fun v s2 ⟨e2, hv⟩ => ?_
  subst hv
  simp only [ixD, e2.at_ hc, hd]
  exact ⟨e1.trans e2, rfl⟩
theorem Ev.ixS {z : Str} {i : Int} {c : Nat} (ha : Ev C ρ st a (.str z)) (hb : Ev C ρ st b (.int i)) (hl : z.length ≤ LIM) (h : L2.atI z.cps.toList i = some c) : Ev C ρ st (.ix a b) (.str ⟨#[c]⟩) := Ev.ix ha hb fun s _ => by
  simp only [ixD, hl, if_true, h]
theorem abc_at {i : Int} (h0 : 0 ≤ i) (h1 : i < 26) : L2.atI abc.cps.toList i = some (letV i) := by
  rw [atI_get (d := 0) h0 (by rw [abc_list]; simpa using h1), abc_list]
  congr 1
  have : i.toNat < 26 := by omega
  simp [letV, List.getD_eq_getElem?_getD, List.getElem?_map, List.getElem?_range this]
theorem lens_at {i : Int} (h0 : 0 ≤ i) (h1 : i < 6) : L2.atI [D.int 1, .int 2, .int 3, .int 6, .int 1, .int 4] i = some (.int (lensV.getD i.toNat 0)) ∧ 1 ≤ lensV.getD i.toNat 0 ∧ lensV.getD i.toNat 0 ≤ 6 := by
  have h : i = 0 ∨ i = 1 ∨ i = 2 ∨ i = 3 ∨ i = 4 ∨ i = 5 := by omega
  rcases h with rfl | rfl | rfl | rfl | rfl | rfl <;> exact ⟨by rfl, by decide, by decide⟩
theorem word_says (hT : TDraw T) (ns : List Int) (k : Int) (hk : 0 ≤ k) : Fn (callD T W (n + 3)) st "_law_word" [.ro ns, .int k] (.str (wordV ns k)) := by
  refine Fn.of hT.word rfl ?_
  show Bd _ _ [some (.ro ns), some (.int k), none, none] _ _ _
  unfold l_word
  refine Bd.asg (ρ' := [some (.ro ns), some (.int k), some (.str ⟨#[]⟩), none]) Ev.k (fun s => rfl) ?_
  have m0 := mixV_nn ns k (m := 6) (by decide)
  have m1 := mixV_lt ns k (m := 6) (by decide)
  obtain ⟨l1, l2, l3⟩ := lens_at m0 m1
  intro s hs
  rw [s_cons]
  have hm : Fn (callD T W (n + 2)) st "_law_mixed" [.ro ns, .int k, .int 6] (.int (mixV ns k 6)) := mixed_says hT ns k 6 hk (by decide)
  refine S_fr hs (Evi.rng (Ev.ixL (es := .nil) (EvL.lst (Evs.cons Ev.k (Evs.cons Ev.k (Evs.cons Ev.k (Evs.cons Ev.k (Evs.cons Ev.k (Evs.cons Ev.k Evs.nil)))))) (by decide))
    (Ev.call (Evs.cons (Ev.lc rfl) (Evs.cons (Ev.lc rfl) (Evs.cons Ev.k Evs.nil))) hm) l1) (decide_eq_true (by omega))) fun s1 w e1 hw => ?_
  refine for_rule (fun i ρ s2 => Ext s1 s2 ∧ ∃ x, ρ = [some (.ro ns), some (.int k), some (.str ⟨(wordCs ns k i).toArray⟩), x]) _ 0 _ s1 ⟨Ext.refl _, none, rfl⟩ (fun i d ρ s2 hd hI => ?_) fun ρ s2 hI => ?_
  · obtain ⟨e2, x, rfl⟩ := hI
    rw [Nat.zero_add] at *
    obtain ⟨hlt, rfl⟩ := rng_at _ _ _ _ hd
    rw [Int.zero_add]
    show okS (excs _ _ _ [some (.ro ns), some (.int k), some (.str ⟨(wordCs ns k i).toArray⟩), some (.int (i : Int))] s2) _ _ _
    rw [s_cons]
    have hm2 : Fn (callD T W (n + 2)) s2 "_law_mixed" [.ro ns, .int (k + 1 + (i : Int)), .int 26] (.int (mixV ns (k + 1 + (i : Int)) 26)) := mixed_says hT ns _ 26 (by omega) (by decide)
    have q0 := mixV_nn ns (k + 1 + (i : Int)) (m := 26) (by decide)
    have q1 := mixV_lt ns (k + 1 + (i : Int)) (m := 26) (by decide)
    refine S_asg (Ext.refl _) (Ev.bin (d := .str ⟨(wordCs ns k (i + 1)).toArray⟩) (Ev.lc rfl) (Ev.ixS (z := abc) Ev.k (Ev.call (Evs.cons (Ev.lc rfl) (Evs.cons (Ev.addI (Ev.addI (Ev.lc rfl) Ev.k) (Ev.lc rfl)) (Evs.cons Ev.k Evs.nil))) hm2) (by rw [abc_len]; decide) (abc_at q0 q1)) fun s => ?_) fun s3 e3 => ⟨_, rfl, ?_⟩
    · have h26 : (⟨(wordCs ns k i).toArray⟩ : Str).length + (⟨#[letV (mixV ns (k + 1 + (i : Int)) 26)]⟩ : Str).length ≤ LIM := by
        have z1 : (⟨(wordCs ns k i).toArray⟩ : Str).length = i := by simp [Str.length, wordCs]
        have z2 : (⟨#[letV (mixV ns (k + 1 + (i : Int)) 26)]⟩ : Str).length = 1 := rfl
        rw [z1, z2]
        unfold LIM
        omega
      simp only [binD, h26, if_true, str_add]
      rw [show wordCs ns k i ++ [letV (mixV ns (k + 1 + (i : Int)) 26)] = wordCs ns k (i + 1) from by unfold wordCs; rw [List.range_succ, List.map_append]; rfl]
    · rw [s_nil]
      exact ⟨⟨e2.trans e3, _, rfl⟩, ((e2.trans e3)).okW hw⟩
  · obtain ⟨e2, x, rfl⟩ := hI
    rw [Nat.zero_add, rng_len] at *
    rw [s_cons]
    refine S_ret (Ext.refl _) (Ev.lc rfl) fun s3 e3 => ⟨(e1.trans e2).trans e3, rfl⟩
end
end IP.Q

/-! PrI: the laws' helpers: names, rows, files, worlds. -/
namespace IP.Q
open PySem
/-! ### worlds -/
inductive Row where
  | put (f : Str) (i : Int)
  | read (f w g : Str)
  | need (w : Str)
  | note (x : Str)
  | fail (x : Str)
def Row.d : Row → D
  | .put f i => .tup [.str "put", .str f, .int i]
  | .read f w g => .tup [.str "read", .str f, .str w, .str g]
  | .need w => .tup [.str "need", .str w]
  | .note x => .tup [.str "note", .str x]
  | .fail x => .tup [.str "fail", .str x]
structure File where
  face : Bool
  name : Str
  above : Option Str
  faces : List Str
  rows : List Row
def kindV (b : Bool) : Str := if b then "face" else "class"
def optS : Option Str → D
  | none => .non
  | some x => .str x
def optI : Option Int → D
  | none => .non
  | some x => .int x
def File.d (f : File) : D := .tup [.str (kindV f.face), .str f.name, optS f.above, .tup (f.faces.map .str), .tup (f.rows.map Row.d)]
structure Ldr where
  par : Option Int
  shelf : List File
def Ldr.d (l : Ldr) : D := .tup [optI l.par, .tup (l.shelf.map File.d)]
abbrev Wld := List Ldr
def wd (w : Wld) : D := .tup (w.map Ldr.d)

def FnL (C : Str → List D → Sto → R D) (st : Sto) (f : Str) (ds : List D) (out : List D) : Prop := ∀ s, Ext st s → ok (C f ds s) fun x s' => Ext s s' ∧ ∃ n, x = .ref n ∧ s.length ≤ n ∧ s'[n]? = some (.lst out)
section
variable {T : Tab} {W n : Nat} {C : Str → List D → Sto → R D} {ρ : Env} {st s : Sto} {a b e : Ex} {x y d : D} {N : Env → Sto → Prop} {Rt : D → Sto → Prop} {Ct : Env → Sto → Prop}
theorem EvL.call {f : Str} {es : Exs} {ds out : List D} (h : Evs C ρ st es ds) (hf : FnL C st f ds out) : EvL C ρ st (.call f es) out := fun s hs => by
  rw [w_call]
  refine ok_mono (h s hs) fun us s1 ⟨e1, hu⟩ => ?_
  subst hu
  exact ok_mono (hf s1 (hs.trans e1)) fun u s2 ⟨e2, m, hv, hn, hc⟩ => ⟨e1.trans e2, m, hv, Nat.le_trans (hs.trans e1).len hn, hc⟩
theorem Ev.ixV {m : Nat} {ds : List D} {i : Int} (ha : Ev C ρ st a (.ref m)) (hm : st[m]? = some (.lst ds)) (hb : Ev C ρ st b (.int i)) (h : L2.atI ds i = some d) : Ev C ρ st (.ix a b) d := Ev.ix ha hb fun s hs => by simp only [ixD, hs.at_ hm, h]
theorem Ev.lenV {m : Nat} {ds : List D} (ha : Ev C ρ st a (.ref m)) (hm : st[m]? = some (.lst ds)) : Ev C ρ st (.bi .len a) (.int ds.length) := Ev.bi ha fun s hs => by simp only [biD, hs.at_ hm]
theorem Ev.tupV {m : Nat} {ds : List D} (ha : Ev C ρ st a (.ref m)) (hm : st[m]? = some (.lst ds)) : Ev C ρ st (.bi .tuple a) (.tup ds) := Ev.bi ha fun s hs => by simp only [biD, hs.at_ hm]
theorem Ev.lsetV {m : Nat} {xs : List Str} (ha : Ev C ρ st a (.ref m)) (hm : st[m]? = some (.lst (xs.map D.str))) (h : xs.length ≤ 100) : Ev C ρ st (.lset a) (.int (distinct xs).length) := Ev.one (fun s Q => w_lset) ha fun s hs => by simp only [lsetD, hs.at_ hm, strsOf_map, h, if_true]
theorem Ev.intB {p : Bool} (ha : Ev C ρ st a (.bl p)) : Ev C ρ st (.bi .int a) (.int (if p then 1 else 0)) := Ev.bi ha fun s hs => rfl
theorem EvL.slV {m : Nat} {ds : List D} {l h : Option Int} {el eh : Exo} (ha : Ev C ρ st a (.ref m)) (hm : st[m]? = some (.lst ds)) (hl : ∀ s (Q : Option Int → Sto → Prop), Ext st s → (∀ s', Ext s s' → Q l s') → ok (evo C el ρ s) Q) (hh : ∀ s (Q : Option Int → Sto → Prop), Ext st s → (∀ s', Ext s s' → Q h s') → ok (evo C eh ρ s) Q) :
    EvL C ρ st (.sl a el eh) (cutL ds l h) := fun s hs => by
  rw [w_sl]
  refine ok_mono (ha s hs) fun u s1 ⟨e1, hu⟩ => ?_
  subst hu
  refine hl s1 _ (hs.trans e1) fun s2 e2 => hh s2 _ ((hs.trans e1).trans e2) fun s3 e3 => ?_
  have e13 := (hs.trans e1).trans (e2.trans e3)
  simp only [slD, e13.at_ hm, ok_ok]
  exact ⟨(e1.trans (e2.trans e3)).trans (Ext.more _), _, rfl, e13.len, by rw [List.getElem?_append_right (Nat.le_refl _)]; simp⟩
theorem EvL.add {ds es : List D} (ha : EvL C ρ st a ds) (hb : EvL C ρ st b es) (h : ds.length + es.length ≤ LIM) : EvL C ρ st (.bin .add a b) (ds ++ es) := fun s hs => by
  rw [w_bin]
  refine ok_mono (ha s hs) fun u s1 ⟨e1, m, hu, hn, hc⟩ => ?_
  subst hu
  refine ok_mono (hb s1 (hs.trans e1)) fun v s2 ⟨e2, k, hv, hn2, hc2⟩ => ?_
  subst hv
  simp only [binD, e2.at_ hc, hc2, h, if_true, ok_ok]
  exact ⟨(e1.trans e2).trans (Ext.more _), _, rfl, ((hs.trans e1).trans e2).len, by rw [List.getElem?_append_right (Nat.le_refl _)]; simp⟩
/-- d[i] = e -/
theorem S_put {i : Ex} {m : Nat} {kvs : List (D × D)} {j : Nat} (hl : ρ[j]? = some (some (.ref m))) (hm : s[m]? = some (.dic kvs)) (h : Ev C ρ s e x) (hi : Ev C ρ s i y) (ha : alikeK kvs y = true) (hz : kvs.length < LIM) (k : ∀ s1, Ext s s1 → N ρ (s1.set m (.dic (dput kvs y x)))) : okS (exc C W (.aset (.lc j) i e) ρ s) N Rt Ct := by
  rw [exc, okS_ofR]
  refine ok_mono (h s (Ext.refl _)) fun u s1 ⟨e1, hu⟩ => ?_
  subst hu
  rw [okS_ofR, w_lc hl, okS_ofR]
  refine ok_mono (hi s1 e1) fun v s2 ⟨e2, hv⟩ => ?_
  subst hv
  simp only [(e1.trans e2).at_ hm, ha, hz, decide_true, Bool.and_self, if_true]
  exact k s2 (e1.trans e2)
end
/-! ### names -/
def namesV (ns : List Int) (k : Int) : List Str := dedup [] [wordV ns k, wordV ns (k + 8), wordV ns (k + 16), wordV ns (k + 24)]
def keysOf (xs : List Str) : List (D × D) := xs.map fun x => (.str x, .bl true)
theorem dput_keys1 (xs : List Str) (x : Str) : dput (keysOf xs) (.str x) (.bl true) = keysOf (dedup xs [x]) := by
  unfold dput keysOf
  have e1 : ((xs.map fun x => ((D.str x, D.bl true) : D × D)).any fun p => decide (p.1 = D.str x)) = decide (x ∈ xs) := by
    induction xs with
    | nil => rfl
    | cons y ys ih =>
      rw [List.map_cons, List.any_cons, ih]
      by_cases e : y = x
      · subst e; simp
      · have : ¬ x = y := fun z => e z.symm
        simp [e, this]
  rw [e1]
  by_cases h : x ∈ xs
  · rw [if_pos (decide_eq_true h)]
    unfold dedup
    rw [if_pos h]
    unfold dedup
    rw [List.map_map]
    refine List.map_congr_left fun y _ => ?_
    show (if D.str y = D.str x then (D.str y, D.bl true) else (D.str y, D.bl true)) = _
    split <;> rfl
  · rw [if_neg (by simpa using h)]
    unfold dedup
    rw [if_neg h]
    unfold dedup
    rw [List.map_append]; rfl
theorem alike_keys (xs : List Str) (x : Str) : alikeK (keysOf xs) (.str x) = true := by
  unfold alikeK keyKind keysOf
  simp [keyKind]
theorem dedup_le (xs : List Str) : ∀ acc : List Str, (dedup acc xs).length ≤ acc.length + xs.length := by
  induction xs with
  | nil => intro acc; simp [dedup]
  | cons y ys ih =>
    intro acc
    simp only [dedup]
    split
    · have := ih acc; simp only [List.length_cons]; omega
    · have := ih (acc ++ [y]); simp only [List.length_append, List.length_cons, List.length_nil] at this ⊢; omega
theorem dedup_app (xs : List Str) : ∀ (acc : List Str) (ys : List Str), dedup acc (xs ++ ys) = dedup (dedup acc xs) ys := by
  induction xs with
  | nil => intro acc ys; rfl
  | cons x xs ih =>
    intro acc ys
    simp only [List.cons_append, dedup]
    split <;> exact ih _ _
def wordsV (ns : List Int) (k : Int) (j : Nat) : List Str := (List.range j).map fun i : Nat => wordV ns (k + 8 * (i : Int))
theorem wordsV_4 (ns : List Int) (k : Int) : dedup [] (wordsV ns k 4) = namesV ns k := by
  unfold wordsV namesV
  simp [List.range, List.range.loop]
section
variable {T : Tab} {W n : Nat} {st : Sto}
theorem names_says (hT : TDraw T) (ns : List Int) (k : Int) (hk : 0 ≤ k) : FnL (callD T W (n + 4)) st "_law_names" [.ro ns, .int k] ((namesV ns k).map .str) := by
  intro s hs
  refine call_ok hT.names rfl ?_
  show okS (excs _ _ _ [some (.ro ns), some (.int k), none, none] _) _ _ _
  unfold l_names
  rw [s_cons, s_asg, w_dnew]
  refine ⟨_, rfl, ?_⟩
  show okS (excs _ _ _ [some (.ro ns), some (.int k), some (.ref s.length), none] _) _ _ _
  rw [s_cons]
  have hn : ((s ++ [Cell.dic []])[s.length]?) = some (.dic []) := by rw [List.getElem?_append_right (Nat.le_refl _)]; simp
  refine S_frW (Ext.refl _) (EviW.rng Ev.k (by decide)) rfl fun s1 e1 _ => ?_
  refine for_rule (fun i ρ s2 => Ext s s2 ∧ s2[s.length]? = some (.dic (keysOf (dedup [] (wordsV ns k i)))) ∧ ∃ x, ρ = [some (.ro ns), some (.int k), some (.ref s.length), x]) _ 0 _ s1 ?_ (fun i d ρ s2 hd hI => ?_) fun ρ s2 hI => ?_
  · exact ⟨(Ext.more _).trans e1, e1.at_ hn, none, rfl⟩
  · obtain ⟨e2, hc, x, rfl⟩ := hI
    rw [Nat.zero_add] at *
    obtain ⟨hlt, rfl⟩ := rng_at _ _ _ _ hd
    rw [Int.zero_add]
    show okS (excs _ _ _ [some (.ro ns), some (.int k), some (.ref s.length), some (.int (i : Int))] s2) _ _ _
    rw [s_cons]
    have hw2 : Fn (callD T W (n + 3)) s2 "_law_word" [.ro ns, .int (k + 8 * (i : Int))] (.str (wordV ns (k + 8 * (i : Int)))) := word_says hT ns _ (by omega)
    refine S_put rfl hc Ev.k (Ev.call (Evs.cons (Ev.lc rfl) (Evs.cons (Ev.addI (Ev.lc rfl) (Ev.mulI Ev.k (Ev.lc rfl) (mulOk_l (by decide) (by decide)))) Evs.nil)) hw2) (alike_keys _ _) ?_ fun s3 e3 => ?_
    · have := dedup_le (wordsV ns k i) []
      simp only [keysOf, List.length_map, wordsV, List.length_range, List.length_nil] at this ⊢
      have h4 : i < 4 := hlt
      unfold LIM
      omega
    · rw [s_nil]
      have hlen : s.length < s3.length := (List.getElem?_eq_some_iff.mp (e3.at_ hc)).1
      refine ⟨⟨(e2.trans e3).set (Nat.le_refl _), ?_, _, rfl⟩, rfl⟩
      rw [List.getElem?_set_self hlen, dput_keys1]
      rw [show dedup (dedup [] (wordsV ns k i)) [wordV ns (k + 8 * (i : Int))] = dedup [] (wordsV ns k (i + 1)) from by
        rw [← dedup_app]; unfold wordsV; rw [List.range_succ, List.map_append]; rfl]
  · obtain ⟨e2, hc, x, rfl⟩ := hI
    rw [Nat.zero_add] at *
    have h4 : (rngD 0 (4 : Int).toNat).length = 4 := by rw [rng_len]; rfl
    rw [h4, wordsV_4] at hc
    rw [s_cons, s_ret, w_bi, w_lc (d := .ref s.length) rfl]
    simp only [biD, hc, ok_ok]
    refine ⟨e2.trans (Ext.more _), _, rfl, e2.len, ?_⟩
    rw [List.getElem?_append_right (Nat.le_refl _)]
    simp [keysOf]
end
end IP.Q

/-! PrJ: the laws' helpers: rows, files, worlds: what they answer. -/
namespace IP.Q
open PySem
def fgV (i : Int) : Str := if i = 0 then "f" else "g"
def xyV (i : Int) : Str := if i = 0 then "x" else "y"
def pickV (ns : List Int) (k : Int) (xs : List Str) : Str := xs.getD (mixV ns k xs.length).toNat Str.empty
def rowV (ns : List Int) (k : Int) (xs : List Str) : Row :=
  if mixV ns k 12 < 4 then .put (fgV (mixV ns (k + 2) 2)) (mixV ns (k + 3) 100)
  else if mixV ns k 12 < 7 then .read (fgV (mixV ns (k + 2) 2)) (pickV ns (k + 1) xs) (fgV (mixV ns (k + 3) 2))
  else if mixV ns k 12 < 10 then .need (pickV ns (k + 1) xs)
  else if mixV ns (k + 3) 3 < 2 then .note (xyV (mixV ns (k + 2) 2)) else .fail (xyV (mixV ns (k + 2) 2))
structure TWorld (T : Tab) (fl : Sts) : Prop extends TDraw T where
  row : T "_law_row" = some (.fn 3 6 l_row)
  file : T "_law_file" = some (.fn 5 10 fl)
  world : T "_law_world" = some (.fn 5 15 l_world)
theorem fg_at {i : Int} (h0 : 0 ≤ i) (h1 : i < 2) : L2.atI [D.str "f", .str "g"] i = some (.str (fgV i)) := by
  have h : i = 0 ∨ i = 1 := by omega
  rcases h with rfl | rfl <;> rfl
theorem xy_at {i : Int} (h0 : 0 ≤ i) (h1 : i < 2) : L2.atI [D.str "x", .str "y"] i = some (.str (xyV i)) := by
  have h : i = 0 ∨ i = 1 := by omega
  rcases h with rfl | rfl <;> rfl
theorem nf_at {i : Int} (h0 : 0 ≤ i) (h1 : i < 3) : L2.atI [D.str "note", .str "note", .str "fail"] i = some (.str (if i < 2 then "note" else "fail")) := by
  have h : i = 0 ∨ i = 1 ∨ i = 2 := by omega
  rcases h with rfl | rfl | rfl <;> rfl
theorem strs_at {xs : List Str} {i : Int} (h0 : 0 ≤ i) (h1 : i < xs.length) : L2.atI (xs.map D.str) i = some (.str (xs.getD i.toNat Str.empty)) := by
  have h : (xs.map D.str).getD i.toNat (D.str Str.empty) = .str (xs.getD i.toNat Str.empty) := by
    simp only [List.getD_eq_getElem?_getD, List.getElem?_map]
    cases xs[i.toNat]? <;> rfl
  rw [atI_get (d := D.str Str.empty) h0 (by rw [List.length_map]; exact h1), h]
section
variable {T : Tab} {W n : Nat} {C : Str → List D → Sto → R D} {ρ : Env} {st : Sto} {a b e : Ex} {fl : Sts}
/-- a drawn number in an expression -/
theorem Ev.mix {ns : List Int} {k m : Int} {j : Nat} (hT : TDraw T) (hj : ρ[j]? = some (some (.ro ns))) (ha : Ev (callD T W (n + 2)) ρ st a (.int k)) (hb : Ev (callD T W (n + 2)) ρ st b (.int m)) (hk : 0 ≤ k) (hm : 0 < m) :
    Ev (callD T W (n + 2)) ρ st (.call "_law_mixed" (.cons (.lc j) (.cons a (.cons b .nil)))) (.int (mixV ns k m)) :=
  Ev.call (Evs.cons (Ev.lc hj) (Evs.cons ha (Evs.cons hb Evs.nil))) (mixed_says hT ns k m hk hm)
theorem row_says (hT : TWorld T fl) (ns : List Int) (k : Int) (hk : 0 ≤ k) {m : Nat} {xs : List Str} (hm : st[m]? = some (.lst (xs.map .str))) (hx : xs ≠ []) : Fn (callD T W (n + 3)) st "_law_row" [.ro ns, .int k, .ref m] (rowV ns k xs).d := by
  have hl : 0 < xs.length := List.length_pos_iff.mpr hx
  have tD := hT.toTDraw
  refine Fn.of hT.row rfl ?_
  show Bd _ _ [some (.ro ns), some (.int k), some (.ref m), none, none, none] _ _ _
  unfold l_row
  refine Bd.asg (Ev.mix tD rfl (Ev.lc rfl) Ev.k hk (by decide)) (fun s => rfl) ?_
  show Bd _ _ [some (.ro ns), some (.int k), some (.ref m), some (.int (mixV ns k 12)), none, none] _ _ _
  have hlen : ((xs.map D.str).length : Int) = xs.length := by rw [List.length_map]
  have p0 := mixV_nn ns (k + 1) (m := xs.length) (by omega)
  have p1 := mixV_lt ns (k + 1) (m := xs.length) (by omega)
  refine Bd.asg (x := .str (pickV ns (k + 1) xs)) (Ev.ixV (i := mixV ns (k + 1) xs.length) (Ev.lc rfl) hm (by rw [← hlen]; exact Ev.mix tD rfl (Ev.addI (Ev.lc rfl) Ev.k) (Ev.lenV (Ev.lc rfl) hm) (by omega) (by omega)) (strs_at p0 p1)) (fun s => rfl) ?_
  show Bd _ _ [some (.ro ns), some (.int k), some (.ref m), some (.int (mixV ns k 12)), some (.str (pickV ns (k + 1) xs)), none] _ _ _
  refine Bd.asg (x := .str (fgV (mixV ns (k + 2) 2))) (Ev.ixL (es := .nil) (EvL.lst (Evs.cons Ev.k (Evs.cons Ev.k Evs.nil)) (by decide)) (Ev.mix tD rfl (Ev.addI (Ev.lc rfl) Ev.k) Ev.k (by omega) (by decide)) (fg_at (mixV_nn _ _ (by decide)) (mixV_lt _ _ (by decide)))) (fun s => rfl) ?_
  show Bd _ _ [some (.ro ns), some (.int k), some (.ref m), some (.int (mixV ns k 12)), some (.str (pickV ns (k + 1) xs)), some (.str (fgV (mixV ns (k + 2) 2)))] _ _ _
  refine Bd.to (Bd.ife (Ev.ltI (Ev.lc rfl) Ev.k) (fun h => ⟨Bd.ret (Ev.tup (Evs.cons Ev.k (Evs.cons (Ev.lc rfl) (Evs.cons (Ev.mix tD rfl (Ev.addI (Ev.lc rfl) Ev.k) Ev.k (by omega) (by decide)) Evs.nil))) (by show 3 ≤ LIM; decide)), fun z => nomatch z⟩)
    fun h => Bd.ife (Ev.ltI (Ev.lc rfl) Ev.k) (fun h => ⟨Bd.ret (Ev.tup (Evs.cons Ev.k (Evs.cons (Ev.lc rfl) (Evs.cons (Ev.lc rfl) (Evs.cons (Ev.ixL (es := .nil) (EvL.lst (Evs.cons Ev.k (Evs.cons Ev.k Evs.nil)) (by decide)) (Ev.mix tD rfl (Ev.addI (Ev.lc rfl) Ev.k) Ev.k (by omega) (by decide)) (fg_at (mixV_nn _ _ (by decide)) (mixV_lt _ _ (by decide)))) Evs.nil)))) (by show 4 ≤ LIM; decide)), fun z => nomatch z⟩)
    fun h => Bd.ife (Ev.ltI (Ev.lc rfl) Ev.k) (fun h => ⟨Bd.ret (Ev.tup (Evs.cons Ev.k (Evs.cons (Ev.lc rfl) Evs.nil)) (by show 2 ≤ LIM; decide)), fun z => nomatch z⟩)
    fun h => Bd.ret (Ev.tup (Evs.cons (Ev.ixL (es := .nil) (EvL.lst (Evs.cons Ev.k (Evs.cons Ev.k (Evs.cons Ev.k Evs.nil))) (by decide)) (Ev.mix tD rfl (Ev.addI (Ev.lc rfl) Ev.k) Ev.k (by omega) (by decide)) (nf_at (mixV_nn _ _ (by decide)) (mixV_lt _ _ (by decide))))
      (Evs.cons (Ev.ixL (es := .nil) (EvL.lst (Evs.cons Ev.k (Evs.cons Ev.k Evs.nil)) (by decide)) (Ev.mix tD rfl (Ev.addI (Ev.lc rfl) Ev.k) Ev.k (by omega) (by decide)) (xy_at (mixV_nn _ _ (by decide)) (mixV_lt _ _ (by decide)))) Evs.nil)) (by show 2 ≤ LIM; decide))) ?_
  unfold rowV
  simp only [decide_eq_true_eq]
  split
  · rfl
  · split
    · rfl
    · split
      · rfl
      · split <;> rfl

/-! ### files -/
def lastV (xs : List Str) : Str := xs.getD (xs.length - 1) Str.empty
def faceV (ns : List Int) (k : Int) (xs : List Str) (x : Str) : Bool := if mixV ns (k + 1) 8 = 0 then decide (mixV ns k 2 = 0) else decide (x = lastV xs)
def aboveV (ns : List Int) (k : Int) (xs : List Str) (x : Str) : Option Str := if faceV ns k xs x = false ∧ mixV ns (k + 1) 3 = 0 then some (pickV ns (k + 2) xs) else none
def faces1 (ns : List Int) (k : Int) (xs : List Str) : List Str := if mixV ns (k + 3) 3 = 0 then [lastV xs] else []
def faces2 (ns : List Int) (k : Int) (xs : List Str) : List Str := faces1 ns k xs ++ if mixV ns (k + 3) 5 = 1 then [pickV ns (k + 4) xs] else []
def facesV (ns : List Int) (k : Int) (xs : List Str) : List Str := (faces2 ns k xs).take (distinct (faces2 ns k xs)).length
def rowsV (ns : List Int) (k : Int) (xs : List Str) (long : Int) : List Row := (List.range (mixV ns (k + 5) (long + 1)).toNat).map fun i : Nat => rowV ns (k + 10 + 5 * (i : Int)) xs
def fileV (ns : List Int) (k : Int) (xs : List Str) (x : Str) (long : Int) : File := ⟨faceV ns k xs x, x, aboveV ns k xs x, facesV ns k xs, rowsV ns k xs long⟩
theorem last_at {xs : List Str} (h : xs ≠ []) : L2.atI (xs.map D.str) (-1) = some (.str (lastV xs)) := by
  have hl : 0 < xs.length := List.length_pos_iff.mpr h
  unfold L2.atI L2.ixN
  rw [if_neg (by omega), if_pos (by rw [List.length_map]; omega)]
  show (xs.map D.str)[_]? = _
  rw [List.getElem?_map]
  have e : ((-1 : Int) + ((xs.map D.str).length : Nat)).toNat = xs.length - 1 := by rw [List.length_map]; omega
  rw [e]
  unfold lastV
  rw [List.getD_eq_getElem?_getD, List.getElem?_eq_getElem (by omega)]; rfl
theorem rngD_map : ∀ (n : Nat) (lo : Int), rngD lo n = (List.range n).map fun i : Nat => D.int (lo + (i : Int))
  | 0, _ => rfl
  | n + 1, lo => by
    rw [rngD, rngD_map n, List.range_succ_eq_map, List.map_cons, List.map_map]
    congr 1
    · simp
    · refine List.map_congr_left fun i _ => ?_
      show D.int _ = D.int _
      congr 1
      omega
theorem cutL_take {α : Type} (xs : List α) (j : Nat) : cutL xs none (some (j : Int)) = xs.take j := by
  unfold cutL
  rw [HT.sIx_nat]
  show (xs.drop 0).take (min j xs.length - 0) = _
  rw [List.drop_zero, Nat.sub_zero]
  by_cases h : j ≤ xs.length
  · rw [Nat.min_eq_left h]
  · rw [Nat.min_eq_right (by omega), List.take_length, List.take_of_length_le (by omega)]
theorem cutL_drop {α : Type} (xs : List α) (j : Nat) : cutL xs (some (j : Int)) none = xs.drop j := by
  unfold cutL
  rw [HT.sIx_nat]
  show (xs.drop (min j xs.length)).take (xs.length - min j xs.length) = _
  rw [List.take_of_length_le (by rw [List.length_drop]; exact Nat.le_refl _)]
  by_cases h : j ≤ xs.length
  · rw [Nat.min_eq_left h]
  · rw [Nat.min_eq_right (by omega), List.drop_length, List.drop_eq_nil_of_le (by omega)]
theorem toNat_cast {i : Int} (h : 0 ≤ i) : ((i.toNat : Nat) : Int) = i := by omega
/-- `_law_file`, whatever its names -/
theorem file_says (hT : TWorld T l_file) (ns : List Int) (k : Int) (hk : 0 ≤ k) {m : Nat} {xs : List Str} (hm : st[m]? = some (.lst (xs.map .str))) (hx : xs ≠ []) (hxs : ∀ x ∈ xs, PyData.strOk x = true) (x : Str) (hxo : PyData.strOk x = true) (long : Int) (h0 : 0 ≤ long) (h1 : long ≤ 100) :
    Fn (callD T W (n + 4)) st "_law_file" [.ro ns, .int k, .ref m, .str x, .int long] (fileV ns k xs x long).d := by
  have hl : 0 < xs.length := List.length_pos_iff.mpr hx
  have tD := hT.toTDraw
  have hlast : PyData.strOk (lastV xs) = true := by
    refine hxs _ ?_
    unfold lastV
    rw [List.getD_eq_getElem?_getD, List.getElem?_eq_getElem (by omega)]
    exact List.getElem_mem _
  intro s hs
  have hm := hs.at_ hm
  refine call_ok hT.file rfl ?_
  show okS (excs _ _ _ [some (.ro ns), some (.int k), some (.ref m), some (.str x), some (.int long), none, none, none, none, none] _) _ _ _
  unfold l_file
  rw [s_cons]
  refine S_asg (Ext.refl _) Ev.k fun s1 e1 => ⟨_, rfl, ?_⟩
  show okS (excs _ _ _ [some (.ro ns), some (.int k), some (.ref m), some (.str x), some (.int long), some (.str (kindV false)), none, none, none, none] _) _ _ _
  rw [s_cons]
  have hlen : ((xs.map D.str).length : Int) = xs.length := by rw [List.length_map]
  have hf : L2.atI [D.bl (decide (D.str x = .str (lastV xs))), .bl (decide (D.int (mixV ns k 2) = .int 0))] (if decide (D.int (mixV ns (k + 1) 8) = .int 0) then 1 else 0) = some (.bl (faceV ns k xs x)) := by
    unfold faceV
    by_cases h : mixV ns (k + 1) 8 = 0 <;> simp [h, L2.atI, L2.ixN]
  have hm1 := e1.at_ hm
  refine S_ifeP (p := faceV ns k xs x) (fun ρ' s2 => ρ' = [some (.ro ns), some (.int k), some (.ref m), some (.str x), some (.int long), some (.str (kindV (faceV ns k xs x))), none, none, none, none] ∧ Ext s1 s2) (Ext.refl _)
    (Ev.ixL (es := .nil) (EvL.lst (Evs.cons (Ev.eq (n := 0) (m := 0) (Ev.lc rfl) (Ev.ixV (Ev.lc rfl) hm1 (Ev.neg Ev.k) (last_at hx)) (by unfold plainT; exact hxo) (by unfold plainT; exact hlast))
      (Evs.cons (Ev.eq (n := 0) (m := 0) (Ev.mix tD rfl (Ev.lc rfl) Ev.k hk (by decide)) Ev.k plain_int plain_int) Evs.nil)) (by show 2 ≤ LIM; decide))
      (Ev.intB (Ev.eq (n := 0) (m := 0) (Ev.mix tD rfl (Ev.addI (Ev.lc rfl) Ev.k) Ev.k (by omega) (by decide)) Ev.k plain_int plain_int)) hf) (fun hp s2 e2 => ?_) (fun hp s2 e2 => ?_) ?_
  · rw [s_cons]
    refine S_asg (Ext.refl _) Ev.k fun s3 e3 => ⟨_, rfl, ?_⟩
    rw [s_nil, hp]
    exact ⟨rfl, e2.trans e3⟩
  · rw [s_nil, hp]
    exact ⟨rfl, e2⟩
  rintro _ s2 ⟨rfl, e2⟩
  rw [s_cons]
  refine S_asg (Ext.refl _) Ev.k fun s3 e3 => ⟨_, rfl, ?_⟩
  show okS (excs _ _ _ [some (.ro ns), some (.int k), some (.ref m), some (.str x), some (.int long), some (.str (kindV (faceV ns k xs x))), some (optS none), none, none, none] _) _ _ _
  rw [s_cons]
  have hm3 := (e2.trans e3).at_ hm1
  have p0 := mixV_nn ns (k + 2) (m := xs.length) (by omega)
  have p1 := mixV_lt ns (k + 2) (m := xs.length) (by omega)
  have ek : decide (D.str (kindV (faceV ns k xs x)) = .str "class") = !faceV ns k xs x := by cases faceV ns k xs x <;> rfl
  refine S_ifeP (p := !faceV ns k xs x && decide (mixV ns (k + 1) 3 = 0)) (fun ρ' s4 => ρ' = [some (.ro ns), some (.int k), some (.ref m), some (.str x), some (.int long), some (.str (kindV (faceV ns k xs x))), some (optS (aboveV ns k xs x)), none, none, none] ∧ Ext s3 s4) (Ext.refl _)
    (Ev.and (Ev.to (Ev.eq (n := 0) (m := 0) (Ev.lc rfl) Ev.k (plain_str (by cases faceV ns k xs x <;> decide +kernel)) (plain_str (by decide +kernel))) (by rw [ek])) fun _ => Ev.to (Ev.eq (n := 0) (m := 0) (Ev.mix tD rfl (Ev.addI (Ev.lc rfl) Ev.k) Ev.k (by omega) (by decide)) Ev.k plain_int plain_int) (by simp)) (fun hp s4 e4 => ?_) (fun hp s4 e4 => ?_) ?_
  · rw [s_cons]
    have hm4 := e4.at_ hm3
    refine S_asg (x := .str (pickV ns (k + 2) xs)) (Ext.refl _) (Ev.ixV (i := mixV ns (k + 2) xs.length) (Ev.lc rfl) hm4 (by rw [← hlen]; exact Ev.mix tD rfl (Ev.addI (Ev.lc rfl) Ev.k) (Ev.lenV (Ev.lc rfl) hm4) (by omega) (by omega)) (strs_at p0 p1)) fun s5 e5 => ⟨_, rfl, ?_⟩
    rw [s_nil]
    refine ⟨?_, e4.trans e5⟩
    unfold aboveV
    simp only [Bool.and_eq_true, Bool.not_eq_true', decide_eq_true_eq] at hp
    rw [if_pos hp]; rfl
  · rw [s_nil]
    refine ⟨?_, e4⟩
    unfold aboveV
    rw [if_neg (by simpa using hp)]
  rintro _ s4 ⟨rfl, e4⟩
  rw [s_cons]
  refine S_asgL (EvL.lst Evs.nil (Nat.zero_le _)) (by simp) fun s5 q e5 hq hc => ?_
  show okS (excs _ _ _ [some (.ro ns), some (.int k), some (.ref m), some (.str x), some (.int long), some (.str (kindV (faceV ns k xs x))), some (optS (aboveV ns k xs x)), some (.ref q), none, none] _) _ _ _
  have e15 := (e2.trans e3).trans (e4.trans e5)
  have hq1 : s1.length ≤ q := Nat.le_trans ((e2.trans e3).trans e4).len hq
  have hmq : m < s1.length := (List.getElem?_eq_some_iff.mp hm1).1
  rw [s_cons]
  refine S_ifeP (p := decide (mixV ns (k + 3) 3 = 0)) (fun ρ' s6 => ρ' = [some (.ro ns), some (.int k), some (.ref m), some (.str x), some (.int long), some (.str (kindV (faceV ns k xs x))), some (optS (aboveV ns k xs x)), some (.ref q), none, none] ∧ Ext s1 s6 ∧ s6[q]? = some (.lst ((faces1 ns k xs).map .str))) (Ext.refl _)
    (Ev.to (Ev.eq (n := 0) (m := 0) (Ev.mix tD rfl (Ev.addI (Ev.lc rfl) Ev.k) Ev.k (by omega) (by decide)) Ev.k plain_int plain_int) (by simp)) (fun hp s6 e6 => ?_) (fun hp s6 e6 => ?_) ?_
  · rw [s_cons]
    refine S_app rfl (e6.at_ hc) (Ev.ixV (Ev.lc rfl) ((e15.trans e6).at_ hm1) (Ev.neg Ev.k) (last_at hx)) (by decide) fun s7 e7 => ?_
    rw [s_nil]
    have e17 := (e15.trans e6).trans e7
    refine ⟨rfl, e17.set hq1, ?_⟩
    rw [List.getElem?_set_self (List.getElem?_eq_some_iff.mp ((e6.trans e7).at_ hc)).1]
    unfold faces1
    rw [if_pos (of_decide_eq_true hp)]; rfl
  · rw [s_nil]
    refine ⟨rfl, e15.trans e6, ?_⟩
    unfold faces1
    rw [if_neg (of_decide_eq_false hp)]
    exact e6.at_ hc
  rintro _ s6 ⟨rfl, e16, hc6⟩
  rw [s_cons]
  have r0 := mixV_nn ns (k + 4) (m := xs.length) (by omega)
  have r1 := mixV_lt ns (k + 4) (m := xs.length) (by omega)
  refine S_ifeP (p := decide (mixV ns (k + 3) 5 = 1)) (fun ρ' s7 => ρ' = [some (.ro ns), some (.int k), some (.ref m), some (.str x), some (.int long), some (.str (kindV (faceV ns k xs x))), some (optS (aboveV ns k xs x)), some (.ref q), none, none] ∧ Ext s1 s7 ∧ s7[q]? = some (.lst ((faces2 ns k xs).map .str))) (Ext.refl _)
    (Ev.to (Ev.eq (n := 0) (m := 0) (Ev.mix tD rfl (Ev.addI (Ev.lc rfl) Ev.k) Ev.k (by omega) (by decide)) Ev.k plain_int plain_int) (by simp)) (fun hp s7 e7 => ?_) (fun hp s7 e7 => ?_) ?_
  · rw [s_cons]
    have hm7 := (e16.trans e7).at_ hm1
    refine S_app (x := .str (pickV ns (k + 4) xs)) rfl (e7.at_ hc6) (Ev.ixV (i := mixV ns (k + 4) xs.length) (Ev.lc rfl) hm7 (by rw [← hlen]; exact Ev.mix tD rfl (Ev.addI (Ev.lc rfl) Ev.k) (Ev.lenV (Ev.lc rfl) hm7) (by omega) (by omega)) (strs_at r0 r1))
      (by rw [List.length_map]; unfold faces1 LIM; split <;> simp) fun s8 e8 => ?_
    rw [s_nil]
    have e18 := (e16.trans e7).trans e8
    refine ⟨rfl, e18.set hq1, ?_⟩
    rw [List.getElem?_set_self (List.getElem?_eq_some_iff.mp ((e7.trans e8).at_ hc6)).1]
    unfold faces2
    rw [if_pos (of_decide_eq_true hp), List.map_append]; rfl
  · rw [s_nil]
    refine ⟨rfl, e16.trans e7, ?_⟩
    unfold faces2
    rw [if_neg (of_decide_eq_false hp), List.append_nil]
    exact e7.at_ hc6
  rintro _ s7 ⟨rfl, e17, hc7⟩
  rw [s_cons]
  have f2 : (faces2 ns k xs).length ≤ 100 := by
    unfold faces2 faces1
    split <;> split <;> simp
  refine S_asgL (EvL.slV (l := none) (h := some ((distinct (faces2 ns k xs)).length : Int)) (Ev.lc rfl) hc7 (fun s Q h1 h2 => evo_none h2) (fun s Q h1 h2 => evo_some h1 (Ev.lsetV (Ev.lc rfl) hc7 f2) h2)) (by simp) fun s8 q2 e8 hq2 hc8 => ?_
  rw [cutL_take, ← List.map_take] at hc8
  show okS (excs _ _ _ [some (.ro ns), some (.int k), some (.ref m), some (.str x), some (.int long), some (.str (kindV (faceV ns k xs x))), some (optS (aboveV ns k xs x)), some (.ref q2), none, none] _) _ _ _
  rw [s_cons]
  have hm8 := (e17.trans e8).at_ hm1
  have t0 := mixV_nn ns (k + 5) (m := long + 1) (by omega)
  have t1 := mixV_lt ns (k + 5) (m := long + 1) (by omega)
  refine S_asg (x := .tup ((rowsV ns k xs long).map Row.d)) (Ext.refl _) (Ev.to (Ev.tupL (EvL.map (fun d => match d with | .int i => (rowV ns (k + 10 + 5 * i) xs).d | _ => .non) (Evi.rng (Ev.mix tD rfl (Ev.addI (Ev.lc rfl) Ev.k) (Ev.addI (Ev.lc rfl) Ev.k) (by omega) (by omega)) (decide_eq_true (by omega))) ?_ ?_)) ?_) fun s9 e9 => ⟨_, rfl, ?_⟩
  · rw [rng_len]; unfold LIM; omega
  · intro d hd s9 e9
    obtain ⟨i, hi, hd⟩ := List.mem_iff_getElem?.mp hd |>.imp fun i h => (⟨(rng_at _ _ _ _ h).1, (rng_at _ _ _ _ h).2⟩ : _ ∧ _)
    subst hd
    rw [Int.zero_add]
    refine ⟨[some (.ro ns), some (.int k), some (.ref m), some (.str x), some (.int long), some (.str (kindV (faceV ns k xs x))), some (optS (aboveV ns k xs x)), some (.ref q2), none, some (.int (i : Int))], rfl, ?_⟩
    exact Ev.call (Evs.cons (Ev.lc rfl) (Evs.cons (Ev.addI (Ev.addI (Ev.lc rfl) Ev.k) (Ev.mulI Ev.k (Ev.lc rfl) (mulOk_l (by decide) (by decide)))) (Evs.cons (Ev.lc rfl) Evs.nil))) (row_says hT ns _ (by omega) (e9.at_ hm8) hx)
  · unfold rowsV
    rw [rngD_map, List.map_map, List.map_map]
    congr 1
    refine List.map_congr_left fun i _ => ?_
    show (rowV ns (k + 10 + 5 * (0 + (i : Int))) xs).d = _
    rw [Int.zero_add]; rfl
  show okS (excs _ _ _ [some (.ro ns), some (.int k), some (.ref m), some (.str x), some (.int long), some (.str (kindV (faceV ns k xs x))), some (optS (aboveV ns k xs x)), some (.ref q2), some (.tup ((rowsV ns k xs long).map Row.d)), none] _) _ _ _
  rw [s_cons]
  refine S_ret (Ext.refl _) (Ev.tup (Evs.cons (Ev.lc rfl) (Evs.cons (Ev.lc rfl) (Evs.cons (Ev.lc rfl) (Evs.cons (Ev.tupV (Ev.lc rfl) (e9.at_ hc8)) (Evs.cons (Ev.lc rfl) Evs.nil))))) (by show 5 ≤ LIM; decide)) fun s10 e10 => ⟨?_, rfl⟩
  exact e1.trans (((e17.trans e8).trans e9).trans e10)
end
end IP.Q

/-! PrK: the laws' worlds: what `_law_world` answers. -/
namespace IP.Q
open PySem
def twinsV (ns : List Int) (long : Int) : Bool := decide (mixV ns 95 4 = 0) && decide (0 < long)
def hereV (k : Int) (i : Nat) : Int := k + 200 * ((i : Int) + 1)
def parV (ns : List Int) (k : Int) (i : Nat) : Option Int := if 0 < i ∧ 0 < mixV ns (hereV k i) 4 then some (mixV ns (hereV k i + 1) i) else none
def oneV (ns : List Int) (k : Int) (i : Nat) (long : Int) (xs : List Str) (j : Nat) : List File :=
  if twinsV ns long = true ∧ i = 0 ∧ j < 2 ∧ 1 < xs.length then
    [⟨false, xs.getD j Str.empty, none, [], [rowV ns (hereV k i + 10 + 45 * (j : Int)) xs, .need (xs.getD (1 - j) Str.empty)].drop (mixV ns (hereV k i + 5) 2).toNat⟩]
  else if 0 < mixV ns (hereV k i + 2 + (j : Int)) 3 then [fileV ns (hereV k i + 10 + 45 * (j : Int)) xs (xs.getD j Str.empty) long] else []
def shelf0V (ns : List Int) (k : Int) (i : Nat) (long : Int) (xs : List Str) (j : Nat) : List File := (List.range j).flatMap (oneV ns k i long xs)
def shelfV (ns : List Int) (k : Int) (i : Nat) (long : Int) (xs : List Str) : List File :=
  (shelf0V ns k i long xs xs.length).drop (mixV ns (hereV k i + 8) 4).toNat ++ (shelf0V ns k i long xs xs.length).take (mixV ns (hereV k i + 8) 4).toNat
def ldrV (ns : List Int) (k : Int) (long : Int) (xs : List Str) (i : Nat) : Ldr := ⟨parV ns k i, shelfV ns k i long xs⟩
def worldV (ns : List Int) (k : Int) (xs : List Str) (many long : Int) : Wld := (List.range (1 + mixV ns k many).toNat).map (ldrV ns k long xs)
theorem oneV_le (ns : List Int) (k : Int) (i : Nat) (long : Int) (xs : List Str) (j : Nat) : (oneV ns k i long xs j).length ≤ 1 := by
  unfold oneV
  split
  · simp
  · split <;> simp
theorem shelf0_succ (ns : List Int) (k : Int) (i : Nat) (long : Int) (xs : List Str) (j : Nat) : shelf0V ns k i long xs (j + 1) = shelf0V ns k i long xs j ++ oneV ns k i long xs j := by
  unfold shelf0V
  rw [List.range_succ, List.flatMap_append]
  simp
theorem shelf0_le (ns : List Int) (k : Int) (i : Nat) (long : Int) (xs : List Str) : ∀ j : Nat, (shelf0V ns k i long xs j).length ≤ j
  | 0 => by simp [shelf0V]
  | j + 1 => by
    rw [shelf0_succ, List.length_append]
    have := shelf0_le ns k i long xs j
    have := oneV_le ns k i long xs j
    omega
section
variable {T : Tab} {W n : Nat} {st : Sto} {fl : Sts}
/-- `_law_file` as it is called -/
def FileSays (T : Tab) (W : Nat) : Prop := ∀ {n : Nat} {st : Sto} (ns : List Int) (k : Int), 0 ≤ k → ∀ {m : Nat} {xs : List Str}, st[m]? = some (.lst (xs.map .str)) → xs ≠ [] → (∀ x ∈ xs, PyData.strOk x = true) → ∀ x : Str, PyData.strOk x = true → ∀ long : Int, 0 ≤ long → long ≤ 100 →
    Fn (callD T W (n + 4)) st "_law_file" [.ro ns, .int k, .ref m, .str x, .int long] (fileV ns k xs x long).d
theorem world_says (hT : TWorld T fl) (hF : FileSays T W) (ns : List Int) (k : Int) (hk : 0 ≤ k) {m : Nat} {xs : List Str} (hm : st[m]? = some (.lst (xs.map .str))) (hx : xs ≠ []) (hx4 : xs.length ≤ 100) (hxs : ∀ x ∈ xs, PyData.strOk x = true) (many long : Int) (hm0 : 0 < many) (hm1 : many ≤ 100) (h0 : 0 ≤ long) (h1 : long ≤ 100) :
    Fn (callD T W (n + 5)) st "_law_world" [.ro ns, .int k, .ref m, .int many, .int long] (wd (worldV ns k xs many long)) := by
  have hl : 0 < xs.length := List.length_pos_iff.mpr hx
  have tD := hT.toTDraw
  have hlen : ((xs.map D.str).length : Int) = xs.length := by rw [List.length_map]
  intro s hs
  have hm := hs.at_ hm
  have hms : m < s.length := (List.getElem?_eq_some_iff.mp hm).1
  refine call_ok hT.world rfl ?_
  show okS (excs _ _ _ [some (.ro ns), some (.int k), some (.ref m), some (.int many), some (.int long), none, none, none, none, none, none, none, none, none, none] _) _ _ _
  unfold l_world
  rw [s_cons]
  refine S_asgL (EvL.lst Evs.nil (Nat.zero_le _)) (by simp) fun s1 q e1 hq hc => ?_
  show okS (excs _ _ _ [some (.ro ns), some (.int k), some (.ref m), some (.int many), some (.int long), some (.ref q), none, none, none, none, none, none, none, none, none] _) _ _ _
  rw [s_cons]
  refine S_asg (x := .bl (twinsV ns long)) (Ext.refl _) (Ev.and (Ev.to (Ev.eq (n := 0) (m := 0) (Ev.mix tD rfl Ev.k Ev.k (by decide) (by decide)) Ev.k plain_int plain_int) (by simp)) fun _ => Ev.gtI (Ev.lc rfl) Ev.k) fun s2 e2 => ⟨_, rfl, ?_⟩
  show okS (excs _ _ _ [some (.ro ns), some (.int k), some (.ref m), some (.int many), some (.int long), some (.ref q), some (.bl (twinsV ns long)), none, none, none, none, none, none, none, none] _) _ _ _
  rw [s_cons]
  have w0 := mixV_nn ns k hm0
  have w1 := mixV_lt ns k hm0
  refine S_frW (Ext.refl _) (EviW.rng (Ev.addI Ev.k (Ev.mix tD rfl (Ev.lc rfl) (Ev.lc rfl) hk hm0)) (decide_eq_true (by omega))) rfl fun s3 e3 _ => ?_
  refine for_rule (fun i ρ s4 => Ext s s4 ∧ s4[q]? = some (.lst (((List.range i).map (ldrV ns k long xs)).map Ldr.d)) ∧
    ∃ x7 x8 x9 x10 x11 x12 x13 x14, ρ = [some (.ro ns), some (.int k), some (.ref m), some (.int many), some (.int long), some (.ref q), some (.bl (twinsV ns long)), x7, x8, x9, x10, x11, x12, x13, x14]) _ 0 _ s3 ?_ (fun i d ρ s4 hd hI => ?_) fun ρ s4 hI => ?_
  · exact ⟨(e1.trans e2).trans e3, (e2.trans e3).at_ hc, _, _, _, _, _, _, _, _, rfl⟩
  · obtain ⟨e4, hc4, x7, x8, x9, x10, x11, x12, x13, x14, rfl⟩ := hI
    rw [Nat.zero_add] at *
    obtain ⟨hlt, rfl⟩ := rng_at _ _ _ _ hd
    rw [Int.zero_add]
    have hq4 : q < s4.length := (List.getElem?_eq_some_iff.mp hc4).1
    have hm4 := e4.at_ hm
    have hh : 0 ≤ hereV k i := by unfold hereV; omega
    show okS (excs _ _ _ [some (.ro ns), some (.int k), some (.ref m), some (.int many), some (.int long), some (.ref q), some (.bl (twinsV ns long)), some (.int (i : Int)), x8, x9, x10, x11, x12, x13, x14] s4) _ _ _
    rw [s_cons]
    refine S_asg (x := .int (hereV k i)) (Ext.refl _) (Ev.addI (Ev.lc rfl) (Ev.mulI Ev.k (Ev.addI (Ev.lc rfl) Ev.k) (mulOk_l (by decide) (by decide)))) fun s5 e5 => ⟨_, rfl, ?_⟩
    rw [s_cons]
    refine S_asg (x := optI none) (Ext.refl _) Ev.k fun s6 e6 => ⟨_, rfl, ?_⟩
    show okS (excs _ _ _ [some (.ro ns), some (.int k), some (.ref m), some (.int many), some (.int long), some (.ref q), some (.bl (twinsV ns long)), some (.int (i : Int)), some (.int (hereV k i)), some (optI none), x10, x11, x12, x13, x14] s6) _ _ _
    rw [s_cons]
    refine S_ifeP (p := decide (0 < (i : Int)) && decide (0 < mixV ns (hereV k i) 4)) (fun ρ' s7 => ρ' = [some (.ro ns), some (.int k), some (.ref m), some (.int many), some (.int long), some (.ref q), some (.bl (twinsV ns long)), some (.int (i : Int)), some (.int (hereV k i)), some (optI (parV ns k i)), x10, x11, x12, x13, x14] ∧ Ext s4 s7) (Ext.refl _)
      (Ev.and (Ev.gtI (Ev.lc rfl) Ev.k) fun _ => Ev.gtI (Ev.mix tD rfl (Ev.lc rfl) Ev.k hh (by decide)) Ev.k) (fun hp s7 e7 => ?_) (fun hp s7 e7 => ?_) ?_
    · rw [Bool.and_eq_true, decide_eq_true_eq, decide_eq_true_eq] at hp
      rw [s_cons]
      refine S_asg (Ext.refl _) (Ev.mix tD rfl (Ev.addI (Ev.lc rfl) Ev.k) (Ev.lc rfl) (by omega) hp.1) fun s8 e8 => ⟨_, rfl, ?_⟩
      rw [s_nil]
      refine ⟨?_, (e5.trans e6).trans (e7.trans e8)⟩
      unfold parV
      rw [if_pos ⟨by omega, hp.2⟩]; rfl
    · rw [s_nil]
      refine ⟨?_, (e5.trans e6).trans e7⟩
      unfold parV
      rw [if_neg fun z => by
        rw [Bool.and_eq_false_iff, decide_eq_false_iff_not, decide_eq_false_iff_not] at hp
        rcases hp with hp | hp
        · exact hp (by omega)
        · exact hp z.2]
    rintro _ s7 ⟨rfl, e7⟩
    rw [s_cons]
    refine S_asgL (EvL.lst Evs.nil (Nat.zero_le _)) (by simp) fun s8 r e8 hr hcr => ?_
    show okS (excs _ _ _ [some (.ro ns), some (.int k), some (.ref m), some (.int many), some (.int long), some (.ref q), some (.bl (twinsV ns long)), some (.int (i : Int)), some (.int (hereV k i)), some (optI (parV ns k i)), some (.ref r), x11, x12, x13, x14] s8) _ _ _
    have hr4 : s4.length ≤ r := Nat.le_trans e7.len hr
    have e48 := e7.trans e8
    rw [s_cons]
    refine S_frW (w := [(m, .lst (xs.map .str))]) (Ext.refl _) (EviW.enmV (Ev.lc rfl) (e48.at_ hm4)) (by simp [okW, e48.at_ hm4]) fun s9 e9 _ => ?_
    refine for_rule (fun j ρ s10 => Ext s4 s10 ∧ s10[r]? = some (.lst ((shelf0V ns k i long xs j).map File.d)) ∧
      ∃ y11 y12 y13, ρ = [some (.ro ns), some (.int k), some (.ref m), some (.int many), some (.int long), some (.ref q), some (.bl (twinsV ns long)), some (.int (i : Int)), some (.int (hereV k i)), some (optI (parV ns k i)), some (.ref r), y11, y12, y13, x14]) _ 0 _ s9 ?_ (fun j d ρ s10 hd2 hI => ?_) fun ρ s10 hI => ?_
    · exact ⟨e48.trans e9, e9.at_ hcr, _, _, _, rfl⟩
    · obtain ⟨e10, hc10, y11, y12, y13, rfl⟩ := hI
      rw [Nat.zero_add] at *
      obtain ⟨x0, hx0, rfl⟩ := zip_at _ _ _ _ hd2
      rw [Nat.zero_add]
      rw [List.getElem?_map] at hx0
      obtain ⟨x, hxj, rfl⟩ := Option.map_eq_some_iff.mp hx0
      have hj : j < xs.length := (List.getElem?_eq_some_iff.mp hxj).1
      have exj : xs.getD j Str.empty = x := by rw [List.getD_eq_getElem?_getD, hxj]; rfl
      have hxo := hxs x (List.mem_of_getElem? hxj)
      show okS (excs _ _ _ [some (.ro ns), some (.int k), some (.ref m), some (.int many), some (.int long), some (.ref q), some (.bl (twinsV ns long)), some (.int (i : Int)), some (.int (hereV k i)), some (optI (parV ns k i)), some (.ref r), some (.int (j : Int)), some (.str x), y13, x14] s10) _ _ _
      have hm10 := e10.at_ hm4
      have sle := shelf0_le ns k i long xs j
      rw [s_cons]
      refine S_ifeP (p := twinsV ns long && (decide ((i : Int) = 0) && (decide ((j : Int) < 2) && decide (1 < (xs.length : Int))))) (fun ρ' s11 => Ext s4 s11 ∧ s11[r]? = some (.lst ((shelf0V ns k i long xs (j + 1)).map File.d)) ∧
        ∃ y11 y12 y13, ρ' = [some (.ro ns), some (.int k), some (.ref m), some (.int many), some (.int long), some (.ref q), some (.bl (twinsV ns long)), some (.int (i : Int)), some (.int (hereV k i)), some (optI (parV ns k i)), some (.ref r), y11, y12, y13, x14]) (Ext.refl _)
        (Ev.and (Ev.lc rfl) fun _ => Ev.and (Ev.to (Ev.eq (n := 0) (m := 0) (Ev.lc rfl) Ev.k plain_int plain_int) (by simp)) fun _ => Ev.and (Ev.ltI (Ev.lc rfl) Ev.k) fun _ => Ev.gtI (by rw [← hlen]; exact Ev.lenV (Ev.lc rfl) hm10) Ev.k) (fun hp s11 e11 => ?_) (fun hp s11 e11 => ?_) ?_
      · simp only [Bool.and_eq_true, decide_eq_true_eq] at hp
        obtain ⟨p1, p2, p3, p4⟩ := hp
        have one : oneV ns k i long xs j = [⟨false, x, none, [], [rowV ns (hereV k i + 10 + 45 * (j : Int)) xs, .need (xs.getD (1 - j) Str.empty)].drop (mixV ns (hereV k i + 5) 2).toNat⟩] := by
          unfold oneV
          rw [if_pos ⟨p1, by omega, by omega, by omega⟩, exj]
        have hm11 := e11.at_ hm10
        rw [s_cons]
        refine S_asg (Ext.refl _) (Ev.call (Evs.cons (Ev.lc rfl) (Evs.cons (Ev.addI (Ev.addI (Ev.lc rfl) Ev.k) (Ev.mulI Ev.k (Ev.lc rfl) (mulOk_l (by decide) (by decide)))) (Evs.cons (Ev.lc rfl) Evs.nil))) (row_says hT ns _ (by omega) hm11 hx)) fun s12 e12 => ⟨_, rfl, ?_⟩
        rw [s_cons]
        have hm12 := e12.at_ hm11
        have hi1 : L2.atI (xs.map D.str) (1 - (j : Int)) = some (.str (xs.getD (1 - j) Str.empty)) := by
          rw [strs_at (by omega) (by omega)]
          congr 3; omega
        have t0 := mixV_nn ns (hereV k i + 5) (m := 2) (by decide)
        refine S_app (x := File.d ⟨false, x, none, [], [rowV ns (hereV k i + 10 + 45 * (j : Int)) xs, .need (xs.getD (1 - j) Str.empty)].drop (mixV ns (hereV k i + 5) 2).toNat⟩) rfl ((e11.trans e12).at_ hc10) (Ev.to (Ev.tup (Evs.cons Ev.k (Evs.cons (Ev.lc rfl) (Evs.cons Ev.k (Evs.cons (Ev.tup Evs.nil (Nat.zero_le _)) (Evs.cons
          (Ev.slT (l := some (((mixV ns (hereV k i + 5) 2).toNat : Nat) : Int)) (h := none) (Ev.tup (Evs.cons (Ev.lc rfl) (Evs.cons (Ev.tup (Evs.cons Ev.k (Evs.cons (Ev.ixV (Ev.lc rfl) hm12 (Ev.subI Ev.k (Ev.lc rfl)) hi1) Evs.nil)) (by show 2 ≤ LIM; decide)) Evs.nil)) (by show 2 ≤ LIM; decide))
            (fun s Q g1 g2 => evo_some g1 (Ev.to (Ev.mix tD rfl (Ev.addI (Ev.lc rfl) Ev.k) Ev.k (by omega) (by decide)) (by rw [toNat_cast t0])) g2) fun s Q g1 g2 => evo_none g2) Evs.nil))))) (by show 5 ≤ LIM; decide)) ?_)
          (by rw [List.length_map]; unfold LIM; omega) fun s13 e13 => ?_
        · rw [cutL_drop]
          unfold File.d
          dsimp only
          rw [List.map_drop]; rfl
        · rw [s_nil]
          refine ⟨(e10.trans (e11.trans (e12.trans e13))).set hr4, ?_, _, _, _, rfl⟩
          rw [List.getElem?_set_self (List.getElem?_eq_some_iff.mp ((e11.trans (e12.trans e13)).at_ hc10)).1, shelf0_succ, one, List.map_append]; rfl
      · have hp' : ¬ (twinsV ns long = true ∧ i = 0 ∧ j < 2 ∧ 1 < xs.length) := fun z => by
          have z2 : (i : Int) = 0 := by omega
          have z3 : (j : Int) < 2 := by omega
          have z4 : 1 < (xs.length : Int) := by omega
          rw [z.1, decide_eq_true z2, decide_eq_true z3, decide_eq_true z4] at hp
          cases hp
        rw [s_cons]
        have hm11 := e11.at_ hm10
        refine S_ifeP (p := decide (0 < mixV ns (hereV k i + 2 + (j : Int)) 3)) (fun ρ' s11 => Ext s4 s11 ∧ s11[r]? = some (.lst ((shelf0V ns k i long xs (j + 1)).map File.d)) ∧
          ∃ y11 y12 y13, ρ' = [some (.ro ns), some (.int k), some (.ref m), some (.int many), some (.int long), some (.ref q), some (.bl (twinsV ns long)), some (.int (i : Int)), some (.int (hereV k i)), some (optI (parV ns k i)), some (.ref r), y11, y12, y13, x14]) (Ext.refl _)
          (Ev.gtI (Ev.mix tD rfl (Ev.addI (Ev.addI (Ev.lc rfl) Ev.k) (Ev.lc rfl)) Ev.k (by omega) (by decide)) Ev.k) (fun hp2 s12 e12 => ?_) (fun hp2 s12 e12 => ?_) (fun ρ' s12 hJ => by rw [s_nil]; exact hJ)
        · rw [s_cons]
          refine S_app (x := (fileV ns (hereV k i + 10 + 45 * (j : Int)) xs x long).d) rfl ((e11.trans e12).at_ hc10) (Ev.call (Evs.cons (Ev.lc rfl) (Evs.cons (Ev.addI (Ev.addI (Ev.lc rfl) Ev.k) (Ev.mulI Ev.k (Ev.lc rfl) (mulOk_l (by decide) (by decide)))) (Evs.cons (Ev.lc rfl) (Evs.cons (Ev.lc rfl) (Evs.cons (Ev.lc rfl) Evs.nil)))))
            (hF ns _ (by omega) (e12.at_ hm11) hx hxs x hxo long h0 h1)) (by rw [List.length_map]; unfold LIM; omega) fun s13 e13 => ?_
          rw [s_nil]
          refine ⟨(e10.trans (e11.trans (e12.trans e13))).set hr4, ?_, _, _, _, rfl⟩
          rw [List.getElem?_set_self (List.getElem?_eq_some_iff.mp ((e11.trans (e12.trans e13)).at_ hc10)).1, shelf0_succ, List.map_append]
          congr 3
          unfold oneV
          rw [if_neg hp', if_pos (of_decide_eq_true hp2), exj]; rfl
        · rw [s_nil]
          refine ⟨e10.trans (e11.trans e12), ?_, _, _, _, rfl⟩
          rw [shelf0_succ, show oneV ns k i long xs j = [] from by unfold oneV; rw [if_neg hp', if_neg (of_decide_eq_false hp2)], List.append_nil]
          exact (e11.trans e12).at_ hc10
      · rintro ρ' s11 ⟨e11, hc11, y⟩
        rw [s_nil]
        exact ⟨⟨e11, hc11, y⟩, by simp [okW, e11.at_ hm4]⟩
    · obtain ⟨e10, hc10, y11, y12, y13, rfl⟩ := hI
      rw [Nat.zero_add, zip_len, List.length_map] at hc10
      rw [s_cons]
      have t0 := mixV_nn ns (hereV k i + 8) (m := 4) (by decide)
      refine S_asg (x := .int (((mixV ns (hereV k i + 8) 4).toNat : Nat) : Int)) (Ext.refl _) (Ev.to (Ev.mix tD rfl (Ev.addI (Ev.lc rfl) Ev.k) Ev.k (by omega) (by decide)) (by rw [toNat_cast t0])) fun s11 e11 => ⟨_, rfl, ?_⟩
      rw [s_cons]
      have hc11 := e11.at_ hc10
      have hq11 := (e10.trans e11).at_ hc4
      refine S_app (x := (ldrV ns k long xs i).d) rfl hq11 (Ev.to (Ev.tup (Evs.cons (Ev.lc rfl) (Evs.cons (Ev.tupL (EvL.add (EvL.slV (l := some (((mixV ns (hereV k i + 8) 4).toNat : Nat) : Int)) (h := none) (Ev.lc rfl) hc11 (fun s Q g1 g2 => evo_some g1 (Ev.lc rfl) g2) fun s Q g1 g2 => evo_none g2)
        (EvL.slV (l := none) (h := some (((mixV ns (hereV k i + 8) 4).toNat : Nat) : Int)) (Ev.lc rfl) hc11 (fun s Q g1 g2 => evo_none g2) fun s Q g1 g2 => evo_some g1 (Ev.lc rfl) g2) ?_)) Evs.nil)) (by show 2 ≤ LIM; decide)) ?_) ?_ fun s12 e12 => ?_
      · rw [cutL_drop, cutL_take, List.length_drop, List.length_take, List.length_map]
        have := shelf0_le ns k i long xs xs.length
        unfold LIM; omega
      · rw [cutL_drop, cutL_take]
        unfold ldrV shelfV Ldr.d
        dsimp only
        rw [List.map_append, List.map_drop, List.map_take]
      · rw [List.length_map, List.length_map, List.length_range]
        unfold LIM
        omega
      · rw [s_nil]
        refine ⟨⟨((e4.trans e10).trans (e11.trans e12)).set hq, ?_, _, _, _, _, _, _, _, _, rfl⟩, rfl⟩
        rw [List.getElem?_set_self (List.getElem?_eq_some_iff.mp (e12.at_ hq11)).1, List.range_succ, List.map_append, List.map_append]; rfl
  · obtain ⟨e4, hc4, x7, x8, x9, x10, x11, x12, x13, x14, rfl⟩ := hI
    rw [Nat.zero_add, rng_len] at hc4
    rw [s_cons]
    exact S_ret (Ext.refl _) (Ev.tupV (Ev.lc rfl) hc4) fun s5 e5 => ⟨e4.trans e5, rfl⟩
end
end IP.Q

/-! PrL: the program's files: a valid world is a world. -/
namespace IP.Q
open PySem
def letters : Str := "abcdefghijklmnopqrstuvwxyz"
def wordB (x : Str) : Bool := (decide (1 ≤ (x.length : Int)) && decide ((x.length : Int) ≤ 6)) && (x.cps.toList.map fun c => decide (c ∈ letters.cps.toList)).all id
def Row.ok : Row → Prop
  | .put f i => wordB f = true ∧ 0 ≤ i ∧ i ≤ 99
  | .read f w g => wordB f = true ∧ wordB w = true ∧ wordB g = true
  | .need w => wordB w = true
  | .note x => wordB x = true
  | .fail x => wordB x = true
structure File.ok (f : File) : Prop where
  name : wordB f.name = true
  above : ∀ a, f.above = some a → f.face = false ∧ wordB a = true
  faces : ∀ x ∈ f.faces, wordB x = true
  faces2 : f.faces.length ≤ 2
  fnd : (distinct f.faces).length = f.faces.length
  rows : ∀ r ∈ f.rows, r.ok
  rows5 : f.rows.length ≤ 5
structure ShelfOk (s : List File) : Prop where
  len : s.length ≤ 4
  files : ∀ f ∈ s, f.ok
  nd : (s.map (·.name)).Nodup
structure WOk (w : Wld) : Prop where
  pos : 1 ≤ w.length
  len : w.length ≤ 4
  shelf : ∀ l ∈ w, ShelfOk l.shelf
  par : ∀ (i : Nat) (l : Ldr) (p : Int), w[i]? = some l → l.par = some p → 0 ≤ p ∧ p < (i : Int)
structure TFiles (T : Tab) : Prop where
  is_word : T "is_word" = some (.fn 1 2 p_is_word)
  is_whole : T "is_whole" = some (.fn 3 3 p_is_whole)
  is_row : T "is_row" = some (.fn 1 2 p_is_row)
  is_file : T "is_file" = some (.fn 1 3 p_is_file)
  is_shelf : T "is_shelf" = some (.fn 1 2 p_is_shelf)
  is_world : T "is_world" = some (.fn 1 3 p_is_world)
  need_world : T "need_world" = some (.fn 1 1 p_need_world)
  file_on : T "file_on" = some (.fn 2 3 p_file_on)
theorem word_len {x : Str} (h : wordB x = true) : 1 ≤ x.length ∧ x.length ≤ 6 := by
  unfold wordB at h
  simp only [Bool.and_eq_true, decide_eq_true_eq] at h
  omega
theorem word_ok {x : Str} (h : wordB x = true) : PyData.strOk x = true := by
  unfold wordB at h
  simp only [Bool.and_eq_true, decide_eq_true_eq, List.all_eq_true, List.mem_map] at h
  unfold PyData.strOk
  rw [← Array.all_toList, List.all_eq_true]
  intro c hc
  have h2 := h.2 (decide (c ∈ letters.cps.toList)) ⟨c, hc, rfl⟩
  have h3 : c ∈ letters.cps.toList := by simpa using h2
  have h4 : ∀ c ∈ letters.cps.toList, decide (c < 0x110000) = true := by decide +kernel
  exact h4 c h3
theorem dedup_nd (xs : List Str) : ∀ acc : List Str, (acc ++ xs).Nodup → dedup acc xs = acc ++ xs := by
  induction xs with
  | nil => intro acc _; simp [dedup]
  | cons x xs ih =>
    intro acc h
    have hx : x ∉ acc := fun z => by
      rw [List.nodup_append] at h
      exact h.2.2 x z x List.mem_cons_self rfl
    unfold dedup
    rw [if_neg hx, ih (acc ++ [x]) (by simpa using h)]
    simp
theorem distinct_nd {xs : List Str} (h : xs.Nodup) : distinct xs = xs := by
  unfold distinct
  rw [dedup_nd xs [] (by simpa using h)]; rfl
section
variable {T : Tab} {W n : Nat} {C : Str → List D → Sto → R D} {ρ : Env} {st : Sto} {a b e : Ex} {x y d : D}
theorem at0 {α : Type} {d : α} {ds : List α} : L2.atI (d :: ds) 0 = some d := by
  rw [atI_get (d := d) (by decide) (by rw [List.length_cons]; omega)]; rfl
theorem Ev.inS {c : Nat} {y : Str} (ha : Ev C ρ st a (.str ⟨#[c]⟩)) (hb : Ev C ρ st b (.str y)) : Ev C ρ st (.cmp .isin a b) (.bl (decide (c ∈ y.cps.toList))) := Ev.cmp ha hb fun s _ => rfl
theorem Ev.leI {i j : Int} (ha : Ev C ρ st a (.int i)) (hb : Ev C ρ st b (.int j)) : Ev C ρ st (.cmp .le a b) (.bl (decide (i ≤ j))) := Ev.cmp ha hb fun s _ => rfl
theorem Ev.lele {i j k : Int} {c : Ex} (ha : Ev C ρ st a (.int i)) (hb : Ev C ρ st b (.int j)) (hc : Ev C ρ st c (.int k)) : Ev C ρ st (.chn .le .le a b c) (.bl (decide (i ≤ j) && decide (j ≤ k))) := Ev.chn ha hb (fun s => rfl) (fun _ => hc) fun s => rfl
theorem Ev.inT {x : D} {ds : List D} {n m : Nat} (ha : Ev C ρ st a x) (hb : Ev C ρ st b (.tup ds)) (f1 : flatD x = true) (f2 : ds.all flatD = true) (h1 : plainT n x = true) (h2 : plainTs m ds = true) (hn : n ≤ 64 := by decide) (hm : m ≤ 63 := by decide) : Ev C ρ st (.cmp .isin a b) (.bl (decide (x ∈ ds))) :=
  Ev.cmp ha hb fun s _ => by
    show memD x (.tup ds) s = _
    simp only [memD, f1, f2, Bool.and_self, if_true]
    exact inD_plain hn hm h1 h2
theorem Ev.ninT {x : D} {ds : List D} {n m : Nat} (ha : Ev C ρ st a x) (hb : Ev C ρ st b (.tup ds)) (f1 : flatD x = true) (f2 : ds.all flatD = true) (h1 : plainT n x = true) (h2 : plainTs m ds = true) (hn : n ≤ 64 := by decide) (hm : m ≤ 63 := by decide) : Ev C ρ st (.cmp .notin a b) (.bl (!decide (x ∈ ds))) :=
  Ev.cmp ha hb fun s _ => by
    show (memD x (.tup ds) s).map (!·) = _
    simp only [memD, f1, f2, Bool.and_self, if_true]
    rw [inD_plain hn hm h1 h2]; rfl
theorem word_of (hT : TFiles T) (x : Str) (hx : x.length ≤ LIM) : Fn (callD T W (n + 1)) st "is_word" [.str x] (.bl (wordB x)) := by
  refine Fn.of hT.is_word rfl ?_
  show Bd _ _ [some (.str x), none] _ _ _
  unfold p_is_word
  refine Bd.ret (Ev.to (Ev.and (p := true) (Ev.isT (Ev.lc rfl) fun s => rfl) fun _ => Ev.and (Ev.lele Ev.k (Ev.lenS (Ev.lc rfl) hx) Ev.k) fun _ => Ev.all (bs := x.cps.toList.map fun c => decide (c ∈ letters.cps.toList))
    (by
      have h := EvL.map (C := callD T W n) (ρ := [some (.str x), none]) (st := st) (e := .cmp .isin (.lc 1) (.k (.str letters))) (t := .nm 1) (it := .val (.lc 0)) (own := [1]) (fun d => match d with | .str ⟨cs⟩ => .bl (decide (cs.getD 0 0 ∈ letters.cps.toList)) | _ => .non) (Evi.str (Ev.lc rfl))
        (by rw [List.length_map]; simpa [Str.length] using hx) fun d hd s hs => by
          obtain ⟨c, _, rfl⟩ := List.mem_map.mp hd
          exact ⟨[some (.str x), some (.str ⟨#[c]⟩)], rfl, Ev.inS (Ev.lc rfl) Ev.k⟩
      rw [List.map_map] at h ⊢
      exact h)) (by unfold wordB; rfl))
theorem word_yes (hT : TFiles T) {x : Str} (h : wordB x = true) : Fn (callD T W (n + 1)) st "is_word" [.str x] (.bl true) := Fn.to (word_of hT x (by have := word_len h; unfold LIM; omega)) (by rw [h])
theorem whole_of (hT : TFiles T) (i lo hi : Int) : Fn (callD T W (n + 1)) st "is_whole" [.int i, .int lo, .int hi] (.bl (decide (lo ≤ i) && decide (i ≤ hi))) := by
  refine Fn.of hT.is_whole rfl ?_
  show Bd _ _ [some (.int i), some (.int lo), some (.int hi)] _ _ _
  unfold p_is_whole
  exact Bd.ret (Ev.to (Ev.and (p := true) (Ev.isT (Ev.lc rfl) fun s => rfl) fun _ => Ev.and (p := true) (Ev.to (Ev.not (p := false) (Ev.isT (Ev.lc rfl) fun s => rfl)) rfl) fun _ => Ev.lele (Ev.lc rfl) (Ev.lc rfl) (Ev.lc rfl)) (by simp))
/-- a call with one argument -/
theorem Ev.call1 {f : Str} (ha : Ev C ρ st a x) (h : Fn C st f [x] d) : Ev C ρ st (.call f (.cons a .nil)) d := Ev.call (Evs.cons ha Evs.nil) h
theorem str_ne {x y : Str} (h : x ≠ y) : decide (D.str x = .str y) = false := decide_eq_false fun z => h (D.str.inj z)
theorem Ev.eqS {x y : Str} (ha : Ev C ρ st a (.str x)) (hb : Ev C ρ st b (.str y)) (h1 : PyData.strOk x = true) (h2 : PyData.strOk y = true) : Ev C ρ st (.cmp .eq a b) (.bl (decide (x = y))) := Ev.to (Ev.eq (n := 0) (m := 0) ha hb (plain_str h1) (plain_str h2)) (by simp)
theorem Ev.eqI {x y : Int} (ha : Ev C ρ st a (.int x)) (hb : Ev C ρ st b (.int y)) : Ev C ρ st (.cmp .eq a b) (.bl (decide (x = y))) := Ev.to (Ev.eq (n := 0) (m := 0) ha hb plain_int plain_int) (by simp)
theorem Ev.neI {x y : Int} (ha : Ev C ρ st a (.int x)) (hb : Ev C ρ st b (.int y)) : Ev C ρ st (.cmp .ne a b) (.bl (!decide (x = y))) := Ev.to (Ev.ne (n := 0) (m := 0) ha hb plain_int plain_int) (by simp)
/-- if that is not taken -/
theorem Bd.no {ss ta : Sts} {c : Ex} (hc : Ev C ρ st c (.bl false)) (h : Bd C W ρ st ss y) : Bd C W ρ st (.cons (.ife c ta .nil) ss) y := Bd.to (Bd.ife (x := .int 0) hc (fun h => nomatch h) fun _ => h) rfl
theorem Bd.yes {ss ta : Sts} {c : Ex} (hc : Ev C ρ st c (.bl true)) (h : Bd C W ρ st ta y) (hn : y ≠ .non) : Bd C W ρ st (.cons (.ife c ta .nil) ss) y := Bd.to (Bd.ife (y := .int 0) hc (fun _ => ⟨h, hn⟩) fun h => nomatch h) rfl
/-- a tuple of its length, the first a text: the test ahead -/
theorem row_of (hT : TFiles T) {r : Row} (h : r.ok) : Fn (callD T W (n + 2)) st "is_row" [r.d] (.bl true) := by
  refine Fn.of hT.is_row rfl ?_
  show Bd _ _ [some r.d, none] _ _ _
  unfold p_is_row
  have tst : ∀ (z : Str) (ds : List D), r.d = .tup (.str z :: ds) → Ev (callD T W (n + 1)) [some r.d, none] st (.or (.not (.isT (.lc 0) .tuple)) (.or (.cmp .eq (.bi .len (.lc 0)) (.k (.int 0))) (.not (.isT (.ix (.lc 0) (.k (.int 0))) .str)))) (.bl false) := fun z ds e => by
    rw [e]
    exact Ev.to (Ev.or (p := false) (Ev.to (Ev.not (p := true) (Ev.isT (Ev.lc rfl) fun s => rfl)) rfl) fun _ => Ev.or (p := false) (Ev.to (Ev.eqI (Ev.lenT (Ev.lc rfl)) Ev.k) (by simp; omega)) fun _ => Ev.to (Ev.not (p := true) (Ev.isT (Ev.ixT (d := .str z) (Ev.lc rfl) Ev.k at0) fun s => rfl)) rfl) rfl
  have hd : ∀ (z w : Str) (ds : List D), PyData.strOk z = true → PyData.strOk w = true → r.d = .tup (.str z :: ds) → Ev (callD T W (n + 1)) [some r.d, none] st (.cmp .eq (.ix (.lc 0) (.k (.int 0))) (.k (.str w))) (.bl (decide (z = w))) := fun z w ds h1 h2 e => by
    rw [e]
    exact Ev.eqS (Ev.ixT (d := .str z) (Ev.lc rfl) Ev.k at0) Ev.k h1 h2
  have sN : ∀ {z : Str} {w : Str} {ds : List D}, r.d = .tup (.str z :: ds) → PyData.strOk z = true → z ∈ [("need" : Str), "note", "fail"] → ds = [.str w] → wordB w = true → z ≠ "put" → z ≠ "read" → Bd (callD T W (n + 1)) W [some r.d, none] st p_is_row (.bl true) := fun {z w ds} e hz hm hds hw h1 h2 => by
    unfold p_is_row
    refine Bd.no (tst z ds e) (Bd.no (Ev.to (hd z "put" ds hz (by decide +kernel) e) (by rw [decide_eq_false h1])) (Bd.no (Ev.to (hd z "read" ds hz (by decide +kernel) e) (by rw [decide_eq_false h2])) (Bd.ret ?_)))
    rw [e, hds]
    refine Ev.to (Ev.and (p := true) (Ev.to (Ev.inT (n := 0) (m := 0) (Ev.ixT (d := .str z) (Ev.lc rfl) Ev.k at0) (Ev.tup (Evs.cons Ev.k (Evs.cons Ev.k (Evs.cons Ev.k Evs.nil))) (by show 3 ≤ LIM; decide)) rfl rfl (plain_str hz) (by decide +kernel)) (by
      congr 1
      refine decide_eq_true ?_
      simp only [List.mem_cons, List.not_mem_nil, or_false, D.str.injEq] at hm ⊢
      exact hm)) fun _ => Ev.and (p := true) (Ev.to (Ev.eqI (Ev.lenT (Ev.lc rfl)) Ev.k) rfl) fun _ => Ev.call1 (Ev.ixT (Ev.lc rfl) Ev.k rfl) (word_yes hT hw)) rfl
  cases r with
  | put f i =>
    obtain ⟨h1, h2, h3⟩ := h
    refine Bd.no (tst _ _ rfl) (Bd.yes (Ev.to (hd _ _ _ (by decide +kernel) (by decide +kernel) rfl) (by rw [decide_eq_true rfl])) (Bd.ret (Ev.to (Ev.and (p := true) (Ev.to (Ev.eqI (Ev.lenT (Ev.lc rfl)) Ev.k) rfl) fun _ => Ev.and (p := true) (Ev.call1 (Ev.ixT (Ev.lc rfl) Ev.k rfl) (word_yes hT h1)) fun _ =>
      Ev.call (Evs.cons (Ev.ixT (Ev.lc rfl) Ev.k rfl) (Evs.cons Ev.k (Evs.cons Ev.k Evs.nil))) (whole_of hT i 0 99)) (by rw [decide_eq_true h2, decide_eq_true h3]; rfl))) (fun z => nomatch z))
  | read f w g =>
    obtain ⟨h1, h2, h3⟩ := h
    refine Bd.no (tst _ _ rfl) (Bd.no (Ev.to (hd _ _ _ (by decide +kernel) (by decide +kernel) rfl) (by rw [decide_eq_false (by decide +kernel)])) (Bd.yes (Ev.to (hd _ _ _ (by decide +kernel) (by decide +kernel) rfl) (by rw [decide_eq_true rfl])) (Bd.ret (Ev.to (Ev.and (p := true) (Ev.to (Ev.eqI (Ev.lenT (Ev.lc rfl)) Ev.k) rfl) fun _ =>
      Ev.all (bs := [true, true, true]) (EvL.map (fun _ => .bl true) (Evi.tup (Ev.to (Ev.slT (l := some 1) (h := none) (Ev.lc rfl) (fun s Q g1 g2 => evo_some g1 Ev.k g2) fun s Q g1 g2 => evo_none g2) (d' := .tup [.str f, .str w, .str g]) rfl)) (by show 3 ≤ LIM; decide) fun d hd s hs => ?_)) rfl)) (fun z => nomatch z)))
    refine ⟨[some (Row.read f w g).d, some d], rfl, Ev.call1 (Ev.lc rfl) ?_⟩
    simp only [List.mem_cons, List.not_mem_nil, or_false] at hd
    rcases hd with rfl | rfl | rfl
    · exact word_yes hT h1
    · exact word_yes hT h2
    · exact word_yes hT h3
  | need w => exact sN (z := "need") rfl (by decide +kernel) (by simp) rfl h (by decide +kernel) (by decide +kernel)
  | note w => exact sN (z := "note") rfl (by decide +kernel) (by simp) rfl h (by decide +kernel) (by decide +kernel)
  | fail w => exact sN (z := "fail") rfl (by decide +kernel) (by simp) rfl h (by decide +kernel) (by decide +kernel)
end
end IP.Q

/-! PrM: the program's files: files, shelves, worlds are such; the file of a name. -/
namespace IP.Q
open PySem
section
variable {T : Tab} {W n : Nat} {C : Str → List D → Sto → R D} {ρ : Env} {st : Sto} {a b e : Ex} {x y d : D}
theorem S_no {s : Sto} {N : Env → Sto → Prop} {Rt : D → Sto → Prop} {Ct : Env → Sto → Prop} {c : Ex} {ta : Sts} (hs : Ext st s) (h : Ev C ρ st c (.bl false)) (k : ∀ s1, Ext s s1 → N ρ s1) : okS (exc C W (.ife c ta .nil) ρ s) N Rt Ct :=
  S_ife hs h (fun z => nomatch z) fun _ s1 e1 => by rw [s_nil]; exact k s1 e1
theorem Ev.nT {c : Ex} (h : Ev C ρ st c (.bl true)) : Ev C ρ st (.not c) (.bl false) := Ev.to (Ev.not h) rfl
theorem Ev.or0 {b : Ex} {q : Bool} (ha : Ev C ρ st a (.bl false)) (hb : Ev C ρ st b (.bl q)) : Ev C ρ st (.or a b) (.bl q) := Ev.to (Ev.or ha fun _ => hb) (by simp)
theorem Ev.isTup {ds : List D} (ha : Ev C ρ st a (.tup ds)) : Ev C ρ st (.isT a .tuple) (.bl true) := Ev.isT ha fun s => rfl
theorem Ev.isStr {z : Str} (ha : Ev C ρ st a (.str z)) : Ev C ρ st (.isT a .str) (.bl true) := Ev.isT ha fun s => rfl
theorem all_true (m : Nat) : (List.replicate m true).all id = true := by
  rw [List.all_eq_true]; intro x hx; rw [List.eq_of_mem_replicate hx]; rfl
/-- all([f(x) for x in xs]), each answer True -/
theorem Ev.allF {f : Str} {ds : List D} {i : Nat} {it : Ex} (hi : Ev C ρ st it (.tup ds)) (hl : ds.length ≤ LIM) (hn : i < ρ.length) (hf : ∀ x ∈ ds, ∀ s, Ext st s → Fn C s f [x] (.bl true)) : Ev C ρ st (.bi .all (.comp (.call f (.cons (.lc i) .nil)) (.nm i) (.val it) .none [i])) (.bl true) := by
  refine Ev.to (Ev.all (bs := List.replicate ds.length true) ?_) (by rw [all_true])
  have h := EvL.map (C := C) (ρ := ρ) (st := st) (e := .call f (.cons (.lc i) .nil)) (t := .nm i) (it := .val it) (own := [i]) (fun _ => .bl true) (Evi.tup hi) hl fun x hx s hs => by
    refine ⟨(ρ.set i none).set i (some x), ?_, Ev.call1 (Ev.lc ?_) (hf x hx s hs)⟩
    · simp only [asg, wipe, List.length_set, hn, if_true]
    · rw [List.getElem?_set_self (by rw [List.length_set]; exact hn)]
  rw [List.map_const'] at h
  rw [List.map_replicate]
  exact h
theorem kind_ok (b : Bool) : PyData.strOk (kindV b) = true := by cases b <;> decide +kernel
theorem file_of (hT : TFiles T) {f : File} (h : f.ok) : Fn (callD T W (n + 3)) st "is_file" [f.d] (.bl true) := by
  refine Fn.of hT.is_file rfl ?_
  show Bd _ _ [some f.d, none, none] _ _ _
  unfold p_is_file
  have c0 : Ev (callD T W (n + 2)) [some f.d, none, none] st (.ix (.lc 0) (.k (.int 0))) (.str (kindV f.face)) := Ev.ixT (ds := [_, _, _, _, _]) (Ev.lc rfl) Ev.k rfl
  have c1 : Ev (callD T W (n + 2)) [some f.d, none, none] st (.ix (.lc 0) (.k (.int 1))) (.str f.name) := Ev.ixT (ds := [_, _, _, _, _]) (Ev.lc rfl) Ev.k rfl
  have c2 : Ev (callD T W (n + 2)) [some f.d, none, none] st (.ix (.lc 0) (.k (.int 2))) (optS f.above) := Ev.ixT (ds := [_, _, _, _, _]) (Ev.lc rfl) Ev.k rfl
  have c3 : Ev (callD T W (n + 2)) [some f.d, none, none] st (.ix (.lc 0) (.k (.int 3))) (.tup (f.faces.map .str)) := Ev.ixT (ds := [_, _, _, _, _]) (Ev.lc rfl) Ev.k rfl
  have c4 : Ev (callD T W (n + 2)) [some f.d, none, none] st (.ix (.lc 0) (.k (.int 4))) (.tup (f.rows.map Row.d)) := Ev.ixT (ds := [_, _, _, _, _]) (Ev.lc rfl) Ev.k rfl
  have h5 : Ev (callD T W (n + 2)) [some f.d, none, none] st (.bi .len (.lc 0)) (.int 5) := Ev.lenT (ds := [_, _, _, _, _]) (Ev.lc rfl)
  have hf2 := h.faces2
  have hr5 := h.rows5
  refine Bd.no (Ev.or0 (Ev.nT (Ev.isTup (Ev.lc rfl))) (Ev.or0 (Ev.to (Ev.neI h5 Ev.k) rfl) (Ev.nT (Ev.isStr c0)))) ?_
  refine Bd.no (Ev.or0 (Ev.to (Ev.ninT (n := 0) (m := 0) c0 (Ev.tup (Evs.cons Ev.k (Evs.cons Ev.k Evs.nil)) (by show 2 ≤ LIM; decide)) rfl rfl (plain_str (kind_ok _)) (by decide +kernel)) (by cases f.face <;> rfl)) (Ev.nT (Ev.call1 c1 (word_yes hT h.name)))) ?_
  refine Bd.no ?_ (Bd.no (Ev.or0 (Ev.nT (Ev.isTup c3)) (Ev.or0 (Ev.to (Ev.gtI (Ev.lenT c3) Ev.k) (by rw [List.length_map]; congr 1; exact decide_eq_false (by omega))) (Ev.nT (Ev.allF c3 (by rw [List.length_map]; unfold LIM; omega) (by simp) fun x hx s hs => ?_))))
    (Bd.no (Ev.or0 (Ev.to (Ev.neI (Ev.lsetT c3 (by omega)) (Ev.lenT c3)) (by rw [List.length_map, h.fnd]; simp)) (Ev.or0 (Ev.nT (Ev.isTup c4)) (Ev.to (Ev.gtI (Ev.lenT c4) Ev.k) (by rw [List.length_map]; congr 1; exact decide_eq_false (by omega)))))
      (Bd.ret (Ev.allF c4 (by rw [List.length_map]; unfold LIM; omega) (by simp) fun x hx s hs => ?_))))
  · cases ha : f.above with
    | none =>
      rw [ha] at c2
      exact Ev.to (Ev.and (p := false) (q := false) (Ev.to (Ev.notN c2) rfl) fun z => nomatch z) rfl
    | some z =>
      rw [ha] at c2
      obtain ⟨k1, k2⟩ := h.above z ha
      refine Ev.to (Ev.and (p := true) (Ev.to (Ev.notN c2) rfl) fun _ => Ev.or0 (Ev.to (Ev.eqS c0 Ev.k (kind_ok _) (by decide +kernel)) (by rw [k1]; rfl)) (Ev.nT (Ev.call1 c2 (word_yes hT k2)))) rfl
  · obtain ⟨z, hz, rfl⟩ := List.mem_map.mp hx
    exact word_yes hT (h.faces z hz)
  · obtain ⟨r, hr, rfl⟩ := List.mem_map.mp hx
    exact row_of hT (h.rows r hr)
theorem name_at {f : File} : L2.atI [D.str (kindV f.face), .str f.name, optS f.above, .tup (f.faces.map .str), .tup (f.rows.map Row.d)] 1 = some (.str f.name) := rfl
theorem shelf_of (hT : TFiles T) {s : List File} (h : ShelfOk s) : Fn (callD T W (n + 4)) st "is_shelf" [.tup (s.map File.d)] (.bl true) := by
  have hl := h.len
  refine Fn.of hT.is_shelf rfl ?_
  show Bd _ _ [some (.tup (s.map File.d)), none] _ _ _
  unfold p_is_shelf
  refine Bd.no (Ev.or0 (Ev.nT (Ev.isTup (Ev.lc rfl))) (Ev.or0 (Ev.to (Ev.gtI (Ev.lenT (Ev.lc rfl)) Ev.k) (by rw [List.length_map]; congr 1; exact decide_eq_false (by omega))) (Ev.nT (Ev.allF (Ev.lc rfl) (by rw [List.length_map]; unfold LIM; omega) (by simp) fun x hx s hs => ?_)))) (Bd.ret ?_)
  · obtain ⟨f, hf, rfl⟩ := List.mem_map.mp hx
    exact file_of hT (h.files f hf)
  · have hm := EvL.map (C := callD T W (n + 3)) (ρ := [some (.tup (s.map File.d)), none]) (st := st) (e := .ix (.lc 1) (.k (.int 1))) (t := .nm 1) (it := .val (.lc 0)) (own := [1]) (fun d => match d with | .tup (_ :: z :: _) => z | _ => .non) (Evi.tup (Ev.lc rfl))
      (by rw [List.length_map]; unfold LIM; omega) fun d hd s' hs => by
        obtain ⟨f, _, rfl⟩ := List.mem_map.mp hd
        exact ⟨[some (.tup (s.map File.d)), some f.d], rfl, Ev.ixT (ds := [_, _, _, _, _]) (Ev.lc rfl) Ev.k rfl⟩
    have e1 : (s.map File.d).map (fun d => match d with | .tup (_ :: z :: _) => z | _ => .non) = (s.map (·.name)).map D.str := by
      rw [List.map_map, List.map_map]; rfl
    rw [e1] at hm
    refine Ev.to (Ev.eqI (Ev.lsetL hm (by rw [List.length_map]; omega)) (Ev.lenT (Ev.lc rfl))) ?_
    rw [distinct_nd h.nd, List.length_map, List.length_map]
    simp
theorem world_of (hT : TFiles T) {w : Wld} (h : WOk w) : Fn (callD T W (n + 5)) st "is_world" [wd w] (.bl true) := by
  have hl := h.len
  have hp := h.pos
  refine Fn.of hT.is_world rfl ?_
  show Bd _ _ [some (wd w), none, none] _ _ _
  unfold p_is_world
  refine Bd.no (Ev.or0 (Ev.nT (Ev.isTup (Ev.lc rfl))) (Ev.nT (Ev.to (Ev.lele Ev.k (Ev.lenT (Ev.lc rfl)) Ev.k) (by rw [List.length_map]; congr 1; rw [decide_eq_true (by omega), decide_eq_true (by omega)]; rfl)))) ?_
  intro s hs
  rw [s_cons]
  refine S_frW hs (EviW.enm (Ev.lc rfl)) rfl fun s1 e1 _ => ?_
  refine for_rule (fun i ρ s2 => Ext s s2 ∧ ∃ y z, ρ = [some (wd w), y, z]) _ 0 _ s1 ⟨e1, none, none, rfl⟩ (fun i d ρ s2 hd hI => ?_) fun ρ s2 hI => ?_
  · obtain ⟨e2, y, z, rfl⟩ := hI
    obtain ⟨l0, hl0, rfl⟩ := zip_at _ _ _ _ hd
    rw [Nat.zero_add]
    rw [List.getElem?_map] at hl0
    obtain ⟨l, hli, rfl⟩ := Option.map_eq_some_iff.mp hl0
    show okS (excs _ _ _ [some (wd w), some (.int (i : Int)), some l.d] s2) _ _ _
    have hsh := h.shelf l (List.mem_of_getElem? hli)
    have c0 : Ev (callD T W (n + 4)) [some (wd w), some (.int (i : Int)), some l.d] s2 (.ix (.lc 2) (.k (.int 0))) (optI l.par) := Ev.ixT (ds := [_, _]) (Ev.lc rfl) Ev.k rfl
    have c1 : Ev (callD T W (n + 4)) [some (wd w), some (.int (i : Int)), some l.d] s2 (.ix (.lc 2) (.k (.int 1))) (.tup (l.shelf.map File.d)) := Ev.ixT (ds := [_, _]) (Ev.lc rfl) Ev.k rfl
    have h2 : Ev (callD T W (n + 4)) [some (wd w), some (.int (i : Int)), some l.d] s2 (.bi .len (.lc 2)) (.int 2) := Ev.lenT (ds := [_, _]) (Ev.lc rfl)
    rw [s_cons]
    refine S_no (Ext.refl _) (Ev.or0 (Ev.nT (Ev.isTup (Ev.lc rfl))) (Ev.or0 (Ev.to (Ev.neI h2 Ev.k) rfl) (Ev.nT (Ev.call1 c1 (shelf_of hT hsh))))) fun s3 e3 => ?_
    rw [s_cons]
    refine S_no (st := s2) e3 ?_ fun s4 e4 => ?_
    · cases hp2 : l.par with
      | none =>
        rw [hp2] at c0
        exact Ev.to (Ev.and (p := false) (q := false) (Ev.to (Ev.notN c0) rfl) fun z => nomatch z) rfl
      | some p =>
        rw [hp2] at c0
        obtain ⟨k1, k2⟩ := h.par i l p hli hp2
        refine Ev.to (Ev.and (p := true) (Ev.to (Ev.notN c0) rfl) fun _ => Ev.nT (Ev.to (Ev.call (Evs.cons c0 (Evs.cons Ev.k (Evs.cons (Ev.subI (Ev.lc rfl) Ev.k) Evs.nil))) (whole_of hT p 0 ((i : Int) - 1))) (by rw [decide_eq_true k1, decide_eq_true (by omega)]; rfl))) rfl
    · rw [s_nil]
      exact ⟨⟨(e2.trans e3).trans e4, _, _, rfl⟩, rfl⟩
  · obtain ⟨e2, y, z, rfl⟩ := hI
    rw [s_cons]
    exact S_ret (Ext.refl _) Ev.k fun s3 e3 => ⟨e2.trans e3, rfl⟩
theorem need_of (hT : TFiles T) {w : Wld} (h : WOk w) : Fn (callD T W (n + 6)) st "need_world" [wd w] .non := by
  refine Fn.of hT.need_world rfl ?_
  show Bd _ _ [some (wd w)] _ _ _
  unfold p_need_world
  exact Bd.no (Ev.nT (Ev.call1 (Ev.lc rfl) (world_of hT h))) Bd.nil
/-! ### the file of a name -/
def fileOn (s : List File) (x : Str) : Option File := s.find? fun f => decide (f.name = x)
def optF : Option File → D
  | none => .non
  | some f => f.d
theorem file_on_of (hT : TFiles T) {s : List File} (hs : ∀ f ∈ s, PyData.strOk f.name = true) {x : Str} (hx : PyData.strOk x = true) : Fn (callD T W (n + 1)) st "file_on" [.tup (s.map File.d), .str x] (optF (fileOn s x)) := by
  intro s0 h0
  refine call_ok hT.file_on rfl ?_
  show okS (excs _ _ _ [some (.tup (s.map File.d)), some (.str x), none] _) _ _ _
  unfold p_file_on
  rw [s_cons]
  refine S_frW (Ext.refl _) (EviW.tup (Ev.lc rfl)) rfl fun s1 e1 _ => ?_
  refine for_rule (fun i ρ s2 => Ext s0 s2 ∧ (∃ z, ρ = [some (.tup (s.map File.d)), some (.str x), z]) ∧ ∀ f ∈ s.take i, f.name ≠ x) _ 0 _ s1 ⟨e1, ⟨none, rfl⟩, by simp⟩ (fun i d ρ s2 hd hI => ?_) fun ρ s2 hI => ?_
  · obtain ⟨e2, ⟨z, rfl⟩, hno⟩ := hI
    rw [Nat.zero_add] at *
    rw [List.getElem?_map] at hd
    obtain ⟨f, hf, rfl⟩ := Option.map_eq_some_iff.mp hd
    have hl : i < s.length := (List.getElem?_eq_some_iff.mp hf).1
    show okS (excs _ _ _ [some (.tup (s.map File.d)), some (.str x), some f.d] s2) _ _ _
    rw [s_cons]
    refine S_ife (p := decide (f.name = x)) (Ext.refl _) (Ev.eqS (Ev.ixT (ds := [_, _, _, _, _]) (Ev.lc rfl) Ev.k rfl) (Ev.lc rfl) (hs f (List.mem_of_getElem? hf)) hx) (fun hp s3 e3 => ?_) fun hp s3 e3 => ?_
    · rw [s_cons]
      refine S_ret (Ext.refl _) (Ev.lc rfl) fun s4 e4 => ⟨(e2.trans e3).trans e4, ?_⟩
      have hfi : fileOn s x = some f := by
        unfold fileOn
        rw [List.find?_eq_some_iff_getElem]
        refine ⟨hp, i, hl, (List.getElem?_eq_some_iff.mp hf).2, fun j hj => ?_⟩
        have := hno s[j] (by rw [List.mem_take_iff_getElem]; exact ⟨j, by omega, rfl⟩)
        simpa using this
      rw [hfi]; rfl
    · rw [s_nil, s_nil]
      refine ⟨⟨e2.trans e3, ⟨_, rfl⟩, fun g hg => ?_⟩, rfl⟩
      rw [List.take_succ, List.mem_append] at hg
      rcases hg with hg | hg
      · exact hno g hg
      · rw [hf] at hg
        simp only [Option.toList_some, List.mem_singleton] at hg
        rw [hg]
        exact of_decide_eq_false hp
  · obtain ⟨e2, ⟨z, rfl⟩, hno⟩ := hI
    rw [Nat.zero_add, List.length_map, List.take_length] at hno
    rw [s_cons]
    refine S_ret (Ext.refl _) Ev.k fun s3 e3 => ⟨e2.trans e3, ?_⟩
    have : fileOn s x = none := by
      unfold fileOn
      rw [List.find?_eq_none]
      intro f hf
      simpa using hno f hf
    rw [this]; rfl
end
end IP.Q

/-! PrO: where classes are found: the program's way and the laws'. -/
namespace IP.Q
open PySem
theorem s_whl {C : Str → List D → Sto → R D} {W : Nat} {ρ : Env} {st : Sto} {N : Env → Sto → Prop} {Rt : D → Sto → Prop} {Ct : Env → Sto → Prop} {c : Ex} {b : Sts} : okS (exc C W (.whl c b) ρ st) N Rt Ct = okS (whlL (fun ρ' st' => ev C c ρ' st') (fun ρ' st' => excs C W b ρ' st') W ρ st) N Rt Ct := by rw [exc]
theorem whl_step {c : Env → Sto → R D} {b : Env → Sto → SR} {k : Nat} {ρ : Env} {st : Sto} {N : Env → Sto → Prop} {Rt : D → Sto → Prop} {Ct : Env → Sto → Prop}
    (h : ok (c ρ st) fun x s1 => (x = .bl true ∧ okS (b ρ s1) (fun ρ' s' => okS (whlL c b k ρ' s') N Rt Ct) Rt (fun ρ' s' => okS (whlL c b k ρ' s') N Rt Ct)) ∨ (x = .bl false ∧ N ρ s1)) : okS (whlL c b (k + 1) ρ st) N Rt Ct := by
  unfold whlL
  cases e : c ρ st with
  | ok x s1 =>
    rw [e] at h
    rcases h with ⟨rfl, h⟩ | ⟨rfl, h⟩
    · dsimp only
      cases e2 : b ρ s1 with
      | next ρ' s' => rw [e2] at h; exact h
      | cont ρ' s' => rw [e2] at h; exact h
      | ret d s' => rw [e2] at h; exact h
      | brk ρ' s' => rw [e2] at h; exact h.elim
      | bad => rw [e2] at h; exact h
      | exc _ _ _ => rw [e2] at h; exact h
    · exact h
  | bad => rw [e] at h; exact h.elim
  | exc _ _ => rw [e] at h; exact h.elim
/-- the loaders that are asked by l, the topmost one first -/
def lineF (w : Wld) : Nat → Nat → List Nat
  | 0, _ => []
  | f + 1, l => match (w[l]?).bind (·.par) with
    | none => [l]
    | some p => lineF w f p.toNat ++ [l]
def line (w : Wld) (l : Nat) : List Nat := lineF w (l + 1) l
theorem lineF_more {w : Wld} (h : WOk w) : ∀ (f l : Nat), l < f → l < w.length → lineF w f l = line w l := by
  intro f
  induction f using Nat.strongRecOn with
  | ind f ih =>
    intro l h1 h2
    cases f with
    | zero => omega
    | succ f =>
      unfold line
      have hw : w[l]? = some w[l] := List.getElem?_eq_getElem h2
      unfold lineF
      rw [hw]
      show (match w[l].par with | none => [l] | some p => lineF w f p.toNat ++ [l]) = (match w[l].par with | none => [l] | some p => lineF w l p.toNat ++ [l])
      cases hp : w[l].par with
      | none => rfl
      | some p =>
        obtain ⟨k1, k2⟩ := h.par l w[l] p hw hp
        dsimp only
        rw [ih f (by omega) p.toNat (by omega) (by omega)]
        by_cases hf : l = f
        · subst hf
          rw [ih l (by omega) p.toNat (by omega) (by omega)]
        · rw [ih l (by omega) p.toNat (by omega) (by omega)]
theorem line_eq {w : Wld} (h : WOk w) {l : Nat} (h2 : l < w.length) : line w l = match w[l].par with
    | none => [l]
    | some p => line w p.toNat ++ [l] := by
  conv => lhs; unfold line lineF
  have hw : w[l]? = some w[l] := List.getElem?_eq_getElem h2
  rw [hw]
  show (match w[l].par with | none => [l] | some p => lineF w l p.toNat ++ [l]) = _
  cases hp : w[l].par with
  | none => rfl
  | some p =>
    obtain ⟨k1, k2⟩ := h.par l w[l] p hw hp
    dsimp only
    rw [lineF_more h l p.toNat (by omega) (by omega)]
theorem line_lt {w : Wld} (h : WOk w) : ∀ l, l < w.length → ∀ o ∈ line w l, o ≤ l := by
  intro l
  induction l using Nat.strongRecOn with
  | ind l ih =>
    intro hl o ho
    rw [line_eq h hl] at ho
    have hw : w[l]? = some w[l] := List.getElem?_eq_getElem hl
    cases hp : w[l].par with
    | none => rw [hp] at ho; simp at ho; omega
    | some p =>
      obtain ⟨k1, k2⟩ := h.par l w[l] p hw hp
      rw [hp] at ho
      rcases List.mem_append.mp ho with ho | ho
      · have := ih p.toNat (by omega) (by omega) o ho
        omega
      · simp at ho; omega
theorem line_len {w : Wld} (h : WOk w) : ∀ l, l < w.length → (line w l).length ≤ l + 1 := by
  intro l
  induction l using Nat.strongRecOn with
  | ind l ih =>
    intro hl
    rw [line_eq h hl]
    have hw : w[l]? = some w[l] := List.getElem?_eq_getElem hl
    cases hp : w[l].par with
    | none => simp
    | some p =>
      obtain ⟨k1, k2⟩ := h.par l w[l] p hw hp
      have := ih p.toNat (by omega) (by omega)
      dsimp only
      rw [List.length_append, List.length_singleton]
      omega
def natsD (ls : List Nat) : List D := ls.map fun l : Nat => D.int (l : Int)
theorem world_at {w : Wld} {l : Nat} (h : l < w.length) : L2.atI (w.map Ldr.d) (l : Int) = some w[l].d := by
  rw [atI_get (d := D.non) (by omega) (by rw [List.length_map]; omega)]
  rw [List.getD_eq_getElem?_getD, List.getElem?_map, Int.toNat_natCast, List.getElem?_eq_getElem h]; rfl
structure TFind (T : Tab) : Prop extends TFiles T where
  line_of : T "line_of" = some (.fn 2 3 p_line_of)
  found_by : T "found_by" = some (.fn 3 4 p_found_by)
structure TLine (T : Tab) : Prop where
  line : T "_law_line" = some (.fn 2 3 l_line)
  on : T "_law_on" = some (.fn 2 3 l_on)
  find : T "_law_find" = some (.fn 3 5 l_find)
section
variable {T : Tab} {W n : Nat} {C : Str → List D → Sto → R D} {ρ : Env} {st : Sto} {a b e : Ex} {x y d : D}
theorem par_at {l : Ldr} : L2.atI [optI l.par, .tup (l.shelf.map File.d)] 0 = some (optI l.par) := rfl
theorem optI_some {i : Option Int} {j : Int} (h : i = some j) : optI i = .int j := by rw [h]; rfl
theorem line_of_says (hT : TFind T) (hW : 100 ≤ W) {w : Wld} (h : WOk w) {l : Nat} (hl : l < w.length) : FnL (callD T W (n + 1)) st "line_of" [wd w, .int (l : Int)] (natsD (line w l)) := by
  intro s hs
  refine call_ok hT.line_of rfl ?_
  show okS (excs _ _ _ [some (wd w), some (.int (l : Int)), none] _) _ _ _
  unfold p_line_of
  rw [s_cons]
  refine S_asgL (EvL.lst Evs.nil (Nat.zero_le _)) (by simp) fun s1 q e1 hq hc => ?_
  show okS (excs _ _ _ [some (wd w), some (.int (l : Int)), some (.ref q)] _) _ _ _
  rw [s_cons, s_whl]
  have hw4 := h.len
  -- the walk up
  have key : ∀ (l : Nat), l < w.length → ∀ (k : Nat), l + 2 ≤ k → ∀ (acc : List Nat) (s1 : Sto) (q : Nat), Ext s s1 → s.length ≤ q → acc.length + l ≤ 50 → s1[q]? = some (.lst (natsD acc)) →
      okS (whlL (fun ρ' st' => ev (callD T W n) (.notN (.lc 1)) ρ' st') (fun ρ' st' => excs (callD T W n) W (.cons (.asg (.nm 2) (.bin .add (.lst (.cons (.lc 1) .nil)) (.lc 2))) (.cons (.asg (.nm 1) (.ix (.ix (.lc 0) (.lc 1)) (.k (.int 0)))) .nil)) ρ' st') k [some (wd w), some (.int (l : Int)), some (.ref q)] s1)
        (fun ρ s2 => ∃ y q2, ρ = [some (wd w), y, some (.ref q2)] ∧ Ext s s2 ∧ s.length ≤ q2 ∧ s2[q2]? = some (.lst (natsD (line w l ++ acc)))) (fun x s' => False) fun _ _ => False := by
    intro l
    induction l using Nat.strongRecOn with
    | ind l ih =>
      intro hl k hk acc s1 q e1 hq ha hc
      obtain ⟨k, rfl⟩ : ∃ k', k = k' + 1 := ⟨k - 1, by omega⟩
      refine whl_step (Ev.run (Ev.to (Ev.notN (Ev.lc rfl)) (by rfl)) fun s2 e2 => .inl ⟨rfl, ?_⟩)
      rw [s_cons]
      have hc2 := e2.at_ hc
      have hcut : EvL (callD T W n) [some (wd w), some (.int (l : Int)), some (.ref q)] s2 (.bin .add (.lst (.cons (.lc 1) .nil)) (.lc 2)) (natsD (l :: acc)) := fun s3 h3 => by
        rw [w_bin]
        refine ok_mono (EvL.lst (st := s2) (Evs.cons (Ev.lc rfl) Evs.nil) (by show 1 ≤ LIM; decide) s3 h3) fun u s4 ⟨e4, m, hu, hn, hm⟩ => ?_
        subst hu
        rw [w_lc (d := .ref q) rfl]
        simp only [binD, hm, (h3.trans e4).at_ hc2]
        rw [if_pos (by rw [natsD, List.length_map]; unfold LIM; simp only [List.length_cons, List.length_nil]; omega), ok_ok]
        exact ⟨e4.trans (Ext.more _), _, rfl, (h3.trans e4).len, by rw [List.getElem?_append_right (Nat.le_refl _)]; simp [natsD]⟩
      refine S_asgL hcut (by simp) fun s3 q3 e3 hq3 hc3 => ?_
      show okS (excs _ _ _ [some (wd w), some (.int (l : Int)), some (.ref q3)] _) _ _ _
      rw [s_cons]
      refine S_asg (Ext.refl _) (Ev.ixT (ds := [_, _]) (Ev.ixT (Ev.lc rfl) (Ev.lc rfl) (world_at hl)) Ev.k par_at) fun s4 e4 => ⟨_, rfl, ?_⟩
      rw [s_nil]
      show okS (whlL _ _ _ [some (wd w), some (optI w[l].par), some (.ref q3)] _) _ _ _
      have e14 := e1.trans (e2.trans (e3.trans e4))
      have hq3' : s.length ≤ q3 := Nat.le_trans (e1.trans e2).len hq3
      have hw : w[l]? = some w[l] := List.getElem?_eq_getElem hl
      cases hp : w[l].par with
      | none =>
        obtain ⟨k, rfl⟩ : ∃ k', k = k' + 1 := ⟨k - 1, by omega⟩
        refine whl_step (Ev.run (Ev.to (Ev.notN (Ev.lc rfl)) (by rfl)) fun s5 e5 => .inr ⟨rfl, _, q3, rfl, e14.trans e5, hq3', ?_⟩)
        rw [line_eq h hl, hp]
        exact (e4.trans e5).at_ hc3
      | some p =>
        obtain ⟨k1, k2⟩ := h.par l w[l] p hw hp
        have ep : optI (some p) = .int ((p.toNat : Nat) : Int) := by show D.int p = _; rw [Int.toNat_of_nonneg k1]
        rw [ep]
        refine okS_mono (ih p.toNat (by omega) (by omega) k (by omega) (l :: acc) s4 q3 e14 hq3' ?_ (e4.at_ hc3)) (fun ρ s5 ⟨y, q2, h1, h2, h3, h4⟩ => ⟨y, q2, h1, h2, h3, ?_⟩) (fun _ _ z => z) fun _ _ z => z
        · rw [List.length_cons]; omega
        · rw [line_eq h hl, hp]
          simpa using h4
  refine okS_mono (key l hl W (by omega) [] s1 q e1 hq (by simp; omega) (show s1[q]? = some (.lst (natsD [])) from hc)) (fun ρ s2 ⟨y, q2, h1, h2, h3, h4⟩ => ?_) (fun _ _ z => z.elim) fun _ _ z => z.elim
  subst h1
  rw [s_cons, s_ret, w_lc (d := .ref q2) rfl]
  rw [List.append_nil] at h4
  exact ⟨h2, q2, rfl, h3, h4⟩
end
end IP.Q

/-! PrP: the class that is found, by the program and by the laws. -/
namespace IP.Q
open PySem
def shelfAt (w : Wld) (o : Nat) : List File := match w[o]? with
  | some l => l.shelf
  | none => []
def foundV (w : Wld) (l : Nat) (x : Str) : Option Nat := (line w l).find? fun o => (fileOn (shelfAt w o) x).isSome
def fdD (x : Str) : Option Nat → D
  | none => .non
  | some o => .tup [.int (o : Int), .str x]
theorem shelf_get {w : Wld} {o : Nat} (h : o < w.length) : shelfAt w o = w[o].shelf := by
  unfold shelfAt
  rw [List.getElem?_eq_getElem h]
theorem names_ok {w : Wld} (h : WOk w) {o : Nat} (ho : o < w.length) : ∀ f ∈ shelfAt w o, PyData.strOk f.name = true := fun f hf => by
  rw [shelf_get ho] at hf
  exact word_ok ((h.shelf _ (List.getElem_mem ho)).files f hf).name
/-! ### plain files -/
theorem plain_tup {n : Nat} {ds : List D} (h : ∀ d ∈ ds, plainT n d = true) : plainT (n + 1) (.tup ds) = true := by
  unfold plainT
  rw [plainTs_all, List.all_eq_true]
  exact h
theorem row_plain {r : Row} (h : r.ok) : plainT 1 r.d = true := by
  cases r with
  | put f i =>
    refine plain_tup fun d hd => ?_
    simp only [List.mem_cons, List.not_mem_nil, or_false] at hd
    rcases hd with rfl | rfl | rfl
    · exact plain_str (by decide +kernel)
    · exact plain_str (word_ok h.1)
    · exact plain_int
  | read f w g =>
    refine plain_tup fun d hd => ?_
    simp only [List.mem_cons, List.not_mem_nil, or_false] at hd
    rcases hd with rfl | rfl | rfl | rfl
    · exact plain_str (by decide +kernel)
    · exact plain_str (word_ok h.1)
    · exact plain_str (word_ok h.2.1)
    · exact plain_str (word_ok h.2.2)
  | need w =>
    refine plain_tup fun d hd => ?_
    simp only [List.mem_cons, List.not_mem_nil, or_false] at hd
    rcases hd with rfl | rfl
    · exact plain_str (by decide +kernel)
    · exact plain_str (word_ok h)
  | note w =>
    refine plain_tup fun d hd => ?_
    simp only [List.mem_cons, List.not_mem_nil, or_false] at hd
    rcases hd with rfl | rfl
    · exact plain_str (by decide +kernel)
    · exact plain_str (word_ok h)
  | fail w =>
    refine plain_tup fun d hd => ?_
    simp only [List.mem_cons, List.not_mem_nil, or_false] at hd
    rcases hd with rfl | rfl
    · exact plain_str (by decide +kernel)
    · exact plain_str (word_ok h)
theorem file_plain {f : File} (h : f.ok) : plainT 3 f.d = true := by
  refine plain_tup fun d hd => ?_
  simp only [List.mem_cons, List.not_mem_nil, or_false] at hd
  rcases hd with rfl | rfl | rfl | rfl | rfl
  · exact plain_str (kind_ok _)
  · exact plain_str (word_ok h.name)
  · cases ha : f.above with
    | none => exact plain_non
    | some a => exact plain_str (word_ok (h.above a ha).2)
  · refine plain_tup fun d hd => ?_
    obtain ⟨x, hx, rfl⟩ := List.mem_map.mp hd
    exact plain_str (word_ok (h.faces x hx))
  · refine plain_tup fun d hd => ?_
    obtain ⟨r, hr, rfl⟩ := List.mem_map.mp hd
    exact row_plain (h.rows r hr)
section
variable {T : Tab} {W n : Nat} {C : Str → List D → Sto → R D} {ρ : Env} {st : Sto} {a b e : Ex} {x y d : D}
/-- two new lists -/
theorem Ev.eqLL {ds es : List D} {n m : Nat} (ha : EvL C ρ st a ds) (hb : EvL C ρ st b es) (h1 : plainTs n ds = true) (h2 : plainTs m es = true) (hn : n ≤ 63 := by decide) (hm : m ≤ 63 := by decide) : Ev C ρ st (.cmp .eq a b) (.bl (decide (ds = es))) := fun s hs => by
  rw [w_cmp]
  refine ok_mono (ha s hs) fun u s1 ⟨e1, i, hu, hi, hc⟩ => ?_
  subst hu
  refine ok_mono (hb s1 (hs.trans e1)) fun v s2 ⟨e2, j, hv, hj, hc2⟩ => ?_
  subst hv
  simp only [cmpD, eqD_lists hn hm (e2.at_ hc) hc2 h1 h2, okB, ok_ok]
  exact ⟨e1.trans e2, trivial⟩
theorem Ev.neLL {ds es : List D} {n m : Nat} (ha : EvL C ρ st a ds) (hb : EvL C ρ st b es) (h1 : plainTs n ds = true) (h2 : plainTs m es = true) (hn : n ≤ 63 := by decide) (hm : m ≤ 63 := by decide) : Ev C ρ st (.cmp .ne a b) (.bl (!decide (ds = es))) := fun s hs => by
  rw [w_cmp]
  refine ok_mono (ha s hs) fun u s1 ⟨e1, i, hu, hi, hc⟩ => ?_
  subst hu
  refine ok_mono (hb s1 (hs.trans e1)) fun v s2 ⟨e2, j, hv, hj, hc2⟩ => ?_
  subst hv
  simp only [cmpD, eqD_lists hn hm (e2.at_ hc) hc2 h1 h2, okB, ok_ok, Option.map]
  exact ⟨e1.trans e2, trivial⟩
/-- a list in a variable and a new one -/
theorem Ev.eqVL {ds es : List D} {n m i : Nat} (ha : Ev C ρ st a (.ref i)) (hi : st[i]? = some (.lst ds)) (hb : EvL C ρ st b es) (h1 : plainTs n ds = true) (h2 : plainTs m es = true) (hn : n ≤ 63 := by decide) (hm : m ≤ 63 := by decide) : Ev C ρ st (.cmp .eq a b) (.bl (decide (ds = es))) := fun s hs => by
  rw [w_cmp]
  refine ok_mono (ha s hs) fun u s1 ⟨e1, hu⟩ => ?_
  subst hu
  refine ok_mono (hb s1 (hs.trans e1)) fun v s2 ⟨e2, j, hv, hj, hc2⟩ => ?_
  subst hv
  simp only [cmpD, eqD_lists hn hm ((hs.trans e1).trans e2 |>.at_ hi) hc2 h1 h2, okB, ok_ok]
  exact ⟨e1.trans e2, trivial⟩
theorem plain_nats {ls : List Nat} : plainTs 0 (natsD ls) = true := by
  rw [plainTs_all, List.all_eq_true]
  intro d hd
  obtain ⟨l, _, rfl⟩ := List.mem_map.mp hd
  exact plain_int
theorem shelf_at {l : Ldr} : L2.atI [optI l.par, .tup (l.shelf.map File.d)] 1 = some (.tup (l.shelf.map File.d)) := rfl
theorem found_says (hT : TFind T) (hW : 100 ≤ W) {w : Wld} (h : WOk w) {l : Nat} (hl : l < w.length) {x : Str} (hx : PyData.strOk x = true) : Fn (callD T W (n + 2)) st "found_by" [wd w, .int (l : Int), .str x] (fdD x (foundV w l x)) := by
  intro s0 h0
  refine call_ok hT.found_by rfl ?_
  show okS (excs _ _ _ [some (wd w), some (.int (l : Int)), some (.str x), none] _) _ _ _
  unfold p_found_by
  rw [s_cons]
  refine S_fr (Ext.refl _) (Evi.lst (EvL.call (Evs.cons (Ev.lc rfl) (Evs.cons (Ev.lc rfl) Evs.nil)) (line_of_says hT hW h hl))) fun s1 wt e1 hwt => ?_
  refine for_rule (fun i ρ s2 => Ext s1 s2 ∧ (∃ z, ρ = [some (wd w), some (.int (l : Int)), some (.str x), z]) ∧ ∀ o ∈ (line w l).take i, (fileOn (shelfAt w o) x).isSome = false) _ 0 _ s1 ⟨Ext.refl _, ⟨none, rfl⟩, by simp⟩ (fun i d ρ s2 hd hI => ?_) fun ρ s2 hI => ?_
  · obtain ⟨e2, ⟨z, rfl⟩, hno⟩ := hI
    rw [Nat.zero_add] at *
    unfold natsD at hd
    rw [List.getElem?_map] at hd
    obtain ⟨o, ho, rfl⟩ := Option.map_eq_some_iff.mp hd
    have hi : i < (line w l).length := (List.getElem?_eq_some_iff.mp ho).1
    have hol : o < w.length := by have := line_lt h l hl o (List.mem_of_getElem? ho); omega
    show okS (excs _ _ _ [some (wd w), some (.int (l : Int)), some (.str x), some (.int (o : Int))] s2) _ _ _
    have hf : Fn (callD T W (n + 1)) s2 "file_on" [.tup (w[o].shelf.map File.d), .str x] (optF (fileOn w[o].shelf x)) := file_on_of hT.toTFiles (by rw [← shelf_get hol]; exact names_ok h hol) hx
    rw [s_cons]
    refine S_ife (p := (fileOn (shelfAt w o) x).isSome) (Ext.refl _) (Ev.to (Ev.notN (Ev.call (Evs.cons (Ev.ixT (ds := [_, _]) (Ev.ixT (Ev.lc rfl) (Ev.lc rfl) (world_at hol)) Ev.k shelf_at) (Evs.cons (Ev.lc rfl) Evs.nil)) hf)) ?_) (fun hp s3 e3 => ?_) fun hp s3 e3 => ?_
    · rw [shelf_get hol]
      cases fileOn w[o].shelf x <;> rfl
    · rw [s_cons]
      refine S_ret (Ext.refl _) (Ev.tup (Evs.cons (Ev.lc rfl) (Evs.cons (Ev.lc rfl) Evs.nil)) (by show 2 ≤ LIM; decide)) fun s4 e4 => ⟨e1.trans ((e2.trans e3).trans e4), ?_⟩
      have hfi : foundV w l x = some o := by
        unfold foundV
        rw [List.find?_eq_some_iff_getElem]
        refine ⟨hp, i, hi, (List.getElem?_eq_some_iff.mp ho).2, fun j hj => ?_⟩
        have := hno (line w l)[j] (by rw [List.mem_take_iff_getElem]; exact ⟨j, by omega, rfl⟩)
        simpa using this
      rw [hfi]; rfl
    · rw [s_nil, s_nil]
      refine ⟨⟨e2.trans e3, ⟨_, rfl⟩, fun g hg => ?_⟩, (e2.trans e3).okW hwt⟩
      rw [List.take_succ, List.mem_append] at hg
      rcases hg with hg | hg
      · exact hno g hg
      · rw [ho] at hg
        simp only [Option.toList_some, List.mem_singleton] at hg
        rw [hg]; exact hp
  · obtain ⟨e2, ⟨z, rfl⟩, hno⟩ := hI
    unfold natsD at hno
    rw [Nat.zero_add, List.length_map, List.take_length] at hno
    rw [s_cons]
    refine S_ret (Ext.refl _) Ev.k fun s3 e3 => ⟨e1.trans (e2.trans e3), ?_⟩
    have : foundV w l x = none := by
      unfold foundV
      rw [List.find?_eq_none]
      intro o ho
      rw [hno o ho]; simp
    rw [this]; rfl
/-! ### the laws' way -/
theorem lline_says (hT : TLine T) (hW : 100 ≤ W) {w : Wld} (h : WOk w) {l : Nat} (hl : l < w.length) : FnL (callD T W (n + 1)) st "_law_line" [wd w, .int (l : Int)] (natsD (line w l)) := by
  intro s hs
  refine call_ok hT.line rfl ?_
  show okS (excs _ _ _ [some (wd w), some (.int (l : Int)), none] _) _ _ _
  unfold l_line
  rw [s_cons]
  refine S_asgL (EvL.lst (Evs.cons (Ev.lc rfl) Evs.nil) (by show 1 ≤ LIM; decide)) (by simp) fun s1 q e1 hq hc => ?_
  show okS (excs _ _ _ [some (wd w), some (.int (l : Int)), some (.ref q)] _) _ _ _
  rw [s_cons, s_whl]
  have hw4 := h.len
  have key : ∀ (o : Nat), o < w.length → ∀ (k : Nat), o + 2 ≤ k → ∀ (acc : List Nat) (s1 : Sto) (q : Nat), Ext s s1 → s.length ≤ q → acc.length + o ≤ 50 → s1[q]? = some (.lst (natsD (o :: acc))) →
      okS (whlL (fun ρ' st' => ev (callD T W n) (.notN (.ix (.ix (.lc 0) (.ix (.lc 2) (.k (.int 0)))) (.k (.int 0)))) ρ' st') (fun ρ' st' => excs (callD T W n) W (.cons (.asg (.nm 2) (.bin .add (.lst (.cons (.ix (.ix (.lc 0) (.ix (.lc 2) (.k (.int 0)))) (.k (.int 0))) .nil)) (.lc 2))) .nil) ρ' st') k [some (wd w), some (.int (l : Int)), some (.ref q)] s1)
        (fun ρ s2 => ∃ q2, ρ = [some (wd w), some (.int (l : Int)), some (.ref q2)] ∧ Ext s s2 ∧ s.length ≤ q2 ∧ s2[q2]? = some (.lst (natsD (line w o ++ acc)))) (fun x s' => False) fun _ _ => False := by
    intro o
    induction o using Nat.strongRecOn with
    | ind o ih =>
      intro hol k hk acc s1 q e1 hq ha hc
      obtain ⟨k, rfl⟩ : ∃ k', k = k' + 1 := ⟨k - 1, by omega⟩
      have par : ∀ s2, Ext s1 s2 → Ev (callD T W n) [some (wd w), some (.int (l : Int)), some (.ref q)] s2 (.ix (.ix (.lc 0) (.ix (.lc 2) (.k (.int 0)))) (.k (.int 0))) (optI w[o].par) := fun s2 e2 =>
        Ev.ixT (ds := [_, _]) (Ev.ixT (Ev.lc rfl) (Ev.ixV (Ev.lc rfl) (e2.at_ hc) Ev.k at0) (world_at hol)) Ev.k par_at
      have hw : w[o]? = some w[o] := List.getElem?_eq_getElem hol
      cases hp : w[o].par with
      | none =>
        have par0 := par s1 (Ext.refl _)
        rw [hp] at par0
        refine whl_step (Ev.run (Ev.to (Ev.notN par0) (by rfl)) fun s5 e5 => .inr ⟨rfl, q, rfl, e1.trans e5, hq, ?_⟩)
        rw [line_eq h hol, hp]
        exact e5.at_ hc
      | some p =>
        obtain ⟨k1, k2⟩ := h.par o w[o] p hw hp
        have ep : optI w[o].par = .int ((p.toNat : Nat) : Int) := by rw [hp]; show D.int p = _; rw [Int.toNat_of_nonneg k1]
        rw [ep] at par
        refine whl_step (Ev.run (Ev.to (Ev.notN (par s1 (Ext.refl _))) (by rfl)) fun s2 e2 => .inl ⟨rfl, ?_⟩)
        rw [s_cons]
        have hc2 := e2.at_ hc
        have hcut : EvL (callD T W n) [some (wd w), some (.int (l : Int)), some (.ref q)] s2 (.bin .add (.lst (.cons (.ix (.ix (.lc 0) (.ix (.lc 2) (.k (.int 0)))) (.k (.int 0))) .nil)) (.lc 2)) (natsD (p.toNat :: o :: acc)) := fun s3 h3 => by
          rw [w_bin]
          refine ok_mono (EvL.lst (st := s2) (Evs.cons (par s2 e2) Evs.nil) (by show 1 ≤ LIM; decide) s3 h3) fun u s4 ⟨e4, m, hu, hn, hm⟩ => ?_
          subst hu
          rw [w_lc (d := .ref q) rfl]
          simp only [binD, hm, (h3.trans e4).at_ hc2]
          rw [if_pos (by rw [natsD, List.length_map]; unfold LIM; simp only [List.length_cons, List.length_nil]; omega), ok_ok]
          exact ⟨e4.trans (Ext.more _), _, rfl, (h3.trans e4).len, by rw [List.getElem?_append_right (Nat.le_refl _)]; simp [natsD]⟩
        refine S_asgL hcut (by simp) fun s3 q3 e3 hq3 hc3 => ?_
        rw [s_nil]
        show okS (whlL _ _ _ [some (wd w), some (.int (l : Int)), some (.ref q3)] _) _ _ _
        refine okS_mono (ih p.toNat (by omega) (by omega) k (by omega) (o :: acc) s3 q3 (e1.trans (e2.trans e3)) (Nat.le_trans (e1.trans e2).len hq3) (by rw [List.length_cons]; omega) hc3) (fun ρ s5 ⟨q2, h1, h2, h3, h4⟩ => ⟨q2, h1, h2, h3, ?_⟩) (fun _ _ z => z) fun _ _ z => z
        rw [line_eq h hol, hp]
        simpa using h4
  refine okS_mono (key l hl W (by omega) [] s1 q e1 hq (by simp; omega) (show s1[q]? = some (.lst (natsD [l])) from hc)) (fun ρ s2 ⟨q2, h1, h2, h3, h4⟩ => ?_) (fun _ _ z => z.elim) fun _ _ z => z.elim
  subst h1
  rw [s_cons, s_ret, w_lc (d := .ref q2) rfl]
  rw [List.append_nil] at h4
  exact ⟨h2, q2, rfl, h3, h4⟩
theorem on_says (hT : TLine T) {s : List File} (hs : ∀ f ∈ s, PyData.strOk f.name = true) (hl : s.length ≤ 100) {x : Str} (hx : PyData.strOk x = true) : FnL (callD T W (n + 1)) st "_law_on" [.tup (s.map File.d), .str x] ((s.filter fun f => decide (f.name = x)).map File.d) := by
  intro s0 h0
  refine call_ok hT.on rfl ?_
  show okS (excs _ _ _ [some (.tup (s.map File.d)), some (.str x), none] _) _ _ _
  unfold l_on
  rw [s_cons, s_ret]
  have hm := EvL.filt (C := callD T W n) (ρ := [some (.tup (s.map File.d)), some (.str x), none]) (st := s0) (e := .lc 2) (c := .cmp .eq (.ix (.lc 2) (.k (.int 1))) (.lc 1)) (t := .nm 2) (it := .val (.lc 0)) (own := [2]) (fun d => match d with | .tup (_ :: z :: _) => decide (z = .str x) | _ => false) id (Evi.tup (Ev.lc rfl))
    (by rw [List.length_map]; unfold LIM; omega) fun d hd s1 e1 => by
      obtain ⟨f, hf, rfl⟩ := List.mem_map.mp hd
      refine ⟨[some (.tup (s.map File.d)), some (.str x), some f.d], rfl, Ev.to (Ev.eqS (Ev.ixT (ds := [_, _, _, _, _]) (Ev.lc rfl) Ev.k name_at) (Ev.lc rfl) (hs f hf) hx) ?_, fun _ => Ev.lc rfl⟩
      show D.bl (decide (f.name = x)) = .bl (decide (D.str f.name = .str x))
      simp
  refine ok_mono (hm s0 (Ext.refl _)) fun u s1 ⟨e1, m, hu, hn, hc⟩ => ⟨e1, m, hu, hn, ?_⟩
  rw [hc, List.map_id, List.filter_map]
  congr 3
  refine congrFun (congrArg List.filter (funext fun f => ?_)) s
  show decide (D.str f.name = .str x) = decide (f.name = x)
  simp
theorem on_nil {s : List File} {x : Str} : (s.filter fun f => decide (f.name = x)) = [] ↔ (fileOn s x).isSome = false := by
  unfold fileOn
  rw [List.filter_eq_nil_iff]
  cases h : s.find? fun f => decide (f.name = x) with
  | none =>
    rw [List.find?_eq_none] at h
    exact ⟨fun _ => rfl, fun _ f hf => h f hf⟩
  | some f =>
    refine ⟨fun z => ?_, fun z => nomatch z⟩
    have h1 := List.mem_of_find?_eq_some h
    have h2 := List.find?_some h
    exact absurd h2 (z f h1)
theorem lfind_says (hT : TLine T) (hW : 100 ≤ W) {w : Wld} (h : WOk w) {l : Nat} (hl : l < w.length) {x : Str} (hx : PyData.strOk x = true) : Fn (callD T W (n + 2)) st "_law_find" [wd w, .int (l : Int), .str x] (fdD x (foundV w l x)) := by
  intro s0 h0
  refine call_ok hT.find rfl ?_
  show okS (excs _ _ _ [some (wd w), some (.int (l : Int)), some (.str x), none, none] _) _ _ _
  unfold l_find
  rw [s_cons]
  have ll := line_len h l hl
  have hw4 := h.len
  have hm : EvL (callD T W (n + 1)) [some (wd w), some (.int (l : Int)), some (.str x), none, none] s0 (.comp (.lc 4) (.nm 4) (.val (.call "_law_line" (.cons (.lc 0) (.cons (.lc 1) .nil)))) (.some (.cmp .ne (.call "_law_on" (.cons (.ix (.ix (.lc 0) (.lc 4)) (.k (.int 1))) (.cons (.lc 2) .nil))) (.lst .nil))) [4])
      (natsD ((line w l).filter fun o => (fileOn (shelfAt w o) x).isSome)) := by
    have := EvL.filt (C := callD T W (n + 1)) (ρ := [some (wd w), some (.int (l : Int)), some (.str x), none, none]) (st := s0) (e := .lc 4) (c := .cmp .ne (.call "_law_on" (.cons (.ix (.ix (.lc 0) (.lc 4)) (.k (.int 1))) (.cons (.lc 2) .nil))) (.lst .nil)) (t := .nm 4) (it := .val (.call "_law_line" (.cons (.lc 0) (.cons (.lc 1) .nil)))) (own := [4])
      (fun d => match d with | .int o => (fileOn (shelfAt w o.toNat) x).isSome | _ => false) id (Evi.lst (EvL.call (Evs.cons (Ev.lc rfl) (Evs.cons (Ev.lc rfl) Evs.nil)) (lline_says hT hW h hl))) (by rw [natsD, List.length_map]; unfold LIM; omega) fun d hd s1 e1 => by
        obtain ⟨o, ho, rfl⟩ := List.mem_map.mp hd
        have hol : o < w.length := by have := line_lt h l hl o ho; omega
        have hsh := h.shelf _ (List.getElem_mem hol)
        refine ⟨[some (wd w), some (.int (l : Int)), some (.str x), none, some (.int (o : Int))], rfl, Ev.to (Ev.neLL (n := 3) (m := 0) (EvL.call (Evs.cons (Ev.ixT (ds := [_, _]) (Ev.ixT (Ev.lc rfl) (Ev.lc rfl) (world_at hol)) Ev.k shelf_at) (Evs.cons (Ev.lc rfl) Evs.nil))
          (on_says hT (by rw [← shelf_get hol]; exact names_ok h hol) (by have := hsh.len; omega) hx)) (EvL.lst Evs.nil (Nat.zero_le _)) ?_ (by decide +kernel)) ?_, fun _ => Ev.lc rfl⟩
        · rw [plainTs_all, List.all_eq_true]
          intro d hd
          obtain ⟨f, hf, rfl⟩ := List.mem_map.mp hd
          exact file_plain (hsh.files f ((List.mem_filter.mp hf).1))
        · show D.bl _ = D.bl (fileOn (shelfAt w (o : Int).toNat) x).isSome
          rw [Int.toNat_natCast, shelf_get hol]
          congr 1
          cases hc : (fileOn w[o].shelf x).isSome with
          | false => rw [on_nil.mpr hc]; rfl
          | true =>
            rw [decide_eq_false fun z => ?_]; rfl
            have := on_nil.mp (List.map_eq_nil_iff.mp z)
            rw [hc] at this; cases this
    rw [List.map_id] at this
    unfold natsD at this ⊢
    rw [List.filter_map] at this
    exact this
  refine S_asgL hm (by simp) fun s1 q e1 hq hc => ?_
  show okS (excs _ _ _ [some (wd w), some (.int (l : Int)), some (.str x), some (.ref q), none] _) _ _ _
  have hfi : foundV w l x = ((line w l).filter fun o => (fileOn (shelfAt w o) x).isSome).head? := by
    unfold foundV
    rw [List.head?_filter]
  rw [s_cons]
  refine S_ife (p := decide ((line w l).filter (fun o => (fileOn (shelfAt w o) x).isSome) = [])) (Ext.refl _) (Ev.to (Ev.eqVL (n := 0) (m := 0) (Ev.lc rfl) hc (EvL.lst Evs.nil (Nat.zero_le _)) plain_nats (by decide +kernel)) (by unfold natsD; simp)) (fun hp s2 e2 => ?_) fun hp s2 e2 => ?_
  · rw [s_cons]
    refine S_ret (Ext.refl _) Ev.k fun s3 e3 => ⟨e1.trans (e2.trans e3), ?_⟩
    rw [hfi, of_decide_eq_true hp]; rfl
  · rw [s_nil, s_cons]
    cases hf : (line w l).filter fun o => (fileOn (shelfAt w o) x).isSome with
    | nil => rw [hf] at hp; cases hp
    | cons o os =>
      rw [hf] at hc
      refine S_ret (Ext.refl _) (Ev.tup (Evs.cons (Ev.ixV (Ev.lc rfl) (e2.at_ hc) Ev.k at0) (Evs.cons (Ev.lc rfl) Evs.nil)) (by show 2 ≤ LIM; decide)) fun s3 e3 => ⟨e1.trans (e2.trans e3), ?_⟩
      rw [hfi, hf]; rfl
end
end IP.Q

/-! PrQ: sorted lists of classes; lists gathered over a world. -/
namespace IP.Q
open PySem
def pairD (p : Nat × Str) : D := .tup [.int (p.1 : Int), .str p.2]
def srt (ds : List D) : List D := ((ds.map fun d => (d, toP d)).mergeSort (PySem.W.dataLe false (·.2))).map (·.1)
theorem mem_srt {ds : List D} {d : D} : d ∈ srt ds ↔ d ∈ ds := by
  unfold srt
  rw [List.mem_map]
  constructor
  · rintro ⟨p, hp, rfl⟩
    rw [List.mem_mergeSort, List.mem_map] at hp
    obtain ⟨e, he, rfl⟩ := hp
    exact he
  · intro h
    exact ⟨(d, toP d), by rw [List.mem_mergeSort]; exact List.mem_map_of_mem h, rfl⟩
theorem srt_len (ds : List D) : (srt ds).length = ds.length := by
  unfold srt
  rw [List.length_map, List.length_mergeSort, List.length_map]
theorem pair_plain {p : Nat × Str} (h : PyData.strOk p.2 = true) : plainT 1 (pairD p) = true := plain_tup fun d hd => by
  simp only [List.mem_cons, List.not_mem_nil, or_false] at hd
  rcases hd with rfl | rfl
  · exact plain_int
  · exact plain_str h
theorem datas_plain {st : Sto} {n : Nat} (hn : n ≤ 64) : ∀ {ds : List D}, (∀ d ∈ ds, plainT n d = true) → datasOf st ds = some (ds.map fun d => (d, toP d))
  | [], _ => rfl
  | d :: ds, h => by
    unfold datasOf
    rw [plain_data st n 64 d hn (h d List.mem_cons_self), datas_plain hn fun e he => h e (List.mem_cons_of_mem _ he)]; rfl
theorem sort_pairs {st : Sto} {ps : List (Nat × Str)} (h : ∀ p ∈ ps, PyData.strOk p.2 = true) (hl : ps.length ≤ LIM) : sortD (ps.map pairD) st = some (srt (ps.map pairD)) := by
  unfold sortD
  rw [datas_plain (n := 1) (by decide) fun d hd => by
    obtain ⟨p, hp, rfl⟩ := List.mem_map.mp hd
    exact pair_plain (h p hp)]
  have e1 : ((ps.map pairD).map fun d => (d, toP d)).map (·.2) = ps.map fun p => PyData.tuple [.int (p.1 : Int), .str p.2] := by
    rw [List.map_map, List.map_map]
    refine List.map_congr_left fun p _ => ?_
    simp [pairD, toP, toPs]
  dsimp only
  rw [e1]
  have e2 : alikeB (ps.map fun p => PyData.tuple [.int (p.1 : Int), .str p.2]) = true := by
    unfold alikeB
    rw [List.all_eq_true]
    intro a ha
    obtain ⟨p, _, rfl⟩ := List.mem_map.mp ha
    rw [List.all_eq_true]
    intro b hb
    obtain ⟨q, _, rfl⟩ := List.mem_map.mp hb
    simp [PySem.W.alike, PySem.W.alikeAll]
  have e3 : (ps.map fun p => PyData.tuple [.int (p.1 : Int), .str p.2]).all tupleB = true := by
    rw [List.all_eq_true]
    intro a ha
    obtain ⟨p, _, rfl⟩ := List.mem_map.mp ha
    rfl
  rw [e2, e3, decide_eq_true (by rw [List.length_map]; exact hl)]
  rfl
theorem srt_plain {ps : List (Nat × Str)} (h : ∀ p ∈ ps, PyData.strOk p.2 = true) : plainTs 1 (srt (ps.map pairD)) = true := by
  rw [plainTs_all, List.all_eq_true]
  intro d hd
  rw [mem_srt] at hd
  obtain ⟨p, hp, rfl⟩ := List.mem_map.mp hd
  exact pair_plain (h p hp)
def gatherV (g : Nat → Ldr → List (Nat × Str)) (w : Wld) (j : Nat) : List (Nat × Str) := (List.range j).flatMap fun i => match w[i]? with
  | some l => g i l
  | none => []
theorem gather_succ (g : Nat → Ldr → List (Nat × Str)) (w : Wld) (j : Nat) : gatherV g w (j + 1) = gatherV g w j ++ match w[j]? with
  | some l => g j l
  | none => [] := by
  unfold gatherV
  rw [List.range_succ, List.flatMap_append]
  simp
theorem gather_mem {g : Nat → Ldr → List (Nat × Str)} {w : Wld} {j : Nat} {p : Nat × Str} (h : p ∈ gatherV g w j) : ∃ i l, w[i]? = some l ∧ p ∈ g i l := by
  unfold gatherV at h
  obtain ⟨i, _, hi⟩ := List.mem_flatMap.mp h
  cases hw : w[i]? with
  | none => rw [hw] at hi; cases hi
  | some l => rw [hw] at hi; exact ⟨i, l, hw, hi⟩
theorem gather_len {g : Nat → Ldr → List (Nat × Str)} {w : Wld} (h : ∀ i l, w[i]? = some l → (g i l).length ≤ 4) : ∀ j, (gatherV g w j).length ≤ 4 * j
  | 0 => by simp [gatherV]
  | j + 1 => by
    rw [gather_succ, List.length_append]
    have := gather_len h j
    cases hw : w[j]? with
    | none => simp; omega
    | some l => have := h j l hw; simp; omega
section
variable {T : Tab} {W n : Nat} {C : Str → List D → Sto → R D} {ρ : Env} {st s : Sto} {a b e : Ex} {x y d : D} {N : Env → Sto → Prop} {Rt : D → Sto → Prop} {Ct : Env → Sto → Prop}
/-- l.extend(e) -/
theorem S_ext {m : Nat} {ds es : List D} {j : Nat} (hl : ρ[j]? = some (some (.ref m))) (hm : s[m]? = some (.lst ds)) (h : EvL C ρ s e es) (hz : ds.length + es.length ≤ LIM) (k : ∀ s1, Ext s s1 → N ρ (s1.set m (.lst (ds ++ es)))) : okS (exc C W (.exp (.bm .extend (.lc j) (.cons e .nil))) ρ s) N Rt Ct := by
  rw [s_exp, w_bm, w_lc hl]
  refine ⟨by show isLst (.ref m) s = true; simp only [isLst, hm], ?_⟩
  rw [w_cons]
  refine ok_mono (h s (Ext.refl _)) fun u s1 ⟨e1, q, hu, hq, hc⟩ => ?_
  subst hu
  rw [w_nil]
  show ok (extD (.ref m) [.ref q] s1) _
  simp only [extD, e1.at_ hm, hc, hz, if_true]
  exact k s1 e1
theorem EvL.sortV {m : Nat} {ds es : List D} (ha : Ev C ρ st a (.ref m)) (hm : st[m]? = some (.lst ds)) (hs : ∀ s, sortD ds s = some es) : EvL C ρ st (.bi .sorted a) es := fun s h => by
  rw [w_bi]
  refine ok_mono (ha s h) fun u s1 ⟨e1, hu⟩ => ?_
  subst hu
  simp only [biD, (h.trans e1).at_ hm, hs s1, ok_ok]
  exact ⟨e1.trans (Ext.more _), _, rfl, (h.trans e1).len, by rw [List.getElem?_append_right (Nat.le_refl _)]; simp⟩
theorem Ev.eqLV {ds es : List D} {n m i : Nat} (ha : EvL C ρ st a ds) (hb : Ev C ρ st b (.ref i)) (hi : st[i]? = some (.lst es)) (h1 : plainTs n ds = true) (h2 : plainTs m es = true) (hn : n ≤ 63 := by decide) (hm : m ≤ 63 := by decide) : Ev C ρ st (.cmp .eq a b) (.bl (decide (ds = es))) := fun s hs => by
  rw [w_cmp]
  refine ok_mono (ha s hs) fun u s1 ⟨e1, j, hu, hj, hc⟩ => ?_
  subst hu
  refine ok_mono (hb s1 (hs.trans e1)) fun v s2 ⟨e2, hv⟩ => ?_
  subst hv
  simp only [cmpD, eqD_lists hn hm (e2.at_ hc) (((hs.trans e1).trans e2).at_ hi) h1 h2, okB, ok_ok]
  exact ⟨e1.trans e2, trivial⟩
theorem Ev.ninV {x : D} {ds : List D} {n m i : Nat} (ha : Ev C ρ st a x) (hb : Ev C ρ st b (.ref i)) (hi : st[i]? = some (.lst ds)) (h1 : plainT n x = true) (h2 : plainTs m ds = true) (hn : n ≤ 64 := by decide) (hm : m ≤ 63 := by decide) : Ev C ρ st (.cmp .notin a b) (.bl (!decide (x ∈ ds))) :=
  Ev.cmp ha hb fun s hs => by
    show (memD x (.ref i) s).map (!·) = _
    simp only [memD, hs.at_ hi]
    rw [inD_plain hn hm h1 h2]; rfl
/-- made = []; for number, loader in enumerate(world): made.extend(comp); return sorted(made) -/
def tailG (comp : Ex) : Sts := .cons (.asg (.nm 1) (.lst .nil)) (.cons (.fr (.tp (.cons (.nm 2) (.cons (.nm 3) .nil))) (.enm (.lc 0)) (.cons (.exp (.bm .extend (.lc 1) (.cons comp .nil))) .nil)) (.cons (.ret (.bi .sorted (.lc 1))) .nil))
theorem tail_says {comp : Ex} {w : Wld} (hw : w.length ≤ 4) (g : Nat → Ldr → List (Nat × Str)) (hl : ∀ i l, w[i]? = some l → (g i l).length ≤ 4) (hs : ∀ i l, w[i]? = some l → ∀ p ∈ g i l, PyData.strOk p.2 = true)
    (hg : ∀ (i : Nat) (l : Ldr), w[i]? = some l → ∀ (q : Nat) (s : Sto), EvL C [some (wd w), some (.ref q), some (.int (i : Int)), some l.d, none] s comp ((g i l).map pairD)) {z2 z3 : Option D} :
    okS (excs C W (tailG comp) [some (wd w), none, z2, z3, none] s) (fun _ _ => False) (fun x s' => Ext s s' ∧ ∃ n, x = .ref n ∧ s.length ≤ n ∧ s'[n]? = some (.lst (srt ((gatherV g w w.length).map pairD)))) fun _ _ => False := by
  unfold tailG
  rw [s_cons]
  refine S_asgL (EvL.lst Evs.nil (Nat.zero_le _)) (by simp) fun s1 q e1 hq hc => ?_
  show okS (excs _ _ _ [some (wd w), some (.ref q), z2, z3, none] _) _ _ _
  rw [s_cons]
  refine S_frW (Ext.refl _) (EviW.enm (Ev.lc rfl)) rfl fun s2 e2 _ => ?_
  refine for_rule (fun i ρ s3 => Ext s s3 ∧ s3[q]? = some (.lst ((gatherV g w i).map pairD)) ∧ ∃ y z, ρ = [some (wd w), some (.ref q), y, z, none]) _ 0 _ s2 ⟨e1.trans e2, e2.at_ hc, _, _, rfl⟩ (fun i d ρ s3 hd hI => ?_) fun ρ s3 hI => ?_
  · obtain ⟨e3, hc3, y, z, rfl⟩ := hI
    rw [Nat.zero_add] at *
    obtain ⟨l0, hl0, rfl⟩ := zip_at _ _ _ _ hd
    rw [Nat.zero_add]
    rw [List.getElem?_map] at hl0
    obtain ⟨l, hli, rfl⟩ := Option.map_eq_some_iff.mp hl0
    have hi : i < w.length := (List.getElem?_eq_some_iff.mp hli).1
    show okS (excs _ _ _ [some (wd w), some (.ref q), some (.int (i : Int)), some l.d, none] s3) _ _ _
    rw [s_cons]
    refine S_ext rfl hc3 (hg i l hli q s3) ?_ fun s4 e4 => ?_
    · have := gather_len hl i
      have := hl i l hli
      rw [List.length_map, List.length_map]
      unfold LIM; omega
    · rw [s_nil]
      refine ⟨⟨(e3.trans e4).set hq, ?_, _, _, rfl⟩, rfl⟩
      rw [List.getElem?_set_self (List.getElem?_eq_some_iff.mp (e4.at_ hc3)).1, gather_succ, hli, List.map_append]
  · obtain ⟨e3, hc3, y, z, rfl⟩ := hI
    rw [Nat.zero_add, zip_len, List.length_map] at hc3
    rw [s_cons, s_ret]
    have hso : ∀ s, sortD ((gatherV g w w.length).map pairD) s = some (srt ((gatherV g w w.length).map pairD)) := fun s => sort_pairs (fun p hp => by
      obtain ⟨i, l, h1, h2⟩ := gather_mem hp
      exact hs i l h1 p h2) (by have := gather_len hl w.length; unfold LIM; omega)
    refine ok_mono (EvL.sortV (Ev.lc rfl) hc3 hso s3 (Ext.refl _)) fun u s4 ⟨e4, m, hu, hm, hc4⟩ => ⟨e3.trans e4, m, hu, Nat.le_trans e3.len hm, hc4⟩
end
/-! ### the classes of a world -/
def clsV (w : Wld) (i : Nat) (l : Ldr) : List (Nat × Str) := (l.shelf.filter fun f => decide (foundV w i f.name = some i)).map fun f => (i, f.name)
def shdV (w : Wld) (i : Nat) (l : Ldr) : List (Nat × Str) := (l.shelf.filter fun f => !decide (foundV w i f.name = some i)).map fun f => (i, f.name)
def classesV (w : Wld) : List (Nat × Str) := gatherV (clsV w) w w.length
def shadowV (w : Wld) : List (Nat × Str) := gatherV (shdV w) w w.length
structure TCls (T : Tab) : Prop extends TFind T where
  classes : T "classes" = some (.fn 1 5 p_classes)
  shadowed : T "shadowed" = some (.fn 1 5 p_shadowed)
theorem fd_eq {x : Str} {o : Option Nat} {i : Nat} : decide (fdD x o = pairD (i, x)) = decide (o = some i) := by
  cases o with
  | none => simp [fdD, pairD]
  | some j =>
    simp [fdD, pairD]
    omega
theorem fd_plain {x : Str} {o : Option Nat} (h : PyData.strOk x = true) : plainT 1 (fdD x o) = true := by
  cases o with
  | none => exact plain_non
  | some j => exact pair_plain (p := (j, x)) h
section
variable {T : Tab} {W n : Nat} {C : Str → List D → Sto → R D} {st : Sto} {w : Wld} {i : Nat} {l : Ldr}
theorem shelf_names (h : WOk w) (hl : w[i]? = some l) : ∀ f ∈ l.shelf, PyData.strOk f.name = true := fun f hf => word_ok ((h.shelf l (List.mem_of_getElem? hl)).files f hf).name
/-- [(number, one[1]) for one in loader[1] if F(world, number, one[1]) == (number, one[1])] -/
theorem comp_eq (h : WOk w) (hl : w[i]? = some l) {F : Str} (hF : ∀ (x : Str) (s : Sto), PyData.strOk x = true → Fn C s F [wd w, .int (i : Int), .str x] (fdD x (foundV w i x))) (q : Nat) (s : Sto) :
    EvL C [some (wd w), some (.ref q), some (.int (i : Int)), some l.d, none] s (.comp (.tup (.cons (.lc 2) (.cons (.ix (.lc 4) (.k (.int 1))) .nil))) (.nm 4) (.val (.ix (.lc 3) (.k (.int 1)))) (.some (.cmp .eq (.call F (.cons (.lc 0) (.cons (.lc 2) (.cons (.ix (.lc 4) (.k (.int 1))) .nil)))) (.tup (.cons (.lc 2) (.cons (.ix (.lc 4) (.k (.int 1))) .nil))))) [4]) ((clsV w i l).map pairD) := by
  have hn := shelf_names h hl
  have hsl := (h.shelf l (List.mem_of_getElem? hl)).len
  have := EvL.filt (C := C) (ρ := [some (wd w), some (.ref q), some (.int (i : Int)), some l.d, none]) (st := s) (e := .tup (.cons (.lc 2) (.cons (.ix (.lc 4) (.k (.int 1))) .nil))) (c := .cmp .eq (.call F (.cons (.lc 0) (.cons (.lc 2) (.cons (.ix (.lc 4) (.k (.int 1))) .nil)))) (.tup (.cons (.lc 2) (.cons (.ix (.lc 4) (.k (.int 1))) .nil)))) (t := .nm 4) (it := .val (.ix (.lc 3) (.k (.int 1)))) (own := [4])
    (fun d => match d with | .tup (_ :: .str z :: _) => decide (foundV w i z = some i) | _ => false) (fun d => match d with | .tup (_ :: .str z :: _) => pairD (i, z) | _ => .non) (Evi.tup (Ev.ixT (ds := [_, _]) (Ev.lc rfl) Ev.k shelf_at)) (by rw [List.length_map]; unfold LIM; omega) fun d hd s1 e1 => by
      obtain ⟨f, hf, rfl⟩ := List.mem_map.mp hd
      refine ⟨[some (wd w), some (.ref q), some (.int (i : Int)), some l.d, some f.d], rfl, Ev.to (Ev.eq (n := 1) (m := 1) (Ev.call (Evs.cons (Ev.lc rfl) (Evs.cons (Ev.lc rfl) (Evs.cons (Ev.ixT (ds := [_, _, _, _, _]) (Ev.lc rfl) Ev.k name_at) Evs.nil))) (hF f.name s1 (hn f hf)))
        (Ev.tup (Evs.cons (Ev.lc rfl) (Evs.cons (Ev.ixT (ds := [_, _, _, _, _]) (Ev.lc rfl) Ev.k name_at) Evs.nil)) (by show 2 ≤ LIM; decide)) (fd_plain (hn f hf)) (pair_plain (p := (i, f.name)) (hn f hf))) ?_, fun _ => Ev.tup (Evs.cons (Ev.lc rfl) (Evs.cons (Ev.ixT (ds := [_, _, _, _, _]) (Ev.lc rfl) Ev.k name_at) Evs.nil)) (by show 2 ≤ LIM; decide)⟩
      exact congrArg D.bl fd_eq
  rw [List.filter_map, List.map_map] at this
  unfold clsV
  rw [List.map_map]
  exact this
theorem comp_ne (h : WOk w) (hl : w[i]? = some l) {F : Str} (hF : ∀ (x : Str) (s : Sto), PyData.strOk x = true → Fn C s F [wd w, .int (i : Int), .str x] (fdD x (foundV w i x))) (q : Nat) (s : Sto) :
    EvL C [some (wd w), some (.ref q), some (.int (i : Int)), some l.d, none] s (.comp (.tup (.cons (.lc 2) (.cons (.ix (.lc 4) (.k (.int 1))) .nil))) (.nm 4) (.val (.ix (.lc 3) (.k (.int 1)))) (.some (.cmp .ne (.call F (.cons (.lc 0) (.cons (.lc 2) (.cons (.ix (.lc 4) (.k (.int 1))) .nil)))) (.tup (.cons (.lc 2) (.cons (.ix (.lc 4) (.k (.int 1))) .nil))))) [4]) ((shdV w i l).map pairD) := by
  have hn := shelf_names h hl
  have hsl := (h.shelf l (List.mem_of_getElem? hl)).len
  have := EvL.filt (C := C) (ρ := [some (wd w), some (.ref q), some (.int (i : Int)), some l.d, none]) (st := s) (e := .tup (.cons (.lc 2) (.cons (.ix (.lc 4) (.k (.int 1))) .nil))) (c := .cmp .ne (.call F (.cons (.lc 0) (.cons (.lc 2) (.cons (.ix (.lc 4) (.k (.int 1))) .nil)))) (.tup (.cons (.lc 2) (.cons (.ix (.lc 4) (.k (.int 1))) .nil)))) (t := .nm 4) (it := .val (.ix (.lc 3) (.k (.int 1)))) (own := [4])
    (fun d => match d with | .tup (_ :: .str z :: _) => !decide (foundV w i z = some i) | _ => false) (fun d => match d with | .tup (_ :: .str z :: _) => pairD (i, z) | _ => .non) (Evi.tup (Ev.ixT (ds := [_, _]) (Ev.lc rfl) Ev.k shelf_at)) (by rw [List.length_map]; unfold LIM; omega) fun d hd s1 e1 => by
      obtain ⟨f, hf, rfl⟩ := List.mem_map.mp hd
      refine ⟨[some (wd w), some (.ref q), some (.int (i : Int)), some l.d, some f.d], rfl, Ev.to (Ev.ne (n := 1) (m := 1) (Ev.call (Evs.cons (Ev.lc rfl) (Evs.cons (Ev.lc rfl) (Evs.cons (Ev.ixT (ds := [_, _, _, _, _]) (Ev.lc rfl) Ev.k name_at) Evs.nil))) (hF f.name s1 (hn f hf)))
        (Ev.tup (Evs.cons (Ev.lc rfl) (Evs.cons (Ev.ixT (ds := [_, _, _, _, _]) (Ev.lc rfl) Ev.k name_at) Evs.nil)) (by show 2 ≤ LIM; decide)) (fd_plain (hn f hf)) (pair_plain (p := (i, f.name)) (hn f hf))) ?_, fun _ => Ev.tup (Evs.cons (Ev.lc rfl) (Evs.cons (Ev.ixT (ds := [_, _, _, _, _]) (Ev.lc rfl) Ev.k name_at) Evs.nil)) (by show 2 ≤ LIM; decide)⟩
      exact congrArg (fun z => D.bl (!z)) fd_eq
  rw [List.filter_map, List.map_map] at this
  unfold shdV
  rw [List.map_map]
  exact this
theorem cls_len (h : WOk w) : ∀ i l, w[i]? = some l → (clsV w i l).length ≤ 4 := fun i l hl => by
  have := (h.shelf l (List.mem_of_getElem? hl)).len
  unfold clsV
  rw [List.length_map]
  exact Nat.le_trans (List.length_filter_le _ _) this
theorem shd_len (h : WOk w) : ∀ i l, w[i]? = some l → (shdV w i l).length ≤ 4 := fun i l hl => by
  have := (h.shelf l (List.mem_of_getElem? hl)).len
  unfold shdV
  rw [List.length_map]
  exact Nat.le_trans (List.length_filter_le _ _) this
theorem cls_str (h : WOk w) : ∀ i l, w[i]? = some l → ∀ p ∈ clsV w i l, PyData.strOk p.2 = true := fun i l hl p hp => by
  obtain ⟨f, hf, rfl⟩ := List.mem_map.mp hp
  exact shelf_names h hl f (List.mem_filter.mp hf).1
theorem shd_str (h : WOk w) : ∀ i l, w[i]? = some l → ∀ p ∈ shdV w i l, PyData.strOk p.2 = true := fun i l hl p hp => by
  obtain ⟨f, hf, rfl⟩ := List.mem_map.mp hp
  exact shelf_names h hl f (List.mem_filter.mp hf).1
theorem S_call0 {C : Str → List D → Sto → R D} {ρ : Env} {s : Sto} {e : Ex} {x : D} {N : Env → Sto → Prop} {Rt : D → Sto → Prop} {Ct : Env → Sto → Prop} (h : Ev C ρ s e x) (k : ∀ s1, Ext s s1 → N ρ s1) : okS (exc C W (.exp e) ρ s) N Rt Ct := by
  rw [s_exp]
  exact ok_mono (h s (Ext.refl _)) fun u s1 ⟨e1, _⟩ => k s1 e1
theorem classes_says (hT : TCls T) (hW : 100 ≤ W) (h : WOk w) : FnL (callD T W (n + 7)) st "classes" [wd w] (srt ((classesV w).map pairD)) := by
  intro s0 h0
  refine call_ok hT.classes rfl ?_
  show okS (excs _ _ _ [some (wd w), none, none, none, none] _) _ _ _
  unfold p_classes
  rw [s_cons]
  refine S_call0 (Ev.call1 (Ev.lc rfl) (need_of hT.toTFiles h)) fun s1 e1 => ?_
  refine okS_mono (tail_says (C := callD T W (n + 6)) h.len (clsV w) (cls_len h) (cls_str h) fun i l hl q s => comp_eq h hl (fun x s hx => found_says hT.toTFind hW h (List.getElem?_eq_some_iff.mp hl).1 hx) q s) (fun _ _ z => z.elim) (fun x s' ⟨e2, m, hx, hm, hc⟩ => ⟨e1.trans e2, m, hx, Nat.le_trans e1.len hm, hc⟩) fun _ _ z => z.elim
theorem shadowed_says (hT : TCls T) (hW : 100 ≤ W) (h : WOk w) : FnL (callD T W (n + 7)) st "shadowed" [wd w] (srt ((shadowV w).map pairD)) := by
  intro s0 h0
  refine call_ok hT.shadowed rfl ?_
  show okS (excs _ _ _ [some (wd w), none, none, none, none] _) _ _ _
  unfold p_shadowed
  rw [s_cons]
  refine S_call0 (Ev.call1 (Ev.lc rfl) (need_of hT.toTFiles h)) fun s1 e1 => ?_
  refine okS_mono (tail_says (C := callD T W (n + 6)) h.len (shdV w) (shd_len h) (shd_str h) fun i l hl q s => comp_ne h hl (fun x s hx => found_says hT.toTFind hW h (List.getElem?_eq_some_iff.mp hl).1 hx) q s) (fun _ _ z => z.elim) (fun x s' ⟨e2, m, hx, hm, hc⟩ => ⟨e1.trans e2, m, hx, Nat.le_trans e1.len hm, hc⟩) fun _ _ z => z.elim
/-- the laws' list of classes -/
theorem lclasses_says (hT : TLine T) (hc : T "_law_classes" = some (.fn 1 5 l_classes)) (hW : 100 ≤ W) (h : WOk w) : FnL (callD T W (n + 3)) st "_law_classes" [wd w] (srt ((classesV w).map pairD)) := by
  intro s0 h0
  refine call_ok hc rfl ?_
  show okS (excs _ _ _ [some (wd w), none, none, none, none] _) _ _ _
  refine okS_mono (tail_says (C := callD T W (n + 2)) h.len (clsV w) (cls_len h) (cls_str h) fun i l hl q s => comp_eq h hl (fun x s hx => lfind_says hT hW h (List.getElem?_eq_some_iff.mp hl).1 hx) q s) (fun _ _ z => z.elim) (fun x s' z => z) fun _ _ z => z.elim
end
end IP.Q

/-! PrR: the laws' worlds are valid. -/
namespace IP.Q
open PySem
theorem wordV_B (ns : List Int) (k : Int) : wordB (wordV ns k) = true := by
  have m0 := mixV_nn ns k (m := 6) (by decide)
  have m1 := mixV_lt ns k (m := 6) (by decide)
  obtain ⟨_, l2, l3⟩ := lens_at m0 m1
  have hl : (wordV ns k).length = wlenV ns k := by simp [wordV, Str.length, wordCs]
  have hw : 1 ≤ wlenV ns k ∧ wlenV ns k ≤ 6 := by unfold wlenV; omega
  unfold wordB
  rw [hl, decide_eq_true (by omega), decide_eq_true (by omega), Bool.true_and, Bool.true_and, List.all_eq_true]
  intro b hb
  obtain ⟨c, hc, rfl⟩ := List.mem_map.mp hb
  have hc : c ∈ wordCs ns k (wlenV ns k) := by simpa [wordV] using hc
  unfold wordCs at hc
  obtain ⟨i, _, rfl⟩ := List.mem_map.mp hc
  have q0 := mixV_nn ns (k + 1 + (i : Int)) (m := 26) (by decide)
  have q1 := mixV_lt ns (k + 1 + (i : Int)) (m := 26) (by decide)
  have : letV (mixV ns (k + 1 + (i : Int)) 26) ∈ letters.cps.toList := by
    rw [show letters = abc from rfl, abc_list]
    unfold letV
    exact List.mem_map.mpr ⟨_, List.mem_range.mpr (by omega), rfl⟩
  exact decide_eq_true this
theorem dedup_nodup (xs : List Str) : ∀ acc : List Str, acc.Nodup → (dedup acc xs).Nodup := by
  induction xs with
  | nil => intro acc h; exact h
  | cons x xs ih =>
    intro acc h
    simp only [dedup]
    split
    · exact ih acc h
    · rename_i hx
      refine ih _ ?_
      rw [List.nodup_append]
      exact ⟨h, by simp, fun a ha b hb e => hx (by rw [List.mem_singleton.mp hb] at e; rw [← e]; exact ha)⟩
theorem dedup_in (xs : List Str) : ∀ (acc : List Str) (k : Str), k ∈ dedup acc xs → k ∈ acc ∨ k ∈ xs := by
  induction xs with
  | nil => intro acc k h; exact .inl h
  | cons x xs ih =>
    intro acc k h
    simp only [dedup] at h
    split at h
    · rcases ih _ _ h with h | h
      · exact .inl h
      · exact .inr (List.mem_cons_of_mem _ h)
    · rcases ih _ _ h with h | h
      · rcases List.mem_append.mp h with h | h
        · exact .inl h
        · rw [List.mem_singleton.mp h]; exact .inr List.mem_cons_self
      · exact .inr (List.mem_cons_of_mem _ h)
theorem dedup_sub (xs : List Str) : ∀ (acc : List Str) (k : Str), k ∈ acc → k ∈ dedup acc xs := by
  induction xs with
  | nil => intro acc k h; exact h
  | cons x xs ih =>
    intro acc k h
    simp only [dedup]
    split
    · exact ih _ _ h
    · exact ih _ _ (List.mem_append_left _ h)
/-- names as the laws draw them -/
structure NOk (xs : List Str) : Prop where
  ne : xs ≠ []
  len : xs.length ≤ 4
  nd : xs.Nodup
  word : ∀ x ∈ xs, wordB x = true
theorem namesV_ok (ns : List Int) (k : Int) : NOk (namesV ns k) where
  ne := fun h => by
    have : wordV ns k ∈ namesV ns k := by
      unfold namesV
      unfold dedup
      rw [if_neg (by simp)]
      exact dedup_sub _ _ _ (by simp)
    rw [h] at this; cases this
  len := by
    have := dedup_le [wordV ns k, wordV ns (k + 8), wordV ns (k + 16), wordV ns (k + 24)] []
    unfold namesV
    simpa using this
  nd := dedup_nodup _ _ List.nodup_nil
  word := fun x hx => by
    rcases dedup_in _ _ _ hx with h | h
    · cases h
    · simp only [List.mem_cons, List.not_mem_nil, or_false] at h
      rcases h with rfl | rfl | rfl | rfl <;> exact wordV_B _ _
section
variable {ns : List Int} {k : Int} {xs : List Str}
theorem NOk.str (h : NOk xs) : ∀ x ∈ xs, PyData.strOk x = true := fun x hx => word_ok (h.word x hx)
theorem pos_len (h : NOk xs) : 0 < xs.length := List.length_pos_iff.mpr h.ne
theorem getD_in (h : NOk xs) {i : Nat} (hi : i < xs.length) : xs.getD i Str.empty ∈ xs := by
  rw [List.getD_eq_getElem?_getD, List.getElem?_eq_getElem hi]
  exact List.getElem_mem _
theorem pick_in (h : NOk xs) (k : Int) : pickV ns k xs ∈ xs := by
  have hl := pos_len h
  have p0 := mixV_nn ns k (m := xs.length) (by omega)
  have p1 := mixV_lt ns k (m := xs.length) (by omega)
  exact getD_in h (by omega)
theorem fg_word (i : Int) : wordB (fgV i) = true := by
  unfold fgV
  split <;> decide +kernel
theorem xy_word (i : Int) : wordB (xyV i) = true := by
  unfold xyV
  split <;> decide +kernel
theorem rowV_ok (h : NOk xs) (k : Int) : (rowV ns k xs).ok := by
  unfold rowV
  split
  · have p0 := mixV_nn ns (k + 3) (m := 100) (by decide)
    have p1 := mixV_lt ns (k + 3) (m := 100) (by decide)
    exact ⟨fg_word _, p0, by omega⟩
  · split
    · exact ⟨fg_word _, h.word _ (pick_in h _), fg_word _⟩
    · split
      · exact h.word _ (pick_in h _)
      · split
        · exact xy_word _
        · exact xy_word _
theorem last_in (h : NOk xs) : lastV xs ∈ xs := by
  have hl := pos_len h
  exact getD_in h (by omega)
theorem distinct_take (l : List Str) (hl : l.length ≤ 2) : (distinct (l.take (distinct l).length)).length = (l.take (distinct l).length).length := by
  match l, hl with
  | [], _ => rfl
  | [a], _ => simp [distinct, dedup]
  | [a, b], _ =>
    by_cases e : b = a
    · subst e; simp [distinct, dedup]
    · have e' : ¬ b = a := e
      simp [distinct, dedup, e']
theorem fileV_ok (h : NOk xs) (k : Int) {x : Str} (hx : wordB x = true) {long : Int} (h0 : 0 ≤ long) (h1 : long ≤ 5) : (fileV ns k xs x long).ok where
  name := hx
  above := fun a ha => by
    have ha : aboveV ns k xs x = some a := ha
    unfold aboveV at ha
    split at ha
    · rename_i hc
      cases ha
      exact ⟨hc.1, h.word _ (pick_in h _)⟩
    · cases ha
  faces := fun y hy => by
    have hy : y ∈ facesV ns k xs := hy
    have hy := List.mem_of_mem_take hy
    unfold faces2 faces1 at hy
    rcases List.mem_append.mp hy with hy | hy
    · split at hy
      · rw [List.mem_singleton.mp hy]; exact h.word _ (last_in h)
      · cases hy
    · split at hy
      · rw [List.mem_singleton.mp hy]; exact h.word _ (pick_in h _)
      · cases hy
  faces2 := by
    show (facesV ns k xs).length ≤ 2
    unfold facesV
    rw [List.length_take]
    have : (faces2 ns k xs).length ≤ 2 := by
      unfold faces2 faces1
      split <;> split <;> simp
    omega
  fnd := by
    show (distinct (facesV ns k xs)).length = (facesV ns k xs).length
    refine distinct_take _ ?_
    unfold faces2 faces1
    split <;> split <;> simp
  rows := fun r hr => by
    have hr : r ∈ rowsV ns k xs long := hr
    unfold rowsV at hr
    obtain ⟨i, _, rfl⟩ := List.mem_map.mp hr
    exact rowV_ok h _
  rows5 := by
    show (rowsV ns k xs long).length ≤ 5
    unfold rowsV
    rw [List.length_map, List.length_range]
    have p1 := mixV_lt ns (k + 5) (m := long + 1) (by omega)
    omega
theorem oneV_ok (h : NOk xs) {i : Nat} {long : Int} (h0 : 0 ≤ long) (h1 : long ≤ 5) {j : Nat} (hj : j < xs.length) : ∀ f ∈ oneV ns k i long xs j, f.ok ∧ f.name = xs.getD j Str.empty := by
  intro f hf
  unfold oneV at hf
  split at hf
  · rename_i hc
    rw [List.mem_singleton.mp hf]
    refine ⟨⟨h.word _ (getD_in h hj), (fun a ha => by cases ha), (fun x hx => by cases hx), Nat.zero_le _, rfl, fun r hr => ?_, ?_⟩, rfl⟩
    · have := List.mem_of_mem_drop hr
      simp only [List.mem_cons, List.not_mem_nil, or_false] at this
      rcases this with rfl | rfl
      · exact rowV_ok h _
      · exact h.word _ (getD_in h (by omega))
    · show (List.drop _ _).length ≤ 5
      rw [List.length_drop]
      simp only [List.length_cons, List.length_nil]
      omega
  · split at hf
    · rw [List.mem_singleton.mp hf]
      exact ⟨fileV_ok h _ (h.word _ (getD_in h hj)) h0 h1, rfl⟩
    · cases hf
theorem shelf0_ok (h : NOk xs) {i : Nat} {long : Int} (h0 : 0 ≤ long) (h1 : long ≤ 5) : ∀ j, j ≤ xs.length → (∀ f ∈ shelf0V ns k i long xs j, f.ok ∧ f.name ∈ xs.take j) ∧ ((shelf0V ns k i long xs j).map (·.name)).Nodup
  | 0, _ => ⟨fun f hf => by simp [shelf0V] at hf, by simp [shelf0V]⟩
  | j + 1, hj => by
    obtain ⟨a1, a2⟩ := shelf0_ok h h0 h1 j (by omega)
    have hjl : j < xs.length := by omega
    have hx : xs[j]? = some xs[j] := List.getElem?_eq_getElem hjl
    have ex : xs.getD j Str.empty = xs[j] := by rw [List.getD_eq_getElem?_getD, hx]; rfl
    have one := oneV_ok (ns := ns) (k := k) h (i := i) h0 h1 hjl
    have le := oneV_le ns k i long xs j
    rw [shelf0_succ]
    refine ⟨fun f hf => ?_, ?_⟩
    · rw [List.take_succ, hx]
      rcases List.mem_append.mp hf with hf | hf
      · exact ⟨(a1 f hf).1, List.mem_append_left _ (a1 f hf).2⟩
      · exact ⟨(one f hf).1, List.mem_append_right _ (by rw [(one f hf).2, ex]; simp)⟩
    · rw [List.map_append, List.nodup_append]
      refine ⟨a2, ?_, fun a ha b hb e => ?_⟩
      · match hm : oneV ns k i long xs j, le with
        | [], _ => simp
        | [f], _ => simp
        | _ :: _ :: _, z => simp at z
      · obtain ⟨f, hf, rfl⟩ := List.mem_map.mp ha
        obtain ⟨g, hg, rfl⟩ := List.mem_map.mp hb
        have h2 := (a1 f hf).2
        rw [e, (one g hg).2, ex] at h2
        obtain ⟨m, hm, hm2⟩ := List.mem_take_iff_getElem.mp h2
        have := (List.getElem_inj h.nd).mp hm2
        omega
theorem shelfV_ok (h : NOk xs) {i : Nat} {long : Int} (h0 : 0 ≤ long) (h1 : long ≤ 5) : ShelfOk (shelfV ns k i long xs) := by
  obtain ⟨a1, a2⟩ := shelf0_ok (ns := ns) (k := k) h (i := i) h0 h1 xs.length (Nat.le_refl _)
  have le := shelf0_le ns k i long xs xs.length
  have hl := h.len
  generalize hs : shelf0V ns k i long xs xs.length = s at a1 a2 le
  have e : shelfV ns k i long xs = s.drop (mixV ns (hereV k i + 8) 4).toNat ++ s.take (mixV ns (hereV k i + 8) 4).toNat := by unfold shelfV; rw [hs]
  generalize (mixV ns (hereV k i + 8) 4).toNat = t at e
  have pm : (shelfV ns k i long xs).Perm s := by
    rw [e]
    exact List.perm_append_comm.trans (by rw [List.take_append_drop])
  refine ⟨by rw [pm.length_eq]; omega, fun f hf => (a1 f (pm.mem_iff.mp hf)).1, ?_⟩
  exact (pm.map _).nodup_iff.mpr a2
theorem worldV_ok (h : NOk xs) {many long : Int} (hm0 : 0 < many) (hm1 : many ≤ 4) (h0 : 0 ≤ long) (h1 : long ≤ 5) : WOk (worldV ns k xs many long) := by
  have w0 := mixV_nn ns k hm0
  have w1 := mixV_lt ns k hm0
  have hlen : (worldV ns k xs many long).length = (1 + mixV ns k many).toNat := by unfold worldV; rw [List.length_map, List.length_range]
  refine ⟨by rw [hlen]; omega, by rw [hlen]; omega, fun l hl => ?_, fun i l p hl hp => ?_⟩
  · unfold worldV at hl
    obtain ⟨i, _, rfl⟩ := List.mem_map.mp hl
    exact shelfV_ok h h0 h1
  · unfold worldV at hl
    rw [List.getElem?_map] at hl
    obtain ⟨j, hj, rfl⟩ := Option.map_eq_some_iff.mp hl
    have hji : j = i := by
      have := List.getElem?_eq_some_iff.mp hj
      obtain ⟨h2, h3⟩ := this
      simpa using h3.symm
    subst hji
    have hp : parV ns k j = some p := hp
    unfold parV at hp
    split at hp
    · rename_i hc
      cases hp
      exact ⟨mixV_nn ns _ (by omega), mixV_lt ns _ (by omega)⟩
    · cases hp
end
end IP.Q

/-! K04p: what the law k04 answers. -/
namespace IP.Q
open PySem
theorem of_ok {r : R D} (h : ok r fun d _ => d = .bl true) : ∃ st, r = .ok (.bl true) st := by
  cases r with
  | ok a st =>
    have h : a = .bl true := h
    rw [h]
    exact ⟨st, rfl⟩
  | bad => exact h.elim
  | exc _ _ => exact h.elim
/-- a file of the shelf is among the classes if it is found there -/
theorem cls_mem {w : Wld} (h : WOk w) {i : Nat} {l : Ldr} (hl : w[i]? = some l) {f : File} (hf : f ∈ l.shelf) : decide (pairD (i, f.name) ∈ srt ((classesV w).map pairD)) = decide (foundV w i f.name = some i) := by
  refine decide_eq_decide.mpr ?_
  rw [mem_srt, List.mem_map]
  have hi : i < w.length := (List.getElem?_eq_some_iff.mp hl).1
  constructor
  · rintro ⟨⟨j, y⟩, hp, e⟩
    have e1 : (j : Int) = (i : Int) ∧ y = f.name := by
      unfold pairD at e
      simpa using e
    have ej : j = i := by omega
    obtain ⟨ey⟩ := e1.2
    subst ej
    obtain ⟨j2, l2, h2, h3⟩ := gather_mem hp
    unfold clsV at h3
    obtain ⟨g, hg, e3⟩ := List.mem_map.mp h3
    have e4 : j2 = j := (Prod.mk.inj e3).1
    subst e4
    have := (List.mem_filter.mp hg).2
    rw [(Prod.mk.inj e3).2] at this
    exact of_decide_eq_true this
  · intro hfo
    refine ⟨(i, f.name), ?_, rfl⟩
    unfold classesV gatherV
    refine List.mem_flatMap.mpr ⟨i, List.mem_range.mpr hi, ?_⟩
    rw [hl]
    exact List.mem_map.mpr ⟨f, List.mem_filter.mpr ⟨hf, decide_eq_true hfo⟩, rfl⟩
structure TK04 (T : Tab) : Prop extends TWorld T l_file, TCls T, TLine T where
  classes' : T "_law_classes" = some (.fn 1 5 l_classes)
  law : T "law" = some (.fn 1 8 law_k04)
section
variable {T : Tab} {W n : Nat} {st : Sto}
theorem k04_says (hT : TK04 T) (hW : 100 ≤ W) (ns : List Int) : ok (callD T W (n + 8) "law" [.ro ns] st) fun d _ => d = .bl true := by
  refine call_ok hT.law rfl ?_
  show okS (excs _ _ _ [some (.ro ns), none, none, none, none, none, none, none] _) _ _ _
  unfold law_k04
  have nk := namesV_ok ns 20
  have wk : WOk (worldV ns 100 (namesV ns 20) 4 1) := worldV_ok nk (by decide) (by decide) (by decide) (by decide)
  rw [s_cons]
  refine S_asgL (EvL.call (Evs.cons (Ev.lc rfl) (Evs.cons Ev.k Evs.nil)) (names_says hT.toTDraw ns 20 (by decide))) (by simp) fun s1 q e1 hq hc => ?_
  show okS (excs _ _ _ [some (.ro ns), some (.ref q), none, none, none, none, none, none] _) _ _ _
  rw [s_cons]
  have fs : FileSays T W := fun {n st} ns k hk {m xs} hm hx hxs x hxo long h0 h1 => file_says hT.toTWorld ns k hk hm hx hxs x hxo long h0 h1
  refine S_asg (Ext.refl _) (Ev.call (Evs.cons (Ev.lc rfl) (Evs.cons Ev.k (Evs.cons (Ev.lc rfl) (Evs.cons Ev.k (Evs.cons Ev.k Evs.nil))))) (world_says hT.toTWorld fs ns 100 (by decide) hc nk.ne (by have := nk.len; omega) nk.str 4 1 (by decide) (by decide) (by decide) (by decide))) fun s2 e2 => ⟨_, rfl, ?_⟩
  generalize worldV ns 100 (namesV ns 20) 4 1 = w at wk
  show okS (excs _ _ _ [some (.ro ns), some (.ref q), some (wd w), none, none, none, none, none] _) _ _ _
  rw [s_cons]
  refine S_asgL (EvL.call (Evs.cons (Ev.lc rfl) Evs.nil) (lclasses_says hT.toTLine hT.classes' hW wk)) (by simp) fun s3 a e3 ha hca => ?_
  show okS (excs _ _ _ [some (.ro ns), some (.ref q), some (wd w), some (.ref a), none, none, none, none] _) _ _ _
  rw [s_cons]
  refine S_asgL (EvL.lst Evs.nil (Nat.zero_le _)) (by simp) fun s4 b e4 hb hcb => ?_
  show okS (excs _ _ _ [some (.ro ns), some (.ref q), some (wd w), some (.ref a), some (.ref b), none, none, none] _) _ _ _
  have ha4 := e4.at_ hca
  have hw4 := wk.len
  rw [s_cons]
  refine S_frW (Ext.refl _) (EviW.enm (Ev.lc rfl)) rfl fun s5 e5 _ => ?_
  refine for_rule (fun i ρ s6 => s6[a]? = some (.lst (srt ((classesV w).map pairD))) ∧ s6[b]? = some (.lst ((gatherV (shdV w) w i).map pairD)) ∧ ∃ x5 x6, ρ = [some (.ro ns), some (.ref q), some (wd w), some (.ref a), some (.ref b), x5, x6, none]) _ 0 _ s5 ⟨e5.at_ ha4, e5.at_ hcb, _, _, rfl⟩ (fun i d ρ s6 hd hI => ?_) fun ρ s6 hI => ?_
  · obtain ⟨hca6, hc6, x5, x6, rfl⟩ := hI
    rw [Nat.zero_add] at *
    obtain ⟨l0, hl0, rfl⟩ := zip_at _ _ _ _ hd
    rw [Nat.zero_add]
    rw [List.getElem?_map] at hl0
    obtain ⟨l, hli, rfl⟩ := Option.map_eq_some_iff.mp hl0
    have hi : i < w.length := (List.getElem?_eq_some_iff.mp hli).1
    have hn := shelf_names wk hli
    have hsl := (wk.shelf l (List.mem_of_getElem? hli)).len
    show okS (excs _ _ _ [some (.ro ns), some (.ref q), some (wd w), some (.ref a), some (.ref b), some (.int (i : Int)), some l.d, none] s6) _ _ _
    have hcomp : EvL (callD T W (n + 7)) [some (.ro ns), some (.ref q), some (wd w), some (.ref a), some (.ref b), some (.int (i : Int)), some l.d, none] s6 (.comp (.tup (.cons (.lc 5) (.cons (.ix (.lc 7) (.k (.int 1))) .nil))) (.nm 7) (.val (.ix (.lc 6) (.k (.int 1)))) (.some (.cmp .notin (.tup (.cons (.lc 5) (.cons (.ix (.lc 7) (.k (.int 1))) .nil))) (.lc 3))) [7]) ((shdV w i l).map pairD) := by
      have := EvL.filt (C := callD T W (n + 7)) (ρ := [some (.ro ns), some (.ref q), some (wd w), some (.ref a), some (.ref b), some (.int (i : Int)), some l.d, none]) (st := s6) (e := .tup (.cons (.lc 5) (.cons (.ix (.lc 7) (.k (.int 1))) .nil))) (c := .cmp .notin (.tup (.cons (.lc 5) (.cons (.ix (.lc 7) (.k (.int 1))) .nil))) (.lc 3)) (t := .nm 7) (it := .val (.ix (.lc 6) (.k (.int 1)))) (own := [7])
        (fun d => match d with | .tup (_ :: .str z :: _) => !decide (foundV w i z = some i) | _ => false) (fun d => match d with | .tup (_ :: .str z :: _) => pairD (i, z) | _ => .non) (Evi.tup (Ev.ixT (ds := [_, _]) (Ev.lc rfl) Ev.k shelf_at)) (by rw [List.length_map]; unfold LIM; omega) fun d hd s7 e7 => by
          obtain ⟨f, hf, rfl⟩ := List.mem_map.mp hd
          refine ⟨[some (.ro ns), some (.ref q), some (wd w), some (.ref a), some (.ref b), some (.int (i : Int)), some l.d, some f.d], rfl, Ev.to (Ev.ninV (n := 1) (m := 1) (Ev.tup (Evs.cons (Ev.lc rfl) (Evs.cons (Ev.ixT (ds := [_, _, _, _, _]) (Ev.lc rfl) Ev.k name_at) Evs.nil)) (by show 2 ≤ LIM; decide)) (Ev.lc rfl) (e7.at_ hca6) (pair_plain (p := (i, f.name)) (hn f hf)) (srt_plain fun p hp => ?_)) ?_,
            fun _ => Ev.tup (Evs.cons (Ev.lc rfl) (Evs.cons (Ev.ixT (ds := [_, _, _, _, _]) (Ev.lc rfl) Ev.k name_at) Evs.nil)) (by show 2 ≤ LIM; decide)⟩
          · obtain ⟨j, l2, h1, h2⟩ := gather_mem hp
            exact cls_str wk j l2 h1 p h2
          · exact congrArg (fun z => D.bl (!z)) (cls_mem wk hli hf)
      rw [List.filter_map, List.map_map] at this
      unfold shdV
      rw [List.map_map]
      exact this
    rw [s_cons]
    refine S_ext rfl hc6 hcomp ?_ fun s7 e7 => ?_
    · have := gather_len (shd_len wk) i
      have := shd_len wk i l hli
      rw [List.length_map, List.length_map]
      unfold LIM; omega
    · rw [s_nil]
      have hab : a ≠ b := by
        have : a < s3.length := (List.getElem?_eq_some_iff.mp hca).1
        omega
      refine ⟨⟨?_, ?_, _, _, rfl⟩, rfl⟩
      · rw [List.getElem?_set_ne (Ne.symm hab)]
        exact e7.at_ hca6
      · rw [List.getElem?_set_self (List.getElem?_eq_some_iff.mp (e7.at_ hc6)).1, gather_succ, hli, List.map_append]
  · obtain ⟨hca6, hc6, x5, x6, rfl⟩ := hI
    rw [Nat.zero_add, zip_len, List.length_map] at hc6
    have pc : ∀ p ∈ classesV w, PyData.strOk p.2 = true := fun p hp => by
      obtain ⟨j, l2, h1, h2⟩ := gather_mem hp
      exact cls_str wk j l2 h1 p h2
    have ps : ∀ p ∈ shadowV w, PyData.strOk p.2 = true := fun p hp => by
      obtain ⟨j, l2, h1, h2⟩ := gather_mem hp
      exact shd_str wk j l2 h1 p h2
    rw [s_cons]
    refine S_ret (Ext.refl _) (Ev.and (p := true) (Ev.to (Ev.eqLV (n := 1) (m := 1) (EvL.call (Evs.cons (Ev.lc rfl) Evs.nil) (classes_says hT.toTCls hW wk)) (Ev.lc rfl) hca6 (srt_plain pc) (srt_plain pc)) (by rw [decide_eq_true rfl])) fun _ =>
      Ev.to (d' := .bl true) (Ev.eqLL (n := 1) (m := 1) (EvL.call (Evs.cons (Ev.lc rfl) Evs.nil) (shadowed_says hT.toTCls hW wk)) (EvL.sortV (Ev.lc rfl) hc6 fun s => sort_pairs ps (by have := gather_len (shd_len wk) w.length; unfold LIM; omega)) (srt_plain ps) (srt_plain ps)) (by rw [decide_eq_true]; rfl)) fun s7 e7 => rfl
end
end IP.Q

namespace LawK04
open PySem PySem.Spec PyProof.Rows IP IP.Q
def top (i : Nat) : Stmt := PySem.Challenge.pw_loaders_k04_classes.main.body.getD i (.Pass ⟨0, 0, 0, 0⟩)
def e_p_is_word : Ent := ⟨"is_word", ⟨("is_word", none), "is_word", "is_word", L2.defArgs (top 11), L2.defBody (top 11), L2.defScope (top 11), [], []⟩, ["thing", "sign"], 1, p_is_word⟩
def e_p_is_whole : Ent := ⟨"is_whole", ⟨("is_whole", none), "is_whole", "is_whole", L2.defArgs (top 12), L2.defBody (top 12), L2.defScope (top 12), [], []⟩, ["thing", "low", "most"], 3, p_is_whole⟩
def e_p_is_row : Ent := ⟨"is_row", ⟨("is_row", none), "is_row", "is_row", L2.defArgs (top 13), L2.defBody (top 13), L2.defScope (top 13), [], []⟩, ["thing", "word"], 1, p_is_row⟩
def e_p_is_file : Ent := ⟨"is_file", ⟨("is_file", none), "is_file", "is_file", L2.defArgs (top 14), L2.defBody (top 14), L2.defScope (top 14), [], []⟩, ["thing", "face", "row"], 1, p_is_file⟩
def e_p_is_shelf : Ent := ⟨"is_shelf", ⟨("is_shelf", none), "is_shelf", "is_shelf", L2.defArgs (top 15), L2.defBody (top 15), L2.defScope (top 15), [], []⟩, ["thing", "one"], 1, p_is_shelf⟩
def e_p_is_world : Ent := ⟨"is_world", ⟨("is_world", none), "is_world", "is_world", L2.defArgs (top 16), L2.defBody (top 16), L2.defScope (top 16), [], []⟩, ["thing", "number", "loader"], 1, p_is_world⟩
def e_p_need_world : Ent := ⟨"need_world", ⟨("need_world", none), "need_world", "need_world", L2.defArgs (top 17), L2.defBody (top 17), L2.defScope (top 17), [], []⟩, ["world"], 1, p_need_world⟩
def e_p_file_on : Ent := ⟨"file_on", ⟨("file_on", none), "file_on", "file_on", L2.defArgs (top 18), L2.defBody (top 18), L2.defScope (top 18), [], []⟩, ["shelf", "name", "one"], 2, p_file_on⟩
def e_p_line_of : Ent := ⟨"line_of", ⟨("line_of", none), "line_of", "line_of", L2.defArgs (top 20), L2.defBody (top 20), L2.defScope (top 20), [], []⟩, ["world", "loader", "made"], 2, p_line_of⟩
def e_p_found_by : Ent := ⟨"found_by", ⟨("found_by", none), "found_by", "found_by", L2.defArgs (top 21), L2.defBody (top 21), L2.defScope (top 21), [], []⟩, ["world", "loader", "name", "one"], 3, p_found_by⟩
def e_p_classes : Ent := ⟨"classes", ⟨("classes", none), "classes", "classes", L2.defArgs (top 22), L2.defBody (top 22), L2.defScope (top 22), [], []⟩, ["world", "made", "number", "loader", "one"], 1, p_classes⟩
def e_p_shadowed : Ent := ⟨"shadowed", ⟨("shadowed", none), "shadowed", "shadowed", L2.defArgs (top 23), L2.defBody (top 23), L2.defScope (top 23), [], []⟩, ["world", "made", "number", "loader", "one"], 1, p_shadowed⟩
def e_l_cell_at : Ent := ⟨"_law_cell_at", ⟨("_law_cell_at", none), "_law_cell_at", "_law_cell_at", L2.defArgs (top 25), L2.defBody (top 25), L2.defScope (top 25), [], []⟩, ["_law_script", "_law_k"], 2, l_cell_at⟩
def e_l_mixed : Ent := ⟨"_law_mixed", ⟨("_law_mixed", none), "_law_mixed", "_law_mixed", L2.defArgs (top 26), L2.defBody (top 26), L2.defScope (top 26), [], []⟩, ["_law_script", "_law_k", "_law_many", "_law_drawn"], 3, l_mixed⟩
def e_l_word : Ent := ⟨"_law_word", ⟨("_law_word", none), "_law_word", "_law_word", L2.defArgs (top 27), L2.defBody (top 27), L2.defScope (top 27), [], []⟩, ["_law_script", "_law_at", "_law_made", "_law_k"], 2, l_word⟩
def e_l_names : Ent := ⟨"_law_names", ⟨("_law_names", none), "_law_names", "_law_names", L2.defArgs (top 28), L2.defBody (top 28), L2.defScope (top 28), [], []⟩, ["_law_script", "_law_at", "_law_found", "_law_k"], 2, l_names⟩
def e_l_row : Ent := ⟨"_law_row", ⟨("_law_row", none), "_law_row", "_law_row", L2.defArgs (top 29), L2.defBody (top 29), L2.defScope (top 29), [], []⟩, ["_law_script", "_law_at", "_law_names_here", "_law_kind", "_law_name", "_law_field"], 3, l_row⟩
def e_l_file : Ent := ⟨"_law_file", ⟨("_law_file", none), "_law_file", "_law_file", L2.defArgs (top 30), L2.defBody (top 30), L2.defScope (top 30), [], []⟩, ["_law_script", "_law_at", "_law_names_here", "_law_name", "_law_long", "_law_kind", "_law_above", "_law_faces", "_law_rows", "_law_k"], 5, l_file⟩
def e_l_world : Ent := ⟨"_law_world", ⟨("_law_world", none), "_law_world", "_law_world", L2.defArgs (top 31), L2.defBody (top 31), L2.defScope (top 31), [], []⟩, ["_law_script", "_law_at", "_law_names_here", "_law_many", "_law_long", "_law_made", "_law_twins", "_law_number", "_law_here", "_law_parent", "_law_shelf", "_law_k", "_law_name", "_law_row_here", "_law_turn"], 5, l_world⟩
def e_l_line : Ent := ⟨"_law_line", ⟨("_law_line", none), "_law_line", "_law_line", L2.defArgs (top 32), L2.defBody (top 32), L2.defScope (top 32), [], []⟩, ["_law_world_here", "_law_loader", "_law_made"], 2, l_line⟩
def e_l_on : Ent := ⟨"_law_on", ⟨("_law_on", none), "_law_on", "_law_on", L2.defArgs (top 33), L2.defBody (top 33), L2.defScope (top 33), [], []⟩, ["_law_shelf", "_law_name", "_law_file_here"], 2, l_on⟩
def e_l_find : Ent := ⟨"_law_find", ⟨("_law_find", none), "_law_find", "_law_find", L2.defArgs (top 34), L2.defBody (top 34), L2.defScope (top 34), [], []⟩, ["_law_world_here", "_law_loader", "_law_name", "_law_some", "_law_one"], 3, l_find⟩
def e_l_classes : Ent := ⟨"_law_classes", ⟨("_law_classes", none), "_law_classes", "_law_classes", L2.defArgs (top 35), L2.defBody (top 35), L2.defScope (top 35), [], []⟩, ["_law_world_here", "_law_made", "_law_number", "_law_loader", "_law_file_here"], 1, l_classes⟩
def e_law_k04 : Ent := ⟨"law", ⟨("law", none), "law", "law", L2.defArgs (top 36), L2.defBody (top 36), L2.defScope (top 36), [], []⟩, ["_law_script", "_law_names_here", "_law_world_here", "_law_some", "_law_rest", "_law_number", "_law_loader", "_law_file_here"], 1, law_k04⟩
def es0 : List Ent := [e_p_is_word, e_p_is_whole, e_p_is_row, e_p_is_file, e_p_is_shelf, e_p_is_world, e_p_need_world, e_p_file_on, e_p_line_of, e_p_found_by, e_p_classes, e_p_shadowed, e_l_cell_at, e_l_mixed, e_l_word, e_l_names, e_l_row, e_l_file, e_l_world, e_l_line, e_l_on, e_l_find, e_l_classes, e_law_k04]
def es : List Ent := es0
def gl : IP.Gl := [("all", .free), ("LETTERS", .str "abcdefghijklmnopqrstuvwxyz"), ("len", .free), ("LONGEST", .int 6), ("isinstance", .free), ("str", .free), ("bool", .free), ("int", .free), ("tuple", .free), ("NUMBER", .int 99), ("FACES", .int 2), ("ROWS", .int 5), ("set", .free), ("FILES", .int 4), ("LOADERS", .int 4), ("enumerate", .free), ("NoWorld", .exc), ("sorted", .free), ("range", .free), ("list", .free)]
theorem ok_p_is_word : EntOk (gkE es gl) e_p_is_word := ⟨rfl, rfl, rfl, by kernel_rfl, by decide, by kernel_rfl, fun _ _ _ _ _ _ us hl => match us, hl with | [_], _ => rfl⟩
theorem ok_p_is_whole : EntOk (gkE es gl) e_p_is_whole := ⟨rfl, rfl, rfl, by kernel_rfl, by decide, by kernel_rfl, fun _ _ _ _ _ _ us hl => match us, hl with | [_, _, _], _ => rfl⟩
theorem ok_p_is_row : EntOk (gkE es gl) e_p_is_row := ⟨rfl, rfl, rfl, by kernel_rfl, by decide, by kernel_rfl, fun _ _ _ _ _ _ us hl => match us, hl with | [_], _ => rfl⟩
theorem ok_p_is_file : EntOk (gkE es gl) e_p_is_file := ⟨rfl, rfl, rfl, by kernel_rfl, by decide, by kernel_rfl, fun _ _ _ _ _ _ us hl => match us, hl with | [_], _ => rfl⟩
theorem ok_p_is_shelf : EntOk (gkE es gl) e_p_is_shelf := ⟨rfl, rfl, rfl, by kernel_rfl, by decide, by kernel_rfl, fun _ _ _ _ _ _ us hl => match us, hl with | [_], _ => rfl⟩
theorem ok_p_is_world : EntOk (gkE es gl) e_p_is_world := ⟨rfl, rfl, rfl, by kernel_rfl, by decide, by kernel_rfl, fun _ _ _ _ _ _ us hl => match us, hl with | [_], _ => rfl⟩
theorem ok_p_need_world : EntOk (gkE es gl) e_p_need_world := ⟨rfl, rfl, rfl, by kernel_rfl, by decide, by kernel_rfl, fun _ _ _ _ _ _ us hl => match us, hl with | [_], _ => rfl⟩
theorem ok_p_file_on : EntOk (gkE es gl) e_p_file_on := ⟨rfl, rfl, rfl, by kernel_rfl, by decide, by kernel_rfl, fun _ _ _ _ _ _ us hl => match us, hl with | [_, _], _ => rfl⟩
theorem ok_p_line_of : EntOk (gkE es gl) e_p_line_of := ⟨rfl, rfl, rfl, by kernel_rfl, by decide, by kernel_rfl, fun _ _ _ _ _ _ us hl => match us, hl with | [_, _], _ => rfl⟩
theorem ok_p_found_by : EntOk (gkE es gl) e_p_found_by := ⟨rfl, rfl, rfl, by kernel_rfl, by decide, by kernel_rfl, fun _ _ _ _ _ _ us hl => match us, hl with | [_, _, _], _ => rfl⟩
theorem ok_p_classes : EntOk (gkE es gl) e_p_classes := ⟨rfl, rfl, rfl, by kernel_rfl, by decide, by kernel_rfl, fun _ _ _ _ _ _ us hl => match us, hl with | [_], _ => rfl⟩
theorem ok_p_shadowed : EntOk (gkE es gl) e_p_shadowed := ⟨rfl, rfl, rfl, by kernel_rfl, by decide, by kernel_rfl, fun _ _ _ _ _ _ us hl => match us, hl with | [_], _ => rfl⟩
theorem ok_l_cell_at : EntOk (gkE es gl) e_l_cell_at := ⟨rfl, rfl, rfl, by kernel_rfl, by decide, by kernel_rfl, fun _ _ _ _ _ _ us hl => match us, hl with | [_, _], _ => rfl⟩
theorem ok_l_mixed : EntOk (gkE es gl) e_l_mixed := ⟨rfl, rfl, rfl, by kernel_rfl, by decide, by kernel_rfl, fun _ _ _ _ _ _ us hl => match us, hl with | [_, _, _], _ => rfl⟩
theorem ok_l_word : EntOk (gkE es gl) e_l_word := ⟨rfl, rfl, rfl, by kernel_rfl, by decide, by kernel_rfl, fun _ _ _ _ _ _ us hl => match us, hl with | [_, _], _ => rfl⟩
theorem ok_l_names : EntOk (gkE es gl) e_l_names := ⟨rfl, rfl, rfl, by kernel_rfl, by decide, by kernel_rfl, fun _ _ _ _ _ _ us hl => match us, hl with | [_, _], _ => rfl⟩
theorem ok_l_row : EntOk (gkE es gl) e_l_row := ⟨rfl, rfl, rfl, by kernel_rfl, by decide, by kernel_rfl, fun _ _ _ _ _ _ us hl => match us, hl with | [_, _, _], _ => rfl⟩
theorem ok_l_file : EntOk (gkE es gl) e_l_file := ⟨rfl, rfl, rfl, by kernel_rfl, by decide, by kernel_rfl, fun _ _ _ _ _ _ us hl => match us, hl with | [_, _, _, _, _], _ => rfl⟩
theorem ok_l_world : EntOk (gkE es gl) e_l_world := ⟨rfl, rfl, rfl, by kernel_rfl, by decide, by kernel_rfl, fun _ _ _ _ _ _ us hl => match us, hl with | [_, _, _, _, _], _ => rfl⟩
theorem ok_l_line : EntOk (gkE es gl) e_l_line := ⟨rfl, rfl, rfl, by kernel_rfl, by decide, by kernel_rfl, fun _ _ _ _ _ _ us hl => match us, hl with | [_, _], _ => rfl⟩
theorem ok_l_on : EntOk (gkE es gl) e_l_on := ⟨rfl, rfl, rfl, by kernel_rfl, by decide, by kernel_rfl, fun _ _ _ _ _ _ us hl => match us, hl with | [_, _], _ => rfl⟩
theorem ok_l_find : EntOk (gkE es gl) e_l_find := ⟨rfl, rfl, rfl, by kernel_rfl, by decide, by kernel_rfl, fun _ _ _ _ _ _ us hl => match us, hl with | [_, _, _], _ => rfl⟩
theorem ok_l_classes : EntOk (gkE es gl) e_l_classes := ⟨rfl, rfl, rfl, by kernel_rfl, by decide, by kernel_rfl, fun _ _ _ _ _ _ us hl => match us, hl with | [_], _ => rfl⟩
theorem ok_law_k04 : EntOk (gkE es gl) e_law_k04 := ⟨rfl, rfl, rfl, by kernel_rfl, by decide, by kernel_rfl, fun _ _ _ _ _ _ us hl => match us, hl with | [_], _ => rfl⟩
def loose0 : List Str := ["LETTERS", "LONGEST", "ROWS", "FILES", "LOADERS", "FACES", "NUMBER", "LoadError", "NoWorld", "is_word", "is_whole", "is_row", "is_file", "is_shelf", "is_world", "need_world", "file_on", "line_of", "found_by", "classes", "shadowed", "_law_cell_at", "_law_mixed", "_law_word", "_law_names", "_law_row", "_law_file", "_law_world", "_law_line", "_law_on", "_law_find", "_law_classes"]
def loose : List Str := loose0
abbrev R : PySem.W.OpenRow := PySem.W.OpenLaw.row PySem.Challenge.rw_loaders_k04_classes
abbrev fa : List He.Fa := faE es gl
abbrev fn : List He.DefD := fnE es
abbrev hk : PySem.W.Hook := He.hookD 4 fa fn
def ob (s : PySem.W.SharedT) : He.AlD := He.obsDG 4 fa fn (HandSHeadRun.getT s)
theorem obEq (s : PySem.W.SharedT) : ob s = hk.obs s.abs := He.obsDG_eq (HandSHeadRun.getT_eq s)
theorem run (w : World) : HandSHeadRun.RunEq R (PySem.W.view R.prog [36]) hk ob 6000 loose w := by
  intro os
  kernel_rfl
theorem es_ok : ∀ e ∈ es, EntOk (gkE es gl) e := by
  intro e he
  unfold es at he
  unfold es0 at he
  rcases List.mem_cons.mp he with rfl | he
  · exact ok_p_is_word
  rcases List.mem_cons.mp he with rfl | he
  · exact ok_p_is_whole
  rcases List.mem_cons.mp he with rfl | he
  · exact ok_p_is_row
  rcases List.mem_cons.mp he with rfl | he
  · exact ok_p_is_file
  rcases List.mem_cons.mp he with rfl | he
  · exact ok_p_is_shelf
  rcases List.mem_cons.mp he with rfl | he
  · exact ok_p_is_world
  rcases List.mem_cons.mp he with rfl | he
  · exact ok_p_need_world
  rcases List.mem_cons.mp he with rfl | he
  · exact ok_p_file_on
  rcases List.mem_cons.mp he with rfl | he
  · exact ok_p_line_of
  rcases List.mem_cons.mp he with rfl | he
  · exact ok_p_found_by
  rcases List.mem_cons.mp he with rfl | he
  · exact ok_p_classes
  rcases List.mem_cons.mp he with rfl | he
  · exact ok_p_shadowed
  rcases List.mem_cons.mp he with rfl | he
  · exact ok_l_cell_at
  rcases List.mem_cons.mp he with rfl | he
  · exact ok_l_mixed
  rcases List.mem_cons.mp he with rfl | he
  · exact ok_l_word
  rcases List.mem_cons.mp he with rfl | he
  · exact ok_l_names
  rcases List.mem_cons.mp he with rfl | he
  · exact ok_l_row
  rcases List.mem_cons.mp he with rfl | he
  · exact ok_l_file
  rcases List.mem_cons.mp he with rfl | he
  · exact ok_l_world
  rcases List.mem_cons.mp he with rfl | he
  · exact ok_l_line
  rcases List.mem_cons.mp he with rfl | he
  · exact ok_l_on
  rcases List.mem_cons.mp he with rfl | he
  · exact ok_l_find
  rcases List.mem_cons.mp he with rfl | he
  · exact ok_l_classes
  rcases List.mem_cons.mp he with rfl | he
  · exact ok_law_k04
  cases he
theorem tab : TK04 (tabE es) := by
  constructor <;> (try constructor) <;> (try constructor) <;> (try constructor) <;> (try constructor) <;> kernel_rfl
theorem says (ns : List Int) (_ : ns.length ≤ 63) : ∃ st, callD (tabE es) 1000000 30 "law" [.ro ns] [] = .ok (.bl true) st := of_ok (k04_says tab (by decide) ns)
end LawK04
open PySem PySem.W PySem.Calls PyProof.Rows
theorem PySem.Challenge.cw_loaders_k04_classes_holds : PySem.Challenge.rw_loaders_k04_classes.Holds := by
  w_on; o_law
  refine HandSHeadRun.head_any (r := OpenLaw.row PySem.Challenge.rw_loaders_k04_classes) (q := view (OpenLaw.row PySem.Challenge.rw_loaders_k04_classes).prog [36]) (H := LawK04.hk) (ob := LawK04.ob) (M := 6000) (loose := LawK04.loose) (d := HandSHeadRun.topDef (OpenLaw.row PySem.Challenge.rw_loaders_k04_classes).prog 36) (kwd := []) LawK04.obEq
    (by kernel_rfl) (fun s => by kernel_rfl) LawK04.run (by kernel_rfl) (by kernel_rfl) (by kernel_rfl) (by rfl) (by first | assumption | decide +kernel) (by decide +kernel) ⟨rfl, rfl, rfl, rfl, rfl, by decide +kernel⟩ ?hw ?hc
  case hw => w_witness2
  case hc =>
    have en : (HandSHeadRun.topDef (OpenLaw.row PySem.Challenge.rw_loaders_k04_classes).prog 36).name = ("law" : PySem.Str) := by kernel_rfl
    refine IP.law_end (l := PySem.Challenge.rw_loaders_k04_classes) (n := 63) (k := 30) (Wf := 1000000) (x := "_law_script") (es := LawK04.es) (gl := LawK04.gl) (e := LawK04.e_law_k04) rfl (by decide) (by kernel_rfl) ⟨rfl, by decide, by decide⟩ (by kernel_rfl) LawK04.es_ok (by rw [en]; kernel_rfl) rfl rfl ?_
    rw [en]
    exact LawK04.says
