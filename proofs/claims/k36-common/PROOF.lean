import PyProof.Rows.All
import Wide.All
import OpenK.AllK
import Wide.FinOn
import KE.SortData
import HandS.List
import HandS.Text
import KE.KeyNested
import KE.KDictKeyed
import HandS.ForMost
import HandS.ForExc
import HandS.CallSlots
import HandS.Deep
import HandS.TupAny
import HandS.TupMul
import HandS.IsInst
import HandS.Conv
import HandS.Zip
import KE.GoesMore
import KE.GoesEnum
import HandS.Strs
import HandS.NoneIn
import HandS.Exc
import HandS.ExcOwn
import HandS.Comp
import HandS.HeadHook1
import HandS.Iter
import PyProof.ExcBaseAll.ValueError
import KE.KStateDown
import HandS.Ends
import HandS.More
import HandS.Words
import HandS.WordsExc
import HandS.Defaults
import HandS.Head0
import HandS.Head1
import HandS.Head2
import HandS.HeadEnd
import HandS.HeadHook2
import HandS.HeadHook4
import PySem.Challenge.RW_loaders_k36_whole_common
set_option Elab.async false
set_option autoImplicit false
set_option linter.all false
set_option maxRecDepth 100000
set_option maxHeartbeats 0
/-! IpA: the values, the store and the interpreter of the small language `Ex`, `St` (own AST, slots by number). -/
namespace IP
open PySem

/-- a value: tuples by content; lists, dicts, instances by their place in the store; `ro` the script -/
inductive D where
  | non
  | bl (b : Bool)
  | int (i : Int)
  | str (x : Str)
  | tup (ds : List D)
  | ref (n : Nat)
  | ro (ns : List Int)
  | fn (x : Str)
  | exn (C : Str) (w : List D)

mutual
def D.beq : D → D → Bool
  | .non, .non => true
  | .bl a, .bl b => decide (a = b)
  | .int a, .int b => decide (a = b)
  | .str a, .str b => decide (a = b)
  | .tup a, .tup b => D.beqs a b
  | .ref a, .ref b => decide (a = b)
  | .ro a, .ro b => decide (a = b)
  | .fn a, .fn b => decide (a = b)
  | .exn a v, .exn b w => decide (a = b) && D.beqs v w
  | _, _ => false
def D.beqs : List D → List D → Bool
  | [], [] => true
  | a :: as, b :: bs => D.beq a b && D.beqs as bs
  | _, _ => false
end
mutual
theorem D.beq_rfl : ∀ a : D, D.beq a a = true
  | .non => by simp [D.beq]
  | .bl _ => by simp [D.beq]
  | .int _ => by simp [D.beq]
  | .str _ => by simp [D.beq]
  | .tup a => by simp [D.beq, D.beqs_rfl a]
  | .ref _ => by simp [D.beq]
  | .ro _ => by simp [D.beq]
  | .fn _ => by simp [D.beq]
  | .exn _ w => by simp [D.beq, D.beqs_rfl w]
theorem D.beqs_rfl : ∀ a : List D, D.beqs a a = true
  | [] => by simp [D.beqs]
  | a :: as => by simp [D.beqs, D.beq_rfl a, D.beqs_rfl as]
end
mutual
theorem D.eq_of : ∀ a b : D, D.beq a b = true → a = b
  | .non, b, h => by cases b <;> simp [D.beq] at h ⊢
  | .bl _, b, h => by cases b <;> simp [D.beq] at h ⊢ <;> exact h
  | .int _, b, h => by cases b <;> simp [D.beq] at h ⊢ <;> exact h
  | .str _, b, h => by cases b <;> simp [D.beq] at h ⊢ <;> exact h
  | .tup a, b, h => by
    cases b <;> simp [D.beq] at h ⊢
    exact D.eqs_of a _ h
  | .ref _, b, h => by cases b <;> simp [D.beq] at h ⊢ <;> exact h
  | .ro _, b, h => by cases b <;> simp [D.beq] at h ⊢ <;> exact h
  | .fn _, b, h => by cases b <;> simp [D.beq] at h ⊢ <;> exact h
  | .exn _ w, b, h => by
    cases b <;> simp [D.beq] at h ⊢
    exact ⟨h.1, D.eqs_of w _ h.2⟩
theorem D.eqs_of : ∀ a b : List D, D.beqs a b = true → a = b
  | [], b, h => by cases b <;> simp [D.beqs] at h ⊢
  | a :: as, b, h => by
    cases b with
    | nil => simp [D.beqs] at h
    | cons b bs =>
      simp only [D.beqs, Bool.and_eq_true] at h
      rw [D.eq_of a b h.1, D.eqs_of as bs h.2]
end
instance : DecidableEq D := fun a b =>
  if h : D.beq a b = true then .isTrue (D.eq_of a b h) else .isFalse fun e => h (e ▸ D.beq_rfl a)

/-- a cell of the store: a list, a dict (entries in order), an instance with its attributes -/
inductive Cell where
  | lst (ds : List D)
  | dic (kvs : List (D × D))
  | ins (C : Str) (fs : List (Str × D))
  deriving DecidableEq

abbrev Sto := List Cell
abbrev Env := List (Option D)
/-- an error: its class, what it carries -/
structure Exn where
  cls : Str
  why : Option D

inductive R (α : Type) where
  | bad
  | exc (x : Exn) (st : Sto)
  | ok (a : α) (st : Sto)
def R.bind {α β : Type} : R α → (α → Sto → R β) → R β
  | .bad, _ => .bad
  | .exc x st, _ => .exc x st
  | .ok a st, f => f a st

/-- how a statement ends -/
inductive SR where
  | bad
  | exc (x : Exn) (ρ : Env) (st : Sto)
  | next (ρ : Env) (st : Sto)
  | ret (d : D) (st : Sto)
  | brk (ρ : Env) (st : Sto)
  | cont (ρ : Env) (st : Sto)

inductive Bop where
  | add | sub | mul | mod | fdiv
inductive Cop where
  | eq | ne | lt | le | gt | ge | isin | notin
/-- built-in functions of one argument -/
inductive Bi where
  | len | all | any | list | tuple | int | str | sorted | dict
/-- methods of built-in types -/
inductive Bm where
  | append | extend | pop | popi | get | index | count | join | split | startswith
inductive Ty where
  | int | bool | str | tuple | list

mutual
inductive Ex where
  | k (d : D)
  | lc (i : Nat)
  | bin (o : Bop) (a b : Ex)
  | neg (a : Ex)
  | not (a : Ex)
  | and (a b : Ex)
  | or (a b : Ex)
  | cmp (o : Cop) (a b : Ex)
  | chn (o p : Cop) (a b c : Ex)
  | isN (a : Ex)
  | notN (a : Ex)
  | ite (c a b : Ex)
  | call (f : Str) (es : Exs)
  | cal (i : Nat) (es : Exs)
  | mth (o : Ex) (C m f : Str) (es : Exs)
  | bi (b : Bi) (e : Ex)
  | lset (e : Ex)
  | bm (m : Bm) (o : Ex) (es : Exs)
  | isT (e : Ex) (T : Ty)
  | isX (e : Ex) (C : Str)
  | fld (o : Ex) (f : Str)
  | ix (a i : Ex)
  | sl (a : Ex) (lo hi : Exo)
  | lst (es : Exs)
  | tup (es : Exs)
  | dct (ps : Exps)
  | comp (elt : Ex) (tg : Tg) (it : Itr) (c : Exo) (own : List Nat)
inductive Exs where
  | nil
  | cons (e : Ex) (es : Exs)
inductive Exps where
  | nil
  | cons (k v : Ex) (ps : Exps)
inductive Exo where
  | none
  | some (e : Ex)
inductive Itr where
  | val (e : Ex)
  | rng (a : Ex)
  | rng2 (a b : Ex)
  | enm (e : Ex)
  | zip (a b : Ex)
inductive Tg where
  | nm (i : Nat)
  | tp (ts : Tgs)
inductive Tgs where
  | nil
  | cons (t : Tg) (ts : Tgs)
end
def Exs.of : List Ex → Exs
  | [] => .nil
  | e :: es => .cons e (Exs.of es)
def Exps.of : List (Ex × Ex) → Exps
  | [] => .nil
  | e :: es => .cons e.1 e.2 (Exps.of es)
def Tgs.of : List Tg → Tgs
  | [] => .nil
  | e :: es => .cons e (Tgs.of es)

mutual
inductive St where
  | asg (t : Tg) (e : Ex)
  | aset (o i e : Ex)
  | afld (o : Ex) (f : Str) (e : Ex)
  | ife (c : Ex) (a b : Sts)
  | fr (t : Tg) (it : Itr) (body : Sts)
  | whl (c : Ex) (body : Sts)
  | ret (e : Ex)
  | exp (e : Ex)
  | pass
  | cont
  | rse (C : Str)
  | rsw (C : Str) (e : Ex)
  | never
  | trya (body : Sts) (C : Str) (i : Nat) (suite : Ex)
inductive Sts where
  | nil
  | cons (s : St) (ss : Sts)
end
def Sts.of : List St → Sts
  | [] => .nil
  | e :: es => .cons e (Sts.of es)

/-! ### data -/
mutual
/-- a value as the kit's plain data: n levels of lists -/
def toData (st : Sto) : Nat → D → Option PyData
  | _, .non => some .none
  | _, .bl b => some (.bool b)
  | _, .int i => some (.int i)
  | _, .str x => if PyData.strOk x = true then some (.str x) else none
  | n + 1, .tup ds => (toDatas st n ds).map .tuple
  | n + 1, .ref m => match st[m]? with
    | some (.lst ds) => (toDatas st n ds).map .list
    | _ => none
  | _ + 1, .ro ns => some (.list (ns.map .int))
  | _, _ => none
def toDatas (st : Sto) : Nat → List D → Option (List PyData)
  | _, [] => some []
  | n, d :: ds => match toData st n d, toDatas st n ds with
    | some p, some ps => some (p :: ps)
    | _, _ => none
end
end IP

/-! IpB: the interpreter. -/
namespace IP
open PySem

/-- the largest length that a list, a text may get here -/
def LIM : Nat := 1000000

def eqD (st : Sto) (a b : D) : Option Bool :=
  match toData st 64 a, toData st 64 b with
  | some p, some q => some (PyData.eqv p q)
  | _, _ => none
def inD (st : Sto) (a : D) (ds : List D) : Option Bool :=
  match toData st 64 a, toDatas st 63 ds with
  | some p, some ps => some (ps.any fun z => PyData.eqv z p)
  | _, _ => none
/-- the first place of an equal one in a list -/
def idxD (st : Sto) (a l : D) : Option Nat :=
  match toData st 64 a, toData st 64 l with
  | some p, some (.list ps) => ps.findIdx? fun z => PyData.eqv z p
  | _, _ => none
def flatD : D → Bool
  | .non => true
  | .bl _ => true
  | .int _ => true
  | .str _ => true
  | _ => false

mutual
def keyT : Nat → D → Bool
  | _, .non => true
  | _, .int _ => true
  | _, .str _ => true
  | n + 1, .tup ds => keyTs n ds
  | _, _ => false
def keyTs : Nat → List D → Bool
  | _, [] => true
  | n, d :: ds => keyT n d && keyTs n ds
end
inductive KK where
  | flat | deep
  deriving DecidableEq
def keyKind : D → Option KK
  | .int _ => some .flat
  | .str _ => some .flat
  | .tup ds => if keyTs 7 ds then some .deep else none
  | _ => none
def dget (kvs : List (D × D)) (k : D) : Option D := (kvs.find? fun p => decide (p.1 = k)).map (·.2)
def dput (kvs : List (D × D)) (k v : D) : List (D × D) :=
  if kvs.any (fun p => decide (p.1 = k)) then kvs.map fun p => if p.1 = k then (p.1, v) else p else kvs ++ [(k, v)]
/-- all keys of one kind with k -/
def alikeK (kvs : List (D × D)) (k : D) : Bool :=
  match keyKind k with
  | none => false
  | some kk => kvs.all fun p => decide (keyKind p.1 = some kk)

def putA (f : Str) (v : D) : List (Str × D) → List (Str × D)
  | [] => [(f, v)]
  | (g, x) :: r => if g = f then (g, v) :: r else (g, x) :: putA f v r

/-! ### operators -/
def mulOk (i j : Int) : Bool := decide (-(2 ^ 64) < i ∧ i < 2 ^ 64) || decide (-(2 ^ 64) < j ∧ j < 2 ^ 64)
def binD (o : Bop) (a b : D) (st : Sto) : R D :=
  match o, a, b with
  | .add, .int i, .int j => .ok (.int (i + j)) st
  | .add, .str x, .str y => if x.length + y.length ≤ LIM then .ok (.str (x ++ y)) st else .bad
  | .add, .tup xs, .tup ys => if xs.length + ys.length ≤ LIM then .ok (.tup (xs ++ ys)) st else .bad
  | .add, .ref n, .ref m => match st[n]?, st[m]? with
    | some (.lst xs), some (.lst ys) => if xs.length + ys.length ≤ LIM then .ok (.ref st.length) (st ++ [.lst (xs ++ ys)]) else .bad
    | _, _ => .bad
  | .sub, .int i, .int j => .ok (.int (i - j)) st
  | .mul, .int i, .int j => if mulOk i j then .ok (.int (i * j)) st else .bad
  | .mul, .tup xs, .int k => if xs ≠ [] ∧ 2 ≤ k ∧ k ≤ 1000 ∧ xs.length ≤ 1000 then .ok (.tup (List.replicate k.toNat xs).flatten) st else .bad
  | .mul, .ref n, .int k => match st[n]? with
    | some (.lst xs) => if -(2 ^ 63) ≤ k ∧ k < 2 ^ 63 ∧ xs.length * k.toNat ≤ LIM then .ok (.ref st.length) (st ++ [.lst (List.replicate k.toNat xs).flatten]) else .bad
    | _ => .bad
  | .mod, .int i, .int j => if j ≠ 0 then .ok (.int (i.fmod j)) st else .bad
  | .fdiv, .int i, .int j => if j ≠ 0 ∧ j.natAbs < 1073741824 then .ok (.int (i.fdiv j)) st else .bad
  | _, _, _ => .bad
def oneIn (x y : Str) : Option Bool := match x.cps.toList with
  | [c] => some (decide (c ∈ y.cps.toList))
  | _ => none
def memD (a b : D) (st : Sto) : Option Bool :=
  match b with
  | .str y => match a with
    | .str x => oneIn x y
    | _ => none
  | .tup ds => if flatD a && ds.all flatD then inD st a ds else none
  | .ref n => match st[n]? with
    | some (.lst ds) => inD st a ds
    | some (.dic kvs) => if alikeK kvs a then some (dget kvs a).isSome else none
    | _ => none
  | _ => none
def cmpD (o : Cop) (a b : D) (st : Sto) : Option Bool :=
  match o with
  | .eq => eqD st a b
  | .ne => (eqD st a b).map (!·)
  | .lt => match a, b with
    | .int i, .int j => some (decide (i < j))
    | _, _ => none
  | .le => match a, b with
    | .int i, .int j => some (decide (i ≤ j))
    | _, _ => none
  | .gt => match a, b with
    | .int i, .int j => some (decide (j < i))
    | _, _ => none
  | .ge => match a, b with
    | .int i, .int j => some (decide (j ≤ i))
    | _, _ => none
  | .isin => memD a b st
  | .notin => (memD a b st).map (!·)
def okB (o : Option Bool) (st : Sto) : R D := match o with
  | some b => .ok (.bl b) st
  | none => .bad
def ixD (a i : D) (st : Sto) : R D :=
  match a, i with
  | .tup ds, .int j => match L2.atI ds j with
    | some d => .ok d st
    | none => .bad
  | .ro ns, .int j => match L2.atI ns j with
    | some n => .ok (.int n) st
    | none => .bad
  | .str x, .int j => if x.length ≤ LIM then (match L2.atI x.cps.toList j with
    | some c => .ok (.str ⟨#[c]⟩) st
    | none => .bad) else .bad
  | .ref n, k => match st[n]? with
    | some (.lst ds) => (match k with
      | .int j => (match L2.atI ds j with
        | some d => .ok d st
        | none => .bad)
      | _ => .bad)
    | some (.dic kvs) => if alikeK kvs k then (match dget kvs k with
      | some v => .ok v st
      | none => .bad) else .bad
    | _ => .bad
  | _, _ => .bad
/-- xs[lo:hi] -/
def cutL {α : Type} (xs : List α) (lo hi : Option Int) : List α := (xs.drop (HT.sIx xs.length 0 lo)).take (HT.sIx xs.length xs.length hi - HT.sIx xs.length 0 lo)
def slD (a : D) (lo hi : Option Int) (st : Sto) : R D :=
  match a with
  | .tup ds => .ok (.tup (cutL ds lo hi)) st
  | .ref n => match st[n]? with
    | some (.lst ds) => .ok (.ref st.length) (st ++ [.lst (cutL ds lo hi)])
    | _ => .bad
  | .str x => if x.length ≤ LIM then .ok (.str ⟨(cutL x.cps.toList lo hi).toArray⟩) st else .bad
  | _ => .bad
def boolsOf : List D → Option (List Bool)
  | [] => some []
  | .bl b :: ds => (boolsOf ds).map (b :: ·)
  | _ => none
def strsOf : List D → Option (List Str)
  | [] => some []
  | .str b :: ds => (strsOf ds).map (b :: ·)
  | _ => none
def pairsOf : List D → Option (List (D × D))
  | [] => some []
  | .tup [a, b] :: ds => (pairsOf ds).map ((a, b) :: ·)
  | _ => none
def putAll (acc : List (D × D)) : List (D × D) → Option (List (D × D))
  | [] => some acc
  | p :: ps => if alikeK acc p.1 then putAll (dput acc p.1 p.2) ps else none
def datasOf (st : Sto) : List D → Option (List (D × PyData))
  | [] => some []
  | d :: ds => match toData st 64 d, datasOf st ds with
    | some p, some ps => some ((d, p) :: ps)
    | _, _ => none
def alikeB (ps : List PyData) : Bool := ps.all fun p => ps.all fun q => PySem.W.alike p q
def tupleB : PyData → Bool
  | .tuple (_ :: _) => true
  | _ => false
def otherB : PyData → Bool
  | .none => false
  | .tuple _ => false
  | _ => true
def sortD (ds : List D) (st : Sto) : Option (List D) :=
  match datasOf st ds with
  | some ps => if alikeB (ps.map (·.2)) && ((ps.map (·.2)).all tupleB || (ps.map (·.2)).all otherB) && decide (ds.length ≤ LIM) then some ((ps.mergeSort (PySem.W.dataLe false (·.2))).map (·.1)) else none
  | none => none
def biD (b : Bi) (a : D) (st : Sto) : R D :=
  match b with
  | .len => match a with
    | .str x => if x.length ≤ LIM then .ok (.int x.length) st else .bad
    | .tup ds => .ok (.int ds.length) st
    | .ro ns => .ok (.int ns.length) st
    | .ref n => match st[n]? with
      | some (.lst ds) => .ok (.int ds.length) st
      | _ => .bad
    | _ => .bad
  | .all => match a with
    | .ref n => match st[n]? with
      | some (.lst ds) => (match boolsOf ds with
        | some bs => .ok (.bl (bs.all id)) st
        | none => .bad)
      | _ => .bad
    | _ => .bad
  | .any => match a with
    | .ref n => match st[n]? with
      | some (.lst ds) => (match boolsOf ds with
        | some bs => .ok (.bl (bs.any id)) st
        | none => .bad)
      | _ => .bad
    | _ => .bad
  | .list => match a with
    | .tup ds => .ok (.ref st.length) (st ++ [.lst ds])
    | .ref n => match st[n]? with
      | some (.lst ds) => .ok (.ref st.length) (st ++ [.lst ds])
      | some (.dic kvs) => .ok (.ref st.length) (st ++ [.lst (kvs.map (·.1))])
      | _ => .bad
    | _ => .bad
  | .tuple => match a with
    | .tup ds => .ok (.tup ds) st
    | .ref n => match st[n]? with
      | some (.lst ds) => .ok (.tup ds) st
      | _ => .bad
    | _ => .bad
  | .int => match a with
    | .int i => .ok (.int i) st
    | .bl c => .ok (.int (if c then 1 else 0)) st
    | _ => .bad
  | .str => .bad
  | .sorted => match a with
    | .ref n => match st[n]? with
      | some (.lst ds) => (match sortD ds st with
        | some es => .ok (.ref st.length) (st ++ [.lst es])
        | none => .bad)
      | _ => .bad
    | _ => .bad
  | .dict => .bad
def dedup (acc : List Str) : List Str → List Str
  | [] => acc
  | x :: xs => if x ∈ acc then dedup acc xs else dedup (acc ++ [x]) xs
def distinct (xs : List Str) : List Str := dedup [] xs
def lsetD (a : D) (st : Sto) : R D :=
  match (match a with
    | .tup ds => strsOf ds
    | .ref n => match st[n]? with
      | some (.lst ds) => strsOf ds
      | _ => none
    | _ => none) with
  | some xs => if xs.length ≤ 100 then .ok (.int (distinct xs).length) st else .bad
  | none => .bad
def appD (o : D) (es : List D) (st : Sto) : R D := match o, es with
  | .ref n, [d] => match st[n]? with
    | some (.lst ds) => if ds.length < LIM then .ok .non (st.set n (.lst (ds ++ [d]))) else .bad
    | _ => .bad
  | _, _ => .bad
def extD (o : D) (es : List D) (st : Sto) : R D := match o, es with
  | .ref n, [.ref m] => match st[n]?, st[m]? with
    | some (.lst ds), some (.lst fs) => if ds.length + fs.length ≤ LIM then .ok .non (st.set n (.lst (ds ++ fs))) else .bad
    | _, _ => .bad
  | _, _ => .bad
def popD (o : D) (es : List D) (st : Sto) : R D := match o, es with
  | .ref n, [] => match st[n]? with
    | some (.lst ds) => (match ds[ds.length - 1]? with
      | some d => .ok d (st.set n (.lst ds.dropLast))
      | none => .bad)
    | _ => .bad
  | _, _ => .bad
def popiD (o : D) (es : List D) (st : Sto) : R D := match o, es with
  | .ref n, [.int i] => match st[n]? with
    | some (.lst ds) => (match L2.ixN ds.length i with
      | some k => (match ds[k]? with
        | some d => if ds.length ≤ LIM then .ok d (st.set n (.lst (ds.eraseIdx k))) else .bad
        | none => .bad)
      | none => .bad)
    | _ => .bad
  | _, _ => .bad
def getDD (o : D) (es : List D) (st : Sto) : R D := match o, es with
  | .ref n, [k, d] => match st[n]? with
    | some (.dic kvs) => if alikeK kvs k then .ok ((dget kvs k).getD d) st else .bad
    | _ => .bad
  | _, _ => .bad
def indexD (o : D) (es : List D) (st : Sto) : R D := match o, es with
  | .ref n, [d] => match idxD st d (.ref n) with
    | some j => .ok (.int j) st
    | none => .bad
  | _, _ => .bad
def bmD : Bm → D → List D → Sto → R D
  | .append => appD
  | .extend => extD
  | .pop => popD
  | .popi => popiD
  | .get => getDD
  | .index => indexD
  | _ => fun _ _ _ => .bad
/-- the receiver is of the method's type -/
def isLst (x : D) (st : Sto) : Bool := match x with
  | .ref n => (match st[n]? with
    | some (.lst _) => true
    | _ => false)
  | _ => false
def isDct (x : D) (st : Sto) : Bool := match x with
  | .ref n => (match st[n]? with
    | some (.dic _) => true
    | _ => false)
  | _ => false
def rcv : Bm → D → Sto → Bool
  | .get => isDct
  | _ => isLst
def isTD (a : D) (T : Ty) (st : Sto) : Option Bool :=
  match a with
  | .non => some false
  | .bl _ => some (match T with | .int => true | .bool => true | _ => false)
  | .int _ => some (match T with | .int => true | _ => false)
  | .str _ => some (match T with | .str => true | _ => false)
  | .tup _ => some (match T with | .tuple => true | _ => false)
  | .ref n => match st[n]? with
    | some (.lst _) => some (match T with | .list => true | _ => false)
    | _ => none
  | _ => none

/-! ### what is walked -/
abbrev Watch := List (Nat × Cell)
def okW (w : Watch) (st : Sto) : Bool := w.all fun p => decide (st[p.1]? = some p.2)
def zipI (i : Nat) : List D → List D
  | [] => []
  | d :: ds => .tup [.int i, d] :: zipI (i + 1) ds
def zipD : List D → List D → List D
  | a :: as, b :: bs => .tup [a, b] :: zipD as bs
  | _, _ => []
def rngD (lo : Int) : Nat → List D
  | 0 => []
  | n + 1 => .int lo :: rngD (lo + 1) n
def seqOf (a : D) (st : Sto) : Option (List D × Watch) :=
  match a with
  | .tup ds => some (ds, [])
  | .ref n => match st[n]? with
    | some (.lst ds) => some (ds, [(n, .lst ds)])
    | _ => none
  | _ => none
def walkOf (a : D) (st : Sto) : Option (List D × Watch) :=
  match a with
  | .tup ds => some (ds, [])
  | .str x => some (x.cps.toList.map fun c => .str ⟨#[c]⟩, [])
  | .ro ns => some (ns.map .int, [])
  | .ref n => match st[n]? with
    | some (.lst ds) => some (ds, [(n, .lst ds)])
    | _ => none
  | _ => none
def sameK : D → D → Bool
  | .tup _, .tup _ => true
  | .ref _, .ref _ => true
  | _, _ => false
def small62 (i : Int) : Bool := decide (-(2 ^ 62) ≤ i ∧ i < 2 ^ 62)

/-! ### targets -/
mutual
def asg : Tg → D → Env → Sto → Option Env
  | .nm i, d, ρ, _ => if i < ρ.length then some (ρ.set i (some d)) else none
  | .tp ts, d, ρ, st => match d with
    | .tup ds => asgs ts ds ρ st
    | .ref n => match st[n]? with
      | some (.lst ds) => asgs ts ds ρ st
      | _ => none
    | _ => none
def asgs : Tgs → List D → Env → Sto → Option Env
  | .nil, [], ρ, _ => some ρ
  | .cons t ts, d :: ds, ρ, st => match asg t d ρ st with
    | some ρ' => asgs ts ds ρ' st
    | none => none
  | _, _, _, _ => none
end
def wipe : Env → List Nat → Env
  | ρ, [] => ρ
  | ρ, i :: is => (wipe ρ is).set i none

def forL (f : D → Env → Sto → SR) (w : Watch) : List D → Env → Sto → SR
  | [], ρ, st => .next ρ st
  | d :: ds, ρ, st => match f d ρ st with
    | .next ρ' st' => if okW w st' then forL f w ds ρ' st' else .bad
    | .cont ρ' st' => if okW w st' then forL f w ds ρ' st' else .bad
    | .brk ρ' st' => .next ρ' st'
    | .ret d st' => .ret d st'
    | .exc x ρ' st' => .exc x ρ' st'
    | .bad => .bad
/-- a comprehension's turns: what is made so far at the end -/
def compL (f : D → Sto → R (Option D)) (w : Watch) : List D → List D → Sto → R (List D)
  | [], acc, st => .ok acc st
  | d :: ds, acc, st => match f d st with
    | .ok (some y) st' => if okW w st' && decide (acc.length < LIM) then compL f w ds (acc ++ [y]) st' else .bad
    | .ok none st' => if okW w st' then compL f w ds acc st' else .bad
    | _ => .bad
def whlL (c : Env → Sto → R D) (b : Env → Sto → SR) : Nat → Env → Sto → SR
  | 0, _, _ => .bad
  | n + 1, ρ, st => match c ρ st with
    | .ok (.bl true) st1 => (match b ρ st1 with
      | .next ρ' st' => whlL c b n ρ' st'
      | .cont ρ' st' => whlL c b n ρ' st'
      | .brk ρ' st' => .next ρ' st'
      | .ret d st' => .ret d st'
      | .exc x ρ' st' => .exc x ρ' st'
      | .bad => .bad)
    | .ok (.bl false) st1 => .next ρ st1
    | .exc x st1 => .exc x ρ st1
    | _ => .bad

section
variable (C : Str → List D → Sto → R D) (W : Nat)
mutual
def ev : Ex → Env → Sto → R D
  | .k d, _, st => .ok d st
  | .lc i, ρ, st => match ρ[i]? with
    | some (some d) => .ok d st
    | _ => .bad
  | .bin o a b, ρ, st => (ev a ρ st).bind fun x st1 => (ev b ρ st1).bind fun y st2 => binD o x y st2
  | .neg a, ρ, st => (ev a ρ st).bind fun x st1 => match x with
    | .int i => .ok (.int (-i)) st1
    | _ => .bad
  | .not a, ρ, st => (ev a ρ st).bind fun x st1 => match x with
    | .bl c => .ok (.bl (!c)) st1
    | _ => .bad
  | .and a b, ρ, st => (ev a ρ st).bind fun x st1 => match x with
    | .bl true => ev b ρ st1
    | .bl false => .ok (.bl false) st1
    | _ => .bad
  | .or a b, ρ, st => (ev a ρ st).bind fun x st1 => match x with
    | .bl true => .ok (.bl true) st1
    | .bl false => ev b ρ st1
    | _ => .bad
  | .cmp o a b, ρ, st => (ev a ρ st).bind fun x st1 => (ev b ρ st1).bind fun y st2 => okB (cmpD o x y st2) st2
  | .chn o p a b c, ρ, st => (ev a ρ st).bind fun x st1 => (ev b ρ st1).bind fun y st2 => match cmpD o x y st2 with
    | some true => (ev c ρ st2).bind fun z st3 => okB (cmpD p y z st3) st3
    | some false => .ok (.bl false) st2
    | none => .bad
  | .isN a, ρ, st => (ev a ρ st).bind fun x st1 => .ok (.bl (decide (x = .non))) st1
  | .notN a, ρ, st => (ev a ρ st).bind fun x st1 => .ok (.bl (!decide (x = .non))) st1
  | .ite c a b, ρ, st => (ev c ρ st).bind fun x st1 => match x with
    | .bl true => ev a ρ st1
    | .bl false => ev b ρ st1
    | _ => .bad
  | .call f es, ρ, st => (evs es ρ st).bind fun ds st1 => C f ds st1
  | .cal i es, ρ, st => match ρ[i]? with
    | some (some (.fn f)) => (evs es ρ st).bind fun ds st1 => C f ds st1
    | _ => .bad
  | .mth o Cn _ f es, ρ, st => (ev o ρ st).bind fun x st1 => match x with
    | .ref n => (match st1[n]? with
      | some (.ins c _) => if c = Cn then (evs es ρ st1).bind fun ds st2 => C f (.ref n :: ds) st2 else .bad
      | _ => .bad)
    | _ => .bad
  | .bi b e, ρ, st => (ev e ρ st).bind fun x st1 => biD b x st1
  | .lset e, ρ, st => (ev e ρ st).bind fun x st1 => lsetD x st1
  | .bm m o es, ρ, st => (ev o ρ st).bind fun x st1 => if rcv m x st1 then (evs es ρ st1).bind fun ds st2 => bmD m x ds st2 else .bad
  | .isT e T, ρ, st => (ev e ρ st).bind fun x st1 => okB (isTD x T st1) st1
  | .isX _ _, _, _ => .bad
  | .fld o f, ρ, st => (ev o ρ st).bind fun x st1 => match x with
    | .ref n => (match st1[n]? with
      | some (.ins _ fs) => (match fs.lookup f with
        | some d => .ok d st1
        | none => .bad)
      | _ => .bad)
    | _ => .bad
  | .ix a i, ρ, st => (ev a ρ st).bind fun x st1 => (ev i ρ st1).bind fun y st2 => ixD x y st2
  | .sl a lo hi, ρ, st => (ev a ρ st).bind fun x st1 => (evo lo ρ st1).bind fun l st2 => (evo hi ρ st2).bind fun h st3 => slD x l h st3
  | .lst es, ρ, st => (evs es ρ st).bind fun ds st1 => if ds.length ≤ LIM then .ok (.ref st1.length) (st1 ++ [.lst ds]) else .bad
  | .tup es, ρ, st => (evs es ρ st).bind fun ds st1 => if ds.length ≤ LIM then .ok (.tup ds) st1 else .bad
  | .dct ps, ρ, st => evd ps [] ρ st
  | .comp elt tg it c own, ρ, st => (evi it ρ st).bind fun p st1 =>
      if okW p.2 st1 then
        (compL (fun d st2 => match asg tg d (wipe ρ own) st2 with
          | some ρ' => (evc c ρ' st2).bind fun b st3 => if b then (ev elt ρ' st3).bind fun y st4 => .ok (some y) st4 else .ok none st3
          | none => .bad) p.2 p.1 [] st1).bind fun ys st2 => .ok (.ref st2.length) (st2 ++ [.lst ys])
      else .bad
def evs : Exs → Env → Sto → R (List D)
  | .nil, _, st => .ok [] st
  | .cons e es, ρ, st => (ev e ρ st).bind fun d st1 => (evs es ρ st1).bind fun ds st2 => .ok (d :: ds) st2
def evo : Exo → Env → Sto → R (Option Int)
  | .none, _, st => .ok none st
  | .some e, ρ, st => (ev e ρ st).bind fun d st1 => match d with
    | .int i => .ok (some i) st1
    | _ => .bad
def evc : Exo → Env → Sto → R Bool
  | .none, _, st => .ok true st
  | .some e, ρ, st => (ev e ρ st).bind fun d st1 => match d with
    | .bl b => .ok b st1
    | _ => .bad
def evd : Exps → List (D × D) → Env → Sto → R D
  | .nil, acc, _, st => match putAll [] acc with
    | some kvs => if acc.length ≤ 15 then .ok (.ref st.length) (st ++ [.dic kvs]) else .bad
    | none => .bad
  | .cons k v ps, acc, ρ, st => (ev k ρ st).bind fun d st1 => (ev v ρ st1).bind fun e st2 => evd ps (acc ++ [(d, e)]) ρ st2
def evi : Itr → Env → Sto → R (List D × Watch)
  | .val e, ρ, st => (ev e ρ st).bind fun d st1 => match walkOf d st1 with
    | some p => .ok p st1
    | none => .bad
  | .rng a, ρ, st => (ev a ρ st).bind fun d st1 => match d with
    | .int j => if small62 j then .ok (rngD 0 j.toNat, []) st1 else .bad
    | _ => .bad
  | .rng2 a b, ρ, st => (ev a ρ st).bind fun d st1 => (ev b ρ st1).bind fun e st2 => match d, e with
    | .int i, .int j => if small62 i && small62 j then .ok (rngD i (j - i).toNat, []) st2 else .bad
    | _, _ => .bad
  | .enm e, ρ, st => (ev e ρ st).bind fun d st1 => match seqOf d st1 with
    | some p => .ok (zipI 0 p.1, p.2) st1
    | none => .bad
  | .zip a b, ρ, st => (ev a ρ st).bind fun d st1 => (ev b ρ st1).bind fun e st2 => match seqOf d st2, seqOf e st2 with
    | some p, some q => if sameK d e then .ok (zipD p.1 q.1, p.2 ++ q.2) st2 else .bad
    | _, _ => .bad
end

def SR.ofR {α : Type} (ρ : Env) (r : R α) (f : α → Sto → SR) : SR := match r with
  | .bad => .bad
  | .exc x st => .exc x ρ st
  | .ok a st => f a st
mutual
def exc : St → Env → Sto → SR
  | .asg t e, ρ, st => SR.ofR ρ (ev C e ρ st) fun d st1 => match IP.asg t d ρ st1 with
    | some ρ' => .next ρ' st1
    | none => .bad
  | .aset o i e, ρ, st => SR.ofR ρ (ev C e ρ st) fun d st1 => SR.ofR ρ (ev C o ρ st1) fun x st2 => SR.ofR ρ (ev C i ρ st2) fun y st3 =>
      match x with
      | .ref n => (match st3[n]? with
        | some (.lst ds) => (match y with
          | .int j => (match L2.ixN ds.length j with
            | some k => .next ρ (st3.set n (.lst (ds.set k d)))
            | none => .bad)
          | _ => .bad)
        | some (.dic kvs) => if alikeK kvs y && decide (kvs.length < LIM) then .next ρ (st3.set n (.dic (dput kvs y d))) else .bad
        | _ => .bad)
      | _ => .bad
  | .afld o f e, ρ, st => SR.ofR ρ (ev C e ρ st) fun d st1 => SR.ofR ρ (ev C o ρ st1) fun x st2 =>
      match x with
      | .ref n => (match st2[n]? with
        | some (.ins c fs) => if fs.length < 900 then .next ρ (st2.set n (.ins c (putA f d fs))) else .bad
        | _ => .bad)
      | _ => .bad
  | .ife c a b, ρ, st => SR.ofR ρ (ev C c ρ st) fun d st1 => match d with
    | .bl true => excs a ρ st1
    | .bl false => excs b ρ st1
    | _ => .bad
  | .fr t it body, ρ, st => SR.ofR ρ (evi C it ρ st) fun p st1 =>
      if okW p.2 st1 then forL (fun d ρ' st' => match IP.asg t d ρ' st' with
        | some ρ'' => excs body ρ'' st'
        | none => .bad) p.2 p.1 ρ st1 else .bad
  | .whl c body, ρ, st => whlL (fun ρ' st' => ev C c ρ' st') (fun ρ' st' => excs body ρ' st') W ρ st
  | .ret e, ρ, st => SR.ofR ρ (ev C e ρ st) fun d st1 => .ret d st1
  | .exp e, ρ, st => SR.ofR ρ (ev C e ρ st) fun _ st1 => .next ρ st1
  | .pass, ρ, st => .next ρ st
  | .cont, ρ, st => .cont ρ st
  | .rse c, ρ, st => .exc ⟨c, none⟩ ρ st
  | .rsw c e, ρ, st => SR.ofR ρ (ev C e ρ st) fun d st1 => .exc ⟨c, some d⟩ ρ st1
  | .never, _, _ => .bad
  | .trya _ _ _ _, _, _ => .bad
def excs : Sts → Env → Sto → SR
  | .nil, ρ, st => .next ρ st
  | .cons s ss, ρ, st => match exc s ρ st with
    | .next ρ' st' => excs ss ρ' st'
    | r => r
end
end

/-- a def: its parameters, its slots, its body; a class: its __init__ -/
inductive Def where
  | fn (np ns : Nat) (body : Sts)
  | cls (init : Str)
abbrev Tab := Str → Option Def

def SR.fin : SR → R D
  | .ret d st => .ok d st
  | .next _ st => .ok .non st
  | .exc x _ st => .exc x st
  | _ => .bad
def callD (T : Tab) (W : Nat) : Nat → Str → List D → Sto → R D
  | 0, _, _, _ => .bad
  | n + 1, f, ds, st => match T f with
    | some (.fn np ns body) => if ds.length = np then (excs (callD T W n) W body (ds.map some ++ List.replicate (ns - np) none) st).fin else .bad
    | some (.cls i) => (callD T W n i (.ref st.length :: ds) (st ++ [.ins f []])).bind fun d st1 => if d = .non then .ok (.ref st.length) st1 else .bad
    | none => .bad
end IP

/-! IpC: what stands for what: the interpreter's values and store beside the hand layer's values and heap. -/
namespace IP
open PySem PySem.Spec PyProof.Rows
abbrev V := L2.V
abbrev Hp := L2.Hp
abbrev HO := L2.HO

/-- the ground: the program, its world, what its top has written, the module's names -/
structure Gd where
  P : Program
  w : World
  K : PySem.W.Frag
  mg : Str → Option Value

mutual
/-- the value v stands for d: φ tells where the store's cells lie -/
inductive VR (g : Gd) (φ : List Addr) (H : Hp) : D → V → Prop
  | non : VR g φ H .non .non
  | bl (b : Bool) : VR g φ H (.bl b) (.bl b)
  | int (i : Int) : VR g φ H (.int i) (.int i)
  | str (x : Str) : VR g φ H (.str x) (.str x)
  | tup {a : Addr} {ds : List D} {vs : List V} : H a = some (.tup vs) → VRs g φ H ds vs → VR g φ H (.tup ds) (.ref a)
  | ref {n : Nat} {a : Addr} : φ[n]? = some a → VR g φ H (.ref n) (.ref a)
  | rof {a : Addr} {ns : List Int} {o : Obj} : H a = some (.frz o (.lst (ns.map L2.V.int))) → VR g φ H (.ro ns) (.ref a)
  | rok {a : Addr} {ns : List Int} : L2.SqL g.K (fun _ => none) a (ns.map L2.V.int) → VR g φ H (.ro ns) (.ref a)
  | fn {x : Str} {a : Addr} : g.mg x = some (.ref a) → VR g φ H (.fn x) (.ref a)
inductive VRs (g : Gd) (φ : List Addr) (H : Hp) : List D → List V → Prop
  | nil : VRs g φ H [] []
  | cons {d : D} {v : V} {ds : List D} {vs : List V} : VR g φ H d v → VRs g φ H ds vs → VRs g φ H (d :: ds) (v :: vs)
end

/-- from one heap to the next one: cells may be more, and changed; all else that is tracked stays -/
structure Stp (φ : List Addr) (H : Hp) (φ' : List Addr) (H' : Hp) : Prop where
  pre : ∀ (n : Nat) (a : Addr), φ[n]? = some a → φ'[n]? = some a
  fr : ∀ (a : Addr) (o : HO), H a = some o → a ∉ φ → H' a = some o
  tup : ∀ (a : Addr) (vs : List V), H a = some (.tup vs) → H' a = some (.tup vs)
  frz : ∀ (a : Addr) (o : Obj) (u : HO), H a = some (.frz o u) → H' a = some (.frz o u)
  new : ∀ a : Addr, a ∈ φ' → a ∉ φ → H a = none
theorem Stp.refl (φ : List Addr) (H : Hp) : Stp φ H φ H := ⟨fun _ _ e => e, fun _ _ e _ => e, fun _ _ e => e, fun _ _ _ e => e, fun _ h n => absurd h n⟩
theorem Stp.mem {φ φ' : List Addr} {H H' : Hp} (s : Stp φ H φ' H') {a : Addr} (h : a ∈ φ) : a ∈ φ' := by
  obtain ⟨n, hn, e⟩ := List.mem_iff_getElem.mp h
  exact List.mem_of_getElem? (s.pre n a (by rw [List.getElem?_eq_getElem hn, e]))
theorem Stp.trans {φ φ' φ'' : List Addr} {H H' H'' : Hp} (s : Stp φ H φ' H') (t : Stp φ' H' φ'' H'') : Stp φ H φ'' H'' where
  pre := fun n a e => t.pre n a (s.pre n a e)
  fr := fun a o e n => t.fr a o (s.fr a o e n) fun h => by
    have := s.new a h n
    rw [e] at this; cases this
  tup := fun a vs e => t.tup a vs (s.tup a vs e)
  frz := fun a o u e => t.frz a o u (s.frz a o u e)
  new := fun a h n => by
    by_cases h' : a ∈ φ'
    · exact s.new a h' n
    · have e := t.new a h h'
      cases q : H a with
      | none => rfl
      | some o =>
        rw [s.fr a o q n] at e; cases e

section
variable {g : Gd} {φ φ' : List Addr} {H H' : Hp}
mutual
theorem VR.mono (s : Stp φ H φ' H') : ∀ {d : D} {v : V}, VR g φ H d v → VR g φ' H' d v
  | _, _, .non => .non
  | _, _, .bl b => .bl b
  | _, _, .int i => .int i
  | _, _, .str x => .str x
  | _, _, .tup e r => .tup (s.tup _ _ e) (VRs.mono s r)
  | _, _, .ref e => .ref (s.pre _ _ e)
  | _, _, .rof e => .rof (s.frz _ _ _ e)
  | _, _, .rok e => .rok e
  | _, _, .fn e => .fn e
theorem VRs.mono (s : Stp φ H φ' H') : ∀ {ds : List D} {vs : List V}, VRs g φ H ds vs → VRs g φ' H' ds vs
  | _, _, .nil => .nil
  | _, _, .cons r t => .cons (VR.mono s r) (VRs.mono s t)
end
theorem VRs.length : ∀ {ds : List D} {vs : List V}, VRs g φ H ds vs → ds.length = vs.length
  | _, _, .nil => rfl
  | _, _, .cons _ t => by rw [List.length_cons, List.length_cons, t.length]
theorem VRs.get : ∀ {ds : List D} {vs : List V} {i : Nat} {d : D}, VRs g φ H ds vs → ds[i]? = some d → ∃ v, vs[i]? = some v ∧ VR g φ H d v
  | _, _, _, _, .nil, e => by simp at e
  | _, _, 0, _, .cons r _, e => by simp at e; subst e; exact ⟨_, rfl, r⟩
  | _, _, i + 1, _, .cons _ t, e => by
    obtain ⟨v, h1, h2⟩ := VRs.get (i := i) t (by simpa using e)
    exact ⟨v, by simpa using h1, h2⟩
theorem VRs.append : ∀ {ds es : List D} {vs us : List V}, VRs g φ H ds vs → VRs g φ H es us → VRs g φ H (ds ++ es) (vs ++ us)
  | _, _, _, _, .nil, s => s
  | _, _, _, _, .cons r t, s => .cons r (VRs.append t s)
theorem VRs.one {d : D} {v : V} (r : VR g φ H d v) : VRs g φ H [d] [v] := .cons r .nil
theorem VRs.set : ∀ {ds : List D} {vs : List V} {d : D} {v : V} (i : Nat), VRs g φ H ds vs → VR g φ H d v → VRs g φ H (ds.set i d) (vs.set i v)
  | _, _, _, _, _, .nil, _ => .nil
  | _, _, _, _, 0, .cons _ t, q => .cons q t
  | _, _, _, _, i + 1, .cons r t, q => .cons r (VRs.set i t q)
theorem VRs.drop : ∀ {ds : List D} {vs : List V} (n : Nat), VRs g φ H ds vs → VRs g φ H (ds.drop n) (vs.drop n)
  | _, _, 0, r => r
  | _, _, _ + 1, .nil => .nil
  | _, _, n + 1, .cons _ t => VRs.drop n t
theorem VRs.take : ∀ {ds : List D} {vs : List V} (n : Nat), VRs g φ H ds vs → VRs g φ H (ds.take n) (vs.take n)
  | _, _, 0, _ => .nil
  | _, _, _ + 1, .nil => .nil
  | _, _, n + 1, .cons r t => .cons r (VRs.take n t)
theorem VRs.dropLast : ∀ {ds : List D} {vs : List V}, VRs g φ H ds vs → VRs g φ H ds.dropLast vs.dropLast
  | _, _, .nil => .nil
  | _, _, .cons _ .nil => .nil
  | _, _, .cons r (.cons q t) => .cons r (VRs.dropLast (.cons q t))
theorem VRs.eraseIdx : ∀ {ds : List D} {vs : List V} (i : Nat), VRs g φ H ds vs → VRs g φ H (ds.eraseIdx i) (vs.eraseIdx i)
  | _, _, _, .nil => .nil
  | _, _, 0, .cons _ t => t
  | _, _, i + 1, .cons r t => .cons r (VRs.eraseIdx i t)
theorem VRs.rep {ds : List D} {vs : List V} (r : VRs g φ H ds vs) : ∀ k : Nat, VRs g φ H (List.replicate k ds).flatten (List.replicate k vs).flatten
  | 0 => .nil
  | k + 1 => by
    rw [List.replicate_succ, List.replicate_succ, List.flatten_cons, List.flatten_cons]
    exact r.append (VRs.rep r k)
end

/-- an object that is pinned whole -/
def pinO (a : Addr) (o : Obj) : HO := .ext fun h => h.get? a = some o


mutual
def toKey : D → NestedKey
  | .int i => .num i
  | .str x => .text x
  | .tup ds => .tup (toKeys ds)
  | _ => .none
def toKeys : List D → List NestedKey
  | [] => []
  | d :: ds => toKey d :: toKeys ds
end
def toFlat : D → L2.Key
  | .int i => .inl i
  | .str x => .inr x
  | _ => .inl 0

/-- a dict with flat keys: its entries by value -/
def FlatR (g : Gd) (φ : List Addr) (H : Hp) (a : Addr) (o : Obj) (kvs : List (D × D)) : Prop :=
  (∀ p ∈ kvs, keyKind p.1 = some .flat) ∧ ∃ vs : List (L2.Key × Value), (∀ h : Heap, h.get? a = some o → h.DictOf (L2.mixKind g.P g.w) a vs) ∧
    Paired (fun (p : D × D) (q : L2.Key × Value) => toFlat p.1 = q.1 ∧ ∃ v, VR g φ H p.2 v ∧ L2.RelV v q.2) kvs vs
/-- .. with tuples as keys: where they lie -/
def DeepR (g : Gd) (φ : List Addr) (H : Hp) (a : Addr) (o : Obj) (kvs : List (D × D)) : Prop :=
  (∀ p ∈ kvs, keyKind p.1 = some .deep) ∧ ∃ (xs : List (NestedKey × Addr × Value)) (es : Array DictEntry) (ep : Nat),
    o.ExactDict ∧ o.data = .dict es ep ∧ es.toList = xs.map (entryOfKey (nestedKind g.P g.w)) ∧ (xs.map (·.1)).Nodup ∧
    Paired (fun (p : D × D) (q : NestedKey × Addr × Value) => toKey p.1 = q.1 ∧ VR g φ H p.1 (.ref q.2.1) ∧ ∃ v, VR g φ H p.2 v ∧ L2.RelV v q.2.2) kvs xs
def FsR (g : Gd) (φ : List Addr) (H : Hp) : List (Str × D) → List (Str × V) → Prop := Paired fun p q => p.1 = q.1 ∧ VR g φ H p.2 q.2

/-- the cell c lies at a -/
def CellR (g : Gd) (φ : List Addr) (H : Hp) (a : Addr) : Cell → Prop
  | .lst ds => ∃ vs, H a = some (.lst vs) ∧ VRs g φ H ds vs
  | .dic kvs => ∃ o, H a = some (pinO a o) ∧ (a == sysModules) = false ∧ kvs.length ≤ LIM ∧ (FlatR g φ H a o kvs ∨ DeepR g φ H a o kvs)
  | .ins C fs => ∃ (Ca dx : Addr) (fs' : List (Str × V)), g.mg C = some (.ref Ca) ∧ H a = some (.ins Ca dx fs') ∧ FsR g φ H fs fs'

structure StoR (g : Gd) (φ : List Addr) (H : Hp) (st : Sto) : Prop where
  len : φ.length = st.length
  nd : φ.Nodup
  cell : ∀ (n : Nat) (a : Addr) (c : Cell), φ[n]? = some a → st[n]? = some c → CellR g φ H a c
/-- the slots -/
structure EnvR (g : Gd) (φ : List Addr) (H : Hp) (ρ : Env) (σ : L2.St) : Prop where
  len : ρ.length = σ.length
  at_ : ∀ (i : Nat) (d : D), ρ[i]? = some (some d) → ∃ v, σ[i]? = some (some v) ∧ VR g φ H d v

theorem Paired.mapR {α β : Type} {F G : α → β → Prop} : ∀ {l : List α} {m : List β}, Paired F l m → (∀ a b, F a b → G a b) → Paired G l m
  | _, _, .nil, _ => .nil
  | _, _, .cons r t, f => .cons (f _ _ r) (Paired.mapR t f)

section
variable {g : Gd} {φ φ' : List Addr} {H H' : Hp} {st : Sto}
theorem EnvR.mono {ρ : Env} {σ : L2.St} (s : Stp φ H φ' H') (e : EnvR g φ H ρ σ) : EnvR g φ' H' ρ σ :=
  ⟨e.len, fun i d h => let ⟨v, h1, h2⟩ := e.at_ i d h; ⟨v, h1, h2.mono s⟩⟩
theorem FsR.mono {fs : List (Str × D)} {fs' : List (Str × V)} (s : Stp φ H φ' H') (r : FsR g φ H fs fs') : FsR g φ' H' fs fs' := Paired.mapR r fun _ _ h => ⟨h.1, h.2.mono s⟩
/-- a cell that lies as it lay -/
theorem CellR.mono {a : Addr} {c : Cell} (s : Stp φ H φ' H') (e : H' a = H a) (r : CellR g φ H a c) : CellR g φ' H' a c := by
  cases c with
  | lst ds =>
    obtain ⟨vs, h1, h2⟩ := r
    exact ⟨vs, e.trans h1, h2.mono s⟩
  | dic kvs =>
    obtain ⟨o, h1, h2, h3, h4⟩ := r
    refine ⟨o, e.trans h1, h2, h3, ?_⟩
    rcases h4 with ⟨k, vs, q, p⟩ | ⟨k, xs, es, ep, q1, q2, q3, q4, p⟩
    · exact .inl ⟨k, vs, q, Paired.mapR p fun _ _ ⟨z1, v, z2, z3⟩ => ⟨z1, v, z2.mono s, z3⟩⟩
    · exact .inr ⟨k, xs, es, ep, q1, q2, q3, q4, Paired.mapR p fun _ _ ⟨z1, z0, v, z2, z3⟩ => ⟨z1, z0.mono s, v, z2.mono s, z3⟩⟩
  | ins C fs =>
    obtain ⟨Ca, dx, fs', h1, h2, h3⟩ := r
    exact ⟨Ca, dx, fs', h1, e.trans h2, h3.mono s⟩
theorem StoR.lt {n : Nat} {c : Cell} (S : StoR g φ H st) (h : st[n]? = some c) : ∃ a, φ[n]? = some a ∧ CellR g φ H a c := by
  obtain ⟨hn, _⟩ := List.getElem?_eq_some_iff.mp h
  have hn' : n < φ.length := by rw [S.len]; exact hn
  exact ⟨φ[n], List.getElem?_eq_getElem hn', S.cell n _ c (List.getElem?_eq_getElem hn') h⟩
/-- a cell's address holds a cell -/
def isCell : HO → Prop
  | .lst _ => True
  | .ext _ => True
  | .ins _ _ _ => True
  | _ => False
theorem CellR.is {a : Addr} {c : Cell} (r : CellR g φ H a c) : ∃ o, H a = some o ∧ isCell o := by
  cases c with
  | lst ds => obtain ⟨vs, h1, _⟩ := r; exact ⟨_, h1, trivial⟩
  | dic kvs => obtain ⟨o, h1, _⟩ := r; exact ⟨_, h1, trivial⟩
  | ins C fs => obtain ⟨Ca, dx, fs', _, h2, _⟩ := r; exact ⟨_, h2, trivial⟩
theorem StoR.is {a : Addr} (S : StoR g φ H st) (h : a ∈ φ) : ∃ o, H a = some o ∧ isCell o := by
  obtain ⟨n, hn, e⟩ := List.mem_iff_getElem.mp h
  have hn' : n < st.length := by rw [← S.len]; exact hn
  exact (S.cell n a st[n] (by rw [List.getElem?_eq_getElem hn, e]) (List.getElem?_eq_getElem hn')).is
theorem StoR.notin {a : Addr} (S : StoR g φ H st) (h : H a = none) : a ∉ φ := fun m => by
  obtain ⟨o, e, _⟩ := S.is m
  rw [h] at e; cases e
theorem StoR.tupNot {a : Addr} {vs : List V} (S : StoR g φ H st) (h : H a = some (.tup vs)) : a ∉ φ := fun m => by
  obtain ⟨o, e, i⟩ := S.is m
  rw [h] at e; cases e; exact i
theorem StoR.frzNot {a : Addr} {o : Obj} {u : HO} (S : StoR g φ H st) (h : H a = some (.frz o u)) : a ∉ φ := fun m => by
  obtain ⟨o, e, i⟩ := S.is m
  rw [h] at e; cases e; exact i

/-- a new thing at p, no cell -/
theorem StoR.laid {p : Addr} {o : HO} (S : StoR g φ H st) (hp : H p = none) : Stp φ H φ (L2.upd H p o) ∧ StoR g φ (L2.upd H p o) st := by
  have hn := S.notin hp
  have s : Stp φ H φ (L2.upd H p o) := ⟨fun _ _ e => e, fun a u e _ => by rw [L2.upd_ne (L2.ne_of_none e hp)]; exact e, fun a vs e => by rw [L2.upd_ne (L2.ne_of_none e hp)]; exact e,
    fun a ob u e => by rw [L2.upd_ne (L2.ne_of_none e hp)]; exact e, fun _ h n => absurd h n⟩
  refine ⟨s, S.len, S.nd, fun n a c h1 h2 => (S.cell n a c h1 h2).mono s (L2.upd_ne fun q => hn ?_)⟩
  rw [← q]; exact List.mem_of_getElem? h1
/-- a new cell at p -/
theorem StoR.alloc {p : Addr} {o : HO} {c : Cell} (S : StoR g φ H st) (hp : H p = none)
    (hc : Stp φ H (φ ++ [p]) (L2.upd H p o) → CellR g (φ ++ [p]) (L2.upd H p o) p c) : Stp φ H (φ ++ [p]) (L2.upd H p o) ∧ StoR g (φ ++ [p]) (L2.upd H p o) (st ++ [c]) := by
  have hn := S.notin hp
  have pre : ∀ (n : Nat) (a : Addr), φ[n]? = some a → (φ ++ [p])[n]? = some a := fun n a e => by
    rw [List.getElem?_append_left (List.getElem?_eq_some_iff.mp e).1]; exact e
  have s : Stp φ H (φ ++ [p]) (L2.upd H p o) := ⟨pre, fun a u e _ => by rw [L2.upd_ne (L2.ne_of_none e hp)]; exact e, fun a vs e => by rw [L2.upd_ne (L2.ne_of_none e hp)]; exact e,
    fun a ob u e => by rw [L2.upd_ne (L2.ne_of_none e hp)]; exact e, fun a h n => by
      rcases List.mem_append.mp h with h | h
      · exact absurd h n
      · rw [List.mem_singleton.mp h]; exact hp⟩
  refine ⟨s, by rw [List.length_append, List.length_append, S.len]; rfl, ?_, fun n a c' h1 h2 => ?_⟩
  · rw [List.nodup_append]
    exact ⟨S.nd, by simp, fun a ha b hb e => hn (by rw [List.mem_singleton.mp hb] at e; rw [← e]; exact ha)⟩
  · by_cases hlt : n < st.length
    · rw [List.getElem?_append_left (by rw [S.len]; exact hlt)] at h1
      rw [List.getElem?_append_left hlt] at h2
      refine (S.cell n a c' h1 h2).mono s (L2.upd_ne fun q => hn ?_)
      rw [← q]; exact List.mem_of_getElem? h1
    · have e : n = st.length := by
        have := (List.getElem?_eq_some_iff.mp h2).1
        rw [List.length_append] at this
        simp at this; omega
      subst e
      rw [List.getElem?_append_right (Nat.le_refl _)] at h2
      rw [List.getElem?_append_right (by rw [S.len]; exact Nat.le_refl _)] at h1
      simp at h2
      rw [S.len] at h1
      simp at h1
      subst h1 h2
      exact hc s
/-- a cell that is written -/
theorem StoR.write {n : Nat} {a : Addr} {o : HO} {c : Cell} (S : StoR g φ H st) (hn : φ[n]? = some a)
    (hc : Stp φ H φ (L2.upd H a o) → CellR g φ (L2.upd H a o) a c) : Stp φ H φ (L2.upd H a o) ∧ StoR g φ (L2.upd H a o) (st.set n c) := by
  have hm : a ∈ φ := List.mem_of_getElem? hn
  have ne : ∀ {b : Addr} {u : HO}, H b = some u → ¬ isCell u → b ≠ a := fun {b u} e i q => by
    obtain ⟨o', e', i'⟩ := S.is hm
    rw [← q, e] at e'; cases e'; exact i i'
  have s : Stp φ H φ (L2.upd H a o) := ⟨fun _ _ e => e, fun b u e nb => by rw [L2.upd_ne (fun q => nb (by rw [q]; exact hm))]; exact e, fun b vs e => by rw [L2.upd_ne (ne e fun z => z)]; exact e,
    fun b ob u e => by rw [L2.upd_ne (ne e fun z => z)]; exact e, fun _ h n => absurd h n⟩
  refine ⟨s, by rw [List.length_set]; exact S.len, S.nd, fun m b c' h1 h2 => ?_⟩
  by_cases q : m = n
  · subst q
    rw [hn] at h1
    have e := Option.some.inj h1
    subst e
    have hl : m < st.length := by rw [← S.len]; exact (List.getElem?_eq_some_iff.mp hn).1
    rw [List.getElem?_set_self hl] at h2
    cases h2
    exact hc s
  · rw [List.getElem?_set_ne (Ne.symm q)] at h2
    refine (S.cell m b c' h1 h2).mono s (L2.upd_ne fun z => q ?_)
    subst z
    exact (List.getElem?_inj (List.getElem?_eq_some_iff.mp h1).1 S.nd).mp (h1.trans hn.symm)
end

/-! ### what is wanted of an end -/
/-- the exception x -/
def ExnR (g : Gd) (φ : List Addr) (H : Hp) (x : Exn) (cls : Value) (d : Option Addr) : Prop :=
  (∃ a, g.mg x.cls = some (.ref a) ∧ cls = .ref a) ∧ match x.why with
    | none => d = none
    | some w => ∃ dx v, d = some dx ∧ H dx = some (.xd [(Str.ofString "why", v)]) ∧ VR g φ H w v

section
variable {g : Gd}
def post {α β : Type} (rel : List Addr → Hp → α → β → Prop) (g : Gd) (φ : List Addr) (H : Hp) (r : R α) (Q : β → Hp → Prop) (E : L2.XK) : Prop :=
  match r with
  | .bad => False
  | .ok a st' => ∀ φ' H' v, Stp φ H φ' H' → StoR g φ' H' st' → rel φ' H' a v → Q v H'
  | .exc x st' => ∀ φ' H' cls dx, Stp φ H φ' H' → StoR g φ' H' st' → ExnR g φ' H' x cls dx → E cls dx H'
theorem post_mono {α β : Type} {rel : List Addr → Hp → α → β → Prop} {φ φ' : List Addr} {H H' : Hp} {r : R α} {Q : β → Hp → Prop} {E : L2.XK} (s : Stp φ H φ' H') (h : post rel g φ H r Q E) : post rel g φ' H' r Q E := by
  cases r with
  | bad => exact h
  | ok a st => exact fun φ2 H2 v t => h φ2 H2 v (s.trans t)
  | exc x st => exact fun φ2 H2 c d t => h φ2 H2 c d (s.trans t)
theorem post_bind {α β α' β' : Type} {rel : List Addr → Hp → α → β → Prop} {rel' : List Addr → Hp → α' → β' → Prop} {φ : List Addr} {H : Hp} {r : R α} {f : α → Sto → R α'} {Q : β' → Hp → Prop} {E : L2.XK} {Q1 : β → Hp → Prop}
    (h : post rel' g φ H (r.bind f) Q E) (k : ∀ a st1 φ1 H1 v, r = .ok a st1 → Stp φ H φ1 H1 → StoR g φ1 H1 st1 → rel φ1 H1 a v → post rel' g φ1 H1 (f a st1) Q E → Q1 v H1) : post rel g φ H r Q1 E := by
  cases r with
  | bad => exact h
  | exc x st => exact h
  | ok a st => exact fun φ1 H1 v s S q => k a st φ1 H1 v rfl s S q (post_mono s h)

abbrev WX := L2.WX
/-- an expression's reading by the interpreter -/
def tI (g : Gd) (W : WX) (f : Env → Sto → R D) : L2.TE := fun σ H Q => ∃ ρ st φ, StoR g φ H st ∧ EnvR g φ H ρ σ ∧ post (VR g) g φ H (f ρ st) Q (fun c d H' => W c d σ H')
def tIs (g : Gd) (W : WX) (f : Env → Sto → R (List D)) : L2.TA := fun σ H Q => ∃ ρ st φ, StoR g φ H st ∧ EnvR g φ H ρ σ ∧ post (VRs g) g φ H (f ρ st) Q (fun c d H' => W c d σ H')
def isB (φ : List Addr) (H : Hp) (d : D) (b : Bool) : Prop := d = .bl b
def tIt (g : Gd) (W : WX) (f : Env → Sto → R D) : L2.TT := fun σ H Q => ∃ ρ st φ, StoR g φ H st ∧ EnvR g φ H ρ σ ∧ post isB g φ H (f ρ st) Q (fun c d H' => W c d σ H') ∧ ∀ d st', f ρ st = .ok d st' → ∃ b, d = .bl b
end
/-- the ground of a context -/
def gd (X : L2.Cx) : Gd := ⟨X.prog, X.w, X.K, X.mg⟩
theorem pe_weak {X : L2.Cx} {e : Expr} {t t' : L2.TE} (h : L2.PE X e t) (k : ∀ σ H Q, t' σ H Q → t σ H Q) : L2.PE X e t' := ⟨fun pins s σ H Q I q => h.run pins s σ H Q I (k σ H Q q)⟩
theorem pa_weak {X : L2.Cx} {e : List Expr} {t t' : L2.TA} (h : L2.PA X e t) (k : ∀ σ H Q, t' σ H Q → t σ H Q) : L2.PA X e t' := ⟨fun pos pins s σ H Q I q => h.run pos pins s σ H Q I (k σ H Q q)⟩
theorem pt_weak {X : L2.Cx} {e : Expr} {t t' : L2.TT} (h : L2.PT X e t) (k : ∀ σ H Q, t' σ H Q → t σ H Q) : L2.PT X e t' := ⟨fun pins s σ H Q I q => h.run pins s σ H Q I (k σ H Q q)⟩
theorem pw_weak {X : L2.Cx} {e : Expr} {t t' : L2.TT} (h : L2.PW X e t) (k : ∀ σ H Q, t' σ H Q → t σ H Q) : L2.PW X e t' := ⟨fun wh pins s σ H Q I q => h.run wh pins s σ H Q I (k σ H Q q)⟩
theorem ps_weak {X : L2.Cx} {e : Stmt} {t t' : L2.TS} (h : L2.PS X e t) (k : ∀ D σ H, t' D σ H → t D σ H) : L2.PS X e t' := ⟨fun pins s σ H D I q => h.run pins s σ H D I (k D σ H q)⟩
theorem pss_weak {X : L2.Cx} {e : List Stmt} {t t' : L2.TS} (h : L2.PSs X e t) (k : ∀ D σ H, t' D σ H → t D σ H) : L2.PSs X e t' := ⟨fun pins s σ H D I q => h.run pins s σ H D I (k D σ H q)⟩
end IP

/-! IpD: the operators. -/
namespace IP
open PySem PySem.Spec PyProof.Rows
section
variable {g : Gd} {φ : List Addr} {H : Hp} {st : Sto}
theorem dp_ints (K : PySem.W.Frag) (H : Hp) : ∀ ns : List Int, L2.DpAll K H (ns.map L2.V.int) (ns.map PyData.int)
  | [] => .nil
  | n :: ns => .cons (.int n) (dp_ints K H ns)
theorem sq_up {K : PySem.W.Frag} {H : Hp} {a : Addr} {xs : List V} (h : L2.SqL K (fun _ => none) a xs) : L2.SqL K H a xs := by
  rcases h with h | h
  · rcases h with h | ⟨o, h⟩ <;> cases h
  · exact .inr h
theorem lay_ints : ∀ ns : List Int, PyData.canLayAll0 (ns.map PyData.int) = true ∧ PyData.depthAll (ns.map PyData.int) = 0
  | [] => by simp [PyData.canLayAll0, PyData.depthAll]
  | n :: ns => by
    have h := lay_ints ns
    simp [PyData.canLayAll0, PyData.depthAll, PyData.canLay0, PyData.depth, h.1, h.2]
mutual
theorem dp_of (S : StoR g φ H st) : ∀ (n : Nat) (d : D) (v : V) (p : PyData), VR g φ H d v → toData st n d = some p → L2.Dp g.K H v p ∧ p.canLay0 = true ∧ p.depth ≤ n
  | n, .non, v, p, r, e => by
    cases r
    simp only [toData] at e; cases e
    exact ⟨.non, by simp [PyData.canLay0], by simp [PyData.depth]⟩
  | n, .bl b, v, p, r, e => by
    cases r
    simp only [toData] at e; cases e
    exact ⟨.bl b, by simp [PyData.canLay0], by simp [PyData.depth]⟩
  | n, .int i, v, p, r, e => by
    cases r
    simp only [toData] at e; cases e
    exact ⟨.int i, by simp [PyData.canLay0], by simp [PyData.depth]⟩
  | n, .str x, v, p, r, e => by
    cases r
    simp only [toData] at e
    split at e
    · rename_i hx
      cases e
      exact ⟨.str x, by simpa [PyData.canLay0] using hx, by simp [PyData.depth]⟩
    · cases e
  | 0, .tup ds, v, p, r, e => by simp [toData] at e
  | n + 1, .tup ds, v, p, r, e => by
    cases r with
    | tup h hs =>
      simp only [toData] at e
      obtain ⟨ps, e1, e2⟩ := Option.map_eq_some_iff.mp e
      subst e2
      obtain ⟨h1, h2, h3⟩ := dps_of S n ds _ ps hs e1
      exact ⟨.tup (L2.SqT.of h) h1, by simpa [PyData.canLay0] using h2, by simp only [PyData.depth]; omega⟩
  | 0, .ref m, v, p, r, e => by simp [toData] at e
  | n + 1, .ref m, v, p, r, e => by
    simp only [toData] at e
    cases q : st[m]? with
    | none => simp [q] at e
    | some c =>
      cases c with
      | lst ds =>
        simp only [q] at e
        obtain ⟨ps, e1, e2⟩ := Option.map_eq_some_iff.mp e
        subst e2
        obtain ⟨a, ha, vs, hv, hs⟩ := S.lt q
        cases r with
        | ref hr =>
          rw [ha] at hr; cases hr
          obtain ⟨h1, h2, h3⟩ := dps_of S n ds _ ps hs e1
          exact ⟨.lst (L2.SqL.of hv) h1, by simpa [PyData.canLay0] using h2, by simp only [PyData.depth]; omega⟩
      | dic _ => simp [q] at e
      | ins _ _ => simp [q] at e
  | 0, .ro ns, v, p, r, e => by simp [toData] at e
  | n + 1, .ro ns, v, p, r, e => by
    simp only [toData] at e; cases e
    obtain ⟨h2, h3⟩ := lay_ints ns
    refine ⟨?_, by simpa [PyData.canLay0] using h2, by simp only [PyData.depth]; omega⟩
    cases r with
    | rof h => exact .lst (.inl (.inr ⟨_, h⟩)) (dp_ints _ _ ns)
    | rok h => exact .lst (sq_up h) (dp_ints _ _ ns)
  | n, .fn x, v, p, r, e => by cases n <;> simp [toData] at e
  | n, .exn x w, v, p, r, e => by cases n <;> simp [toData] at e
theorem dps_of (S : StoR g φ H st) : ∀ (n : Nat) (ds : List D) (vs : List V) (ps : List PyData), VRs g φ H ds vs → toDatas st n ds = some ps → L2.DpAll g.K H vs ps ∧ PyData.canLayAll0 ps = true ∧ PyData.depthAll ps ≤ n
  | n, [], vs, ps, r, e => by
    cases r
    simp only [toDatas] at e; cases e
    exact ⟨.nil, by simp [PyData.canLayAll0], by simp [PyData.depthAll]⟩
  | n, d :: ds, vs, ps, r, e => by
    cases r with
    | cons r rs =>
      simp only [toDatas] at e
      split at e
      · rename_i p ps' e1 e2
        cases e
        obtain ⟨h1, h2, h3⟩ := dp_of S n d _ p r e1
        obtain ⟨k1, k2, k3⟩ := dps_of S n ds _ ps' rs e2
        exact ⟨.cons h1 k1, by simp [PyData.canLayAll0, h2, k2], by simp only [PyData.depthAll]; omega⟩
      · cases e
end
theorem shaped_of {p : PyData} (h : p.canLay0 = true) (k : p.depth ≤ 64) : SeqAt.shaped p = true := by
  unfold SeqAt.shaped
  rw [h, decide_eq_true k]; rfl
theorem eqD_some {a b : D} {c : Bool} (h : eqD st a b = some c) : ∃ p q, toData st 64 a = some p ∧ toData st 64 b = some q ∧ c = PyData.eqv p q := by
  unfold eqD at h
  split at h
  · rename_i p q h1 h2
    cases h
    exact ⟨p, q, h1, h2, rfl⟩
  · cases h
theorem inD_some {a : D} {ds : List D} {c : Bool} (h : inD st a ds = some c) : ∃ p ps, toData st 64 a = some p ∧ toDatas st 63 ds = some ps ∧ c = ps.any fun z => PyData.eqv z p := by
  unfold inD at h
  split at h
  · rename_i p q h1 h2
    cases h
    exact ⟨p, q, h1, h2, rfl⟩
  · cases h

/-! ### + - * % // -/
def rAdd (K : PySem.W.Frag) : L2.R2 := fun x y H Q => (∃ i j, x = .int i ∧ y = .int j ∧ Q (.int (i + j)) H) ∨ (∃ i j, x = .str i ∧ y = .str j ∧ i.length + j.length ≤ sizeLine ∧ Q (.str (i ++ j)) H) ∨ L2.rCatA K x y H Q ∨ L2.rCat x y H Q
theorem op_addI {X : L2.Cx} : L2.OpR X (binaryOp .Add) (rAdd X.K) := L2.op_add.or (L2.op_add_str.or (L2.op_catA.or L2.op_cat))
def rMul (K : PySem.W.Frag) : L2.R2 := fun x y H Q => L2.rI L2.CMul (fun i j => .int (i * j)) x y H Q ∨ L2.rRepT K x y H Q ∨ L2.rRep x y H Q
theorem op_mulI {X : L2.Cx} : L2.OpR X (binaryOp .Mult) (rMul X.K) := L2.op_mul.or (L2.op_repT.or L2.op_rep)

theorem lim_line {n : Nat} (h : n ≤ LIM) : n ≤ sizeLine := by
  rw [sizeLine_eq]; unfold LIM at h; omega
theorem lim_line' {n : Nat} (h : n < LIM) : n < sizeLine := by
  rw [sizeLine_eq]; unfold LIM at h; omega
variable {Q : L2.VK} {E : L2.XK}
theorem alloc_lst {p : Addr} {ds : List D} {vs : List V} (S : StoR g φ H st) (r : VRs g φ H ds vs) (h : post (VR g) g φ H (.ok (.ref st.length) (st ++ [.lst ds])) Q E) (hp : H p = none) : Q (.ref p) (L2.upd H p (.lst vs)) := by
  obtain ⟨s, S'⟩ := S.alloc (c := .lst ds) (o := .lst vs) hp fun s => ⟨vs, L2.upd_same, r.mono s⟩
  refine h _ _ _ s S' (.ref ?_)
  rw [← S.len, List.getElem?_append_right (Nat.le_refl _)]; simp
theorem alloc_tup {p : Addr} {ds : List D} {vs : List V} (S : StoR g φ H st) (r : VRs g φ H ds vs) (h : post (VR g) g φ H (.ok (.tup ds) st) Q E) (hp : H p = none) : Q (.ref p) (L2.upd H p (.tup vs)) := by
  obtain ⟨s, S'⟩ := S.laid (o := .tup vs) hp
  exact h _ _ _ s S' (.tup L2.upd_same (r.mono s))
theorem ok_here {d : D} {v : V} (S : StoR g φ H st) (r : VR g φ H d v) (h : post (VR g) g φ H (.ok d st) Q E) : Q v H := h _ _ _ (Stp.refl _ _) S r
theorem lst_at {n : Nat} {a : Addr} {ds : List D} (S : StoR g φ H st) (h : st[n]? = some (.lst ds)) (ha : φ[n]? = some a) : ∃ vs, H a = some (.lst vs) ∧ VRs g φ H ds vs := by
  obtain ⟨b, hb, q⟩ := S.lt h
  rw [hb] at ha; cases ha
  exact q
theorem add_ok {a b : D} {x y : V} (S : StoR g φ H st) (r1 : VR g φ H a x) (r2 : VR g φ H b y) (h : post (VR g) g φ H (binD .add a b st) Q E) : rAdd g.K x y H Q := by
  cases r1 with
  | int i =>
    cases r2 with
    | int j => exact .inl ⟨i, j, rfl, rfl, ok_here S (.int _) h⟩
    | _ => exact h.elim
  | str i =>
    cases r2 with
    | str j =>
      simp only [binD] at h
      split at h
      · rename_i hl
        exact .inr (.inl ⟨i, j, rfl, rfl, lim_line hl, ok_here S (.str _) h⟩)
      · exact h.elim
    | _ => exact h.elim
  | @tup p ds vs hp hs =>
    cases r2 with
    | @tup q es us hq hu =>
      simp only [binD] at h
      split at h
      · rename_i hl
        refine .inr (.inr (.inl ⟨p, q, vs, us, rfl, rfl, L2.SqT.of hp, L2.SqT.of hq, by rw [← hs.length, ← hu.length]; exact lim_line hl, fun e => ?_, fun _ e => ?_, fun _ _ t ht => ?_⟩))
        · subst e
          cases hs
          exact ok_here S (.tup hq hu) h
        · subst e
          cases hu
          rw [List.append_nil] at h
          exact ok_here S (.tup hp hs) h
        · exact alloc_tup S (hs.append hu) h ht
      · exact h.elim
    | _ => exact h.elim
  | @ref n p hp =>
    cases r2 with
    | @ref m q hq =>
      simp only [binD] at h
      split at h
      · rename_i xs ys h1 h2
        split at h
        · rename_i hl
          obtain ⟨vs, k1, k2⟩ := lst_at S h1 hp
          obtain ⟨us, l1, l2⟩ := lst_at S h2 hq
          exact .inr (.inr (.inr ⟨p, q, vs, us, rfl, rfl, k1, l1, by rw [← k2.length, ← l2.length]; exact lim_line hl, fun t ht => alloc_lst S (k2.append l2) h ht⟩))
        · exact h.elim
      · exact h.elim
    | _ => exact h.elim
  | _ => cases r2 <;> exact h.elim
theorem sub_ok {a b : D} {x y : V} (S : StoR g φ H st) (r1 : VR g φ H a x) (r2 : VR g φ H b y) (h : post (VR g) g φ H (binD .sub a b st) Q E) : L2.rI0 (fun i j => .int (i - j)) x y H Q := by
  cases r1 with
  | int i =>
    cases r2 with
    | int j => exact ⟨i, j, rfl, rfl, ok_here S (.int _) h⟩
    | _ => exact h.elim
  | _ => cases r2 <;> exact h.elim
theorem mul_ok {a b : D} {x y : V} (S : StoR g φ H st) (r1 : VR g φ H a x) (r2 : VR g φ H b y) (h : post (VR g) g φ H (binD .mul a b st) Q E) : rMul g.K x y H Q := by
  cases r1 with
  | int i =>
    cases r2 with
    | int j =>
      simp only [binD] at h
      split at h
      · rename_i hm
        refine .inl ⟨i, j, rfl, rfl, ?_, ok_here S (.int _) h⟩
        unfold mulOk at hm
        rcases Bool.or_eq_true_iff.mp hm with q | q
        · exact .inl (of_decide_eq_true q)
        · exact .inr (of_decide_eq_true q)
      · exact h.elim
    | _ => exact h.elim
  | @tup p ds vs hp hs =>
    cases r2 with
    | int k =>
      simp only [binD] at h
      split at h
      · rename_i hc
        obtain ⟨c1, c2, c3, c4⟩ := hc
        refine .inr (.inl ⟨p, k, vs, rfl, rfl, L2.SqT.of hp, fun e => c1 ?_, c2, c3, by rw [← hs.length]; exact c4, fun t ht => alloc_tup S (hs.rep _) h ht⟩)
        subst e
        cases hs; rfl
      · exact h.elim
    | _ => exact h.elim
  | @ref n p hp =>
    cases r2 with
    | int k =>
      simp only [binD] at h
      split at h
      · rename_i xs h1
        split at h
        · rename_i hc
          obtain ⟨c1, c2, c3⟩ := hc
          obtain ⟨vs, k1, k2⟩ := lst_at S h1 hp
          exact .inr (.inr ⟨p, k, vs, rfl, rfl, k1, c1, c2, by rw [← k2.length]; exact lim_line c3, fun t ht => alloc_lst S (k2.rep _) h ht⟩)
        · exact h.elim
      · exact h.elim
    | _ => exact h.elim
  | _ => cases r2 <;> exact h.elim
theorem mod_ok {a b : D} {x y : V} (S : StoR g φ H st) (r1 : VR g φ H a x) (r2 : VR g φ H b y) (h : post (VR g) g φ H (binD .mod a b st) Q E) : L2.rI (fun _ j => j ≠ 0) (fun i j => .int (i.fmod j)) x y H Q := by
  cases r1 with
  | int i =>
    cases r2 with
    | int j =>
      simp only [binD] at h
      split at h
      · rename_i hm
        exact ⟨i, j, rfl, rfl, hm, ok_here S (.int _) h⟩
      · exact h.elim
    | _ => exact h.elim
  | _ => cases r2 <;> exact h.elim
theorem fdiv_ok {a b : D} {x y : V} (S : StoR g φ H st) (r1 : VR g φ H a x) (r2 : VR g φ H b y) (h : post (VR g) g φ H (binD .fdiv a b st) Q E) : L2.rI L2.CDivN (fun i j => .int (i.fdiv j)) x y H Q := by
  cases r1 with
  | int i =>
    cases r2 with
    | int j =>
      simp only [binD] at h
      split at h
      · rename_i hm
        exact ⟨i, j, rfl, rfl, hm, ok_here S (.int _) h⟩
      · exact h.elim
    | _ => exact h.elim
  | _ => cases r2 <;> exact h.elim

/-! ### comparisons -/
theorem okB_ok {o : Option Bool} (h : post (VR g) g φ H (okB o st) Q E) : ∃ b, o = some b ∧ post (VR g) g φ H (.ok (.bl b) st) Q E := by
  cases o with
  | none => exact h.elim
  | some b => exact ⟨b, rfl, h⟩
theorem eq_ok {a b : D} {x y : V} (S : StoR g φ H st) (r1 : VR g φ H a x) (r2 : VR g φ H b y) (h : post (VR g) g φ H (okB (cmpD .eq a b st) st) Q E) : L2.rEqD g.K x y H Q := by
  obtain ⟨c, hc, h⟩ := okB_ok h
  obtain ⟨p, q, e1, e2, rfl⟩ := eqD_some hc
  obtain ⟨h1, h2, h3⟩ := dp_of S 64 a x p r1 e1
  obtain ⟨k1, k2, k3⟩ := dp_of S 64 b y q r2 e2
  exact ⟨p, q, h1, k1, shaped_of h2 h3, shaped_of k2 k3, ok_here S (.bl _) h⟩
theorem ne_ok {a b : D} {x y : V} (S : StoR g φ H st) (r1 : VR g φ H a x) (r2 : VR g φ H b y) (h : post (VR g) g φ H (okB (cmpD .ne a b st) st) Q E) : L2.rNeD g.K x y H Q := by
  obtain ⟨c, hc, h⟩ := okB_ok h
  obtain ⟨c', hc', rfl⟩ := Option.map_eq_some_iff.mp hc
  obtain ⟨p, q, e1, e2, rfl⟩ := eqD_some hc'
  obtain ⟨h1, h2, h3⟩ := dp_of S 64 a x p r1 e1
  obtain ⟨k1, k2, k3⟩ := dp_of S 64 b y q r2 e2
  exact ⟨p, q, h1, k1, shaped_of h2 h3, shaped_of k2 k3, ok_here S (.bl _) h⟩
theorem lt_ok {a b : D} {x y : V} (S : StoR g φ H st) (r1 : VR g φ H a x) (r2 : VR g φ H b y) (h : post (VR g) g φ H (okB (cmpD .lt a b st) st) Q E) : L2.rI0 (fun i j => .bl (decide (i < j))) x y H Q := by
  cases r1 with
  | int i =>
    cases r2 with
    | int j => exact ⟨i, j, rfl, rfl, ok_here S (.bl _) h⟩
    | _ => exact h.elim
  | _ => cases r2 <;> exact h.elim
theorem le_ok {a b : D} {x y : V} (S : StoR g φ H st) (r1 : VR g φ H a x) (r2 : VR g φ H b y) (h : post (VR g) g φ H (okB (cmpD .le a b st) st) Q E) : L2.rI0 (fun i j => .bl (decide (i ≤ j))) x y H Q := by
  cases r1 with
  | int i =>
    cases r2 with
    | int j => exact ⟨i, j, rfl, rfl, ok_here S (.bl _) h⟩
    | _ => exact h.elim
  | _ => cases r2 <;> exact h.elim
theorem gt_ok {a b : D} {x y : V} (S : StoR g φ H st) (r1 : VR g φ H a x) (r2 : VR g φ H b y) (h : post (VR g) g φ H (okB (cmpD .gt a b st) st) Q E) : L2.rI0 (fun i j => .bl (decide (j < i))) x y H Q := by
  cases r1 with
  | int i =>
    cases r2 with
    | int j => exact ⟨i, j, rfl, rfl, ok_here S (.bl _) h⟩
    | _ => exact h.elim
  | _ => cases r2 <;> exact h.elim
theorem ge_ok {a b : D} {x y : V} (S : StoR g φ H st) (r1 : VR g φ H a x) (r2 : VR g φ H b y) (h : post (VR g) g φ H (okB (cmpD .ge a b st) st) Q E) : L2.rI0 (fun i j => .bl (decide (j ≤ i))) x y H Q := by
  cases r1 with
  | int i =>
    cases r2 with
    | int j => exact ⟨i, j, rfl, rfl, ok_here S (.bl _) h⟩
    | _ => exact h.elim
  | _ => cases r2 <;> exact h.elim
end
end IP

/-! IpE: membership, subscripts, slices, built-in functions (dicts apart). -/
namespace IP
open PySem PySem.Spec PyProof.Rows
section
variable {g : Gd} {φ : List Addr} {H : Hp} {st : Sto} {Q : L2.VK} {E : L2.XK}
/-! ### in -/
theorem flat_of {d : D} {v : V} (r : VR g φ H d v) (f : flatD d = true) : L2.flatV v = true := by
  cases r <;> first | rfl | exact absurd f (by simp [flatD])
theorem flats_of : ∀ {ds : List D} {vs : List V}, VRs g φ H ds vs → ds.all flatD = true → vs.all L2.flatV = true
  | _, _, .nil, _ => rfl
  | _, _, .cons r t, f => by
    rw [List.all_cons, Bool.and_eq_true] at f
    rw [List.all_cons, flat_of r f.1, flats_of t f.2]; rfl
theorem eqV_of {a b : D} {x y : V} {p q : PyData} {n m : Nat} (r1 : VR g φ H a x) (r2 : VR g φ H b y) (f1 : flatD a = true) (f2 : flatD b = true) (h1 : toData st n a = some p) (h2 : toData st m b = some q) : L2.eqV x y = PyData.eqv p q := by
  cases r1 <;> first | (exfalso; simp [flatD] at f1; done) | skip
  all_goals (cases r2 <;> first | (exfalso; simp [flatD] at f2; done) | skip)
  all_goals (cases n <;> cases m <;> simp only [toData] at h1 h2)
  all_goals (first | (split at h1 <;> first | cases h1 | skip) | cases h1)
  all_goals (first | (split at h2 <;> first | cases h2 | skip) | cases h2)
  all_goals simp [L2.eqV, PyData.eqv]
theorem inV_of {a : D} {x : V} {p : PyData} (r : VR g φ H a x) (f : flatD a = true) (h : toData st 64 a = some p) : ∀ {ds : List D} {vs : List V} {ps : List PyData}, VRs g φ H ds vs → ds.all flatD = true → toDatas st 63 ds = some ps →
    L2.inV x vs = ps.any fun z => PyData.eqv z p
  | _, _, ps, .nil, _, e => by
    simp only [toDatas] at e; cases e; rfl
  | _, _, ps, .cons (d := d) (ds := ds) r' t, k, e => by
    rw [List.all_cons, Bool.and_eq_true] at k
    simp only [toDatas] at e
    split at e
    · rename_i p' ps' e1 e2
      cases e
      have ih := inV_of r f h t k.2 e2
      unfold L2.inV at ih ⊢
      rw [List.any_cons, List.any_cons, ih, eqV_of r' r k.1 f e1 h]
    · cases e
/-- in, dicts apart -/
def rMem (K : PySem.W.Frag) (neg : Bool) : L2.R2 := fun x y H Q => (∃ (c : Nat) (z : Str), x = .str ⟨#[c]⟩ ∧ y = .str z ∧ Q (.bl (if neg then !decide (c ∈ z.cps.toList) else decide (c ∈ z.cps.toList))) H) ∨ L2.rIn K neg x y H Q ∨
  (∃ d ds, L2.Dp K H x d ∧ L2.Dp K H y (.list ds) ∧ SeqAt.shaped d = true ∧ SeqAt.shaped (.list ds) = true ∧ Q (.bl (if neg then !ds.any fun z => PyData.eqv z d else ds.any fun z => PyData.eqv z d)) H)
theorem op_memI {X : L2.Cx} (hu : X.A.units + 65 < cLine) : L2.OpR X (compareOp .In) (rMem X.K false) := L2.op_in_sign.or (L2.op_in_seq.or (L2.op_inD hu))
theorem op_nmemI {X : L2.Cx} (hu : X.A.units + 65 < cLine) : L2.OpR X (compareOp .NotIn) (rMem X.K true) := L2.op_notIn_sign.or (L2.op_notIn_seq.or (L2.op_notInD hu))
theorem oneIn_some {x y : Str} {b : Bool} (h : oneIn x y = some b) : ∃ c, x = ⟨#[c]⟩ ∧ b = decide (c ∈ y.cps.toList) := by
  unfold oneIn at h
  split at h
  · rename_i c hc
    cases h
    refine ⟨c, ?_, rfl⟩
    obtain ⟨cs⟩ := x
    have : cs = #[c] := Array.toList_inj.mp (by simpa using hc)
    rw [this]
  · cases h
def isDic (st : Sto) : D → Prop
  | .ref n => ∃ kvs, st[n]? = some (.dic kvs)
  | _ => False
theorem mem_ok (neg : Bool) {a b : D} {x y : V} {c : Bool} (S : StoR g φ H st) (r1 : VR g φ H a x) (r2 : VR g φ H b y) (hd : ¬ isDic st b) (hc : memD a b st = some c) (h : Q (.bl (if neg then !c else c)) H) : rMem g.K neg x y H Q := by
  cases r2 with
  | str z =>
    cases r1 with
    | str w =>
      obtain ⟨c', h1, h2⟩ := oneIn_some (x := w) (y := z) hc
      subst h1 h2
      exact .inl ⟨c', z, rfl, rfl, h⟩
    | _ => cases hc
  | @tup p ds vs hp hs =>
    simp only [memD] at hc
    split at hc
    · rename_i hf
      rw [Bool.and_eq_true] at hf
      obtain ⟨q, qs, e1, e2, e3⟩ := inD_some hc
      refine .inr (.inl ⟨p, vs, rfl, .inr (L2.SqT.of hp), flat_of r1 hf.1, flats_of hs hf.2, ?_⟩)
      rw [inV_of r1 hf.1 e1 hs hf.2 e2, ← e3]
      exact h
    · cases hc
  | @ref n p hp =>
    simp only [memD] at hc
    split at hc
    · rename_i ds h1
      obtain ⟨q, qs, e1, e2, e3⟩ := inD_some hc
      obtain ⟨vs, k1, k2⟩ := lst_at S h1 hp
      obtain ⟨d1, d2, d3⟩ := dp_of S 64 a x q r1 e1
      obtain ⟨l1, l2, l3⟩ := dps_of S 63 ds vs qs k2 e2
      refine .inr (.inr ⟨q, qs, d1, .lst (L2.SqL.of k1) l1, shaped_of d2 d3, shaped_of (by simpa [PyData.canLay0] using l2) (by simp only [PyData.depth]; omega), ?_⟩)
      rw [← e3]; exact h
    · rename_i kvs h1
      exact absurd ⟨kvs, h1⟩ hd
    · cases hc
  | _ => cases hc

/-! ### a[i] -/
theorem vrs_atI {ds : List D} {vs : List V} {j : Int} {d : D} (r : VRs g φ H ds vs) (h : L2.atI ds j = some d) : ∃ v, L2.atI vs j = some v ∧ VR g φ H d v := by
  unfold L2.atI at h ⊢
  rw [← r.length]
  obtain ⟨k, h1, h2⟩ := Option.bind_eq_some_iff.mp h
  obtain ⟨v, h3, h4⟩ := r.get h2
  exact ⟨v, by rw [h1]; exact h3, h4⟩
theorem atI_map {α β : Type} {f : α → β} {xs : List α} {j : Int} {x : α} (h : L2.atI xs j = some x) : L2.atI (xs.map f) j = some (f x) := by
  unfold L2.atI at h ⊢
  obtain ⟨k, h1, h2⟩ := Option.bind_eq_some_iff.mp h
  rw [List.length_map, h1]
  show (xs.map f)[k]? = _
  rw [List.getElem?_map, h2]; rfl
theorem sq_of_ro {a : Addr} {ns : List Int} (r : VR g φ H (.ro ns) (.ref a)) : L2.SqL g.K H a (ns.map L2.V.int) := by
  cases r with
  | rof h => exact .inl (.inr ⟨_, h⟩)
  | rok h => exact sq_up h
theorem ix_ok {a i : D} {x y : V} (S : StoR g φ H st) (r1 : VR g φ H a x) (r2 : VR g φ H i y) (hd : ¬ isDic st a) (h : post (VR g) g φ H (ixD a i st) Q E) : L2.rIx g.K x y H Q := by
  cases r1 with
  | @tup p ds vs hp hs =>
    cases r2 with
    | int j =>
      simp only [ixD] at h
      split at h
      · rename_i d hj
        obtain ⟨v, h1, h2⟩ := vrs_atI hs hj
        exact .inr (.inl ⟨p, vs, j, v, rfl, rfl, L2.SqT.of hp, h1, ok_here S h2 h⟩)
      · exact h.elim
    | _ => exact h.elim
  | str z =>
    cases r2 with
    | int j =>
      simp only [ixD] at h
      split at h
      · rename_i hl
        split at h
        · rename_i c hj
          exact .inr (.inr ⟨z, j, c, rfl, rfl, lim_line hl, hj, ok_here S (.str _) h⟩)
        · exact h.elim
      · exact h.elim
    | _ => exact h.elim
  | @rof p ns o hp =>
    cases r2 with
    | int j =>
      simp only [ixD] at h
      split at h
      · rename_i n hj
        exact .inl ⟨p, ns.map L2.V.int, j, .int n, rfl, rfl, .inl (.inr ⟨_, hp⟩), atI_map hj, ok_here S (.int _) h⟩
      · exact h.elim
    | _ => exact h.elim
  | @rok p ns hp =>
    cases r2 with
    | int j =>
      simp only [ixD] at h
      split at h
      · rename_i n hj
        exact .inl ⟨p, ns.map L2.V.int, j, .int n, rfl, rfl, sq_up hp, atI_map hj, ok_here S (.int _) h⟩
      · exact h.elim
    | _ => exact h.elim
  | @ref n p hp =>
    simp only [ixD] at h
    split at h
    · rename_i ds h1
      split at h
      · rename_i j
        cases r2
        split at h
        · rename_i d hj
          obtain ⟨vs, k1, k2⟩ := lst_at S h1 hp
          obtain ⟨v, h3, h4⟩ := vrs_atI k2 hj
          exact .inl ⟨p, vs, j, v, rfl, rfl, L2.SqL.of k1, h3, ok_here S h4 h⟩
        · exact h.elim
      · exact h.elim
    · rename_i kvs h1
      exact absurd ⟨kvs, h1⟩ hd
    · exact h.elim
  | _ => exact h.elim

/-! ### a[lo:hi] -/
def rSl (K : PySem.W.Frag) : V → Option Int → Option Int → Hp → L2.VK → Prop := fun x lo hi H Q => L2.rSlA K x lo hi H Q ∨ L2.rSlL K x lo hi H Q ∨ L2.rSlS x lo hi H Q
theorem sl_all {X : L2.Cx} : L2.SlR X (rSl X.K) := L2.sl_tupA.or (L2.sl_list.or L2.sl_str)
theorem vrs_cut {ds : List D} {vs : List V} (lo hi : Option Int) (r : VRs g φ H ds vs) : VRs g φ H (cutL ds lo hi) (L2.cutV vs lo hi) := by
  unfold cutL L2.cutV
  rw [r.length]
  exact (r.drop _).take _
theorem cut_whole {α : Type} {xs : List α} {lo hi : Option Int} (h : HT.sIx xs.length 0 lo = 0 ∧ HT.sIx xs.length xs.length hi = xs.length) : cutL xs lo hi = xs := by
  unfold cutL
  rw [h.1, h.2]; simp
theorem sl_ok {a : D} {x : V} {lo hi : Option Int} (S : StoR g φ H st) (r1 : VR g φ H a x) (h : post (VR g) g φ H (slD a lo hi st) Q E) : rSl g.K x lo hi H Q := by
  cases r1 with
  | @tup p ds vs hp hs =>
    refine .inl ⟨p, vs, rfl, L2.SqT.of hp, fun hw => ?_, fun _ t ht => alloc_tup S (vrs_cut lo hi hs) h ht⟩
    rw [← hs.length] at hw
    have h' : post (VR g) g φ H (.ok (.tup (cutL ds lo hi)) st) Q E := h
    rw [cut_whole hw] at h'
    exact ok_here S (.tup hp hs) h'
  | @ref n p hp =>
    simp only [slD] at h
    split at h
    · rename_i ds h1
      obtain ⟨vs, k1, k2⟩ := lst_at S h1 hp
      exact .inr (.inl ⟨p, vs, rfl, L2.SqL.of k1, fun t ht => alloc_lst S (vrs_cut lo hi k2) h ht⟩)
    · exact h.elim
  | str z =>
    simp only [slD] at h
    split at h
    · rename_i hl
      exact .inr (.inr ⟨z, rfl, lim_line hl, ok_here S (.str _) h⟩)
    · exact h.elim
  | _ => exact h.elim

/-! ### built-in functions of one argument -/
theorem bools_of : ∀ {ds : List D} {vs : List V} {bs : List Bool}, VRs g φ H ds vs → boolsOf ds = some bs → vs = bs.map L2.V.bl
  | _, _, _, .nil, e => by simp only [boolsOf] at e; cases e; rfl
  | _, _, _, .cons r t, e => by
    cases r with
    | bl b =>
      simp only [boolsOf] at e
      obtain ⟨bs', h1, h2⟩ := Option.map_eq_some_iff.mp e
      subst h2
      rw [bools_of t h1]; rfl
    | _ => simp [boolsOf] at e
theorem strs_of : ∀ {ds : List D} {vs : List V} {bs : List Str}, VRs g φ H ds vs → strsOf ds = some bs → vs = bs.map L2.V.str
  | _, _, _, .nil, e => by simp only [strsOf] at e; cases e; rfl
  | _, _, _, .cons r t, e => by
    cases r with
    | str b =>
      simp only [strsOf] at e
      obtain ⟨bs', h1, h2⟩ := Option.map_eq_some_iff.mp e
      subst h2
      rw [strs_of t h1]; rfl
    | _ => simp [strsOf] at e
def rLen (K : PySem.W.Frag) : List V → Hp → L2.VK → Prop := fun xs H Q => ∃ x n, xs = [x] ∧ L2.LenV K x H n ∧ Q (.int (n : Nat)) H
theorem len_ok {a : D} {x : V} (S : StoR g φ H st) (r : VR g φ H a x) (h : post (VR g) g φ H (biD .len a st) Q E) : rLen g.K [x] H Q := by
  cases r with
  | str z =>
    simp only [biD] at h
    split at h
    · rename_i hl
      exact ⟨_, z.length, rfl, ⟨lim_line hl, rfl⟩, ok_here S (.int _) h⟩
    · exact h.elim
  | @tup p ds vs hp hs => exact ⟨_, ds.length, rfl, .inr ⟨vs, L2.SqT.of hp, hs.length⟩, ok_here S (.int _) h⟩
  | @rof p ns o hp => exact ⟨_, ns.length, rfl, .inl ⟨_, .inl (.inr ⟨_, hp⟩), by rw [List.length_map]⟩, ok_here S (.int _) h⟩
  | @rok p ns hp => exact ⟨_, ns.length, rfl, .inl ⟨_, sq_up hp, by rw [List.length_map]⟩, ok_here S (.int _) h⟩
  | @ref n p hp =>
    simp only [biD] at h
    split at h
    · rename_i ds h1
      obtain ⟨vs, k1, k2⟩ := lst_at S h1 hp
      exact ⟨_, ds.length, rfl, .inl ⟨vs, L2.SqL.of k1, k2.length⟩, ok_here S (.int _) h⟩
    · exact h.elim
  | _ => exact h.elim
theorem all_ok {a : D} {x : V} (S : StoR g φ H st) (r : VR g φ H a x) (h : post (VR g) g φ H (biD .all a st) Q E) : L2.rAll g.K [x] H Q := by
  cases r with
  | @ref n p hp =>
    simp only [biD] at h
    split at h
    · rename_i ds h1
      split at h
      · rename_i bs hb
        obtain ⟨vs, k1, k2⟩ := lst_at S h1 hp
        exact ⟨p, bs, rfl, by rw [← bools_of k2 hb]; exact L2.SqL.of k1, ok_here S (.bl _) h⟩
      · exact h.elim
    · exact h.elim
  | _ => exact h.elim
theorem any_ok {a : D} {x : V} (S : StoR g φ H st) (r : VR g φ H a x) (h : post (VR g) g φ H (biD .any a st) Q E) : L2.rAny g.K [x] H Q := by
  cases r with
  | @ref n p hp =>
    simp only [biD] at h
    split at h
    · rename_i ds h1
      split at h
      · rename_i bs hb
        obtain ⟨vs, k1, k2⟩ := lst_at S h1 hp
        exact ⟨p, bs, rfl, by rw [← bools_of k2 hb]; exact L2.SqL.of k1, ok_here S (.bl _) h⟩
      · exact h.elim
    · exact h.elim
  | _ => exact h.elim
def rTupleOf (K : PySem.W.Frag) : List V → Hp → L2.VK → Prop := fun xs H Q => ∃ p ys, xs = [.ref p] ∧ ((L2.SqL K H p ys ∧ ∀ l, H l = none → Q (.ref l) (L2.upd H l (.tup ys))) ∨ (L2.SqT K H p ys ∧ Q (.ref p) H))
theorem tuple_ok {a : D} {x : V} (S : StoR g φ H st) (r : VR g φ H a x) (h : post (VR g) g φ H (biD .tuple a st) Q E) : rTupleOf g.K [x] H Q := by
  cases r with
  | @tup p ds vs hp hs => exact ⟨p, vs, rfl, .inr ⟨L2.SqT.of hp, ok_here S (.tup hp hs) h⟩⟩
  | @ref n p hp =>
    simp only [biD] at h
    split at h
    · rename_i ds h1
      obtain ⟨vs, k1, k2⟩ := lst_at S h1 hp
      exact ⟨p, vs, rfl, .inl ⟨L2.SqL.of k1, fun t ht => alloc_tup S k2 h ht⟩⟩
    · exact h.elim
  | _ => exact h.elim
def rInt1 : List V → Hp → L2.VK → Prop := fun xs H Q => (∃ i, xs = [.int i] ∧ Q (.int i) H) ∨ ∃ k, xs = [.bl k] ∧ Q (.int (if k then 1 else 0)) H
theorem int_ok {a : D} {x : V} (S : StoR g φ H st) (r : VR g φ H a x) (h : post (VR g) g φ H (biD .int a st) Q E) : rInt1 [x] H Q := by
  cases r with
  | int i => exact .inl ⟨i, rfl, ok_here S (.int _) h⟩
  | bl b => exact .inr ⟨b, rfl, ok_here S (.int _) h⟩
  | _ => exact h.elim

/-! ### sorted -/
theorem allAlike_of {ps : List PyData} (h : alikeB ps = true) : PySem.W.AllAlike ps := fun d hd d' hd' => List.all_eq_true.mp (List.all_eq_true.mp h d hd) d' hd'
theorem sortable_of {ps : List PyData} (h : (ps.all tupleB || ps.all otherB) = true) : PySem.W.Sortable ps := by
  rcases Bool.or_eq_true_iff.mp h with h | h
  · refine .inl fun d hd => ?_
    have q := List.all_eq_true.mp h d hd
    cases d with
    | tuple xs =>
      cases xs with
      | nil => cases q
      | cons x r => exact ⟨x, r, rfl⟩
    | _ => cases q
  · refine .inr fun d hd => ?_
    have q := List.all_eq_true.mp h d hd
    refine ⟨fun e => ?_, fun xs e => ?_⟩ <;> subst e <;> cases q
/-- what an item of the list is: its value, its meaning, its data -/
abbrev B3 := V × D × PyData
theorem b3_of (S : StoR g φ H st) : ∀ {ds : List D} {vs : List V} {ps : List (D × PyData)}, VRs g φ H ds vs → datasOf st ds = some ps →
    ∃ bs : List B3, bs.map (·.1) = vs ∧ bs.map (·.2) = ps ∧ ds = ps.map (·.1) ∧ ∀ b ∈ bs, VR g φ H b.2.1 b.1 ∧ L2.Dp g.K H b.1 b.2.2 ∧ b.2.2.depth ≤ 64
  | _, _, ps, .nil, e => by
    simp only [datasOf] at e; cases e
    exact ⟨[], rfl, rfl, rfl, fun _ h => nomatch h⟩
  | _, _, ps, .cons (d := d) (v := v) r t, e => by
    simp only [datasOf] at e
    split at e
    · rename_i p ps' e1 e2
      cases e
      obtain ⟨bs, h1, h2, h4, h3⟩ := b3_of S t e2
      obtain ⟨k1, k2, k3⟩ := dp_of S 64 d v p r e1
      refine ⟨(v, d, p) :: bs, by rw [List.map_cons, h1], by rw [List.map_cons, h2], by rw [List.map_cons, h4], fun b hb => ?_⟩
      rcases List.mem_cons.mp hb with rfl | hb
      · exact ⟨r, k1, k3⟩
      · exact h3 b hb
    · cases e
theorem each_vals : ∀ {bs : List B3} {us : List Value}, L2.Vals (bs.map (·.1)) us → PySem.W.EachIs (fun u (b : B3) => L2.RelV b.1 u) us bs
  | [], us, r => by
    cases r
    exact .nil
  | b :: bs, us, r => by
    cases r with
    | cons h t => exact .cons h (each_vals t)
theorem vals_each : ∀ {us : List Value} {bs : List B3}, PySem.W.EachIs (fun u (b : B3) => L2.RelV b.1 u) us bs → L2.Vals (bs.map (·.1)) us
  | _, _, .nil => .nil
  | _, _, .cons h t => .cons h (vals_each t)
theorem each_reads {X : L2.Cx} {pins : List (Addr × Obj)} {σ : L2.St} {H : Hp} {s : Shared} (I : L2.Inv X pins σ H s) : ∀ {bs : List B3} {us : List Value}, L2.Vals (bs.map (·.1)) us → (∀ b ∈ bs, L2.Dp X.K H b.1 b.2.2) →
    PySem.W.EachIs (fun u (b : B3) => ∃ as, Reads s.heap u b.2.2 as) us bs
  | [], us, r, _ => by
    cases r
    exact .nil
  | b :: bs, us, r, h => by
    cases r with
    | cons h1 t => exact .cons (L2.Dp.reads I _ _ _ (h b List.mem_cons_self) h1) (each_reads I t fun b hb => h b (List.mem_cons_of_mem _ hb))
def rSort3 (K : PySem.W.Frag) : List V → Hp → L2.VK → Prop := fun xs H Q => ∃ (a : Addr) (bs : List B3), xs = [.ref a] ∧ L2.SqL K H a (bs.map (·.1)) ∧ (∀ b ∈ bs, L2.Dp K H b.1 b.2.2 ∧ b.2.2.depth ≤ 64) ∧
  PySem.W.AllAlike (bs.map (·.2.2)) ∧ PySem.W.Sortable (bs.map (·.2.2)) ∧ bs.length ≤ sizeLine ∧
  ∀ p, H p = none → Q (.ref p) (L2.upd H p (.lst ((bs.mergeSort (PySem.W.dataLe false (·.2.2))).map (·.1))))
theorem cr_sort3 {X : L2.Cx} (hu : X.A.units + 66 < cLine) : L2.CallR X (.builtin "sorted") (rSort3 X.K) := by
  intro pins s σ H xs us Q I r h
  obtain ⟨a, bs, rfl, hs, hd, al, so, hz, q⟩ := h
  obtain ⟨its, rv, hl, _⟩ := I.list hs
  rw [L2.Vals.ref1 r]
  have e1 := each_vals rv
  refine PySem.W.sorted_data (bs := bs) (enc := fun b => b.2.2) hl.isList e1 (each_reads I rv fun b hb => (hd b hb).1) al so hz (fun b hb => by have := (hd b hb).2; omega) fun out ho he => ?_
  obtain ⟨ep, he'⟩ := PyProof.Rows.sortedAll_at s.heap its out.toArray
  have hv := vals_each he
  have new : L2.ObjOk X.prog X.w (L2.upd H (s.heap.objs.size + 1) (.lst ((bs.mergeSort (PySem.W.dataLe false (·.2.2))).map (·.1)))) (sortedAll s.heap its out.toArray) (s.heap.objs.size + 1) (.lst ((bs.mergeSort (PySem.W.dataLe false (·.2.2))).map (·.1))) :=
    ⟨by rw [List.length_map, List.length_mergeSort]; exact hz, out, ep, hv, he'⟩
  exact ⟨.ref _, _, I.laid (t' := s.toks) (fun _ _ => PyProof.Rows.sortedAll_old) (Nat.le_succ _) new, rfl, q _ (I.hok.fresh (Nat.le_succ _))⟩
theorem vrs_b3 : ∀ {bs : List B3}, (∀ b ∈ bs, VR g φ H b.2.1 b.1) → VRs g φ H (bs.map (·.2.1)) (bs.map (·.1))
  | [], _ => .nil
  | b :: bs, h => .cons (h b List.mem_cons_self) (vrs_b3 fun b hb => h b (List.mem_cons_of_mem _ hb))
theorem sorted_ok {a : D} {x : V} (S : StoR g φ H st) (r : VR g φ H a x) (h : post (VR g) g φ H (biD .sorted a st) Q E) : rSort3 g.K [x] H Q := by
  cases r with
  | @ref n p hp =>
    simp only [biD] at h
    split at h
    · rename_i ds h1
      split at h
      · rename_i es he
        obtain ⟨vs, k1, k2⟩ := lst_at S h1 hp
        unfold sortD at he
        split at he
        · rename_i ps hps
          split at he
          · rename_i hc
            cases he
            simp only [Bool.and_eq_true, decide_eq_true_eq] at hc
            obtain ⟨bs, b1, b2, b4, b3⟩ := b3_of S k2 hps
            have e2 : bs.map (·.2.2) = ps.map (·.2) := by rw [← b2, List.map_map]; rfl
            have hlen : bs.length = ds.length := by rw [b4, ← b2, List.length_map, List.length_map]
            refine ⟨p, bs, rfl, by rw [b1]; exact L2.SqL.of k1, fun b hb => (b3 b hb).2, by rw [e2]; exact allAlike_of hc.1.1, by rw [e2]; exact sortable_of (by simpa using hc.1.2), by rw [hlen]; exact lim_line hc.2, fun t ht => ?_⟩
            have e5 : (ps.mergeSort (PySem.W.dataLe false (·.2))).map (·.1) = (bs.mergeSort (PySem.W.dataLe false (·.2.2))).map (·.2.1) := by
              rw [← b2, ← List.map_mergeSort (f := fun b : B3 => b.2) (r := PySem.W.dataLe false (fun b : B3 => b.2.2)) (s := PySem.W.dataLe false (·.2)) (l := bs) (fun a _ b _ => rfl), List.map_map]; rfl
            rw [e5] at h
            refine alloc_lst S (vrs_b3 fun b hb => (b3 b ?_).1) h ht
            exact (List.mergeSort_perm bs _).mem_iff.mp hb
          · cases he
        · cases he
      · exact h.elim
    · exact h.elim
  | _ => exact h.elim
end
end IP

/-! IpF: dicts, by values. -/
namespace IP
open PySem PySem.Spec PyProof.Rows
/-! ### keys -/
mutual
theorem toKey_inj : ∀ (n m : Nat) (a b : D), keyT n a = true → keyT m b = true → toKey a = toKey b → a = b
  | n, m, .non, b, h1, h2, e => by
    cases b <;> first | rfl | (simp [toKey] at e; done) | (cases m <;> simp [keyT] at h2; done)
  | n, m, .int i, b, h1, h2, e => by
    cases b <;> first | (simp [toKey] at e; subst e; rfl) | (simp [toKey] at e; done) | (cases m <;> simp [keyT] at h2; done)
  | n, m, .str i, b, h1, h2, e => by
    cases b <;> first | (simp [toKey] at e; subst e; rfl) | (simp [toKey] at e; done) | (cases m <;> simp [keyT] at h2; done)
  | 0, m, .tup ds, b, h1, h2, e => by simp [keyT] at h1
  | n + 1, m, .tup ds, b, h1, h2, e => by
    cases b with
    | tup es =>
      cases m with
      | zero => simp [keyT] at h2
      | succ m =>
        simp only [toKey, NestedKey.tup.injEq] at e
        simp only [keyT] at h1 h2
        rw [toKeys_inj n m ds es h1 h2 e]
    | _ => first | (simp [toKey] at e; done) | (cases m <;> simp [keyT] at h2; done)
  | n, m, .bl _, b, h1, h2, e => by cases n <;> simp [keyT] at h1
  | n, m, .ref _, b, h1, h2, e => by cases n <;> simp [keyT] at h1
  | n, m, .ro _, b, h1, h2, e => by cases n <;> simp [keyT] at h1
  | n, m, .fn _, b, h1, h2, e => by cases n <;> simp [keyT] at h1
  | n, m, .exn _ _, b, h1, h2, e => by cases n <;> simp [keyT] at h1
theorem toKeys_inj : ∀ (n m : Nat) (a b : List D), keyTs n a = true → keyTs m b = true → toKeys a = toKeys b → a = b
  | n, m, [], b, h1, h2, e => by
    cases b with
    | nil => rfl
    | cons y ys => simp [toKeys] at e
  | n, m, x :: xs, b, h1, h2, e => by
    cases b with
    | nil => simp [toKeys] at e
    | cons y ys =>
      simp only [toKeys, List.cons.injEq] at e
      simp only [keyTs, Bool.and_eq_true] at h1 h2
      rw [toKey_inj n m x y h1.1 h2.1 e.1, toKeys_inj n m xs ys h1.2 h2.2 e.2]
end
theorem flat_cases {k : D} (h : keyKind k = some .flat) : (∃ i, k = .int i) ∨ ∃ x, k = .str x := by
  cases k with
  | int i => exact .inl ⟨i, rfl⟩
  | str x => exact .inr ⟨x, rfl⟩
  | tup ds => simp only [keyKind] at h; split at h <;> cases h
  | _ => cases h
theorem deep_cases {k : D} (h : keyKind k = some .deep) : ∃ ds, k = .tup ds ∧ keyTs 7 ds = true := by
  cases k with
  | tup ds =>
    simp only [keyKind] at h
    split at h
    · rename_i q; exact ⟨ds, rfl, q⟩
    · cases h
  | _ => cases h
theorem toFlat_inj {a b : D} (h1 : keyKind a = some .flat) (h2 : keyKind b = some .flat) (e : toFlat a = toFlat b) : a = b := by
  rcases flat_cases h1 with ⟨i, rfl⟩ | ⟨x, rfl⟩ <;> rcases flat_cases h2 with ⟨j, rfl⟩ | ⟨y, rfl⟩
  · cases e; rfl
  · cases e
  · cases e
  · cases e; rfl
theorem toKey_inj' {a b : D} (h1 : keyKind a = some .deep) (h2 : keyKind b = some .deep) (e : toKey a = toKey b) : a = b := by
  obtain ⟨ds, rfl, q1⟩ := deep_cases h1
  obtain ⟨es, rfl, q2⟩ := deep_cases h2
  exact toKey_inj 8 8 _ _ (by simpa [keyT] using q1) (by simpa [keyT] using q2) e
mutual
theorem key_depth : ∀ (n : Nat) (d : D), keyT n d = true → (toKey d).depth ≤ n
  | n, .non, h => by simp [toKey, NestedKey.depth]
  | n, .int _, h => by simp [toKey, NestedKey.depth]
  | n, .str _, h => by simp [toKey, NestedKey.depth]
  | 0, .tup _, h => by simp [keyT] at h
  | n + 1, .tup ds, h => by
    simp only [keyT] at h
    have := keys_depth n ds h
    simp only [toKey, NestedKey.depth]; omega
  | n, .bl _, h => by cases n <;> simp [keyT] at h
  | n, .ref _, h => by cases n <;> simp [keyT] at h
  | n, .ro _, h => by cases n <;> simp [keyT] at h
  | n, .fn _, h => by cases n <;> simp [keyT] at h
  | n, .exn _ _, h => by cases n <;> simp [keyT] at h
theorem keys_depth : ∀ (n : Nat) (ds : List D), keyTs n ds = true → NestedKey.depthAll (toKeys ds) ≤ n
  | n, [], h => by simp [toKeys, NestedKey.depthAll]
  | n, d :: ds, h => by
    simp only [keyTs, Bool.and_eq_true] at h
    have h1 := key_depth n d h.1
    have h2 := keys_depth n ds h.2
    simp only [toKeys, NestedKey.depthAll]; omega
end
section
variable {g : Gd} {φ : List Addr} {H : Hp} {h : Heap}
mutual
theorem nested_of (ok : L2.HOk g.P g.w H h) : ∀ (n : Nat) (d : D) (v : V) (u : Value), keyT n d = true → VR g φ H d v → L2.RelV v u → NestedIs h (toKey d) u
  | n, .non, _, _, k, r, ru => by cases r; cases ru; exact .none
  | n, .int i, _, _, k, r, ru => by
    cases r
    obtain ⟨t, rfl⟩ := ru
    exact .int i t
  | n, .str x, _, _, k, r, ru => by
    cases r
    obtain ⟨t, rfl⟩ := ru
    exact .text x t
  | 0, .tup _, _, _, k, r, ru => by simp [keyT] at k
  | n + 1, .tup ds, _, _, k, r, ru => by
    cases r with
    | tup hp hs =>
      cases ru
      obtain ⟨_, its, rv, o, h1, h2, m, h3⟩ := ok _ _ hp
      simp only [keyT] at k
      exact .tup h1 h2 h3 (by simpa using nesteds_of ok n ds _ its k hs rv)
  | n, .bl _, _, _, k, r, ru => by cases n <;> simp [keyT] at k
  | n, .ref _, _, _, k, r, ru => by cases n <;> simp [keyT] at k
  | n, .ro _, _, _, k, r, ru => by cases n <;> simp [keyT] at k
  | n, .fn _, _, _, k, r, ru => by cases n <;> simp [keyT] at k
  | n, .exn _ _, _, _, k, r, ru => by cases n <;> simp [keyT] at k
theorem nesteds_of (ok : L2.HOk g.P g.w H h) : ∀ (n : Nat) (ds : List D) (vs : List V) (us : List Value), keyTs n ds = true → VRs g φ H ds vs → L2.Vals vs us → NestedAll h (toKeys ds) us
  | n, [], _, _, k, r, ru => by cases r; cases ru; exact .nil
  | n, d :: ds, _, _, k, r, ru => by
    simp only [keyTs, Bool.and_eq_true] at k
    cases r with
    | cons r rs =>
      cases ru with
      | cons q qs => exact .cons (nested_of ok n d _ _ k.1 r q) (nesteds_of ok n ds _ _ k.2 rs qs)
end
theorem deep_is (ok : L2.HOk g.P g.w H h) {k : D} {b : Addr} (hk : keyKind k = some .deep) (r : VR g φ H k (.ref b)) : (nestedKind g.P g.w).is h (toKey k) b := by
  obtain ⟨ds, rfl, q⟩ := deep_cases hk
  exact ⟨nested_of ok 8 _ _ _ (by simpa [keyT] using q) r rfl, key_depth 8 _ (by simpa [keyT] using q)⟩
theorem flat_is {k : D} {v : V} {u : Value} (hk : keyKind k = some .flat) (r : VR g φ H k v) (ru : L2.RelV v u) : (L2.mixKind g.P g.w).is (toFlat k) u = true := by
  rcases flat_cases hk with ⟨i, rfl⟩ | ⟨x, rfl⟩
  · cases r
    exact L2.kV_is (k := .inl i) ru
  · cases r
    exact L2.kV_is (k := .inr x) ru
theorem deep_ref {k : D} {v : V} (hk : keyKind k = some .deep) (r : VR g φ H k v) : ∃ b, v = .ref b := by
  obtain ⟨ds, rfl, q⟩ := deep_cases hk
  cases r
  exact ⟨_, rfl⟩
/-! ### look-up, store -/
abbrev FlatP (g : Gd) (φ : List Addr) (H : Hp) : (D × D) → (L2.Key × Value) → Prop := fun p q => toFlat p.1 = q.1 ∧ ∃ v, VR g φ H p.2 v ∧ L2.RelV v q.2
abbrev DeepP (g : Gd) (φ : List Addr) (H : Hp) : (D × D) → (NestedKey × Addr × Value) → Prop := fun p q => toKey p.1 = q.1 ∧ VR g φ H p.1 (.ref q.2.1) ∧ ∃ v, VR g φ H p.2 v ∧ L2.RelV v q.2.2
/-- the value found, or none on both sides -/
def FoundR (g : Gd) (φ : List Addr) (H : Hp) : Option D → Option Value → Prop
  | some d, some u => ∃ v, VR g φ H d v ∧ L2.RelV v u
  | none, none => True
  | _, _ => False
theorem dget_cons (p : D × D) (kvs : List (D × D)) (k : D) : dget (p :: kvs) k = if p.1 = k then some p.2 else dget kvs k := by
  unfold dget
  by_cases e : p.1 = k <;> simp [List.find?_cons, e]
theorem flat_get {k : D} (hk : keyKind k = some .flat) : ∀ {kvs : List (D × D)} {vs : List (L2.Key × Value)}, Paired (FlatP g φ H) kvs vs → (∀ p ∈ kvs, keyKind p.1 = some .flat) → FoundR g φ H (dget kvs k) (valueAt vs (toFlat k))
  | _, _, .nil, _ => trivial
  | _, _, .cons (a := p) (b := q) r t, hf => by
    have ih := flat_get hk t fun p hp => hf p (List.mem_cons_of_mem _ hp)
    rw [dget_cons]
    unfold valueAt at ih ⊢
    rw [List.find?_cons]
    obtain ⟨e1, e2⟩ := r
    by_cases e : p.1 = k
    · have q1 : q.1 = toFlat k := by rw [← e1, e]
      simp only [e, q1, decide_true, if_true, Option.map_some]
      exact e2
    · have q1 : ¬ q.1 = toFlat k := fun z => e (toFlat_inj (hf p List.mem_cons_self) hk (e1.trans z))
      simp only [e, q1, decide_false, if_false]
      exact ih
theorem deep_get {k : D} (hk : keyKind k = some .deep) : ∀ {kvs : List (D × D)} {xs : List (NestedKey × Addr × Value)}, Paired (DeepP g φ H) kvs xs → (∀ p ∈ kvs, keyKind p.1 = some .deep) → FoundR g φ H (dget kvs k) ((atKey xs (toKey k)).map (·.2))
  | _, _, .nil, _ => trivial
  | _, _, .cons (a := p) (b := q) r t, hf => by
    have ih := deep_get hk t fun p hp => hf p (List.mem_cons_of_mem _ hp)
    rw [dget_cons]
    unfold atKey at ih ⊢
    rw [List.find?_cons]
    obtain ⟨e1, _, e2⟩ := r
    by_cases e : p.1 = k
    · have q1 : q.1 = toKey k := by rw [← e1, e]
      simp only [e, q1, decide_true, if_true, Option.map_some]
      exact e2
    · have q1 : ¬ q.1 = toKey k := fun z => e (toKey_inj' (hf p List.mem_cons_self) hk (e1.trans z))
      simp only [e, q1, decide_false, if_false]
      exact ih
theorem flat_any {k : D} (hk : keyKind k = some .flat) : ∀ {kvs : List (D × D)} {vs : List (L2.Key × Value)}, Paired (FlatP g φ H) kvs vs → (∀ p ∈ kvs, keyKind p.1 = some .flat) → (kvs.any fun p => decide (p.1 = k)) = vs.any fun q => decide (q.1 = toFlat k)
  | _, _, .nil, _ => rfl
  | _, _, .cons (a := p) (b := q) r t, hf => by
    rw [List.any_cons, List.any_cons, flat_any hk t fun p hp => hf p (List.mem_cons_of_mem _ hp)]
    congr 1
    obtain ⟨e1, _⟩ := r
    by_cases e : p.1 = k
    · rw [decide_eq_true e, decide_eq_true (by rw [← e1, e])]
    · rw [decide_eq_false e, decide_eq_false fun z => e (toFlat_inj (hf p List.mem_cons_self) hk (e1.trans z))]
theorem flat_repl {k d : D} {v : V} {u : Value} (hk : keyKind k = some .flat) (r0 : VR g φ H d v) (ru : L2.RelV v u) : ∀ {kvs : List (D × D)} {vs : List (L2.Key × Value)}, Paired (FlatP g φ H) kvs vs → (∀ p ∈ kvs, keyKind p.1 = some .flat) →
    Paired (FlatP g φ H) (kvs.map fun p => if p.1 = k then (p.1, d) else p) (vs.map fun q => if q.1 = toFlat k then (q.1, u) else q)
  | _, _, .nil, _ => .nil
  | _, _, .cons (a := p) (b := q) r t, hf => by
    rw [List.map_cons, List.map_cons]
    refine .cons ?_ (flat_repl hk r0 ru t fun p hp => hf p (List.mem_cons_of_mem _ hp))
    obtain ⟨e1, e2⟩ := r
    by_cases e : p.1 = k
    · rw [if_pos e, if_pos (by rw [← e1, e])]
      exact ⟨e1, v, r0, ru⟩
    · rw [if_neg e, if_neg fun z => e (toFlat_inj (hf p List.mem_cons_self) hk (e1.trans z))]
      exact ⟨e1, e2⟩
theorem paired_snoc {α β : Type} {F : α → β → Prop} {a : α} {b : β} (q : F a b) : ∀ {l : List α} {m : List β}, Paired F l m → Paired F (l ++ [a]) (m ++ [b])
  | _, _, .nil => .cons q .nil
  | _, _, .cons r t => .cons r (paired_snoc q t)
theorem flat_put {k d : D} {v : V} {u : Value} (hk : keyKind k = some .flat) (r0 : VR g φ H d v) (ru : L2.RelV v u) {kvs : List (D × D)} {vs : List (L2.Key × Value)} (r : Paired (FlatP g φ H) kvs vs) (hf : ∀ p ∈ kvs, keyKind p.1 = some .flat) :
    Paired (FlatP g φ H) (dput kvs k d) (stored vs (toFlat k) u) := by
  unfold dput stored
  rw [flat_any hk r hf]
  split
  · exact flat_repl hk r0 ru r hf
  · exact paired_snoc ⟨rfl, v, r0, ru⟩ r
theorem deep_at {k : D} (hk : keyKind k = some .deep) : ∀ {kvs : List (D × D)} {xs : List (NestedKey × Addr × Value)}, Paired (DeepP g φ H) kvs xs → (∀ p ∈ kvs, keyKind p.1 = some .deep) → (kvs.any fun p => decide (p.1 = k)) = (atKey xs (toKey k)).isSome
  | _, _, .nil, _ => rfl
  | _, _, .cons (a := p) (b := q) r t, hf => by
    have ih := deep_at hk t fun p hp => hf p (List.mem_cons_of_mem _ hp)
    rw [List.any_cons, ih]
    unfold atKey
    rw [List.find?_cons]
    obtain ⟨e1, _⟩ := r
    by_cases e : p.1 = k
    · rw [decide_eq_true e, decide_eq_true (by rw [← e1, e])]; simp
    · rw [decide_eq_false e, decide_eq_false fun z => e (toKey_inj' (hf p List.mem_cons_self) hk (e1.trans z))]; simp
theorem deep_repl {k d : D} {v : V} {u : Value} (hk : keyKind k = some .deep) (r0 : VR g φ H d v) (ru : L2.RelV v u) : ∀ {kvs : List (D × D)} {xs : List (NestedKey × Addr × Value)}, Paired (DeepP g φ H) kvs xs → (∀ p ∈ kvs, keyKind p.1 = some .deep) →
    Paired (DeepP g φ H) (kvs.map fun p => if p.1 = k then (p.1, d) else p) (xs.map (putAt (toKey k) u))
  | _, _, .nil, _ => .nil
  | _, _, .cons (a := p) (b := q) r t, hf => by
    rw [List.map_cons, List.map_cons]
    refine .cons ?_ (deep_repl hk r0 ru t fun p hp => hf p (List.mem_cons_of_mem _ hp))
    obtain ⟨e1, e0, e2⟩ := r
    unfold putAt
    by_cases e : p.1 = k
    · rw [if_pos e, if_pos (by rw [← e1, e])]
      exact ⟨e1, e0, v, r0, ru⟩
    · rw [if_neg e, if_neg fun z => e (toKey_inj' (hf p List.mem_cons_self) hk (e1.trans z))]
      exact ⟨e1, e0, e2⟩
theorem deep_put {k d : D} {v : V} {u : Value} {b : Addr} (hk : keyKind k = some .deep) (rk : VR g φ H k (.ref b)) (r0 : VR g φ H d v) (ru : L2.RelV v u) {kvs : List (D × D)} {xs : List (NestedKey × Addr × Value)} (r : Paired (DeepP g φ H) kvs xs) (hf : ∀ p ∈ kvs, keyKind p.1 = some .deep) :
    Paired (DeepP g φ H) (dput kvs k d) (storedH xs (toKey k) b u) := by
  unfold dput storedH
  rw [deep_at hk r hf]
  split
  · exact deep_repl hk r0 ru r hf
  · exact paired_snoc ⟨rfl, rk, v, r0, ru⟩ r
theorem dput_keys {kvs : List (D × D)} {k d : D} {kk : KK} (hk : keyKind k = some kk) (hf : ∀ p ∈ kvs, keyKind p.1 = some kk) : ∀ p ∈ dput kvs k d, keyKind p.1 = some kk := by
  unfold dput
  split
  · intro p hp
    obtain ⟨q, hq, e⟩ := List.mem_map.mp hp
    split at e
    · subst e; exact hf q hq
    · subst e; exact hf q hq
  · intro p hp
    rcases List.mem_append.mp hp with hp | hp
    · exact hf p hp
    · rw [List.mem_singleton.mp hp]; exact hk
theorem dput_length (kvs : List (D × D)) (k d : D) : (dput kvs k d).length ≤ kvs.length + 1 := by
  unfold dput
  split
  · rw [List.length_map]; omega
  · rw [List.length_append]; simp
theorem alikeK_of {kvs : List (D × D)} {k : D} (h : alikeK kvs k = true) : ∃ kk, keyKind k = some kk ∧ ∀ p ∈ kvs, keyKind p.1 = some kk := by
  unfold alikeK at h
  split at h
  · cases h
  · rename_i kk e
    exact ⟨kk, e, fun p hp => of_decide_eq_true (List.all_eq_true.mp h p hp)⟩
end

section
variable {X : L2.Cx} {pins : List (Addr × Obj)} {σ : L2.St} {H : Hp} {s : Shared} {a : Addr} {φ : List Addr} {kvs : List (D × D)}
theorem pin_get {o : Obj} (I : L2.Inv X pins σ H s) (e : H a = some (pinO a o)) : s.heap.get? a = some o := (I.hok a _ e).1
theorem pinO_ok {P : Program} {w : World} {H : Hp} {h : Heap} {a : Addr} {o : Obj} (e : h.get? a = some o) : L2.ObjOk P w H h a (pinO a o) := ⟨e, ⟨o, e⟩, fun h1 h2 q k => k o q⟩
/-- the dict at a, of keys like k: in the heap -/
theorem dic_heap {k : D} (I : L2.Inv X pins σ H s) (c : CellR (gd X) φ H a (.dic kvs)) (hk : alikeK kvs k = true) :
    (a == sysModules) = false ∧ ∃ o, H a = some (pinO a o) ∧ s.heap.get? a = some o ∧
    ((keyKind k = some .flat ∧ (∀ p ∈ kvs, keyKind p.1 = some .flat) ∧ ∃ vs, s.heap.DictOf (L2.mixKind X.prog X.w) a vs ∧ Paired (FlatP (gd X) φ H) kvs vs) ∨
     (keyKind k = some .deep ∧ (∀ p ∈ kvs, keyKind p.1 = some .deep) ∧ ∃ xs, s.heap.DictOfH (nestedKind X.prog X.w) a xs ∧ Paired (DeepP (gd X) φ H) kvs xs)) := by
  obtain ⟨o, h1, h2, h3, h4⟩ := c
  obtain ⟨kk, e1, e2⟩ := alikeK_of hk
  have ho := pin_get I h1
  refine ⟨h2, o, h1, ho, ?_⟩
  have isH : ∀ {xs : List (NestedKey × Addr × Value)} {es : Array DictEntry} {ep : Nat}, o.ExactDict → o.data = .dict es ep → es.toList = xs.map (entryOfKey (nestedKind X.prog X.w)) → (xs.map (·.1)).Nodup → (∀ p ∈ kvs, keyKind p.1 = some .deep) →
      Paired (DeepP (gd X) φ H) kvs xs → s.heap.DictOfH (nestedKind X.prog X.w) a xs := fun {xs es ep} q1 q2 q3 q4 q5 q6 => by
    refine ⟨o, es, ep, ho, q1, q2, q3, fun x hx => ?_, q4⟩
    have : ∀ {l : List (D × D)} {m : List (NestedKey × Addr × Value)}, Paired (DeepP (gd X) φ H) l m → (∀ p ∈ l, keyKind p.1 = some .deep) → ∀ x ∈ m, (nestedKind X.prog X.w).is s.heap x.1 x.2.1 := by
      intro l m r
      induction r with
      | nil => intro _ x hx; cases hx
      | cons r t ih =>
        intro hf x hx
        rcases List.mem_cons.mp hx with rfl | hx
        · rw [← r.1]
          exact deep_is (g := gd X) I.hok (hf _ List.mem_cons_self) r.2.1
        · exact ih (fun p hp => hf p (List.mem_cons_of_mem _ hp)) x hx
    exact this q6 q5 x hx
  rcases h4 with ⟨k1, vs, q, p⟩ | ⟨k1, xs, es, ep, q1, q2, q3, q4, p⟩
  · cases kk with
    | flat => exact .inl ⟨e1, e2, vs, q _ ho, p⟩
    | deep =>
      cases kvs with
      | nil =>
        cases p
        refine .inr ⟨e1, e2, [], ?_, .nil⟩
        obtain ⟨o', es, ep, h5, h6, h7, _, h8, _⟩ := q _ ho
        rw [ho] at h5; cases h5
        refine ⟨o, es, ep, ho, h6, h7, ?_, fun _ z => absurd z (by simp), List.nodup_nil⟩
        cases h8' : es.toList with
        | nil => rfl
        | cons y ys => rw [h8'] at h8; cases h8
      | cons p0 r =>
        have z1 := e2 p0 List.mem_cons_self
        rw [k1 p0 List.mem_cons_self] at z1; cases z1
  · cases kk with
    | deep => exact .inr ⟨e1, e2, xs, isH q1 q2 q3 q4 k1 p, p⟩
    | flat =>
      cases kvs with
      | nil =>
        cases p
        refine .inl ⟨e1, e2, [], ?_, .nil⟩
        have hes : es = #[] := Array.toList_inj.mp (by simpa using q3)
        subst hes
        exact ⟨o, #[], ep, ho, q1, q2, fun e he => absurd he (by simp), .nil, List.nodup_nil⟩
      | cons p0 r =>
        have z1 := e2 p0 List.mem_cons_self
        rw [k1 p0 List.mem_cons_self] at z1; cases z1
/-- behind a store: the new object is pinned -/
theorem dic_flat {g : Gd} {φ : List Addr} {H : Hp} {h : Heap} {a : Addr} {kvs : List (D × D)} {vs : List (L2.Key × Value)} (d : h.DictOf (L2.mixKind g.P g.w) a vs) (r : Paired (FlatP g φ H) kvs vs) (hf : ∀ p ∈ kvs, keyKind p.1 = some .flat) :
    ∃ o, h.get? a = some o ∧ FlatR g φ H a o kvs := by
  obtain ⟨o, es, ep, h1, h2⟩ := d
  refine ⟨o, h1, hf, vs, fun h' e => ⟨o, es, ep, e, h2⟩, r⟩
theorem dic_deep {g : Gd} {φ : List Addr} {H : Hp} {h : Heap} {a : Addr} {kvs : List (D × D)} {xs : List (NestedKey × Addr × Value)} (d : h.DictOfH (nestedKind g.P g.w) a xs) (r : Paired (DeepP g φ H) kvs xs) (hf : ∀ p ∈ kvs, keyKind p.1 = some .deep) :
    ∃ o, h.get? a = some o ∧ DeepR g φ H a o kvs := by
  obtain ⟨o, es, ep, h1, h2, h3, h4, h5, h6⟩ := d
  exact ⟨o, h1, hf, xs, es, ep, h2, h3, h4, h6, r⟩
variable {A : Around} {E : Value → Shared → Prop}
/-- the dict is told with its cell: what the reading of a dict's operation asks -/
def DicK (g : Gd) (H : Hp) (x y : V) (k : D) (kvs : List (D × D)) (φ : List Addr) (a : Addr) : Prop := x = .ref a ∧ VR g φ H k y ∧ CellR g φ H a (.dic kvs) ∧ alikeK kvs k = true
theorem d_get {k : D} {x y : V} {v u : Value} {Q : Value → Shared → Prop} (hu : A.units + 12 < cLine) (I : L2.Inv X pins σ H s) (c : DicK (gd X) H x y k kvs φ a) (rx : L2.RelV x v) (ry : L2.RelV y u) {d : D} (hd : dget kvs k = some d)
    (h : ∀ w u' s', L2.Inv X pins σ H s' → VR (gd X) φ H d w → L2.RelV w u' → Q u' s') : wpAny (model X.prog X.w) A (getItem v u) Q E s := by
  obtain ⟨rfl, rk, cr, al⟩ := c
  cases rx
  obtain ⟨h1, o, h2, h3, ⟨k1, k2, vs, k3, k4⟩ | ⟨k1, k2, xs, k3, k4⟩⟩ := dic_heap I cr al
  · have f := flat_get (g := gd X) k1 k4 k2
    rw [hd] at f
    cases q : valueAt vs (toFlat k) with
    | none => rw [q] at f; exact f.elim
    | some u' =>
      rw [q] at f
      obtain ⟨w, f1, f2⟩ := f
      exact wpAny_getItem_of (flat_is (g := gd X) k1 rk ry) k3.mapOf q (h w u' _ (I.tok _) f1 f2)
  · obtain ⟨b, rfl⟩ := deep_ref k1 rk
    cases ry
    have f := deep_get (g := gd X) k1 k4 k2
    rw [hd] at f
    cases q : atKey xs (toKey k) with
    | none => rw [q] at f; exact f.elim
    | some p =>
      rw [q] at f
      obtain ⟨w, f1, f2⟩ := f
      exact wpAny_getItem_heap (by show A.in1.units + 8 < cLine; show A.units + 1 + 8 < cLine; omega) (deep_is (g := gd X) I.hok k1 rk) k3 q (h w p.2 _ (I.tok _) f1 f2)
theorem d_getD {k d0 : D} {x y z : V} {v u r : Value} {Q : Value → Shared → Prop} (hu : A.units + 12 < cLine) (I : L2.Inv X pins σ H s) (c : DicK (gd X) H x y k kvs φ a) (rx : L2.RelV x v) (ry : L2.RelV y u) (rz : L2.RelV z r) (r0 : VR (gd X) φ H d0 z)
    (h : ∀ w u' s', L2.Inv X pins σ H s' → VR (gd X) φ H ((dget kvs k).getD d0) w → L2.RelV w u' → Q u' s') : wpAny (model X.prog X.w) A (call (.builtin "dict.get") [v, u, r]) Q E s := by
  obtain ⟨rfl, rk, cr, al⟩ := c
  cases rx
  obtain ⟨h1, o, h2, h3, ⟨k1, k2, vs, k3, k4⟩ | ⟨k1, k2, xs, k3, k4⟩⟩ := dic_heap I cr al
  · have f := flat_get (g := gd X) k1 k4 k2
    have fin : ∃ w, VR (gd X) φ H ((dget kvs k).getD d0) w ∧ L2.RelV w ((valueAt vs (toFlat k)).getD r) := by
      cases q1 : dget kvs k <;> cases q2 : valueAt vs (toFlat k) <;> rw [q1, q2] at f <;> first | exact f.elim | exact ⟨z, r0, rz⟩ | exact f
    obtain ⟨w, f1, f2⟩ := fin
    exact call_meetsIn PySem.F.slot_dict_get k3.typeIs PySem.F.entry_dict_get (PySem.F.args_dict_get_3 _ _ _) (meets_dict_get_default (L2.mixKind X.prog X.w) a (flat_is (g := gd X) k1 rk ry) h1 r) ⟨_, k3.mapOf, h w _ _ (I.tok _) f1 f2⟩
  · obtain ⟨b, rfl⟩ := deep_ref k1 rk
    cases ry
    have f := deep_get (g := gd X) k1 k4 k2
    have fin : ∃ w, VR (gd X) φ H ((dget kvs k).getD d0) w ∧ L2.RelV w (((atKey xs (toKey k)).map (·.2)).getD r) := by
      cases q1 : dget kvs k <;> cases q2 : (atKey xs (toKey k)).map (·.2) <;> rw [q1, q2] at f <;> first | exact f.elim | exact ⟨z, r0, rz⟩ | exact f
    obtain ⟨w, f1, f2⟩ := fin
    exact call_meetsIn PySem.F.slot_dict_get k3.typeIs PySem.F.entry_dict_get (PySem.F.args_dict_get_3 _ _ _) (meetsH_dict_get_default (nestedKind X.prog X.w) a b h1 r) ⟨by show A.in1.units + 8 < cLine; show A.units + 1 + 8 < cLine; omega, toKey k, xs, deep_is (g := gd X) I.hok k1 rk, k3, h w _ _ (I.tok _) f1 f2⟩
theorem found_isSome {g : Gd} {o : Option D} {u : Option Value} (f : FoundR g φ H o u) : o.isSome = u.isSome := by
  cases o <;> cases u <;> first | rfl | exact f.elim
theorem d_isin {k : D} {x y : V} {v u : Value} {Q : Value → Shared → Prop} (hu : A.units + 12 < cLine) (I : L2.Inv X pins σ H s) (c : DicK (gd X) H x y k kvs φ a) (rx : L2.RelV x v) (ry : L2.RelV y u)
    (h : ∀ s', L2.Inv X pins σ H s' → Q (.bool (dget kvs k).isSome) s') : wpAny (model X.prog X.w) A (compareOp .In u v) Q E s := by
  obtain ⟨rfl, rk, cr, al⟩ := c
  cases rx
  obtain ⟨h1, o, h2, h3, ⟨k1, k2, vs, k3, k4⟩ | ⟨k1, k2, xs, k3, k4⟩⟩ := dic_heap I cr al
  · refine wpAny_in_of (flat_is (g := gd X) k1 rk ry) h1 k3.mapOf ?_
    rw [← found_isSome (flat_get (g := gd X) k1 k4 k2)]
    exact h _ (I.tok _)
  · obtain ⟨b, rfl⟩ := deep_ref k1 rk
    cases ry
    refine wpAny_in_heap (by show A.in1.units + 8 < cLine; show A.units + 1 + 8 < cLine; omega) (deep_is (g := gd X) I.hok k1 rk) h1 k3 ?_
    have f := found_isSome (deep_get (g := gd X) k1 k4 k2)
    rw [Option.isSome_map] at f
    rw [← f]
    exact h _ (I.tok _)
theorem d_notin {k : D} {x y : V} {v u : Value} {Q : Value → Shared → Prop} (hu : A.units + 12 < cLine) (I : L2.Inv X pins σ H s) (c : DicK (gd X) H x y k kvs φ a) (rx : L2.RelV x v) (ry : L2.RelV y u)
    (h : ∀ s', L2.Inv X pins σ H s' → Q (.bool (!(dget kvs k).isSome)) s') : wpAny (model X.prog X.w) A (compareOp .NotIn u v) Q E s := by
  obtain ⟨rfl, rk, cr, al⟩ := c
  cases rx
  obtain ⟨h1, o, h2, h3, ⟨k1, k2, vs, k3, k4⟩ | ⟨k1, k2, xs, k3, k4⟩⟩ := dic_heap I cr al
  · refine wpAny_notIn_of (flat_is (g := gd X) k1 rk ry) h1 k3.mapOf ?_
    rw [← found_isSome (flat_get (g := gd X) k1 k4 k2)]
    exact h _ (I.tok _)
  · obtain ⟨b, rfl⟩ := deep_ref k1 rk
    cases ry
    refine wpAny_notIn_heap (by show A.in1.units + 8 < cLine; show A.units + 1 + 8 < cLine; omega) (deep_is (g := gd X) I.hok k1 rk) h1 k3 ?_
    have f := found_isSome (deep_get (g := gd X) k1 k4 k2)
    rw [Option.isSome_map] at f
    rw [← f]
    exact h _ (I.tok _)
theorem pin_stp {g : Gd} {φ : List Addr} {H : Hp} {a : Addr} {o o' : Obj} (e : H a = some (pinO a o)) (hm : a ∈ φ) : Stp φ H φ (L2.upd H a (pinO a o')) :=
  ⟨fun _ _ e => e, fun b u e' nb => by rw [L2.upd_ne (fun q => nb (by rw [q]; exact hm))]; exact e', fun b vs e' => by rw [L2.upd_ne (L2.ne_of e' e (fun z => nomatch z))]; exact e',
    fun b ob u e' => by rw [L2.upd_ne (L2.ne_of e' e (fun z => nomatch z))]; exact e', fun _ h n => absurd h n⟩
/-- d[k] = v -/
theorem d_set {k d : D} {x y z : V} {v u r : Value} {Q : Unit → Shared → Prop} (hu : A.units + 12 < cLine) (hm : a ∈ φ) (I : L2.Inv X pins σ H s) (c : DicK (gd X) H x y k kvs φ a) (rx : L2.RelV x v) (ry : L2.RelV y u) (rz : L2.RelV z r) (r0 : VR (gd X) φ H d z) (hl : kvs.length < LIM)
    (h : ∀ (o : HO) (s' : Shared), Stp φ H φ (L2.upd H a o) → CellR (gd X) φ (L2.upd H a o) a (.dic (dput kvs k d)) → L2.Inv X pins σ (L2.upd H a o) s' → Q () s') : wpAny (model X.prog X.w) A (setItem v u r) Q E s := by
  obtain ⟨rfl, rk, cr, al⟩ := c
  cases rx
  have hlen : (dput kvs k d).length ≤ LIM := by have := dput_length kvs k d; omega
  obtain ⟨h1, o, h2, h3, ⟨k1, k2, vs, k3, k4⟩ | ⟨k1, k2, xs, k3, k4⟩⟩ := dic_heap I cr al
  · have hz : vs.length ≤ sizeLine := by rw [← Paired.length k4]; exact lim_line (Nat.le_of_lt hl)
    refine wpAny_setItem_pairs (hsz := hz) (flat_is (g := gd X) k1 rk ry) k3 fun h' dd' hs => ?_
    obtain ⟨o', e1, f1⟩ := dic_flat (g := gd X) (φ := φ) (H := H) dd' (flat_put (g := gd X) k1 r0 rz k4 k2) (dput_keys k1 k2)
    have st := pin_stp (g := gd X) (o' := o') h2 hm
    refine h (pinO a o') _ st ⟨o', L2.upd_same, h1, hlen, .inl ?_⟩ (L2.d_write I (by rw [h2]; exact True.intro) hs ⟨_, e1⟩ (pinO_ok e1))
    obtain ⟨q1, vs', q2, q3⟩ := f1
    exact ⟨q1, vs', q2, Paired.mapR q3 fun _ _ ⟨z1, w, z2, z3⟩ => ⟨z1, w, z2.mono st, z3⟩⟩
  · obtain ⟨b, rfl⟩ := deep_ref k1 rk
    cases ry
    have hz : xs.length ≤ sizeLine := by rw [← Paired.length k4]; exact lim_line (Nat.le_of_lt hl)
    refine wpAny_setItem_heap (hsz := hz) (by show A.in1.units + 8 < cLine; show A.units + 1 + 8 < cLine; omega) (deep_is (g := gd X) I.hok k1 rk) k3 fun h' dd' hs => ?_
    obtain ⟨o', e1, f1⟩ := dic_deep (g := gd X) (φ := φ) (H := H) dd' (deep_put (g := gd X) k1 rk r0 rz k4 k2) (dput_keys k1 k2)
    have st := pin_stp (g := gd X) (o' := o') h2 hm
    refine h (pinO a o') _ st ⟨o', L2.upd_same, h1, hlen, .inr ?_⟩ (L2.d_write I (by rw [h2]; exact True.intro) hs ⟨_, e1⟩ (pinO_ok e1))
    obtain ⟨q1, xs', es, ep, q2, q3, q4, q5, q6⟩ := f1
    exact ⟨q1, xs', es, ep, q2, q3, q4, q5, Paired.mapR q6 fun _ _ ⟨z1, z0, w, z2, z3⟩ => ⟨z1, z0.mono st, w, z2.mono st, z3⟩⟩
end
end IP

/-! IpG: rules of the language's syntax that the hand layer lacks: methods of pinned dicts, stores, walks. -/
namespace IP
open PySem PySem.Spec PyProof.Rows
/-! ### syntax -/
def isStar : Expr → Bool
  | .Starred _ _ => true
  | _ => false
theorem star_cons {e : Expr} {es : List Expr} {env : PySem.Env} (h : isStar e = false) : starEach (e :: es) env = (false, eval e env) :: starEach es env := by
  cases e <;> first | rfl | cases h
theorem star_plain : ∀ {es : List Expr} {env : PySem.Env} {pos : Pos}, es.all (fun e => !isStar e) = true → (backTo pos (starEach es env)).any (·.1) = false
  | [], _, _, _ => rfl
  | e :: es, env, pos, h => by
    rw [List.all_cons, Bool.and_eq_true] at h
    have h1 : isStar e = false := by simpa using h.1
    rw [star_cons h1]
    show (false || (backTo pos (starEach es env)).any (·.1)) = false
    rw [star_plain h.2]; rfl
theorem star_all : ∀ {es : List Expr} {env : PySem.Env} {pos : Pos}, es.all (fun e => !isStar e) = true → (backTo pos (starEach es env)).all (fun x => !x.1) = true
  | [], _, _, _ => rfl
  | e :: es, env, pos, h => by
    rw [List.all_cons, Bool.and_eq_true] at h
    have h1 : isStar e = false := by simpa using h.1
    rw [star_cons h1]
    show (!false && (backTo pos (starEach es env)).all (fun x => !x.1)) = true
    rw [star_all h.2]; rfl
def isLc : Expr → Bool
  | .ListComp _ _ _ _ => true
  | .SetComp _ _ _ _ => true
  | .DictComp _ _ _ _ _ => true
  | _ => false
theorem swaps_no {e : Expr} {t : Option Expr} {l : Nat} {env : PySem.Env} (h : isLc e = false) : swapsWith e t l env = pure false := by
  cases e <;> first | rfl | cases h
def isSup : Expr → Bool
  | .Call (.Name _ _) [] [] _ => true
  | _ => false
theorem attr_base {o : Expr} {m : Str} {env : PySem.Env} {whole : Sem Value} (h : isSup o = false) : attributeBase o m env whole = whole := by
  unfold attributeBase
  split
  · cases h
  · rfl
def isSet : Expr → Bool
  | .Set _ _ _ => true
  | _ => false
theorem folded_no {e : Expr} {env : PySem.Env} (h : isSet e = false) (x : Value) : foldedSetIterable e env x = pure x := by
  cases e <;> first | rfl | cases h
theorem nomarks {b : Expr} {op : CmpOp} (h : isSet b = false) : behindInMarks op b = false := by
  cases b <;> first | rfl | cases h

theorem pe_or2 {X : L2.Cx} {e : Expr} {t t' : L2.TE} (h : L2.PE X e t) (h' : L2.PE X e t') : L2.PE X e (fun σ H Q => t σ H Q ∨ t' σ H Q) :=
  ⟨fun pins s σ H Q I q => q.elim (h.run pins s σ H Q I) (h'.run pins s σ H Q I)⟩
theorem ps_or2 {X : L2.Cx} {e : Stmt} {t t' : L2.TS} (h : L2.PS X e t) (h' : L2.PS X e t') : L2.PS X e (fun D σ H => t D σ H ∨ t' D σ H) :=
  ⟨fun pins s σ H D I q => q.elim (h.run pins s σ H D I) (h'.run pins s σ H D I)⟩
theorem pi_or2 {X : L2.Cx} {tg e : Expr} {t t' : L2.TI} (h : L2.PI X tg e t) (h' : L2.PI X tg e t') : L2.PI X tg e (fun σ H R => t σ H R ∨ t' σ H R) :=
  ⟨fun pins s σ H R I q => q.elim (h.run pins s σ H R I) (h'.run pins s σ H R I)⟩
theorem pg_or2 {X : L2.Cx} {tg : Expr} {t t' : L2.TG} (h : L2.PG X tg t) (h' : L2.PG X tg t') : L2.PG X tg (fun v σ H Q => t v σ H Q ∨ t' v σ H Q) :=
  ⟨fun pins s σ H v u Q I r q => q.elim (h.run pins s σ H v u Q I r) (h'.run pins s σ H v u Q I r)⟩
theorem pset_or2 {X : L2.Cx} {t t' : L2.TSet} (h : L2.PSet X t) (h' : L2.PSet X t') : L2.PSet X (fun o i v H Q => t o i v H Q ∨ t' o i v H Q) :=
  fun pins s σ H o i v ov iv u Q I r1 r2 r3 q => q.elim (h pins s σ H o i v ov iv u Q I r1 r2 r3) (h' pins s σ H o i v ov iv u Q I r1 r2 r3)

section
variable {X : L2.Cx}
/-- the receiver is a T -/
def IsT (X : L2.Cx) (T : String) (ty : V → Hp → Prop) : Prop :=
  ∀ (pins : List (Addr × Obj)) (s : Shared) (σ : L2.St) (H : Hp) (x : V) (v : Value), L2.Inv X pins σ H s → L2.RelV x v → ty x H → s.TypeIs v T ∧ ∀ a, v = .ref a → ∃ ob, s.heap.get? a = some ob ∧ ob.dict = none
theorem isT_ty {T : String} : IsT X T (L2.tyV X.K T) := fun pins s σ H x v I r t => L2.tyV_is I r t
def tyDic (x : V) (H : Hp) : Prop := ∃ (a : Addr) (o : Obj), x = .ref a ∧ H a = some (pinO a o) ∧ o.ExactDict
theorem isT_dic : IsT X "dict" tyDic := fun pins s σ H x v I r ⟨a, o, e1, e2, e3⟩ => by
  subst e1
  cases r
  have h := pin_get I e2
  exact ⟨⟨o, h, e3.1⟩, fun b q => by cases q; exact ⟨o, h, e3.2.1⟩⟩
theorem dic_ty {g : Gd} {φ : List Addr} {H : Hp} {a : Addr} {kvs : List (D × D)} (c : CellR g φ H a (.dic kvs)) (hok : ∃ h, L2.HOk g.P g.w H h) : tyDic (.ref a) H := by
  obtain ⟨o, h1, h2, h3, h4⟩ := c
  obtain ⟨h, hok⟩ := hok
  refine ⟨a, o, rfl, h1, ?_⟩
  rcases h4 with ⟨k1, vs, q, p⟩ | ⟨k1, xs, es, ep, q1, q2, q3, q4, p⟩
  · have e := (hok a _ h1).1
    obtain ⟨o', es, ep, h5, h6, _⟩ := q h e
    rw [e] at h5; cases h5; exact h6
  · exact q1
def tMt (ty : V → Hp → Prop) (r : V → List V → Hp → L2.VK → Prop) (to : L2.TE) (t : L2.TA) : L2.TE := fun σ H Q => to σ H fun x H1 => ty x H1 ∧ t σ H1 fun xs H2 => r x xs H2 Q
/-- o.m(e, ..), m a method of the built-in type T -/
theorem pe_mt {T id : String} {name : Str} {o e0 : Expr} {es : List Expr} {apos cpos : Pos} {ty : V → Hp → Prop} {r : V → List V → Hp → L2.VK → Prop} {to : L2.TE} {t : L2.TA} (hT : IsT X T ty) (pa : PlainAttrs T) (slot : Slot T name id) (hty : typeOf (.builtin id) = pure (.type "method_descriptor"))
    (hm : L2.MtR X id r) (ho : L2.PE X o to) (ha : L2.PA X (e0 :: es) t) (hb : isSup o = false) (hs : (e0 :: es).all (fun e => !isStar e) = true) (hl : (e0 :: es).length < 30) (hline : (apos.endLine == cpos.line) = true) : L2.PE X (.Call (.Attribute o name apos) (e0 :: es) [] cpos) (tMt ty r to t) := by
  refine ⟨fun pins s σ H Q I h => ?_⟩
  have few : ((backTo cpos (starEach (e0 :: es) X.env)).all (fun x => !x.1) && (backToKw cpos (keywordEach [] X.env)).all (fun x => x.1.isSome) && decide ((e0 :: es).length + ([] : List Keyword).length + (if ([] : List Keyword).isEmpty then 0 else 1) < 30)) = true := by
    rw [star_all hs]
    show (true && true && decide ((e0 :: es).length + 0 + 0 < 30)) = true
    simpa using hl
  refine wpAny_Call_method_late (attr_base hb) few hline rfl (L2.thn (ho.run pins s σ H _ I h) fun v s1 ⟨x, H1, I1, r1, t1, q1⟩ => ?_)
  obtain ⟨h1, h2⟩ := hT pins s1 σ H1 x v I1 r1 t1
  refine ⟨T, id, pa, slot, hty, h1, h2, ?_⟩
  have hA := ha.run cpos pins s1 σ H1 _ I1 q1
  have hs0 : isStar e0 = false := by
    rw [List.all_cons, Bool.and_eq_true] at hs
    simpa using hs.1
  have hp := star_plain (env := X.env) (pos := cpos) hs
  rw [star_cons hs0] at hA hp ⊢
  exact Calls.callWith_builtin hp (Calls.evalArgs_plain (L2.thn hA fun us s2 ⟨vs, H2, I2, r2, q2⟩ => hm pins s2 σ H2 x vs v us Q I2 r1 r2 q2))

/-! ### dicts -/
def tDG (X : L2.Cx) (td ty : L2.TE) : L2.TE := fun σ H Q => td σ H fun x H1 => ty σ H1 fun y H2 => ∃ (φ : List Addr) (a : Addr) (k d : D) (kvs : List (D × D)), DicK (gd X) H2 x y k kvs φ a ∧ dget kvs k = some d ∧ ∀ w, VR (gd X) φ H2 d w → Q w H2
def isSlice : Expr → Bool
  | .Slice _ _ _ _ => true
  | _ => false
theorem sub_no {i : Expr} (h : isSlice i = false) (o v : Value) : subscripted i false o v = operate [o, v] (getItem o v) := by
  cases i <;> first | rfl | cases h
theorem dicK_ty {H : Hp} {x y : V} {k : D} {kvs : List (D × D)} {φ : List Addr} {a : Addr} {pins : List (Addr × Obj)} {σ : L2.St} {s : Shared} (I : L2.Inv X pins σ H s) (c : DicK (gd X) H x y k kvs φ a) : tyDic x H := by
  obtain ⟨rfl, _, cr, _⟩ := c
  exact dic_ty cr ⟨s.heap, I.hok⟩
theorem pe_dgetI {o i : Expr} {td ty : L2.TE} {pos : Pos} (hu : X.A.units + 12 < cLine) (ho : L2.PE X o td) (hi : L2.PE X i ty) (hs : isSlice i = false) : L2.PE X (.Subscript o i pos) (tDG X td ty) := by
  refine ⟨fun pins s σ H Q I h => ?_⟩
  refine L2.subD_of PySem.F.slot_dict_getitem.lookup (sub_no hs) (L2.thn (ho.run pins s σ H _ I h) fun u s1 ⟨x, H1, I1, rx, q1⟩ => L2.thn (hi.run pins s1 σ H1 _ I1 q1) fun v s2 ⟨y, H2, I2, ry, q2⟩ => ?_)
  obtain ⟨φ, a, k, d, kvs, c, hd, q⟩ := q2
  exact ⟨(isT_dic pins s2 σ H2 x u I2 rx (dicK_ty I2 c)).1, d_get hu I2 c rx ry hd fun w u' s' I' r1 r2 => ⟨w, H2, I', r2, q w r1⟩⟩
def rDIn (X : L2.Cx) : L2.R2 := fun x y H Q => ∃ (φ : List Addr) (a : Addr) (k : D) (kvs : List (D × D)), DicK (gd X) H y x k kvs φ a ∧ Q (.bl (dget kvs k).isSome) H
def rDNi (X : L2.Cx) : L2.R2 := fun x y H Q => ∃ (φ : List Addr) (a : Addr) (k : D) (kvs : List (D × D)), DicK (gd X) H y x k kvs φ a ∧ Q (.bl (!(dget kvs k).isSome)) H
theorem op_din (hu : X.A.units + 12 < cLine) : L2.OpR X (compareOp .In) (rDIn X) := by
  intro pins s σ H x y v u Q I rx ry h
  obtain ⟨φ, a, k, kvs, c, q⟩ := h
  exact d_isin hu I c ry rx fun s' I' => ⟨.bl _, H, I', rfl, q⟩
theorem op_dni (hu : X.A.units + 12 < cLine) : L2.OpR X (compareOp .NotIn) (rDNi X) := by
  intro pins s σ H x y v u Q I rx ry h
  obtain ⟨φ, a, k, kvs, c, q⟩ := h
  exact d_notin hu I c ry rx fun s' I' => ⟨.bl _, H, I', rfl, q⟩
def rDPut (X : L2.Cx) : L2.TSet := fun o i v H Q => ∃ (φ : List Addr) (a : Addr) (k d : D) (kvs : List (D × D)), a ∈ φ ∧ DicK (gd X) H o i k kvs φ a ∧ VR (gd X) φ H d v ∧ kvs.length < LIM ∧
  ∀ o' : HO, Stp φ H φ (L2.upd H a o') → CellR (gd X) φ (L2.upd H a o') a (.dic (dput kvs k d)) → Q (L2.upd H a o')
theorem set_dic (hu : X.A.units + 12 < cLine) : L2.PSet X (rDPut X) := by
  intro pins s σ H o i v ov iv u Q I r1 r2 r3 h
  obtain ⟨φ, a, k, d, kvs, hm, c, rv, hl, q⟩ := h
  exact d_set hu hm I c r1 r2 r3 rv hl fun o' s' st cr I' => ⟨_, I', q o' st cr⟩
def rDGet2 (X : L2.Cx) : V → List V → Hp → L2.VK → Prop := fun x xs H Q => ∃ (φ : List Addr) (a : Addr) (k d : D) (y z : V) (kvs : List (D × D)), xs = [y, z] ∧ DicK (gd X) H x y k kvs φ a ∧ VR (gd X) φ H d z ∧ ∀ w, VR (gd X) φ H ((dget kvs k).getD d) w → Q w H
theorem mt_dget2 (hu : X.A.units + 12 < cLine) : L2.MtR X "dict.get" (rDGet2 X) := by
  intro pins s σ H x xs v us Q I rx rxs h
  obtain ⟨φ, a, k, d, y, z, kvs, rfl, c, rd, q⟩ := h
  obtain ⟨u1, u2, rfl, r1, r2⟩ := L2.Vals.two rxs
  exact d_getD hu I c rx r1 r2 rd fun w u' s' I' k1 k2 => ⟨w, H, I', k2, q w k1⟩
/-- {} -/
def tDNew : L2.TE := fun _ H Q => ∀ (p : Addr) (o : Obj), H p = none → (p == sysModules) = false → o = { cls := .type "dict", data := .dict #[] } → Q (.ref p) (L2.upd H p (pinO p o))
theorem pe_dnewI {pos : Pos} : L2.PE X (.Dict [] [] pos) tDNew := ⟨fun pins s σ H Q I h => by
  have hn := I.hok.fresh (Nat.le_refl s.heap.objs.size)
  have e : (s.heap.push { cls := .type "dict", data := .dict #[] }).get? s.heap.objs.size = some { cls := .type "dict", data := .dict #[] } := Heap.get?_push_size _ rfl
  exact wpAny_Dict_empty ⟨.ref s.heap.objs.size, _, I.laid (t' := s.toks) (fun _ _ q => Heap.get?_push_of_some _ q) (Nat.le_refl _) (pinO_ok e), rfl, h _ _ hn (beq_eq_false_iff_ne.mpr (Ne.symm (Nat.ne_of_lt I.big))) rfl⟩⟩
theorem dic_nil {g : Gd} {φ : List Addr} {H : Hp} {p : Addr} (hs : (p == sysModules) = false) (e : H p = some (pinO p { cls := .type "dict", data := .dict #[] })) : CellR g φ H p (.dic []) := by
  refine ⟨_, e, hs, Nat.zero_le _, .inl ⟨fun _ h => absurd h (by simp), [], fun h q => ⟨_, #[], 0, q, ⟨rfl, rfl, rfl⟩, rfl, fun e he => absurd he (by simp), .nil, List.nodup_nil⟩, .nil⟩⟩

/-- the entries' keys, in order -/
theorem dic_keys {φ : List Addr} {H : Hp} {s : Shared} {pins : List (Addr × Obj)} {σ : L2.St} {a : Addr} {kvs : List (D × D)} (I : L2.Inv X pins σ H s) (c : CellR (gd X) φ H a (.dic kvs)) :
    (a == sysModules) = false ∧ ∃ (o : Obj) (es : Array DictEntry) (ep : Nat), H a = some (pinO a o) ∧ s.heap.get? a = some o ∧ o.ExactDict ∧ o.data = .dict es ep ∧ es.size = kvs.length ∧
      ∀ (i : Nat) (p : D × D), kvs[i]? = some p → ∃ (en : DictEntry) (v : V), es[i]? = some en ∧ L2.RelV v en.key ∧ VR (gd X) φ H p.1 v := by
  obtain ⟨o, h1, h2, h3, h4⟩ := c
  have ho := pin_get I h1
  refine ⟨h2, o, ?_⟩
  rcases h4 with ⟨k1, vs, q, p⟩ | ⟨k1, xs, es, ep, q1, q2, q3, q4, p⟩
  · obtain ⟨o', es, ep, h5, h6, h7, h8, h9, h10⟩ := q _ ho
    rw [ho] at h5; cases h5
    have hl : es.toList.length = vs.length := h9.length
    have hl2 : kvs.length = vs.length := Paired.length p
    refine ⟨es, ep, h1, ho, h6, h7, by rw [← Array.length_toList, hl, hl2], fun i pr e => ?_⟩
    obtain ⟨b, hb, e1, w, e2, e3⟩ := L2.paired_get p e
    have key : ∀ {l : List DictEntry} {m : List (L2.Key × Value)}, Pairs (L2.mixKind X.prog X.w) l m → ∀ (j : Nat) (b : L2.Key × Value), m[j]? = some b → ∃ en, l[j]? = some en ∧ (L2.mixKind X.prog X.w).is b.1 en.key = true := by
      intro l m r
      induction r with
      | nil => intro j b hj; simp at hj
      | cons r1 r2 r3 ih =>
        intro j b hj
        cases j with
        | zero => simp at hj; subst hj; exact ⟨_, rfl, r1⟩
        | succ j => exact ih j b (by simpa using hj)
    obtain ⟨en, he1, he2⟩ := key h9 i b hb
    refine ⟨en, L2.kV (toFlat pr.1), by simpa using he1, ?_, ?_⟩
    · rw [e1]; exact L2.relV_key he2
    · rcases flat_cases (k1 pr (List.mem_of_getElem? e)) with ⟨j, ej⟩ | ⟨x, ej⟩
      · rw [ej]; exact .int j
      · rw [ej]; exact .str x
  · have l1 : es.size = xs.length := size_of_entries q3
    have l2 : kvs.length = xs.length := Paired.length p
    refine ⟨es, ep, h1, ho, q1, q2, by omega, fun i pr e => ?_⟩
    obtain ⟨b, hb, e1, e2, _⟩ := L2.paired_get p e
    have q := entry_at q3 i
    rw [hb] at q
    exact ⟨_, .ref b.2.1, q, rfl, e2⟩
/-- list(d) -/
def rListD (X : L2.Cx) : List V → Hp → L2.VK → Prop := fun xs H Q => ∃ (φ : List Addr) (a : Addr) (kvs : List (D × D)), xs = [.ref a] ∧ CellR (gd X) φ H a (.dic kvs) ∧ ∀ vs, VRs (gd X) φ H (kvs.map (·.1)) vs → ∀ p, H p = none → Q (.ref p) (L2.upd H p (.lst vs))
theorem vrs_of_at {g : Gd} {φ : List Addr} {H : Hp} : ∀ {ds : List D} {us : List Value}, ds.length = us.length → (∀ (i : Nat) (d : D) (u : Value), ds[i]? = some d → us[i]? = some u → ∃ v, VR g φ H d v ∧ L2.RelV v u) → ∃ vs, VRs g φ H ds vs ∧ L2.Vals vs us
  | [], [], _, _ => ⟨[], .nil, .nil⟩
  | [], _ :: _, e, _ => by simp at e
  | _ :: _, [], e, _ => by simp at e
  | d :: ds, u :: us, e, h => by
    obtain ⟨v, h1, h2⟩ := h 0 d u rfl rfl
    obtain ⟨vs, h3, h4⟩ := vrs_of_at (ds := ds) (us := us) (by simpa using e) fun i d' u' e1 e2 => h (i + 1) d' u' (by simpa using e1) (by simpa using e2)
    exact ⟨v :: vs, .cons h1 h3, .cons h2 h4⟩
theorem cr_listD (hc : X.calm = true) : L2.CallR X (.type "list") (rListD X) := by
  intro pins s σ H xs us Q I r h
  obtain ⟨φ, a, kvs, rfl, c, q⟩ := h
  obtain ⟨u, rfl, rx⟩ := r.one
  cases rx
  obtain ⟨hs, o, es, ep, h1, h2, h3, h4, h5, h6⟩ := dic_keys I c
  have hz : kvs.length ≤ sizeLine := by obtain ⟨_, _, _, z, _⟩ := c; exact lim_line z
  refine PySem.W.kdl_call (L2.kdl_raw hs h3 h4) (I.ok.hd hc) h2 (by omega) fun h' tk acc' c' kp e it => ?_
  have hl : acc'.toList.length = kvs.length := by rw [Array.length_toList, it.1]; exact h5
  obtain ⟨vs, k1, k2⟩ := vrs_of_at (g := gd X) (φ := φ) (H := H) (ds := kvs.map (·.1)) (us := acc'.toList) (by rw [List.length_map]; exact hl.symm) fun i d u e1 e2 => by
    rw [List.getElem?_map] at e1
    obtain ⟨p, hp, rfl⟩ := Option.map_eq_some_iff.mp e1
    obtain ⟨en, v, g1, g2, g3⟩ := h6 i p hp
    obtain ⟨en', g4, g5⟩ := it.2 i u (by rw [← Array.getElem?_toList]; exact e2)
    rw [g1] at g4; cases g4
    exact ⟨v, g3, by rw [g5]; exact g2⟩
  have hlen : vs.length ≤ sizeLine := by rw [← k1.length, List.length_map]; exact hz
  refine ⟨.ref s.heap.objs.size, _, I.laid (t' := tk) (o := .lst vs) kp (Nat.le_refl _) ?_, rfl, q _ k1 _ (I.hok.fresh (Nat.le_refl _))⟩
  exact ⟨hlen, acc'.toList, c', k2, by rw [Array.toArray_toList]; exact e⟩
end
end IP

/-! IpH: what is walked. -/
namespace IP
open PySem PySem.Spec PyProof.Rows
/-- J walks the items ds, while the watched cells stay -/
structure IterR (g : Gd) (φ : List Addr) (H : Hp) (ds : List D) (w : Watch) (J : L2.It) : Prop where
  go : ∀ (φ' : List Addr) (H' : Hp) (st' : Sto) (i : Nat), Stp φ H φ' H' → StoR g φ' H' st' → okW w st' = true → i < ds.length → J.go i H'
  yld : ∀ (φ' : List Addr) (H' : Hp) (st' : Sto) (i : Nat) (x : V) (H'' : Hp) (d : D), Stp φ H φ' H' → StoR g φ' H' st' → okW w st' = true → ds[i]? = some d → J.yld i H' x H'' → Stp φ' H' φ' H'' ∧ StoR g φ' H'' st' ∧ VR g φ' H'' d x
  stop : ∀ (φ' : List Addr) (H' : Hp) (st' : Sto), Stp φ H φ' H' → StoR g φ' H' st' → okW w st' = true → J.stop ds.length H'
theorem okW_at {n : Nat} {c : Cell} {st : Sto} {w : Watch} (h : okW w st = true) (hm : (n, c) ∈ w) : st[n]? = some c := of_decide_eq_true (List.all_eq_true.mp h (n, c) hm)
section
variable {g : Gd} {φ : List Addr} {H : Hp} {st : Sto}
theorem iter_lst {n : Nat} {a : Addr} {ds : List D} {w : Watch} (hn : φ[n]? = some a) (hw : (n, Cell.lst ds) ∈ w) : IterR g φ H ds w (L2.Itl g.K a) where
  go := fun φ' H' st' i s S k hi => by
    obtain ⟨vs, h1, h2⟩ := lst_at S (okW_at k hw) (s.pre _ _ hn)
    obtain ⟨v, h3, _⟩ := h2.get (List.getElem?_eq_getElem hi)
    exact ⟨vs, v, L2.SqL.of h1, h3⟩
  yld := fun φ' H' st' i x H'' d s S k hi y => by
    obtain ⟨vs, h1, h2⟩ := lst_at S (okW_at k hw) (s.pre _ _ hn)
    obtain ⟨v, h3, h4⟩ := h2.get hi
    obtain ⟨e, y⟩ := y
    subst e
    have := y vs (L2.SqL.of h1)
    rw [h3] at this; cases this
    exact ⟨Stp.refl _ _, S, h4⟩
  stop := fun φ' H' st' s S k => by
    obtain ⟨vs, h1, h2⟩ := lst_at S (okW_at k hw) (s.pre _ _ hn)
    exact ⟨vs, L2.SqL.of h1, by rw [h2.length]; exact Nat.le_refl _⟩
theorem iter_tup {a : Addr} {ds : List D} {vs : List V} (h : H a = some (.tup vs)) (r : VRs g φ H ds vs) : IterR g φ H ds [] (L2.Itt g.K a) where
  go := fun φ' H' st' i s S k hi => by
    obtain ⟨v, h3, _⟩ := r.get (List.getElem?_eq_getElem hi)
    exact ⟨vs, v, L2.SqT.of (s.tup _ _ h), h3⟩
  yld := fun φ' H' st' i x H'' d s S k hi y => by
    obtain ⟨v, h3, h4⟩ := (r.mono s).get hi
    obtain ⟨e, y⟩ := y
    subst e
    have := y vs (L2.SqT.of (s.tup _ _ h))
    rw [h3] at this; cases this
    exact ⟨Stp.refl _ _, S, h4⟩
  stop := fun φ' H' st' s S k => ⟨vs, L2.SqT.of (s.tup _ _ h), by rw [r.length]; exact Nat.le_refl _⟩
theorem sq_ro {φ' : List Addr} {H' : Hp} {a : Addr} {ns : List Int} (s : Stp φ H φ' H') (r : VR g φ H (.ro ns) (.ref a)) : L2.SqL g.K H' a (ns.map L2.V.int) := sq_of_ro (r.mono s)
theorem iter_ro {a : Addr} {ns : List Int} (r : VR g φ H (.ro ns) (.ref a)) : IterR g φ H (ns.map D.int) [] (L2.Itl g.K a) where
  go := fun φ' H' st' i s S k hi => by
    rw [List.length_map] at hi
    exact ⟨_, .int ns[i], sq_ro s r, by rw [List.getElem?_map, List.getElem?_eq_getElem hi]; rfl⟩
  yld := fun φ' H' st' i x H'' d s S k hi y => by
    obtain ⟨e, y⟩ := y
    subst e
    have q := y _ (sq_ro s r)
    rw [List.getElem?_map] at q hi
    obtain ⟨n, h1, h2⟩ := Option.map_eq_some_iff.mp q
    rw [h1] at hi
    cases hi
    subst h2
    exact ⟨Stp.refl _ _, S, .int n⟩
  stop := fun φ' H' st' s S k => ⟨_, sq_ro s r, by simp⟩
theorem iter_str {x : Str} : IterR g φ H (x.cps.toList.map fun c => D.str ⟨#[c]⟩) [] (L2.Its x) where
  go := fun φ' H' st' i s S k hi => by
    have h : i < x.cps.size := by simpa using hi
    exact h
  yld := fun φ' H' st' i v H'' d s S k hi y => by
    obtain ⟨e, c, h1, h2⟩ := y
    subst e h2
    rw [List.getElem?_map, Array.getElem?_toList, h1] at hi
    cases hi
    exact ⟨Stp.refl _ _, S, .str _⟩
  stop := fun φ' H' st' s S k => by show x.cps.size ≤ _; simp
theorem rngD_length : ∀ (n : Nat) (lo : Int), (rngD lo n).length = n
  | 0, _ => rfl
  | n + 1, lo => by rw [rngD, List.length_cons, rngD_length n]
theorem rngD_get : ∀ (n : Nat) (lo : Int) (i : Nat), i < n → (rngD lo n)[i]? = some (.int (lo + i))
  | 0, _, _, h => absurd h (Nat.not_lt_zero _)
  | n + 1, lo, 0, _ => by simp [rngD]
  | n + 1, lo, i + 1, h => by
    rw [rngD, List.getElem?_cons_succ, rngD_get n (lo + 1) i (by omega)]
    congr 2; omega
theorem iter_rng {lo : Int} {n : Nat} : IterR g φ H (rngD lo n) [] (L2.Itr lo n) where
  go := fun φ' H' st' i s S k hi => by rw [rngD_length] at hi; exact hi
  yld := fun φ' H' st' i v H'' d s S k hi y => by
    obtain ⟨e, h2⟩ := y
    subst e h2
    have hl : i < n := by
      have := (List.getElem?_eq_some_iff.mp hi).1
      rwa [rngD_length] at this
    rw [rngD_get n lo i hl] at hi
    cases hi
    exact ⟨Stp.refl _ _, S, .int _⟩
  stop := fun φ' H' st' s S k => by show n ≤ _; rw [rngD_length]; exact Nat.le_refl _
theorem zipI_length : ∀ (ds : List D) (k : Nat), (zipI k ds).length = ds.length
  | [], _ => rfl
  | d :: ds, k => by rw [zipI, List.length_cons, List.length_cons, zipI_length ds]
theorem zipI_get : ∀ (ds : List D) (k i : Nat) (d : D), (zipI k ds)[i]? = some d → ∃ e, ds[i]? = some e ∧ d = .tup [.int ((k + i : Nat) : Int), e]
  | [], _, _, _, h => by simp [zipI] at h
  | d :: ds, k, 0, e, h => by
    simp [zipI] at h
    exact ⟨d, rfl, by rw [← h]; simp⟩
  | d :: ds, k, i + 1, e, h => by
    rw [zipI, List.getElem?_cons_succ] at h
    obtain ⟨f, h1, h2⟩ := zipI_get ds (k + 1) i e h
    exact ⟨f, by simpa using h1, by rw [h2]; congr 3; omega⟩
theorem laid_tup {φ' : List Addr} {H' : Hp} {st' : Sto} {T : Addr} {ds : List D} {vs : List V} (S : StoR g φ' H' st') (hT : H' T = none) (r : VRs g φ' H' ds vs) :
    Stp φ' H' φ' (L2.upd H' T (.tup vs)) ∧ StoR g φ' (L2.upd H' T (.tup vs)) st' ∧ VR g φ' (L2.upd H' T (.tup vs)) (.tup ds) (.ref T) := by
  obtain ⟨s, S'⟩ := S.laid (o := .tup vs) hT
  exact ⟨s, S', .tup L2.upd_same (r.mono s)⟩
theorem iter_enmL {n : Nat} {a : Addr} {ds : List D} (hn : φ[n]? = some a) : IterR g φ H (zipI 0 ds) [(n, Cell.lst ds)] (L2.Ite g.K a) where
  go := fun φ' H' st' i s S k hi => by
    rw [zipI_length] at hi
    obtain ⟨vs, h1, h2⟩ := lst_at S (okW_at (n := n) (c := .lst ds) k (by simp)) (s.pre _ _ hn)
    obtain ⟨v, h3, _⟩ := h2.get (List.getElem?_eq_getElem hi)
    exact ⟨vs, v, L2.SqL.of h1, h3⟩
  yld := fun φ' H' st' i x H'' d s S k hi y => by
    obtain ⟨e, he, hd⟩ := zipI_get ds 0 i d hi
    subst hd
    obtain ⟨vs, h1, h2⟩ := lst_at S (okW_at (n := n) (c := .lst ds) k (by simp)) (s.pre _ _ hn)
    obtain ⟨v, h3, h4⟩ := h2.get he
    obtain ⟨T, x', rfl, hT, rfl, hx⟩ := y
    have := hx vs (L2.SqL.of h1)
    rw [h3] at this; cases this
    rw [Nat.zero_add]
    exact laid_tup S hT (.cons (.int _) (.cons h4 .nil))
  stop := fun φ' H' st' s S k => by
    obtain ⟨vs, h1, h2⟩ := lst_at S (okW_at (n := n) (c := .lst ds) k (by simp)) (s.pre _ _ hn)
    exact ⟨vs, L2.SqL.of h1, by rw [zipI_length, h2.length]; exact Nat.le_refl _⟩
end

/-! ### enumerate(tuple) -/
/-- the tuple at a, each item in a new pair -/
def ItEt (K : PySem.W.Frag) (a : Addr) : L2.It :=
  ⟨fun i H => ∃ (xs : List V) (x : V), L2.SqT K H a xs ∧ xs[i]? = some x, fun i H v H' => ∃ T x, v = .ref T ∧ H T = none ∧ H' = L2.upd H T (.tup [.int (i : Nat), x]) ∧ ∀ xs, L2.SqT K H a xs → xs[i]? = some x, fun i H => ∃ xs : List V, L2.SqT K H a xs ∧ xs.length ≤ i⟩
theorem iter_enmT {g : Gd} {φ : List Addr} {H : Hp} {a : Addr} {ds : List D} {vs : List V} (h : H a = some (.tup vs)) (r : VRs g φ H ds vs) : IterR g φ H (zipI 0 ds) [] (ItEt g.K a) where
  go := fun φ' H' st' i s S k hi => by
    rw [zipI_length] at hi
    obtain ⟨v, h3, _⟩ := r.get (List.getElem?_eq_getElem hi)
    exact ⟨vs, v, L2.SqT.of (s.tup _ _ h), h3⟩
  yld := fun φ' H' st' i x H'' d s S k hi y => by
    obtain ⟨e, he, hd⟩ := zipI_get ds 0 i d hi
    subst hd
    obtain ⟨v, h3, h4⟩ := (r.mono s).get he
    obtain ⟨T, x', rfl, hT, rfl, hx⟩ := y
    have := hx vs (L2.SqT.of (s.tup _ _ h))
    rw [h3] at this; cases this
    rw [Nat.zero_add]
    exact laid_tup S hT (.cons (.int _) (.cons h4 .nil))
  stop := fun φ' H' st' s S k => ⟨vs, L2.SqT.of (s.tup _ _ h), by rw [zipI_length, r.length]; exact Nat.le_refl _⟩
namespace EnumT
theorem new_meets {v : Value} {o : Obj} {T : Heap → Prop} (B : Begins v o T) :
    Meets (Builtin.«enumerate.__new__» ⟨[.type "enumerate", v], []⟩) (fun _ R s => T s.heap ∧
      R (.ok (.ret (.ref (s.heap.push o).objs.size)))
        { s with heap := (s.heap.push o).push { cls := .type "enumerate", data := .fields #[.none, .bool false, .ref s.heap.objs.size, rawInt 0, .none, .none] } }) := by
  refine .of_wp fun prog w A R s h => ?_
  obtain ⟨hp, gs, dr, tks, oss⟩ := s
  obtain ⟨b1, b2⟩ := h
  have sb := sub_enumerate
  have it1 : ∀ {A' : Around} {E : Value → Shared → Prop} {Q : Value → Shared → Prop}, Q (.ref hp.objs.size) ⟨hp.push o, gs, dr, tks, oss⟩ → wpAny (model prog w) A' (pyIter v) Q E ⟨hp, gs, dr, tks, oss⟩ :=
    fun z => B.iter prog w _ _ ⟨hp, gs, dr, tks, oss⟩ _ b1 z
  wp_walk using it1
  refine wpAny_stack_any fun stk => wpAny_pure (?_)
  split
  · rename_i cc _ _ _ _ _
    cases (cc == Value.type "enumerate") <;> (wp_walk using it1; exact ⟨_, rfl, b2⟩)
  · wp_walk using it1
    exact ⟨_, rfl, b2⟩
theorem call_new {prog : Program} {w : World} {A : Around} {E : Value → Shared → Prop} {s : Shared} {v : Value} {o : Obj} {T : Heap → Prop} {Q : Value → Shared → Prop} (B : Begins v o T) (t1 : T s.heap)
    (q : ∀ h', IsEnum h' (s.heap.objs.size + 1) s.heap.objs.size 0 .none → h'.get? s.heap.objs.size = some o →
      (∀ b u, s.heap.get? b = some u → h'.get? b = some u) → Q (.ref (s.heap.objs.size + 1)) { s with heap := h' }) : wpAny (model prog w) A (call (.type "enumerate") [v]) Q E s := by
  refine callType_new PySem.F.called_enumerate (by decide) (PySem.F.typeCall_enumerate_1 _) (PySem.F.newCall_enumerate_1 _) (fun ob => PySem.F.args_object_init_2 ob _) PySem.F.entry_enumerate_new (new_meets B) ⟨t1, ?_⟩
  have sz : (s.heap.push o).objs.size = s.heap.objs.size + 1 := Heap.size_push _ _
  have at2 : ((s.heap.push o).push { cls := .type "enumerate", data := .fields #[.none, .bool false, .ref s.heap.objs.size, rawInt 0, .none, .none] }).get? (s.heap.objs.size + 1) = some { cls := .type "enumerate", data := .fields #[.none, .bool false, .ref s.heap.objs.size, rawInt 0, .none, .none] } := by
    have z := Heap.get?_push_size (s.heap.push o) (o := { cls := .type "enumerate", data := .fields #[.none, .bool false, .ref s.heap.objs.size, rawInt 0, .none, .none] }) rfl
    rwa [sz] at z
  rw [sz]
  exact ⟨⟨_, at2, rfl⟩, q _ at2 (Heap.get?_push_of_some _ (Heap.get?_push_size _ B.free)) fun b u x => Heap.get?_push_of_some _ (Heap.get?_push_of_some _ x)⟩
end EnumT
end IP

/-! IpI: for i, x in enumerate(tuple); for k in dict. -/
namespace IP
open PySem PySem.Spec PyProof.Rows
section
variable {P : Program} {w : World} {K : PySem.W.Frag} {elts : List Expr} {kk : Nat} {tpos : Pos}
theorem turn_enmT (a e it : Addr) (hat : a ≠ it) (hae : a ≠ e) :
    L2.Turn P w K (.Tuple elts kk tpos) (ItEt K a) [e, it] e (fun i h => (∃ old, IsEnum h e it ((i : Nat) : Int) old) ∧ h.IsTupleIter it a i ∧ e ≠ it) where
  mem := List.mem_cons_self
  obj := fun i h st b hb => by
    obtain ⟨⟨old, he⟩, ⟨o, ho, hc, hd⟩, _⟩ := st
    rcases List.mem_cons.mp hb with z | z
    · subst z; exact ⟨_, he, fun v q => nomatch q⟩
    · rw [List.mem_singleton.mp z]; exact ⟨o, ho, fun v q => by rw [hd] at q; cases q⟩
  keep := fun i h h' st k => by
    obtain ⟨⟨old, he⟩, hi, hne⟩ := st
    exact ⟨⟨old, k e List.mem_cons_self _ he⟩, hi.at fun o q => k it (List.mem_cons_of_mem _ List.mem_cons_self) o q, hne⟩
  item := by
    intro X e1 e2 e3 hc i pins s σ H E I hf st hg
    subst e1 e2 e3
    obtain ⟨⟨old, he⟩, hit, hne⟩ := st
    obtain ⟨xs, x, hq, hx⟩ := hg
    obtain ⟨its, rv, p, hz⟩ := I.tuple hq
    obtain ⟨u, hu, ru⟩ := rv.get hx
    have hil : i < its.toArray.size := by
      have := (List.getElem?_eq_some_iff.mp hu).1
      simpa using this
    have lt_e : e < s.heap.objs.size := Heap.lt_size he
    have lt_i : it < s.heap.objs.size := by obtain ⟨_, q, _⟩ := hit; exact Heap.lt_size q
    have hh : X.A.in1.handled = none := I.ok.hd hc
    have pT : s.heap.IsTuple a its.toArray := p
    refine wpAny_pyNext_enum_itemD (Draws.tuple hh it a hat its.toArray) he ⟨hit, pT⟩ hil hne (by simp [hne, hae.symm]) fun y h1 tk hy oe st1 hT hsz k1 => ?_
    have ey : y = u := by
      have q1 : its.toArray[i]? = some y := hy
      rw [List.getElem?_toArray, hu] at q1
      exact (Option.some.inj q1).symm
    subst ey
    refine ⟨_, rfl, wpAny_letOwnedTupleGo_enum (s := { s with heap := h1, toks := tk + 1 }) oe fun h2 he2 sb => ?_⟩
    have hT2 : h2.get? s.heap.objs.size = some { cls := .type "tuple", data := .seq #[.int i tk, y] } := (sb.2 _ (Nat.ne_of_gt lt_e)).trans hT
    have new : L2.ObjOk X.prog X.w (L2.upd H s.heap.objs.size (.tup [.int (i : Nat), x])) h2 s.heap.objs.size (.tup [.int (i : Nat), x]) :=
      ⟨by show 2 ≤ sizeLine; rw [sizeLine_eq]; decide, [.int i tk, y], .cons ⟨_, rfl⟩ (.cons ru .nil), ⟨_, hT2, rfl, _, rfl⟩⟩
    have I1 : L2.Inv X pins σ (L2.upd H s.heap.objs.size (.tup [.int (i : Nat), x])) { s with heap := h2, toks := tk + 1 } :=
      I.turnedNew (ch := [e, it]) (fun b ob hb q => by
        simp only [List.mem_cons, List.not_mem_nil, or_false, not_or] at hb
        exact (sb.2 b hb.1).trans (k1 b ob hb.1 hb.2 q)) hf (Nat.le_refl _) new
    refine ⟨.ref s.heap.objs.size, _, I1, rfl, ⟨_, x, rfl, I.hok.fresh (Nat.le_refl _), rfl, fun ys hy => by rw [I.tuple_inj hy hq]; exact hx⟩, ⟨⟨y, by rw [show (((i + 1 : Nat)) : Int) = (i : Int) + 1 by omega]; exact he2⟩, st1.1.at fun o q => (sb.2 it (Ne.symm hne)).trans q, hne⟩, fun b hb => ?_⟩
    have hb' : b < s.heap.objs.size := by
      rcases List.mem_cons.mp hb with z | z
      · rw [z]; exact lt_e
      · rw [List.mem_singleton.mp z]; exact lt_i
    rw [L2.upd_ne (Nat.ne_of_lt hb')]
    exact (hf b hb).1
  done := by
    intro X e1 e2 e3 hc i pins s σ H E I hf st hg
    subst e1 e2 e3
    obtain ⟨⟨old, he⟩, hit, hne⟩ := st
    obtain ⟨xs, hq, hx⟩ := hg
    obtain ⟨its, rv, p, hz⟩ := I.tuple hq
    obtain ⟨f0, f1, f2, f3, f4, f5⟩ := hf it (List.mem_cons_of_mem _ List.mem_cons_self)
    have hl := rv.length
    have hh : X.A.in1.handled = none := I.ok.hd hc
    have D0 : Draws X.prog X.w X.A.in1 it [it, a] i (fun _ _ => False) (fun j h => j = i ∧ h.IsTupleIter it a i ∧ h.IsTuple a its.toArray) := by
      refine ⟨fun j h st => by obtain ⟨_, ⟨o, ho, _⟩, _⟩ := st; exact ⟨o, ho⟩, fun j h h' st k => ⟨st.1, st.2.1.at fun o q => k it (by simp) o q, st.2.2.at fun o q => k a (by simp) o q⟩, fun j s Q E hj st _ => absurd hj (by rw [st.1]; exact Nat.lt_irrefl _), fun s Q E st q => ?_⟩
      obtain ⟨_, t1, t2⟩ := st
      exact wpAny_nextOf_tuple_end hh t1 t2 (by simp; omega) q
    exact wpAny_pyNext_enum_endD D0 he ⟨rfl, hit, p⟩ fun h' eb => ⟨rfl, I.turned (t' := s.toks) (fun b o hb q => eb b o hb q) f0 f1 f3 f4 f5⟩
  self := fun A i s Q E st h => by
    obtain ⟨⟨_, he⟩, _⟩ := st
    exact wpAny_pyIter_enum he h
end
end IP
namespace IP
open PySem PySem.Spec PyProof.Rows
section
variable {X : L2.Cx}
def iEnmT (K : PySem.W.Frag) (ta : L2.TA) : L2.TI := fun σ H R => ta σ H fun vs H1 => ∃ a xs, vs = [.ref a] ∧ L2.SqT K H1 a xs ∧ R (ItEt K a) H1
theorem pi_enmT {e : Expr} {ta : L2.TA} {p pos tpos : Pos} {elts : List Expr} {kk : Nat} (hg : L2.Gl X "enumerate") (hm : X.mg "enumerate" = none) (ha : L2.PA X [e] ta) (hs : starEach [e] X.env = [(false, eval e X.env)]) :
    L2.PI X (.Tuple elts kk tpos) (.Call (.Name "enumerate" p) [e] [] pos) (iEnmT X.K ta) := by
  refine ⟨fun pins s σ H R I h => ?_⟩
  refine Call_ (L2.ld_blt I hg hm boot_enumerate (PyProof.Rows.callWith_type1 (L2.thn (ha.run pos pins s σ H _ I h) fun us s1 ⟨vs, H1, I1, r1, q1⟩ => ?_) hs rfl))
  obtain ⟨a, xs, ex, hq, q⟩ := q1
  subst ex
  obtain ⟨u, rfl, r⟩ := L2.Vals.one r1
  cases r
  obtain ⟨its, rv, p', hz⟩ := I1.tuple hq
  have pT : s1.heap.IsTuple a its.toArray := p'
  have lt_a : a < s1.heap.objs.size := p'.lt
  refine EnumT.call_new (begins_tuple a its.toArray) pT fun h1 he hit hk => wpAny_pyIter_enum he ?_
  have I2 : L2.Inv X pins σ H1 { s1 with heap := h1 } := I1.kept (t' := s1.toks) hk
  have ti : h1.IsTupleIter s1.heap.objs.size a 0 := ⟨_, hit, rfl, rfl⟩
  refine ⟨s1.heap.objs.size + 1, [s1.heap.objs.size + 1, s1.heap.objs.size], _, _, H1, rfl, I2, turn_enmT a (s1.heap.objs.size + 1) s1.heap.objs.size (Nat.ne_of_lt lt_a) (Nat.ne_of_lt (Nat.lt_succ_of_lt lt_a)), ⟨⟨.none, he⟩, ti, Nat.succ_ne_self _⟩, fun b hb => ?_, q⟩
  have le_b : s1.heap.objs.size ≤ b := by
    rcases List.mem_cons.mp hb with z | z
    · rw [z]; exact Nat.le_add_right _ _
    · rw [List.mem_singleton.mp z]; exact Nat.le_refl _
  exact I1.fpOk le_b (I1.hok.fresh le_b)

/-! ### isinstance -/
def tyName : Ty → String
  | .int => "int"
  | .bool => "bool"
  | .str => "str"
  | .tuple => "tuple"
  | .list => "list"
def vTy : V → Hp → Option String
  | .non, _ => some "NoneType"
  | .bl _, _ => some "bool"
  | .int _, _ => some "int"
  | .str _, _ => some "str"
  | .ref a, H => match H a with
    | some (.tup _) => some "tuple"
    | some (.lst _) => some "list"
    | _ => none
  | _, _ => none
theorem tyX_of {K : PySem.W.Frag} {H : Hp} {x : V} {t : String} (h : vTy x H = some t) : L2.TyX K H x (.type t) := by
  cases x with
  | non => cases h; exact .base .non
  | bl b => cases h; exact .base (.bl b)
  | int i => cases h; exact .base (.int i)
  | str z => cases h; exact .base (.str z)
  | ref a =>
    simp only [vTy] at h
    split at h
    · rename_i vs e; cases h; exact .base (.tup e)
    · rename_i vs e; cases h; exact .base (.lst e)
    · cases h
  | _ => cases h
def subTy : String → Ty → Bool
  | "bool", .int => true
  | "bool", .bool => true
  | "int", .int => true
  | "str", .str => true
  | "tuple", .tuple => true
  | "list", .list => true
  | _, _ => false
theorem kit_of {K : PySem.W.Frag} {H : Hp} {x : V} {t : String} {T : Ty} (h : vTy x H = some t) : PySem.W.kitOne K (.type t) (.type (tyName T)) = some (subTy t T) := by
  have ht : t = "NoneType" ∨ t = "bool" ∨ t = "int" ∨ t = "str" ∨ t = "tuple" ∨ t = "list" := by
    cases x with
    | non => cases h; simp
    | bl b => cases h; simp
    | int i => cases h; simp
    | str z => cases h; simp
    | ref a =>
      simp only [vTy] at h
      split at h <;> cases h <;> simp
    | _ => cases h
  rcases ht with rfl | rfl | rfl | rfl | rfl | rfl <;> cases T <;> exact L2.kit_ty (by decide +kernel)
theorem isT_ok {g : Gd} {φ : List Addr} {H : Hp} {st : Sto} {a : D} {x : V} {T : Ty} {b : Bool} (S : StoR g φ H st) (r : VR g φ H a x) (h : isTD a T st = some b) : ∃ t, vTy x H = some t ∧ b = subTy t T := by
  cases r with
  | non => cases h; exact ⟨_, rfl, by cases T <;> rfl⟩
  | bl c => cases h; exact ⟨_, rfl, by cases T <;> rfl⟩
  | int i => cases h; exact ⟨_, rfl, by cases T <;> rfl⟩
  | str z => cases h; exact ⟨_, rfl, by cases T <;> rfl⟩
  | @tup p ds vs hp hs =>
    cases h
    exact ⟨"tuple", by simp only [vTy, hp], by cases T <;> rfl⟩
  | @ref n p hp =>
    simp only [isTD] at h
    split at h
    · rename_i ds h1
      obtain ⟨vs, k1, k2⟩ := lst_at S h1 hp
      cases h
      exact ⟨"list", by simp only [vTy, k1], by cases T <;> rfl⟩
    · cases h
  | _ => cases h
end
end IP

/-! IpJ: len(set(texts)), any number of texts. -/
namespace IP
open PySem PySem.Spec PyProof.Rows
theorem dedup_snoc (xs : List Str) : ∀ (acc : List Str) (x : Str), dedup acc (xs ++ [x]) = if x ∈ dedup acc xs then dedup acc xs else dedup acc xs ++ [x] := by
  induction xs with
  | nil =>
    intro acc x
    show dedup acc [x] = if x ∈ acc then acc else acc ++ [x]
    simp only [dedup]
  | cons y ys ih =>
    intro acc x
    simp only [List.cons_append, dedup]
    split <;> exact ih _ _
theorem dedup_mem (xs : List Str) : ∀ (acc : List Str) (k : Str), k ∈ dedup acc xs ↔ k ∈ acc ∨ k ∈ xs := by
  induction xs with
  | nil => intro acc k; simp [dedup]
  | cons y ys ih =>
    intro acc k
    simp only [dedup]
    split
    · rename_i h
      rw [ih]
      constructor
      · rintro (h1 | h1)
        · exact .inl h1
        · exact .inr (List.mem_cons_of_mem _ h1)
      · rintro (h1 | h1)
        · exact .inl h1
        · rcases List.mem_cons.mp h1 with rfl | h2
          · exact .inl h
          · exact .inr h2
    · rw [ih, List.mem_append, List.mem_singleton, List.mem_cons, or_assoc]
theorem dedup_len (xs : List Str) : ∀ acc : List Str, (dedup acc xs).length ≤ acc.length + xs.length := by
  induction xs with
  | nil => intro acc; simp [dedup]
  | cons y ys ih =>
    intro acc
    simp only [dedup]
    split
    · have := ih acc; simp only [List.length_cons]; omega
    · have := ih (acc ++ [y]); simp only [List.length_append, List.length_cons, List.length_nil] at this ⊢; omega
/-- the set at S holds the first i texts -/
def Has (P : Program) (w : World) (h : Heap) (S : Addr) (xs : List Str) (i : Nat) : Prop := h.SetOf (PySem.strKind P w) S (fun y => (xs.take i).any (· == y)) (distinct (xs.take i)).length
section
variable {P : Program} {w : World} {B : Around} {Rz : Result → Shared → Prop} {J : Addr} {fq wq : List Addr} {Gq : Array GenState → Array GenState → Prop} {n : Nat} {Pq : Nat → Value → Prop} {Sq : Nat → Shared → Prop}
theorem loopSet (Z : WalksS P w B.in1 J fq wq Gq n Pq Sq) (S : Addr) (hS1 : S ∉ fq) (xs : List Str) (hx : xs.length = n) (hn : n ≤ 100)
    (hv : ∀ i v, Pq i v → ∃ t, v = .str (xs.getD i Str.empty) t) :
    ∀ (m i : Nat) (s : Shared), n - i = m → i ≤ n → Sq i s → Has P w s.heap S xs i →
      (∀ z, Moved (S :: wq) Gq s z → Has P w z.heap S xs n → Rz (.ok (.ret .none)) z) → codeAny (model P w) B (.builtin "set.update.loop" ⟨[.ref S, .ref J], []⟩) Rz s := by
  have hS2 : S ∉ wq := fun q => hS1 (Z.sub _ q)
  have sub1 : ∀ b ∈ wq, b ∈ S :: wq := fun b q => List.mem_cons_of_mem _ q
  intro m
  induction m with
  | zero =>
    intro i s hm hi hq hS hR
    obtain rfl : i = n := by omega
    refine codeAny_builtin PyProof.Rows.F.entry_set_update_loop ?_
    rw [Around.under_plainId PyProof.Rows.F.plain_set_update_loop _]
    show wpAny _ B.in1 (pyNext (.ref J) >>= _) _ _ s
    refine wpAny_bind (Z.done s _ _ hq fun z mv => ?_)
    show wpAny _ B.in1 (ret Value.none) _ _ z
    obtain ⟨o, es, ep, tb, ho, rest⟩ := hS
    exact wpAny_pure (hR z (mv.mono sub1) ⟨o, es, ep, tb, mv.heap S _ hS2 ho, rest⟩)
  | succ m ih =>
    intro i s hm hi hq hS hR
    have lt : i < n := by omega
    refine codeAny_builtin PyProof.Rows.F.entry_set_update_loop ?_
    rw [Around.under_plainId PyProof.Rows.F.plain_set_update_loop _]
    show wpAny _ B.in1 (pyNext (.ref J) >>= _) _ _ s
    refine wpAny_bind (Z.item i s _ _ lt hq fun v z hP hq1 mv => ?_)
    obtain ⟨t, rfl⟩ := hv i v hP
    have hS' : Has P w z.heap S xs i := by
      obtain ⟨o, es, ep, tb, ho, rest⟩ := hS
      exact ⟨o, es, ep, tb, mv.heap S _ hS2 ho, rest⟩
    show wpAny _ B.in1 (holding [Value.str (xs.getD i Str.empty) t] (setAdd S (.str (xs.getD i Str.empty) t)) >>= _) _ _ z
    refine wpAny_bind (wpAny_holding ?_)
    unfold setAdd
    refine wpAny_holding (wpAny_bind ((PySem.strKind P w).pyHash (k := xs.getD i Str.empty) (strKind_is _ _ _ _) ?_))
    have small : (distinct (xs.take i)).length ≤ 100 := by
      have h1 := dedup_len (xs.take i) []
      have h2 : (xs.take i).length ≤ i := by rw [List.length_take]; omega
      show (dedup [] (xs.take i)).length ≤ 100
      simp only [List.length_nil] at h1
      omega
    refine wpAny_setAddHashed_of (knd := PySem.strKind P w) (s := { z with toks := z.toks + 1 }) (strKind_is _ _ _ _) rfl hS' (by unfold scanBound; omega) fun h2 sb hS2' => ?_
    have hlen : i < xs.length := by omega
    have tk : xs.take (i + 1) = xs.take i ++ [xs.getD i Str.empty] := by
      rw [List.take_succ, List.getElem?_eq_getElem hlen, List.getD_eq_getElem?_getD, List.getElem?_eq_getElem hlen]; rfl
    have hSi : Has P w h2 S xs (i + 1) := by
      refine SetOf_congr hS2' (fun y => ?_) ?_
      · rw [tk, List.any_append]
        congr 1
        by_cases e : y = xs.getD i Str.empty
        · subst e; simp
        · have hb : (xs.getD i Str.empty == y) = false := beq_eq_false_iff_ne.mpr fun q => e q.symm
          rw [decide_eq_false e]
          show false = ((xs.getD i Str.empty == y) || false)
          rw [hb]; rfl
      · rw [tk]
        show _ = (dedup [] (xs.take i ++ [xs.getD i Str.empty])).length
        rw [dedup_snoc]
        have key : ((xs.take i).any (· == xs.getD i Str.empty)) = true ↔ xs.getD i Str.empty ∈ dedup [] (xs.take i) := by
          rw [dedup_mem, List.any_eq_true]
          constructor
          · rintro ⟨y, h1, h3⟩; rw [beq_iff_eq.mp h3] at h1; exact .inr h1
          · rintro (h1 | h1)
            · cases h1
            · exact ⟨_, h1, beq_self_eq_true _⟩
        by_cases e : xs.getD i Str.empty ∈ dedup [] (xs.take i)
        · rw [if_pos (key.mpr e), if_pos e]; rfl
        · rw [if_neg (fun q => e (key.mp q)), if_neg e, List.length_append]; rfl
    refine wpAny_pure ⟨plainId_quiet PyProof.Rows.F.plain_set_update_loop _, ih (i + 1) _ (by omega) lt (Z.frame _ z _ _ hq1 (Nat.le_succ _) fun b q o e => ?_) hSi fun y my hy => ?_⟩
    · rw [sb.2 b (fun e2 : b = S => hS1 (by rw [← e2]; exact q))]; exact e
    · refine hR y (Moved.trans Z.gtrans ((mv.mono sub1).then_heap (Nat.le_succ _) fun b o q e => ?_) my) hy
      rw [sb.2 b (fun e2 : b = S => q (by rw [e2]; exact List.mem_cons_self))]; exact e
end
section
variable {P : Program} {w : World} {B : Around} {Ez : Value → Shared → Prop} {s : Shared}
abbrev eO (led : Bool) : Obj := { cls := .type "set", dict := none, data := .set #[] 0 (.fresh 0 0 led) }
theorem call_set (tup : Bool) {l : Addr} {its : Array Value} {xs : List Str} {Qz : Value → Shared → Prop} (hh : B.handled = none)
    (hl : if tup = true then s.heap.IsTuple l its else s.heap.IsList l its) (hi : PyProof.Rows.StrsAre its.toList xs) (hn : xs.length ≤ 100)
    (k : ∀ (h2 : Heap) (tk : Nat), Has P w h2 s.heap.objs.size xs xs.length → (∀ b o, b < s.heap.objs.size → s.heap.get? b = some o → h2.get? b = some o) → Qz (.ref s.heap.objs.size) { s with heap := h2, toks := tk }) :
    wpAny (model P w) B (call (.type "set") [.ref l]) Qz Ez s := by
  obtain ⟨c, tl, hmro⟩ := PySem.F.called_set.mro
  have q1 := PySem.F.called_set.made
  have q2 := PySem.F.called_set.sub
  refine wpAny_call (codeAny_of_tree ?_)
  show wpAny _ _ (callAny (.type "set") _) _ _ _
  refine wpAny_pure ⟨Code.quiet_builtin _ (by decide +kernel), codeAny_builtin PySem.F.entry_type_call ?_⟩
  rw [Around.under_plain (weight_type_call_type "set" [.ref l] []) rfl]
  have q3 := PySem.F.called_set.notType
  have q4 := PySem.F.called_set.canCreate
  have q5 := PySem.F.typeCall_set_1 (.ref l)
  repeat (any_goals (first | assumption | wp_step))
  refine codeAny_mono (code_set_new_1 (.ref l) (E := Ez) (Q₁ := fun ob z => ∃ led : Bool, ob = .ref s.heap.objs.size ∧ z = { s with heap := s.heap.push { cls := .type "set", dict := none, data := .set #[] 0 (.fresh 0 0 led) } }) fun led => ⟨led, rfl, rfl⟩) fun r z hr => ?_
  cases r with
  | error e => exact hr
  | ok fl =>
    cases fl with
    | ret ob =>
      obtain ⟨led, rfl, rfl⟩ := hr
      generalize hE : ({ cls := .type "set", dict := none, data := .set #[] 0 (.fresh 0 0 led) } : Obj) = eo
      have hS : (s.heap.push eo).get? s.heap.objs.size = some eo := Heap.get?_push_size _ (by rw [← hE]; rfl)
      have hT : Shared.TypeIs { s with heap := s.heap.push eo } (.ref s.heap.objs.size) "set" := ⟨_, hS, by rw [← hE]⟩
      have i1 := PySem.F.called_set.init.lookup
      have i2 := PySem.F.called_set.init.bind (.ref s.heap.objs.size)
      repeat (any_goals (first | assumption | wp_step))
      refine codeAny_mono (codeAny_call_builtin (R := wants (fun r y => r = .none ∧ ∃ h2 tk, y = { s with heap := h2, toks := tk } ∧ Has P w h2 s.heap.objs.size xs xs.length ∧
          (∀ b o, b < s.heap.objs.size → s.heap.get? b = some o → h2.get? b = some o)) Ez) PySem.F.called_set.init.plain PySem.F.entry_set_init (check_set_init_1 hT ?_)) fun r y hr2 => ?_
      · have hsz : xs.length = its.size := by rw [← StrsAre.len_eq hi, Array.length_toList]
        have hval : ∀ (i : Nat) (v : Value), its[i]? = some v → ∃ t, v = .str (xs.getD i Str.empty) t := fun i v q => SS.strs_at hi i v (by rw [Array.getElem?_toList]; exact q)
        cases tup with
        | true =>
          obtain ⟨⟨oc, od, dt, sl⟩, ho, hc, n, hd⟩ := (show s.heap.IsTuple l its from hl)
          simp only at hc hd
          subst hc; subst hd
          have ho' := Heap.get?_push_of_some eo ho
          have f1 := PySem.F.sub_tuple_set
          have f2 := PySem.F.sub_tuple_frozenset
          have f3 : (Value.type "tuple" == Value.type "dict") = false := by decide
          have hl1 : (s.heap.push eo).IsTuple l its := ⟨_, ho', rfl, n, rfl⟩
          subst hE
          unfold Builtin.«set.__init__» noKeywords Builtin.Frozenset.updateFrom
          generalize hPI : pyIter = PI
          wp_walk
          subst hPI
          refine wpAny_pyIter_tuple (s := { s with heap := s.heap.push (eO led) }) hl1 ?_
          refine wpAny_bind (wpAny_runValue ?_)
          have lS : l < s.heap.objs.size := Heap.lt_size ho
          have h3 : B.in1.in1.in1.handled = none := by simp [hh]
          have nI : l ≠ (s.heap.push (eO led)).objs.size := by rw [Heap.size_push]; exact Nat.ne_of_lt (Nat.lt_succ_of_lt lS)
          have nS : s.heap.objs.size ∉ [(s.heap.push (eO led)).objs.size, l] := by
            rw [Heap.size_push]
            simp only [List.mem_cons, List.not_mem_nil, or_false, not_or]
            exact ⟨Nat.ne_of_lt (Nat.lt_succ_self _), Nat.ne_of_gt lS⟩
          refine loopSet ((Walks.tuple h3 _ l nI its).toS) s.heap.objs.size nS xs hsz (by rw [← hsz]; exact hn) hval (its.size - 0) 0 _ (by omega) (Nat.zero_le _) ⟨⟨_, Heap.get?_push_size _ rfl, rfl, rfl⟩, (hl1.push _)⟩ ?h0 ?h1
          case h0 =>
            exact SetOf_congr ((PyProof.Rows.setObjOf_fresh (knd := PySem.strKind P w) led).setOf (Heap.get?_push_of_some _ hS) (by unfold scanBound; omega)) (fun _ => rfl) rfl
          case h1 =>
            intro y my hy
            obtain ⟨yh, yg, yd, yt, yo⟩ := y
            obtain rfl : yg = s.gens := my.gens
            obtain rfl : yd = s.drawn := my.drawn
            obtain rfl : yo = s.os := my.os
            show wpAny _ _ _ _ _ _
            refine wpAny_pure ?_
            show wpAny _ _ (ret Value.none) _ _ _
            refine wpAny_pure ⟨rfl, yh, yt, rfl, by rw [hsz]; exact hy, fun b o hb e => ?_⟩
            refine my.heap b o ?_ (Heap.get?_push_of_some _ (Heap.get?_push_of_some _ e))
            have e2 : b ≠ (s.heap.push (eO led)).objs.size := by rw [Heap.size_push]; exact Nat.ne_of_lt (Nat.lt_succ_of_lt hb)
            simp only [List.mem_cons, List.not_mem_nil, or_false, not_or]
            exact ⟨Nat.ne_of_lt hb, e2⟩
        | false =>
          obtain ⟨⟨oc, od, dt, sl⟩, ho, hc, n, hd⟩ := (show s.heap.IsList l its from hl)
          simp only at hc hd
          subst hc; subst hd
          have ho' := Heap.get?_push_of_some eo ho
          have f1 := PySem.F.sub_list_set
          have f2 := PySem.F.sub_list_frozenset
          have f3 : (Value.type "list" == Value.type "dict") = false := by decide
          have hl1 : (s.heap.push eo).IsList l its := ⟨_, ho', rfl, n, rfl⟩
          subst hE
          unfold Builtin.«set.__init__» noKeywords Builtin.Frozenset.updateFrom
          generalize hPI : pyIter = PI
          wp_walk
          subst hPI
          refine wpAny_pyIter_list (s := { s with heap := s.heap.push (eO led) }) hl1 ?_
          refine wpAny_bind (wpAny_runValue ?_)
          have lS : l < s.heap.objs.size := Heap.lt_size ho
          have h3 : B.in1.in1.in1.handled = none := by simp [hh]
          have nI : l ≠ (s.heap.push (eO led)).objs.size := by rw [Heap.size_push]; exact Nat.ne_of_lt (Nat.lt_succ_of_lt lS)
          have nS : s.heap.objs.size ∉ [(s.heap.push (eO led)).objs.size, l] := by
            rw [Heap.size_push]
            simp only [List.mem_cons, List.not_mem_nil, or_false, not_or]
            exact ⟨Nat.ne_of_lt (Nat.lt_succ_self _), Nat.ne_of_gt lS⟩
          refine loopSet ((Walks.list h3 _ l nI its).toS) s.heap.objs.size nS xs hsz (by rw [← hsz]; exact hn) hval (its.size - 0) 0 _ (by omega) (Nat.zero_le _) ⟨⟨_, Heap.get?_push_size _ rfl, rfl, rfl⟩, (hl1.push _)⟩ ?h0 ?h1
          case h0 =>
            exact SetOf_congr ((PyProof.Rows.setObjOf_fresh (knd := PySem.strKind P w) led).setOf (Heap.get?_push_of_some _ hS) (by unfold scanBound; omega)) (fun _ => rfl) rfl
          case h1 =>
            intro y my hy
            obtain ⟨yh, yg, yd, yt, yo⟩ := y
            obtain rfl : yg = s.gens := my.gens
            obtain rfl : yd = s.drawn := my.drawn
            obtain rfl : yo = s.os := my.os
            show wpAny _ _ _ _ _ _
            refine wpAny_pure ?_
            show wpAny _ _ (ret Value.none) _ _ _
            refine wpAny_pure ⟨rfl, yh, yt, rfl, by rw [hsz]; exact hy, fun b o hb e => ?_⟩
            refine my.heap b o ?_ (Heap.get?_push_of_some _ (Heap.get?_push_of_some _ e))
            have e2 : b ≠ (s.heap.push (eO led)).objs.size := by rw [Heap.size_push]; exact Nat.ne_of_lt (Nat.lt_succ_of_lt hb)
            simp only [List.mem_cons, List.not_mem_nil, or_false, not_or]
            exact ⟨Nat.ne_of_lt hb, e2⟩
      · cases r with
        | error e => exact hr2
        | ok fl2 =>
          cases fl2 with
          | ret v =>
            obtain ⟨rfl, h2, tk, rfl, hS', hk'⟩ := hr2
            repeat (any_goals (first | assumption | wp_step))
            exact k _ _ hS' hk'
          | _ => exact hr2.elim
    | _ => exact hr.elim
end
section
variable {X : L2.Cx}
def tLenSetI (K : PySem.W.Frag) (ta : L2.TE) : L2.TE := fun σ H Q => ta σ H fun x H1 => ∃ (l : Addr) (xs : List Str), x = .ref l ∧ (L2.SqL K H1 l (xs.map L2.V.str) ∨ L2.SqT K H1 l (xs.map L2.V.str)) ∧ xs.length ≤ 100 ∧ Q (.int (distinct xs).length) H1
theorem pe_lenSetI {a : Expr} {ta : L2.TE} {p p2 q pos : Pos} (hc : X.calm = true) (g1 : L2.Gl X "len") (m1 : X.mg "len" = none) (g2 : L2.Gl X "set") (m2 : X.mg "set" = none) (ha : L2.PE X a ta)
    (na : isStar a = false) : L2.PE X (.Call (.Name "len" p) [.Call (.Name "set" p2) [a] [] q] [] pos) (tLenSetI X.K ta) := by
  refine ⟨fun pins s σ H Q I h => ?_⟩
  refine Call_ (L2.ld_blt I g1 m1 boot_len ?_)
  refine PyProof.Rows.callWith_builtin1 (PyProof.Rows.args_cons ?_ rfl) rfl rfl
  refine Call_ (L2.ld_blt I g2 m2 boot_set ?_)
  refine PyProof.Rows.callWith_type1 (PyProof.Rows.args_cons (L2.thn (ha.run pins s σ H _ I h) fun v s1 ⟨x, H1, I1, r1, z1⟩ => PyProof.Rows.args_nil ?_) (star_cons na)) (star_cons na) rfl
  obtain ⟨l, xs, rfl, hq, hn, z1⟩ := z1
  cases r1
  have fin : ∀ (h2 : Heap) (tk : Nat), Has X.prog X.w h2 s1.heap.objs.size xs xs.length → (∀ b o, b < s1.heap.objs.size → s1.heap.get? b = some o → h2.get? b = some o) →
      wpAny (model X.prog X.w) X.A (spliced (backTo pos (starEach [] X.env))) (fun vs y => wpAny (model X.prog X.w) X.A (call (.builtin "len") (Value.ref s1.heap.objs.size :: vs)) (L2.EP X pins σ Q) X.xe y) X.xe { s1 with heap := h2, toks := tk } := fun h2 tk hS hk => by
    refine PyProof.Rows.args_nil ?_
    unfold Has at hS
    rw [List.take_length] at hS
    obtain ⟨o, es, ep, t, ho, hex, hd, _, _, _, hf, hn2⟩ := hS
    have I2 : L2.Inv X pins σ H1 { s1 with heap := h2, toks := tk } := I1.kept fun b o e => hk b o (Heap.lt_size e) e
    have small : (distinct xs).length ≤ 100 := by
      have h1 := dedup_len xs []
      show (dedup [] xs).length ≤ 100
      simp only [List.length_nil] at h1
      omega
    refine call_len_set ho hex hd hf (by rw [hn2] <;> omega) ⟨.int (distinct xs).length, H1, I2.tok _, ⟨_, by rw [hn2]⟩, z1⟩
  rcases hq with hq | hq
  · obtain ⟨its, r, pl, hz⟩ := I1.list hq
    exact call_set false (I1.ok.hd hc) pl.isList (by simpa using L2.strsAre_of r) hn fin
  · obtain ⟨its, r, pl, hz⟩ := I1.tuple hq
    exact call_set true (I1.ok.hd hc) pl (by simpa using L2.strsAre_of r) hn fin
theorem lset_ok {g : Gd} {φ : List Addr} {H : Hp} {st : Sto} {a : D} {x : V} {Q : L2.VK} {E : L2.XK} (S : StoR g φ H st) (r : VR g φ H a x) (h : post (VR g) g φ H (lsetD a st) Q E) :
    ∃ (l : Addr) (xs : List Str), x = .ref l ∧ (L2.SqL g.K H l (xs.map L2.V.str) ∨ L2.SqT g.K H l (xs.map L2.V.str)) ∧ xs.length ≤ 100 ∧ Q (.int (distinct xs).length) H := by
  unfold lsetD at h
  split at h
  · rename_i xs hx
    split at h
    · rename_i hn
      cases r with
      | @tup p ds vs hp hs =>
        have e := strs_of hs hx
        subst e
        exact ⟨p, xs, rfl, .inr (L2.SqT.of hp), hn, ok_here S (.int _) h⟩
      | @ref n p hp =>
        simp only at hx
        split at hx
        · rename_i ds h1
          obtain ⟨vs, k1, k2⟩ := lst_at S h1 hp
          have e := strs_of k2 hx
          subst e
          exact ⟨p, xs, rfl, .inl (L2.SqL.of k1), hn, ok_here S (.int _) h⟩
        · cases hx
      | _ => cases hx
    · exact h.elim
  · exact h.elim
end
end IP

/-! IpK: what a context gives, the readings of expressions. -/
namespace IP
open PySem PySem.Spec PyProof.Rows
abbrev CT := Str → List D → Sto → R D
/-- what a module's name stands for: an int, a text, a built-in thing, a def of np parameters, an error's class -/
inductive GK where
  | int (i : Int) | str (x : Str) | free | fn (np : Nat) | exc
  deriving DecidableEq
/-- a place in the text: its scope, the slots' names, the module's names, whether all cells are the frame's own -/
structure Cc where
  sc : Scope
  N : List Str
  gk : Str → Option GK
  all : Bool
def spD (g : Gd) (C : CT) (f : Str) (np : Nat) : L2.Sp := fun vs H Q E => vs.length = np ∧ ∃ ds st φ, StoR g φ H st ∧ VRs g φ H ds vs ∧ post (VR g) g φ H (C f ds st) Q E
def Callee (X : L2.Cx) (C : CT) (x : Str) (np : Nat) : Prop := ∃ (a : Addr) (fd : FuncData) (ps : List Str) (k : Nat), X.mg x = some (.ref a) ∧ PySem.W.keepIn X.K (.ref a) = true ∧ L2.Binds X.K fd ps [] ∧ (∀ ds st, ds.length ≠ np → C x ds st = .bad) ∧
  L2.FnOk X.prog X.w X.K X.mg X.base (L2.CX X.prog X.w) k a fd ps (spD (gd X) C x np) ∧ L2.Room k X.A
structure Good (c : Cc) (C : CT) (X : L2.Cx) (W : WX) : Prop where
  sc : X.env.scope = c.sc
  N : X.N = c.N
  nd : X.N.Nodup
  calm : X.calm = true
  un : X.A.units + 200 < cLine
  int : ∀ x i, c.gk x = some (.int i) → ∃ t, X.mg x = some (.int i t)
  str : ∀ x z, c.gk x = some (.str z) → ∃ t, X.mg x = some (.str z t)
  free : ∀ x, c.gk x = some .free → X.mg x = none
  call : ∀ x np, c.gk x = some (.fn np) → Callee X C x np
  exc : ∀ x, c.gk x = some .exc → ∃ a, X.mg x = some (.ref a) ∧ PySem.W.excIn X.K a He.veBase "ValueError.__new__" = true ∧ PySem.W.keepIn X.K (.ref a) = true ∧ L2.Raises X (.ref a)
  own : PassesOwn (model X.prog X.w) X.A X.env X.xe
  tk : L2.Takes X W
  fn : c.all = true → ∀ x, X.fn x = true

section
variable {X : L2.Cx} {W : WX} {C : CT} {pos : Pos} {a b c : Expr} {ea eb ec : Ex}
abbrev I1 (X : L2.Cx) (W : WX) (C : CT) (e : Ex) : L2.TE := tI (gd X) W (ev C e)
abbrev T1 (X : L2.Cx) (W : WX) (C : CT) (e : Ex) : L2.TT := tIt (gd X) W (ev C e)
abbrev A1 (X : L2.Cx) (W : WX) (C : CT) (es : Exs) : L2.TA := tIs (gd X) W (evs C es)

theorem seqE {β β' : Type} {rel' : List Addr → Hp → β → β' → Prop} {g : Gd} {f : Env → Sto → R D} {k : D → Sto → R β} {ρ : Env} {st : Sto} {φ : List Addr} {σ : L2.St} {H : Hp} {Q : β' → Hp → Prop} {Q1 : L2.VK} {E : L2.XK} (hE : E = fun c d H' => W c d σ H')
    (S : StoR g φ H st) (en : EnvR g φ H ρ σ) (h : post rel' g φ H ((f ρ st).bind k) Q E)
    (hk : ∀ x st1 φ1 H1 v, f ρ st = .ok x st1 → Stp φ H φ1 H1 → StoR g φ1 H1 st1 → EnvR g φ1 H1 ρ σ → VR g φ1 H1 x v → post rel' g φ1 H1 (k x st1) Q E → Q1 v H1) : tI g W f σ H Q1 := by
  subst hE
  exact ⟨ρ, st, φ, S, en, post_bind h fun x st1 φ1 H1 v e s S1 r q => hk x st1 φ1 H1 v e s S1 (en.mono s) r q⟩
theorem seqA {β β' : Type} {rel' : List Addr → Hp → β → β' → Prop} {g : Gd} {f : Env → Sto → R (List D)} {k : List D → Sto → R β} {ρ : Env} {st : Sto} {φ : List Addr} {σ : L2.St} {H : Hp} {Q : β' → Hp → Prop} {Q1 : List V → Hp → Prop} {E : L2.XK} (hE : E = fun c d H' => W c d σ H')
    (S : StoR g φ H st) (en : EnvR g φ H ρ σ) (h : post rel' g φ H ((f ρ st).bind k) Q E)
    (hk : ∀ x st1 φ1 H1 v, f ρ st = .ok x st1 → Stp φ H φ1 H1 → StoR g φ1 H1 st1 → EnvR g φ1 H1 ρ σ → VRs g φ1 H1 x v → post rel' g φ1 H1 (k x st1) Q E → Q1 v H1) : tIs g W f σ H Q1 := by
  subst hE
  exact ⟨ρ, st, φ, S, en, post_bind h fun x st1 φ1 H1 v e s S1 r q => hk x st1 φ1 H1 v e s S1 (en.mono s) r q⟩

/-! ### atoms -/
theorem k_const {e : Expr} {v : L2.V} {d : D} (hr : ∀ φ H, VR (gd X) φ H d v) (h : L2.PE X e (L2.tC v)) : L2.PE X e (I1 X W C (.k d)) :=
  pe_weak h fun σ H Q ⟨ρ, st, φ, S, en, q⟩ => ok_here S (hr φ H) (show post (VR (gd X)) (gd X) φ H (.ok d st) Q _ from q)
theorem k_var {i : Nat} {x : Str} (hN : X.N[i]? = some x) (hv : L2.Vis X.env.scope x) (h1 : (x == ("__debug__" : Str)) = false) (h2 : (x == ("__classdict__" : Str)) = false) : L2.PE X (.Name x pos) (I1 X W C (.lc i)) := by
  refine pe_weak (L2.pe_var hN hv h1 h2) fun σ H Q ⟨ρ, st, φ, S, en, q⟩ => ?_
  have q : post (VR (gd X)) (gd X) φ H (match ρ[i]? with
    | some (some d) => .ok d st
    | _ => .bad) Q (fun c d H' => W c d σ H') := q
  split at q
  · rename_i d hd
    obtain ⟨v, h3, h4⟩ := en.at_ i d hd
    exact ⟨v, h3, ok_here S h4 q⟩
  · exact q.elim

/-! ### two operands -/
theorem w_two {o : D → D → Sto → R D} {r : L2.R2} {f : Env → Sto → R D} (hf : ∀ ρ st, f ρ st = (ev C ea ρ st).bind fun x st1 => (ev C eb ρ st1).bind fun y st2 => o x y st2)
    (hr : ∀ {φ : List Addr} {H : Hp} {st : Sto} {x y : D} {u v : L2.V} {Q : L2.VK} {E : L2.XK}, StoR (gd X) φ H st → VR (gd X) φ H x u → VR (gd X) φ H y v → post (VR (gd X)) (gd X) φ H (o x y st) Q E → r u v H Q) :
    ∀ σ H Q, tI (gd X) W f σ H Q → L2.tOp r (I1 X W C ea) (I1 X W C eb) σ H Q := fun σ H Q ⟨ρ, st, φ, S, en, q⟩ => by
  rw [hf] at q
  exact seqE rfl S en q fun x st1 φ1 H1 u e1 s1 S1 en1 r1 q1 => seqE rfl S1 en1 q1 fun y st2 φ2 H2 v e2 s2 S2 en2 r2 q2 => hr S2 (r1.mono s2) r2 q2
theorem k_bin {o : Bop} {op : Operator} {r : L2.R2} (ho : L2.OpR X (binaryOp op) r)
    (hr : ∀ {φ : List Addr} {H : Hp} {st : Sto} {x y : D} {u v : L2.V} {Q : L2.VK} {E : L2.XK}, StoR (gd X) φ H st → VR (gd X) φ H x u → VR (gd X) φ H y v → post (VR (gd X)) (gd X) φ H (binD o x y st) Q E → r u v H Q)
    (ha : L2.PE X a (I1 X W C ea)) (hb : L2.PE X b (I1 X W C eb)) : L2.PE X (.BinOp a op b pos) (I1 X W C (.bin o ea eb)) := pe_weak (L2.pe_op ho ha hb) (w_two (fun _ _ => by rw [ev]) hr)
theorem k_neg (ha : L2.PE X a (I1 X W C ea)) : L2.PE X (.UnaryOp .USub a pos) (I1 X W C (.neg ea)) := by
  refine pe_weak (L2.pe_un L2.un_neg ha) fun σ H Q ⟨ρ, st, φ, S, en, q⟩ => ?_
  rw [ev] at q
  refine seqE rfl S en q fun x st1 φ1 H1 u e1 s1 S1 en1 r1 q1 => ?_
  cases r1 with
  | int i => exact ⟨i, rfl, ok_here S1 (.int (-i)) q1⟩
  | _ => exact q1.elim

/-! ### tests -/
theorem tIt_val {f : Env → Sto → R D} {σ : L2.St} {H : Hp} {Q : Bool → Hp → Prop} (h : tIt (gd X) W f σ H Q) : tI (gd X) W f σ H fun x H1 => ∃ k, x = .bl k ∧ Q k H1 := by
  obtain ⟨ρ, st, φ, S, en, q, hb⟩ := h
  refine ⟨ρ, st, φ, S, en, ?_⟩
  cases e : f ρ st with
  | bad => rw [e] at q; exact q
  | exc x st' => rw [e] at q; exact q
  | ok d st' =>
    rw [e] at q
    obtain ⟨k, rfl⟩ := hb d st' e
    intro φ1 H1 v s S1 r
    cases r
    exact ⟨k, rfl, q φ1 H1 k s S1 rfl⟩
theorem k_valT {e : Expr} {f : Env → Sto → R D} (h : L2.PE X e (tI (gd X) W f)) (he : ∀ whole, isTrue e X.env whole = (do let v ← whole; standAt e.pos; holding [v] (truthy v))) : L2.PT X e (tIt (gd X) W f) :=
  pt_weak (L2.pt_val h he) fun σ H Q q => tIt_val q
/-- a value's reading by a test's -/
theorem tI_of_T {f : Env → Sto → R D} {ρ : Env} {st : Sto} {φ : List Addr} {σ : L2.St} {H : Hp} {Q1 : Bool → Hp → Prop} {E : L2.XK} (hE : E = fun c d H' => W c d σ H') {β β' : Type} {rel' : List Addr → Hp → β → β' → Prop} {k : D → Sto → R β} {Q : β' → Hp → Prop}
    (S : StoR (gd X) φ H st) (en : EnvR (gd X) φ H ρ σ) (h : post rel' (gd X) φ H ((f ρ st).bind k) Q E) (hd : ∀ d st1, (∀ b, d ≠ .bl b) → k d st1 = .bad)
    (hk : ∀ x st1 φ1 H1, f ρ st = .ok (.bl x) st1 → Stp φ H φ1 H1 → StoR (gd X) φ1 H1 st1 → EnvR (gd X) φ1 H1 ρ σ → post rel' (gd X) φ1 H1 (k (.bl x) st1) Q E → Q1 x H1) : tIt (gd X) W f σ H Q1 := by
  subst hE
  refine ⟨ρ, st, φ, S, en, ?_, fun d st' e => ?_⟩
  · cases e : f ρ st with
    | bad => rw [e] at h; exact h
    | exc x st' => rw [e] at h; exact h
    | ok d st' =>
      intro φ1 H1 v s S1 r
      obtain rfl : d = .bl v := r
      rw [e] at h
      exact hk v st' φ1 H1 e s S1 (en.mono s) (post_mono s h)
  · rw [e] at h
    by_cases hb : ∃ b, d = .bl b
    · exact hb
    · have : post rel' (gd X) φ H (k d st') Q fun c d H' => W c d σ H' := h
      rw [hd d st' fun b z => hb ⟨b, z⟩] at this
      exact this.elim
theorem k_cmp {f : Env → Sto → R D} {op : CmpOp} {r : L2.R2} (ho : L2.OpR X (compareOp op) r) (ha : L2.PE X a (I1 X W C ea)) (hb : L2.PE X b (I1 X W C eb)) (hm : isSet b = false)
    (hw : ∀ σ H Q, tI (gd X) W f σ H Q → L2.tOp r (I1 X W C ea) (I1 X W C eb) σ H Q) : L2.PE X (.Compare a [op] [b] pos) (tI (gd X) W f) ∧ L2.PT X (.Compare a [op] [b] pos) (tIt (gd X) W f) :=
  ⟨pe_weak (L2.pe_cmpR ho ha hb (nomarks hm)) hw, pt_weak (L2.pt_cmpR ho ha hb (nomarks hm)) fun σ H Q q => hw σ H _ (tIt_val q)⟩
theorem w_chain {o p : Cop} {r r' : L2.R2}
    (hr : ∀ {φ : List Addr} {H : Hp} {st : Sto} {x y : D} {u v : L2.V} {Q : L2.VK} {E : L2.XK}, StoR (gd X) φ H st → VR (gd X) φ H x u → VR (gd X) φ H y v → post (VR (gd X)) (gd X) φ H (okB (cmpD o x y st) st) Q E → r u v H Q)
    (hr' : ∀ {φ : List Addr} {H : Hp} {st : Sto} {x y : D} {u v : L2.V} {Q : L2.VK} {E : L2.XK}, StoR (gd X) φ H st → VR (gd X) φ H x u → VR (gd X) φ H y v → post (VR (gd X)) (gd X) φ H (okB (cmpD p x y st) st) Q E → r' u v H Q) :
    ∀ σ H Q, I1 X W C (.chn o p ea eb ec) σ H Q → L2.tChain r r' (I1 X W C ea) (I1 X W C eb) (I1 X W C ec) σ H Q := fun σ H Q ⟨ρ, st, φ, S, en, q⟩ => by
  rw [ev] at q
  refine seqE rfl S en q fun x st1 φ1 H1 u e1 s1 S1 en1 r1 q1 => seqE rfl S1 en1 q1 fun y st2 φ2 H2 v e2 s2 S2 en2 r2 q2 => ?_
  refine hr (E := fun _ _ _ => False) S2 (r1.mono s2) r2 ?_
  cases e : cmpD o x y st2 with
  | none => simp only [e] at q2; exact q2.elim
  | some k =>
    intro φ3 H3 w s3 S3 r3
    cases r3
    refine ⟨k, rfl, ?_⟩
    cases k with
    | false => simp only [e] at q2; exact ok_here S3 (.bl _) (post_mono s3 q2)
    | true =>
      simp only [e] at q2
      exact seqE rfl S3 (en2.mono s3) (post_mono s3 q2) fun z st4 φ4 H4 w e4 s4 S4 en4 r4 q4 => hr' S4 (r2.mono (s3.trans s4)) r4 q4
theorem k_chain {o p : Cop} {op op' : CmpOp} {r r' : L2.R2} (ho : L2.OpR X (compareOp op) r) (ho' : L2.OpR X (compareOp op') r')
    (hr : ∀ {φ : List Addr} {H : Hp} {st : Sto} {x y : D} {u v : L2.V} {Q : L2.VK} {E : L2.XK}, StoR (gd X) φ H st → VR (gd X) φ H x u → VR (gd X) φ H y v → post (VR (gd X)) (gd X) φ H (okB (cmpD o x y st) st) Q E → r u v H Q)
    (hr' : ∀ {φ : List Addr} {H : Hp} {st : Sto} {x y : D} {u v : L2.V} {Q : L2.VK} {E : L2.XK}, StoR (gd X) φ H st → VR (gd X) φ H x u → VR (gd X) φ H y v → post (VR (gd X)) (gd X) φ H (okB (cmpD p x y st) st) Q E → r' u v H Q)
    (ha : L2.PE X a (I1 X W C ea)) (hb : L2.PE X b (I1 X W C eb)) (hc : L2.PE X c (I1 X W C ec)) (hm : isSet c = false) : L2.PE X (.Compare a [op, op'] [b, c] pos) (I1 X W C (.chn o p ea eb ec)) ∧ L2.PT X (.Compare a [op, op'] [b, c] pos) (T1 X W C (.chn o p ea eb ec)) :=
  ⟨pe_weak (L2.pe_chain ho ho' ha hb hc (show behindInMarks op' c = false from nomarks hm)) (w_chain hr hr'), pt_weak (L2.pt_chain ho ho' ha hb hc (show behindInMarks op' c = false from nomarks hm)) fun σ H Q q => w_chain hr hr' σ H _ (tIt_val q)⟩
theorem k_not (ha : L2.PE X a (I1 X W C ea)) (hp : L2.PT X a (T1 X W C ea)) : L2.PE X (.UnaryOp .Not a pos) (I1 X W C (.not ea)) ∧ L2.PT X (.UnaryOp .Not a pos) (T1 X W C (.not ea)) := by
  refine ⟨pe_weak (L2.pe_not ha) fun σ H Q ⟨ρ, st, φ, S, en, q⟩ => ?_, pt_weak (L2.pt_not hp) fun σ H Q q => ?_⟩
  · rw [ev] at q
    refine seqE rfl S en q fun x st1 φ1 H1 u e1 s1 S1 en1 r1 q1 => ?_
    cases r1 with
    | bl k => exact ⟨k, rfl, ok_here S1 (.bl _) q1⟩
    | _ => exact q1.elim
  · obtain ⟨ρ, st, φ, S, en, q⟩ := tIt_val q
    rw [ev] at q
    refine tI_of_T rfl S en q (fun d st1 h => ?_) fun x st1 φ1 H1 e1 s1 S1 en1 q1 => ?_
    · cases d <;> first | rfl | exact absurd rfl (h _)
    · obtain ⟨k, e, q⟩ := ok_here S1 (.bl _) q1
      cases e; exact q
theorem w_and {σ : L2.St} {H : Hp} {Q : L2.VK} (h : I1 X W C (.and ea eb) σ H Q) : I1 X W C ea σ H fun x H1 => ∃ c, x = .bl c ∧ if c = true then I1 X W C eb σ H1 Q else Q (.bl false) H1 := by
  obtain ⟨ρ, st, φ, S, en, q⟩ := h
  rw [ev] at q
  refine seqE rfl S en q fun x st1 φ1 H1 u e1 s1 S1 en1 r1 q1 => ?_
  cases r1 with
  | bl k =>
    refine ⟨k, rfl, ?_⟩
    cases k with
    | true => exact ⟨ρ, st1, φ1, S1, en1, q1⟩
    | false => exact ok_here S1 (.bl _) q1
  | _ => exact q1.elim
theorem w_or {σ : L2.St} {H : Hp} {Q : L2.VK} (h : I1 X W C (.or ea eb) σ H Q) : I1 X W C ea σ H fun x H1 => ∃ c, x = .bl c ∧ if c = true then Q (.bl true) H1 else I1 X W C eb σ H1 Q := by
  obtain ⟨ρ, st, φ, S, en, q⟩ := h
  rw [ev] at q
  refine seqE rfl S en q fun x st1 φ1 H1 u e1 s1 S1 en1 r1 q1 => ?_
  cases r1 with
  | bl k =>
    refine ⟨k, rfl, ?_⟩
    cases k with
    | false => exact ⟨ρ, st1, φ1, S1, en1, q1⟩
    | true => exact ok_here S1 (.bl _) q1
  | _ => exact q1.elim
theorem t_and {σ : L2.St} {H : Hp} {Q : Bool → Hp → Prop} (h : T1 X W C (.and ea eb) σ H Q) : L2.tAnd (T1 X W C ea) (T1 X W C eb) σ H Q := by
  obtain ⟨ρ, st, φ, S, en, q, hb⟩ := h
  have q := q
  rw [ev] at q
  refine tI_of_T rfl S en q (fun d st1 h => by cases d <;> first | rfl | exact absurd rfl (h _)) fun x st1 φ1 H1 e1 s1 S1 en1 q1 => ?_
  cases x with
  | false => exact q1 _ _ _ (Stp.refl _ _) S1 rfl
  | true => exact ⟨ρ, st1, φ1, S1, en1, q1, fun d st' e => hb d st' (by rw [ev, e1]; exact e)⟩
theorem t_or {σ : L2.St} {H : Hp} {Q : Bool → Hp → Prop} (h : T1 X W C (.or ea eb) σ H Q) : L2.tOr (T1 X W C ea) (T1 X W C eb) σ H Q := by
  obtain ⟨ρ, st, φ, S, en, q, hb⟩ := h
  have q := q
  rw [ev] at q
  refine tI_of_T rfl S en q (fun d st1 h => by cases d <;> first | rfl | exact absurd rfl (h _)) fun x st1 φ1 H1 e1 s1 S1 en1 q1 => ?_
  cases x with
  | true => exact q1 _ _ _ (Stp.refl _ _) S1 rfl
  | false => exact ⟨ρ, st1, φ1, S1, en1, q1, fun d st' e => hb d st' (by rw [ev, e1]; exact e)⟩
theorem k_and {vs : List Expr} (ha : L2.PE X a (I1 X W C ea)) (pa : L2.PT X a (T1 X W C ea)) (hb : L2.PE X (.BoolOp .And (b :: vs) pos) (I1 X W C eb)) (pb : L2.PW X (.BoolOp .And (b :: vs) pos) (T1 X W C eb)) :
    L2.PE X (.BoolOp .And (a :: b :: vs) pos) (I1 X W C (.and ea eb)) ∧ L2.PW X (.BoolOp .And (a :: b :: vs) pos) (T1 X W C (.and ea eb)) :=
  ⟨pe_weak (L2.pe_and ha hb) fun σ H Q q => w_and q, pw_weak (L2.pw_and pa pb) fun σ H Q q => t_and q⟩
theorem k_or {vs : List Expr} (ha : L2.PE X a (I1 X W C ea)) (pa : L2.PT X a (T1 X W C ea)) (hb : L2.PE X (.BoolOp .Or (b :: vs) pos) (I1 X W C eb)) (pb : L2.PW X (.BoolOp .Or (b :: vs) pos) (T1 X W C eb)) :
    L2.PE X (.BoolOp .Or (a :: b :: vs) pos) (I1 X W C (.or ea eb)) ∧ L2.PW X (.BoolOp .Or (a :: b :: vs) pos) (T1 X W C (.or ea eb)) :=
  ⟨pe_weak (L2.pe_or ha hb) fun σ H Q q => w_or q, pw_weak (L2.pw_or pa pb) fun σ H Q q => t_or q⟩
theorem k_ite (hc : L2.PT X c (T1 X W C ec)) (ha : L2.PE X a (I1 X W C ea)) (hb : L2.PE X b (I1 X W C eb)) : L2.PE X (.IfExp c a b pos) (I1 X W C (.ite ec ea eb)) := by
  refine pe_weak (L2.pe_ifExp hc ha hb) fun σ H Q ⟨ρ, st, φ, S, en, q⟩ => ?_
  rw [ev] at q
  refine tI_of_T rfl S en q (fun d st1 h => by cases d <;> first | rfl | exact absurd rfl (h _)) fun x st1 φ1 H1 e1 s1 S1 en1 q1 => ?_
  cases x with
  | true => exact ⟨ρ, st1, φ1, S1, en1, q1⟩
  | false => exact ⟨ρ, st1, φ1, S1, en1, q1⟩
theorem k_isN {p1 : Pos} {j : Nat} (ha : L2.PE X a (I1 X W C ea)) : (L2.PE X (.Compare a [.Is] [.Constant .none j p1] pos) (I1 X W C (.isN ea)) ∧ L2.PT X (.Compare a [.Is] [.Constant .none j p1] pos) (T1 X W C (.isN ea))) ∧
    (L2.PE X (.Compare a [.IsNot] [.Constant .none j p1] pos) (I1 X W C (.notN ea)) ∧ L2.PT X (.Compare a [.IsNot] [.Constant .none j p1] pos) (T1 X W C (.notN ea))) := by
  have non : ∀ {φ : List Addr} {H : Hp} {x : D} {v : L2.V}, VR (gd X) φ H x v → decide (x = .non) = decide (v = .non) := fun {φ H x v} r => by cases r <;> simp
  have w1 : ∀ σ H Q, I1 X W C (.isN ea) σ H Q → L2.tIsN (I1 X W C ea) σ H Q := fun σ H Q ⟨ρ, st, φ, S, en, q⟩ => by
    rw [ev] at q
    refine seqE rfl S en q fun x st1 φ1 H1 u e1 s1 S1 en1 r1 q1 => ?_
    rw [non r1] at q1
    exact ok_here S1 (.bl _) q1
  have w2 : ∀ σ H Q, I1 X W C (.notN ea) σ H Q → L2.tNotN (I1 X W C ea) σ H Q := fun σ H Q ⟨ρ, st, φ, S, en, q⟩ => by
    rw [ev] at q
    refine seqE rfl S en q fun x st1 φ1 H1 u e1 s1 S1 en1 r1 q1 => ?_
    rw [non r1] at q1
    exact ok_here S1 (.bl _) q1
  exact ⟨⟨pe_weak (L2.pe_cmp (L2.pc_isN ha) rfl) w1, pt_weak (L2.pt_cmp (L2.pc_isN ha) rfl) fun σ H Q q => w1 σ H _ (tIt_val q)⟩,
    ⟨pe_weak (L2.pe_cmp (L2.pc_notN ha) rfl) w2, pt_weak (L2.pt_cmp (L2.pc_notN ha) rfl) fun σ H Q q => w2 σ H _ (tIt_val q)⟩⟩

/-! ### arguments, displays -/
theorem k_nil : L2.PA X [] (A1 X W C .nil) := pa_weak L2.pa_nil fun σ H Q ⟨ρ, st, φ, S, en, q⟩ => by
  rw [evs] at q
  exact q _ _ _ (Stp.refl _ _) S .nil
theorem k_cons {es : List Expr} {xs : Exs} (ha : L2.PE X a (I1 X W C ea)) (hs : L2.PA X es (A1 X W C xs)) (h : isStar a = false) : L2.PA X (a :: es) (A1 X W C (.cons ea xs)) :=
  pa_weak (L2.pa_cons ha hs (star_cons h)) fun σ H Q ⟨ρ, st, φ, S, en, q⟩ => by
    rw [evs] at q
    refine seqE rfl S en q fun x st1 φ1 H1 u e1 s1 S1 en1 r1 q1 => seqA rfl S1 en1 q1 fun ys st2 φ2 H2 vs e2 s2 S2 en2 r2 q2 => ?_
    exact q2 _ _ _ (Stp.refl _ _) S2 (.cons (r1.mono s2) r2)
theorem k_tup {es : List Expr} {xs : Exs} {n : Nat} (h : L2.PA X es (A1 X W C xs)) : L2.PE X (.Tuple es n pos) (I1 X W C (.tup xs)) :=
  pe_weak (L2.pe_tup h) fun σ H Q ⟨ρ, st, φ, S, en, q⟩ => by
    rw [ev] at q
    refine seqA rfl S en q fun ds st1 φ1 H1 vs e1 s1 S1 en1 r1 q1 => ?_
    split at q1
    · rename_i hl
      exact ⟨by rw [← r1.length]; exact lim_line hl, fun p hp => alloc_tup S1 r1 q1 hp⟩
    · exact q1.elim
theorem k_lst {es : List Expr} {xs : Exs} (h : L2.PA X es (A1 X W C xs)) : L2.PE X (.List es pos) (I1 X W C (.lst xs)) :=
  pe_weak (L2.pe_lst h) fun σ H Q ⟨ρ, st, φ, S, en, q⟩ => by
    rw [ev] at q
    refine seqA rfl S en q fun ds st1 φ1 H1 vs e1 s1 S1 en1 r1 q1 => ?_
    split at q1
    · rename_i hl
      exact ⟨by rw [← r1.length]; exact lim_line hl, fun p hp => alloc_lst S1 r1 q1 hp⟩
    · exact q1.elim
theorem k_dnew : L2.PE X (.Dict [] [] pos) (I1 X W C (.dct .nil)) :=
  pe_weak pe_dnewI fun σ H Q ⟨ρ, st, φ, S, en, q⟩ => by
    rw [ev, evd] at q
    have q : post (VR (gd X)) (gd X) φ H (.ok (.ref st.length) (st ++ [.dic []])) Q (fun c d H' => W c d σ H') := q
    intro p o hp hs ho
    subst ho
    obtain ⟨s, S'⟩ := S.alloc (o := pinO p { cls := .type "dict", data := .dict #[] }) (c := .dic []) hp fun _ => dic_nil hs L2.upd_same
    exact q _ _ _ s S' (.ref (by rw [List.getElem?_append_right (by rw [S.len]; exact Nat.le_refl _), S.len]; simp))

/-! ### calls -/
theorem k_call {np : Nat} {x : Str} {p : Pos} {e : Expr} {es : List Expr} {xs : Exs} (K : Callee X C x np) (tk : L2.Takes X W) (hg : L2.Gl X x) (ha : L2.PA X (e :: es) (A1 X W C xs)) (hl : (e :: es).length = np) (hd : (x == ("__debug__" : Str)) = false)
    (hs : (e :: es).all (fun z => !isStar z) = true) : L2.PE X (.Call (.Name x p) (e :: es) [] pos) (I1 X W C (.call x xs)) := by
  obtain ⟨a, fd, ps, k, h1, h2, h3, h4, h5, h6⟩ := K
  have hs1 : isStar e = false := by
    rw [List.all_cons, Bool.and_eq_true] at hs
    simpa using hs.1
  have hs2 : es.all (fun z => !isStar z) = true := by
    rw [List.all_cons, Bool.and_eq_true] at hs
    exact hs.2
  refine pe_weak (L2.pe_callSD (E := L2.WE W) (dvs := []) (ds := []) h5 h6 hg h1 h2 h3 .nil (fun σ => L2.passAt tk σ) ha hd (star_cons hs1) (star_plain hs2)) fun σ H Q ⟨ρ, st, φ, S, en, q⟩ => ?_
  rw [ev] at q
  refine seqA rfl S en q fun ds st1 φ1 H1 vs e1 s1 S1 en1 r1 q1 => ?_
  rw [List.append_nil]
  by_cases hn : ds.length = np
  · exact ⟨by rw [← r1.length]; exact hn, ds, st1, φ1, S1, r1, q1⟩
  · rw [h4 ds st1 hn] at q1
    exact q1.elim

/-! ### built-in functions -/
theorem w_one {o : D → Sto → R D} {r : List V → Hp → L2.VK → Prop} {f : Env → Sto → R D} (hf : ∀ ρ st, f ρ st = (ev C ea ρ st).bind fun x st1 => o x st1)
    (hr : ∀ {φ : List Addr} {H : Hp} {st : Sto} {x : D} {u : L2.V} {Q : L2.VK} {E : L2.XK}, StoR (gd X) φ H st → VR (gd X) φ H x u → post (VR (gd X)) (gd X) φ H (o x st) Q E → r [u] H Q) :
    ∀ σ H Q, tI (gd X) W f σ H Q → L2.tCB r (L2.tCons (I1 X W C ea) L2.tNil) σ H Q := fun σ H Q ⟨ρ, st, φ, S, en, q⟩ => by
  rw [hf] at q
  exact seqE rfl S en q fun x st1 φ1 H1 u e1 s1 S1 en1 r1 q1 => hr S1 r1 q1
theorem k_bltB {id : String} {x : Str} {p : Pos} {o : D → Sto → R D} {r : List V → Hp → L2.VK → Prop} {f : Env → Sto → R D} (hc : L2.CallR X (.builtin id) r) (hg : L2.Gl X x) (hm : X.mg x = none) (hv : bootBuiltins x = some (.builtin id)) (ha : L2.PE X a (I1 X W C ea))
    (hs : isStar a = false) (hn : x ≠ "__name__") (hd : (x == ("__debug__" : Str)) = false) (hf : ∀ ρ st, f ρ st = (ev C ea ρ st).bind fun x st1 => o x st1)
    (hr : ∀ {φ : List Addr} {H : Hp} {st : Sto} {x : D} {u : L2.V} {Q : L2.VK} {E : L2.XK}, StoR (gd X) φ H st → VR (gd X) φ H x u → post (VR (gd X)) (gd X) φ H (o x st) Q E → r [u] H Q) : L2.PE X (.Call (.Name x p) [a] [] pos) (tI (gd X) W f) :=
  pe_weak (L2.pe_callB hc hg hm hv (L2.pa_cons ha L2.pa_nil (star_cons hs)) hn hd (star_cons hs) rfl) (w_one hf hr)
theorem k_bltT {id : String} {x : Str} {p : Pos} {o : D → Sto → R D} {r : List V → Hp → L2.VK → Prop} {f : Env → Sto → R D} (hc : L2.CallR X (.type id) r) (hg : L2.Gl X x) (hm : X.mg x = none) (hv : bootBuiltins x = some (.type id)) (ha : L2.PE X a (I1 X W C ea))
    (hs : isStar a = false) (hn : x ≠ "__name__") (hd : (x == ("__debug__" : Str)) = false) (hf : ∀ ρ st, f ρ st = (ev C ea ρ st).bind fun x st1 => o x st1)
    (hr : ∀ {φ : List Addr} {H : Hp} {st : Sto} {x : D} {u : L2.V} {Q : L2.VK} {E : L2.XK}, StoR (gd X) φ H st → VR (gd X) φ H x u → post (VR (gd X)) (gd X) φ H (o x st) Q E → r [u] H Q) : L2.PE X (.Call (.Name x p) [a] [] pos) (tI (gd X) W f) :=
  pe_weak (L2.pe_callTy hc hg hm hv (L2.pa_cons ha L2.pa_nil (star_cons hs)) hn hd (star_cons hs) rfl) (w_one hf hr)
/-- list(x): of a list, a tuple, a dict -/
def rListI (X : L2.Cx) : List V → Hp → L2.VK → Prop := fun xs H Q => (∃ p ys, xs = [.ref p] ∧ (L2.SqL X.K H p ys ∨ L2.SqT X.K H p ys) ∧ ∀ l, H l = none → Q (.ref l) (L2.upd H l (.lst ys))) ∨ rListD X xs H Q
theorem cr_listI (hc : X.calm = true) : L2.CallR X (.type "list") (rListI X) := L2.call_list_of.or (cr_listD hc)
theorem list_ok {φ : List Addr} {H : Hp} {st : Sto} {d : D} {x : L2.V} {Q : L2.VK} {E : L2.XK} (S : StoR (gd X) φ H st) (r : VR (gd X) φ H d x) (h : post (VR (gd X)) (gd X) φ H (biD .list d st) Q E) : rListI X [x] H Q := by
  cases r with
  | @tup p ds vs hp hs => exact .inl ⟨p, vs, rfl, .inr (L2.SqT.of hp), fun l hl => alloc_lst S hs h hl⟩
  | @ref n p hp =>
    simp only [biD] at h
    split at h
    · rename_i ds h1
      obtain ⟨vs, k1, k2⟩ := lst_at S h1 hp
      exact .inl ⟨p, vs, rfl, .inl (L2.SqL.of k1), fun l hl => alloc_lst S k2 h hl⟩
    · rename_i kvs h1
      obtain ⟨a, ha, hc⟩ := S.lt h1
      rw [hp] at ha; cases ha
      exact .inr ⟨φ, p, kvs, rfl, hc, fun vs r l hl => alloc_lst S r h hl⟩
    · exact h.elim
  | _ => exact h.elim
end
end IP

/-! IpL: readings: subscripts, slices, membership, types, methods. -/
namespace IP
open PySem PySem.Spec PyProof.Rows
theorem po_weak {X : L2.Cx} {e : Option Expr} {t t' : L2.TO} (h : L2.PO X e t) (k : ∀ σ H Q, t' σ H Q → t σ H Q) : L2.PO X e t' := ⟨fun pins s σ H Q I q => h.run pins s σ H Q I (k σ H Q q)⟩
section
variable {X : L2.Cx} {W : WX} {C : CT} {pos : Pos} {a b c : Expr} {ea eb ec : Ex}
/-! ### isinstance -/
theorem k_isT {T : Ty} {x y : Str} {p p1 : Pos} (g1 : L2.Gl X x) (m1 : X.mg x = none) (v1 : bootBuiltins x = some (.builtin "isinstance")) (g2 : L2.Gl X y) (m2 : X.mg y = none) (v2 : bootBuiltins y = some (.type (tyName T)))
    (ha : L2.PE X a (I1 X W C ea)) (hs : isStar a = false) (n1 : x ≠ "__name__") (d1 : (x == ("__debug__" : Str)) = false) (n2 : y ≠ "__name__") (d2 : (y == ("__debug__" : Str)) = false) : L2.PE X (.Call (.Name x p) [a, .Name y p1] [] pos) (I1 X W C (.isT ea T)) := by
  have hT : L2.PE X (.Name y p1) (L2.tC (.ty (tyName T))) := L2.pe_bltn g2 m2 v2 rfl n2 d2
  refine pe_weak (L2.pe_callB L2.call_isi g1 m1 v1 (L2.pa_cons ha (L2.pa_cons hT L2.pa_nil rfl) (star_cons hs)) n1 d1 (star_cons hs) rfl) fun σ H Q ⟨ρ, st, φ, S, en, q⟩ => ?_
  rw [ev] at q
  refine seqE rfl S en q fun x st1 φ1 H1 u e1 s1 S1 en1 r1 q1 => ?_
  obtain ⟨k, hk, q2⟩ := okB_ok q1
  obtain ⟨t, ht, rfl⟩ := isT_ok S1 r1 hk
  exact ⟨u, .ty (tyName T), .type t, .type (tyName T), subTy t T, rfl, .ty _, tyX_of ht, kit_of ht, ok_here S1 (.bl _) q2⟩

/-! ### subscripts -/
theorem k_ix (hu : X.A.units + 12 < cLine) (ha : L2.PE X a (I1 X W C ea)) (hb : L2.PE X b (I1 X W C eb)) (hs : isSlice b = false) : L2.PE X (.Subscript a b pos) (I1 X W C (.ix ea eb)) := by
  refine pe_weak (pe_or2 (L2.pe_ix L2.ix_seq ha hb (fun o i => sub_no hs o i)) (pe_dgetI hu ha hb hs)) fun σ H Q ⟨ρ, st, φ, S, en, q⟩ => ?_
  rw [ev] at q
  by_cases hd : ∃ x st1 y st2, ev C ea ρ st = .ok x st1 ∧ ev C eb ρ st1 = .ok y st2 ∧ isDic st2 x
  · refine .inr (seqE rfl S en q fun x st1 φ1 H1 u e1 s1 S1 en1 r1 q1 => seqE rfl S1 en1 q1 fun y st2 φ2 H2 v e2 s2 S2 en2 r2 q2 => ?_)
    obtain ⟨x', st1', y', st2', k1, k2, k3⟩ := hd
    rw [e1] at k1; cases k1
    rw [e2] at k2; cases k2
    cases x with
    | ref n =>
      obtain ⟨kvs, hk⟩ := k3
      cases r1 with
      | @ref _ p hp =>
        obtain ⟨p', hp', hc⟩ := S2.lt hk
        rw [s2.pre _ _ hp] at hp'; cases hp'
        simp only [ixD, hk] at q2
        split at q2
        · rename_i hal
          split at q2
          · rename_i w hw
            exact ⟨φ2, p, y, w, kvs, ⟨rfl, r2, hc, hal⟩, hw, fun z rz => ok_here S2 rz q2⟩
          · exact q2.elim
        · exact q2.elim
    | _ => exact k3.elim
  · refine .inl (seqE rfl S en q fun x st1 φ1 H1 u e1 s1 S1 en1 r1 q1 => seqE rfl S1 en1 q1 fun y st2 φ2 H2 v e2 s2 S2 en2 r2 q2 => ?_)
    exact ix_ok S2 (r1.mono s2) r2 (fun z => hd ⟨x, st1, y, st2, e1, e2, z⟩) q2
abbrev O1 (X : L2.Cx) (W : WX) (C : CT) (o : Exo) : L2.TO := fun σ H Q => ∃ ρ st φ, StoR (gd X) φ H st ∧ EnvR (gd X) φ H ρ σ ∧ post (fun _ _ (a b : Option Int) => a = b) (gd X) φ H (evo C o ρ st) Q (fun c d H' => W c d σ H')
theorem k_none : L2.PO X none (O1 X W C .none) := po_weak L2.po_none fun σ H Q ⟨ρ, st, φ, S, en, q⟩ => by
  rw [evo] at q
  exact q _ _ _ (Stp.refl _ _) S rfl
theorem k_some (ha : L2.PE X a (I1 X W C ea)) : L2.PO X (some a) (O1 X W C (.some ea)) := po_weak (L2.po_some ha) fun σ H Q ⟨ρ, st, φ, S, en, q⟩ => by
  rw [evo] at q
  refine seqE rfl S en q fun x st1 φ1 H1 u e1 s1 S1 en1 r1 q1 => ?_
  cases r1 with
  | int i => exact ⟨i, rfl, q1 _ _ _ (Stp.refl _ _) S1 rfl⟩
  | _ => exact q1.elim
theorem k_sl {lo hi : Option Expr} {xl xh : Exo} {p2 : Pos} (ha : L2.PE X a (I1 X W C ea)) (hl : L2.PO X lo (O1 X W C xl)) (hh : L2.PO X hi (O1 X W C xh)) : L2.PE X (.Subscript a (.Slice lo hi none p2) pos) (I1 X W C (.sl ea xl xh)) := by
  refine pe_weak (L2.pe_slice sl_all ha hl hh) fun σ H Q ⟨ρ, st, φ, S, en, q⟩ => ?_
  rw [ev] at q
  refine seqE rfl S en q fun x st1 φ1 H1 u e1 s1 S1 en1 r1 q1 => ?_
  refine ⟨ρ, st1, φ1, S1, en1, post_bind q1 fun l st2 φ2 H2 l' e2 s2 S2 r2 q2 => ?_⟩
  subst r2
  refine ⟨ρ, st2, φ2, S2, en1.mono s2, post_bind q2 fun h st3 φ3 H3 h' e3 s3 S3 r3 q3 => ?_⟩
  subst r3
  exact sl_ok S3 ((r1.mono s2).mono s3) q3

/-! ### in, not in -/
def rMemD (X : L2.Cx) (neg : Bool) : L2.R2 := fun x y H Q => rMem X.K neg x y H Q ∨ if neg = true then rDNi X x y H Q else rDIn X x y H Q
theorem op_memD (h1 : X.A.units + 65 < cLine) : L2.OpR X (compareOp .In) (rMemD X false) := (op_memI h1).or (op_din (by omega))
theorem op_nmemD (h1 : X.A.units + 65 < cLine) : L2.OpR X (compareOp .NotIn) (rMemD X true) := (op_nmemI h1).or (op_dni (by omega))
theorem memD_ok (neg : Bool) {φ : List Addr} {H : Hp} {st : Sto} {x y : D} {u v : L2.V} {Q : L2.VK} {E : L2.XK} (S : StoR (gd X) φ H st) (r1 : VR (gd X) φ H x u) (r2 : VR (gd X) φ H y v)
    (h : post (VR (gd X)) (gd X) φ H (okB (if neg = true then (memD x y st).map (!·) else memD x y st) st) Q E) : rMemD X neg u v H Q := by
  obtain ⟨k, hk, q⟩ := okB_ok h
  have hm : ∃ c, memD x y st = some c ∧ k = if neg = true then !c else c := by
    cases neg with
    | false => exact ⟨k, hk, rfl⟩
    | true =>
      obtain ⟨c, h1, h2⟩ := Option.map_eq_some_iff.mp (show (memD x y st).map (!·) = some k from hk)
      exact ⟨c, h1, h2.symm⟩
  obtain ⟨c, hc, rfl⟩ := hm
  have q := ok_here S (.bl _) q
  by_cases hd : isDic st y
  · refine .inr ?_
    cases y with
    | ref n =>
      obtain ⟨kvs, h1⟩ := hd
      cases r2 with
      | @ref _ p hp =>
        obtain ⟨p', hp', hcell⟩ := S.lt h1
        rw [hp] at hp'; cases hp'
        simp only [memD, h1] at hc
        split at hc
        · rename_i hal
          cases hc
          cases neg with
          | false => exact ⟨φ, p, x, kvs, ⟨rfl, r1, hcell, hal⟩, q⟩
          | true => exact ⟨φ, p, x, kvs, ⟨rfl, r1, hcell, hal⟩, q⟩
        · cases hc
    | _ => exact hd.elim
  · exact .inl (mem_ok neg S r1 r2 hd hc q)
theorem k_in (h1 : X.A.units + 65 < cLine) (ha : L2.PE X a (I1 X W C ea)) (hb : L2.PE X b (I1 X W C eb)) (hm : isSet b = false) : L2.PE X (.Compare a [.In] [b] pos) (I1 X W C (.cmp .isin ea eb)) ∧ L2.PT X (.Compare a [.In] [b] pos) (T1 X W C (.cmp .isin ea eb)) :=
  k_cmp (op_memD h1) ha hb hm (w_two (o := fun x y st => okB (cmpD .isin x y st) st) (fun _ _ => by rw [ev]) fun S r1 r2 q => memD_ok false S r1 r2 q)
theorem k_nin (h1 : X.A.units + 65 < cLine) (ha : L2.PE X a (I1 X W C ea)) (hb : L2.PE X b (I1 X W C eb)) (hm : isSet b = false) : L2.PE X (.Compare a [.NotIn] [b] pos) (I1 X W C (.cmp .notin ea eb)) ∧ L2.PT X (.Compare a [.NotIn] [b] pos) (T1 X W C (.cmp .notin ea eb)) :=
  k_cmp (op_nmemD h1) ha hb hm (w_two (o := fun x y st => okB (cmpD .notin x y st) st) (fun _ _ => by rw [ev]) fun S r1 r2 q => memD_ok true S r1 r2 q)
theorem k_lset {p p2 q : Pos} (hc : X.calm = true) (g1 : L2.Gl X "len") (m1 : X.mg "len" = none) (g2 : L2.Gl X "set") (m2 : X.mg "set" = none) (ha : L2.PE X a (I1 X W C ea)) (na : isStar a = false) :
    L2.PE X (.Call (.Name "len" p) [.Call (.Name "set" p2) [a] [] q] [] pos) (I1 X W C (.lset ea)) :=
  pe_weak (pe_lenSetI hc g1 m1 g2 m2 ha na) fun σ H Q ⟨ρ, st, φ, S, en, q⟩ => by
    rw [ev] at q
    exact seqE rfl S en q fun x st1 φ1 H1 u e1 s1 S1 en1 r1 q1 => lset_ok S1 r1 q1

/-! ### methods -/
theorem rcv_lst {x : D} {v : L2.V} {φ : List Addr} {H : Hp} {st : Sto} (S : StoR (gd X) φ H st) (r : VR (gd X) φ H x v) (h : isLst x st = true) : L2.tyV X.K "list" v H := by
  cases r with
  | @ref n p hp =>
    simp only [isLst] at h
    split at h
    · rename_i ds h1
      obtain ⟨vs, k1, k2⟩ := lst_at S h1 hp
      exact .inl ⟨rfl, vs, L2.SqL.of k1⟩
    · cases h
  | _ => cases h
def tyD (X : L2.Cx) : V → Hp → Prop := fun v H => ∃ (φ : List Addr) (a : Addr) (kvs : List (D × D)), v = .ref a ∧ CellR (gd X) φ H a (.dic kvs)
theorem isT_dicR : IsT X "dict" (tyD X) := fun pins s σ H x v I r ⟨φ, a, kvs, e, c⟩ => by
  subst e
  exact isT_dic pins s σ H _ v I r (dic_ty c ⟨s.heap, I.hok⟩)
theorem rcv_dic {x : D} {v : L2.V} {φ : List Addr} {H : Hp} {st : Sto} (S : StoR (gd X) φ H st) (r : VR (gd X) φ H x v) (h : isDct x st = true) : tyD X v H := by
  cases r with
  | @ref n p hp =>
    simp only [isDct] at h
    split at h
    · rename_i kvs h1
      obtain ⟨p', hp', hc⟩ := S.lt h1
      rw [hp] at hp'; cases hp'
      exact ⟨φ, p, kvs, rfl, hc⟩
    · cases h
  | _ => cases h
/-- a method of a built-in type, one argument at least -/
theorem k_bm {m : Bm} {T id : String} {name : Str} {o e0 : Expr} {es : List Expr} {eo : Ex} {xs : Exs} {apos cpos : Pos} {ty : V → Hp → Prop} {r : V → List V → Hp → L2.VK → Prop} (hT : IsT X T ty) (pa : PlainAttrs T) (slot : Slot T name id)
    (hty : typeOf (.builtin id) = pure (.type "method_descriptor")) (hm : L2.MtR X id r) (ho : L2.PE X o (I1 X W C eo)) (ha : L2.PA X (e0 :: es) (A1 X W C xs)) (hb : isSup o = false) (hs : (e0 :: es).all (fun e => !isStar e) = true) (hl : (e0 :: es).length < 30) (hline : (apos.endLine == cpos.line) = true)
    (h1 : ∀ {φ : List Addr} {H : Hp} {st : Sto} {x : D} {v : L2.V}, StoR (gd X) φ H st → VR (gd X) φ H x v → rcv m x st = true → ty v H)
    (h2 : ∀ {φ : List Addr} {H : Hp} {st : Sto} {x : D} {ds : List D} {v : L2.V} {vs : List V} {Q : L2.VK} {E : L2.XK}, StoR (gd X) φ H st → VR (gd X) φ H x v → VRs (gd X) φ H ds vs → post (VR (gd X)) (gd X) φ H (bmD m x ds st) Q E → r v vs H Q) :
    L2.PE X (.Call (.Attribute o name apos) (e0 :: es) [] cpos) (I1 X W C (.bm m eo xs)) := by
  refine pe_weak (pe_mt hT pa slot hty hm ho ha hb hs hl hline) fun σ H Q ⟨ρ, st, φ, S, en, q⟩ => ?_
  rw [ev] at q
  refine seqE rfl S en q fun x st1 φ1 H1 u e1 s1 S1 en1 r1 q1 => ?_
  split at q1
  · rename_i hr
    exact ⟨h1 S1 r1 hr, seqA rfl S1 en1 q1 fun ds st2 φ2 H2 vs e2 s2 S2 en2 r2 q2 => h2 S2 (r1.mono s2) r2 q2⟩
  · exact q1.elim
section
variable {φ : List Addr} {H : Hp} {st : Sto} {x : D} {ds : List D} {v : L2.V} {vs : List V} {Q : L2.VK} {E : L2.XK}
theorem app_okI (S : StoR (gd X) φ H st) (r : VR (gd X) φ H x v) (rs : VRs (gd X) φ H ds vs) (h : post (VR (gd X)) (gd X) φ H (appD x ds st) Q E) : L2.rAppend v vs H Q := by
  cases r with
  | @ref n p hp =>
    cases rs with
    | nil => exact h.elim
    | @cons d w _ _ rd t =>
      cases t with
      | cons _ _ => exact h.elim
      | nil =>
        simp only [appD] at h
        split at h
        · rename_i es h1
          split at h
          · rename_i hlt
            obtain ⟨us, k1, k2⟩ := lst_at S h1 hp
            refine ⟨p, us, w, rfl, rfl, k1, by rw [← k2.length]; exact lim_line' hlt, ?_⟩
            obtain ⟨s, S'⟩ := S.write (o := .lst (us ++ [w])) (c := .lst (es ++ [d])) hp fun s => ⟨_, L2.upd_same, (k2.mono s).append (.one (rd.mono s))⟩
            exact h _ _ _ s S' .non
          · exact h.elim
        · exact h.elim
  | _ => exact h.elim
theorem ext_okI (S : StoR (gd X) φ H st) (r : VR (gd X) φ H x v) (rs : VRs (gd X) φ H ds vs) (h : post (VR (gd X)) (gd X) φ H (extD x ds st) Q E) : L2.rExtend v vs H Q := by
  cases r with
  | @ref n p hp =>
    cases rs with
    | nil => exact h.elim
    | @cons d w _ _ rd t =>
      cases t with
      | cons _ _ => cases rd <;> exact h.elim
      | nil =>
        cases rd with
        | @ref m p2 hp2 =>
          simp only [extD] at h
          split at h
          · rename_i es fs h1 h2
            split at h
            · rename_i hlt
              obtain ⟨us, k1, k2⟩ := lst_at S h1 hp
              obtain ⟨ws, k3, k4⟩ := lst_at S h2 hp2
              refine ⟨p, p2, us, ws, rfl, rfl, k1, k3, by rw [← k2.length, ← k4.length]; exact lim_line hlt, ?_⟩
              obtain ⟨s, S'⟩ := S.write (o := .lst (us ++ ws)) (c := .lst (es ++ fs)) hp fun s => ⟨_, L2.upd_same, (k2.mono s).append (k4.mono s)⟩
              exact h _ _ _ s S' .non
            · exact h.elim
          · exact h.elim
        | _ => exact h.elim
  | _ => exact h.elim
theorem vrs_last {g : Gd} {ds : List D} {vs : List V} {d : D} (r : VRs g φ H ds vs) (h : ds[ds.length - 1]? = some d) : ∃ v, vs[vs.length - 1]? = some v ∧ VR g φ H d v := by
  rw [← r.length]
  exact r.get h
theorem pop_okI (S : StoR (gd X) φ H st) (r : VR (gd X) φ H x v) (h : post (VR (gd X)) (gd X) φ H (popD x [] st) Q E) : L2.rPop v [] H Q := by
  cases r with
  | @ref n p hp =>
    simp only [popD] at h
    split at h
    · rename_i es h1
      split at h
      · rename_i d hd
        obtain ⟨us, k1, k2⟩ := lst_at S h1 hp
        obtain ⟨w, k3, k4⟩ := vrs_last k2 hd
        refine ⟨p, us, w, rfl, rfl, k1, k3, ?_⟩
        obtain ⟨s, S'⟩ := S.write (o := .lst us.dropLast) (c := .lst es.dropLast) hp fun s => ⟨_, L2.upd_same, (k2.mono s).dropLast⟩
        exact h _ _ _ s S' (k4.mono s)
      · exact h.elim
    · exact h.elim
  | _ => exact h.elim
theorem popi_okI (S : StoR (gd X) φ H st) (r : VR (gd X) φ H x v) (rs : VRs (gd X) φ H ds vs) (h : post (VR (gd X)) (gd X) φ H (popiD x ds st) Q E) : L2.rPopAt v vs H Q := by
  cases r with
  | @ref n p hp =>
    cases rs with
    | nil => exact h.elim
    | @cons d w _ _ rd t =>
      cases t with
      | cons _ _ => cases rd <;> exact h.elim
      | nil =>
        cases rd with
        | int i =>
          simp only [popiD] at h
          split at h
          · rename_i es h1
            split at h
            · rename_i k hk
              split at h
              · rename_i d hd
                split at h
                · rename_i hlt
                  obtain ⟨us, k1, k2⟩ := lst_at S h1 hp
                  obtain ⟨w, k3, k4⟩ := k2.get hd
                  obtain ⟨q1, q2, q3, q4⟩ := L2.ixN_seq hk
                  rw [k2.length] at q1 q3 q4 hlt
                  unfold LIM at hlt
                  refine ⟨p, us, i, k, w, rfl, rfl, k1, by omega, by omega, q1, k3, ?_⟩
                  obtain ⟨s, S'⟩ := S.write (o := .lst (us.eraseIdx k)) (c := .lst (es.eraseIdx k)) hp fun s => ⟨_, L2.upd_same, (k2.mono s).eraseIdx k⟩
                  exact h _ _ _ s S' (k4.mono s)
                · exact h.elim
              · exact h.elim
            · exact h.elim
          · exact h.elim
        | _ => exact h.elim
  | _ => exact h.elim
theorem get_okI (S : StoR (gd X) φ H st) (r : VR (gd X) φ H x v) (rs : VRs (gd X) φ H ds vs) (h : post (VR (gd X)) (gd X) φ H (getDD x ds st) Q E) : rDGet2 X v vs H Q := by
  cases r with
  | @ref n p hp =>
    cases rs with
    | nil => exact h.elim
    | @cons k y _ _ rk t =>
      cases t with
      | nil => exact h.elim
      | @cons d z _ _ rd t =>
        cases t with
        | cons _ _ => exact h.elim
        | nil =>
          simp only [getDD] at h
          split at h
          · rename_i kvs h1
            split at h
            · rename_i hal
              obtain ⟨p', hp', hc⟩ := S.lt h1
              rw [hp] at hp'; cases hp'
              exact ⟨φ, p, k, d, y, z, kvs, rfl, ⟨rfl, rk, hc, hal⟩, rd, fun w rw => ok_here S rw h⟩
            · exact h.elim
          · exact h.elim
  | _ => exact h.elim
theorem index_okI (S : StoR (gd X) φ H st) (r : VR (gd X) φ H x v) (rs : VRs (gd X) φ H ds vs) (h : post (VR (gd X)) (gd X) φ H (indexD x ds st) Q E) : L2.rIndexD X.K v vs H Q := by
  cases r with
  | @ref n p hp =>
    cases rs with
    | nil => exact h.elim
    | @cons d y _ _ rd t =>
      cases t with
      | cons _ _ => exact h.elim
      | nil =>
        simp only [indexD] at h
        split at h
        · rename_i j hj
          unfold idxD at hj
          split at hj
          · rename_i q ps h1 h2
            obtain ⟨a1, a2, a3⟩ := dp_of S 64 _ _ _ rd h1
            obtain ⟨b1, b2, b3⟩ := dp_of S 64 _ _ _ (.ref hp) h2
            rw [List.findIdx?_eq_some_iff_getElem] at hj
            obtain ⟨hl, c1, c2⟩ := hj
            refine ⟨p, y, q, ps, j, ps[j], rfl, rfl, b1, a1, shaped_of b2 b3, shaped_of a2 a3, List.getElem?_eq_getElem hl, c1, fun m z hm hz => ?_, ok_here S (.int _) h⟩
            obtain ⟨hm', rfl⟩ := List.getElem?_eq_some_iff.mp hz
            simpa using c2 m hm
          · cases hj
        · exact h.elim
  | _ => exact h.elim
end
theorem k_pop {name : Str} {o : Expr} {eo : Ex} {apos cpos : Pos} (slot : Slot "list" name "list.pop") (ho : L2.PE X o (I1 X W C eo)) (hb : isSup o = false) (hline : (apos.endLine == cpos.line) = true) : L2.PE X (.Call (.Attribute o name apos) [] [] cpos) (I1 X W C (.bm .pop eo .nil)) := by
  refine pe_weak (L2.pe_bm0 PySem.F.plainAttrs_list slot PySem.F.type_list_pop L2.mt_pop ho (attr_base hb) hline) fun σ H Q ⟨ρ, st, φ, S, en, q⟩ => ?_
  rw [ev] at q
  refine seqE rfl S en q fun x st1 φ1 H1 u e1 s1 S1 en1 r1 q1 => ?_
  split at q1
  · rename_i hr
    rw [evs] at q1
    exact ⟨rcv_lst S1 r1 hr, pop_okI S1 r1 q1⟩
  · exact q1.elim
end
end IP

/-! IpM: readings: targets, what is walked. -/
namespace IP
open PySem PySem.Spec PyProof.Rows
theorem pg_weak {X : L2.Cx} {e : Expr} {t t' : L2.TG} (h : L2.PG X e t) (k : ∀ v σ H Q, t' v σ H Q → t v σ H Q) : L2.PG X e t' := ⟨fun pins s σ H v u Q I r q => h.run pins s σ H v u Q I r (k v σ H Q q)⟩
theorem pgs_weak {X : L2.Cx} {e : List Expr} {t t' : L2.TGs} (h : L2.PGs X e t) (k : ∀ v σ H Q, t' v σ H Q → t v σ H Q) : L2.PGs X e t' := ⟨fun pins s σ H v u Q I r q => h.run pins s σ H v u Q I r (k v σ H Q q)⟩
theorem pi_weak {X : L2.Cx} {tg e : Expr} {t t' : L2.TI} (h : L2.PI X tg e t) (k : ∀ σ H R, t' σ H R → t σ H R) : L2.PI X tg e t' := ⟨fun pins s σ H R I q => h.run pins s σ H R I (k σ H R q)⟩
mutual
def Tg.ix : Tg → List Nat
  | .nm i => [i]
  | .tp ts => ts.ixs
def Tgs.ixs : Tgs → List Nat
  | .nil => []
  | .cons t ts => t.ix ++ ts.ixs
end
/-- the slots but those at l are kept -/
def Off (l : List Nat) (σ σ' : L2.St) : Prop := σ'.length = σ.length ∧ ∀ i, i ∉ l → σ'[i]? = σ[i]?
theorem Off.trans {l m : List Nat} {σ σ' σ'' : L2.St} (a : Off l σ σ') (b : Off m σ' σ'') : Off (l ++ m) σ σ'' := ⟨b.1.trans a.1, fun i h => (b.2 i fun z => h (List.mem_append_right _ z)).trans (a.2 i fun z => h (List.mem_append_left _ z))⟩
def gI (g : Gd) (t : Tg) : L2.TG := fun v σ H Q => ∃ d ρ st φ ρ', StoR g φ H st ∧ EnvR g φ H ρ σ ∧ VR g φ H d v ∧ asg t d ρ st = some ρ' ∧ ∀ σ', EnvR g φ H ρ' σ' → Off t.ix σ σ' → Q σ' H
def gIs (g : Gd) (ts : Tgs) : L2.TGs := fun vs σ H Q => ∃ ds ρ st φ ρ', StoR g φ H st ∧ EnvR g φ H ρ σ ∧ VRs g φ H ds vs ∧ asgs ts ds ρ st = some ρ' ∧ ∀ σ', EnvR g φ H ρ' σ' → Off ts.ixs σ σ' → Q σ' H
theorem EnvR.set {g : Gd} {φ : List Addr} {H : Hp} {ρ : Env} {σ : L2.St} {i : Nat} {d : D} {v : L2.V} (e : EnvR g φ H ρ σ) (r : VR g φ H d v) : EnvR g φ H (ρ.set i (some d)) (σ.set i (some v)) := by
  refine ⟨by rw [List.length_set, List.length_set]; exact e.len, fun j d' h => ?_⟩
  by_cases q : i = j
  · subst q
    by_cases hl : i < ρ.length
    · rw [List.getElem?_set_self hl] at h
      cases h
      exact ⟨v, List.getElem?_set_self (by rw [← e.len]; exact hl), r⟩
    · rw [List.getElem?_eq_none (by rw [List.length_set]; omega)] at h; cases h
  · rw [List.getElem?_set_ne q] at h ⊢
    exact e.at_ j d' h
theorem off_set {i : Nat} {x : Option L2.V} {σ : L2.St} : Off [i] σ (σ.set i x) := ⟨List.length_set, fun j h => List.getElem?_set_ne (fun e => h (by rw [e]; exact List.mem_singleton.mpr rfl))⟩
theorem asgE_len : ∀ {es : List Expr} {env : PySem.Env}, es.all (fun e => !isStar e) = true → (assignEach es env).length = es.length ∧ (assignEach es env).findIdx? (·.1) = none
  | [], _, _ => ⟨rfl, rfl⟩
  | e :: es, env, h => by
    rw [List.all_cons, Bool.and_eq_true] at h
    obtain ⟨h1, h2⟩ := asgE_len (env := env) h.2
    have hs : isStar e = false := by simpa using h.1
    have hc : assignEach (e :: es) env = (false, assign e env) :: assignEach es env := by cases e <;> first | rfl | cases hs
    rw [hc]
    refine ⟨by rw [List.length_cons, List.length_cons, h1], ?_⟩
    rw [List.findIdx?_cons, h2]; rfl
theorem asgE_cons {e : Expr} {es : List Expr} {env : PySem.Env} (h : isStar e = false) : (assignEach (e :: es) env).map (·.2) = assign e env :: (assignEach es env).map (·.2) := by
  cases e <;> first | rfl | cases h
section
variable {X : L2.Cx} {pos : Pos}
theorem k_name {i : Nat} {x : Str} (hN : X.N.Nodup) (hi : X.N[i]? = some x) (hx : L2.Loc X.env.scope x) (hf : X.fn x = true ∨ X.env.scope.names.lookup x = some .local) : L2.PG X (.Name x pos) (gI (gd X) (.nm i)) :=
  pg_weak (L2.pg_name hN hi hx hf) fun v σ H Q ⟨d, ρ, st, φ, ρ', S, en, r, e, h⟩ => by
    simp only [asg] at e
    split at e
    · cases e; exact h _ (en.set r) off_set
    · cases e
theorem k_tnil : L2.PGs X [] (gIs (gd X) .nil) := pgs_weak L2.pgs_nil fun vs σ H Q ⟨ds, ρ, st, φ, ρ', S, en, r, e, h⟩ => by
  cases r with
  | nil => simp only [asgs] at e; cases e; exact ⟨rfl, h _ en ⟨rfl, fun _ _ => rfl⟩⟩
  | cons _ _ => simp [asgs] at e
theorem k_tcons {e : Expr} {es : List Expr} {t : Tg} {ts : Tgs} (h1 : L2.PG X e (gI (gd X) t)) (h2 : L2.PGs X es (gIs (gd X) ts)) (hs : isStar e = false) : L2.PGs X (e :: es) (gIs (gd X) (.cons t ts)) :=
  pgs_weak (L2.pgs_cons h1 h2 (asgE_cons hs)) fun vs σ H Q ⟨ds, ρ, st, φ, ρ', S, en, r, e, h⟩ => by
    cases r with
    | nil => simp [asgs] at e
    | @cons d v ds vs rd rt =>
      simp only [asgs] at e
      split at e
      · rename_i ρ1 h3
        exact ⟨v, vs, rfl, d, ρ, st, φ, ρ1, S, en, rd, h3, fun σ1 en1 o1 => ⟨ds, ρ1, st, φ, ρ', S, en1, rt, e, fun σ2 en2 o2 => h σ2 en2 (o1.trans o2)⟩⟩
      · cases e
theorem k_tt {es : List Expr} {n : Nat} {ts : Tgs} (hc : X.calm = true) (h : L2.PGs X es (gIs (gd X) ts)) (hs : es.all (fun e => !isStar e) = true) (hl : ∀ ds ρ st ρ', asgs ts ds ρ st = some ρ' → ds.length = es.length) : L2.PG X (.Tuple es n pos) (gI (gd X) (.tp ts)) := by
  obtain ⟨h1, h2⟩ := asgE_len (env := X.env) hs
  refine pg_weak (pg_or2 (L2.pg_tup hc h h1 h2) (L2.pg_unl hc h h1 h2)) fun v σ H Q ⟨d, ρ, st, φ, ρ', S, en, r, e, q⟩ => ?_
  cases r with
  | @tup a ds vs ha rs =>
    exact .inl ⟨a, vs, rfl, L2.SqT.of ha, by rw [← rs.length]; exact hl ds ρ st ρ' e, ds, ρ, st, φ, ρ', S, en, rs, e, q⟩
  | @ref m a hp =>
    simp only [asg] at e
    split at e
    · rename_i ds h3
      obtain ⟨vs, k1, k2⟩ := lst_at S h3 hp
      exact .inr ⟨a, vs, rfl, L2.SqL.of k1, by rw [← k2.length]; exact hl ds ρ st ρ' e, ds, ρ, st, φ, ρ', S, en, k2, e, q⟩
    · cases e
  | _ => cases e
end
/-! ### what is walked -/
def itR (g : Gd) (φ : List Addr) (H : Hp) (p : List D × Watch) (J : L2.It) : Prop := IterR g φ H p.1 p.2 J
def iI (g : Gd) (W : WX) (f : Env → Sto → R (List D × Watch)) : L2.TI := fun σ H R => ∃ ρ st φ, StoR g φ H st ∧ EnvR g φ H ρ σ ∧ post (itR g) g φ H (f ρ st) R (fun c d H' => W c d σ H')
section
variable {X : L2.Cx} {W : WX} {C : CT} {pos : Pos} {a b c : Expr} {ea eb ec : Ex}
abbrev J1 (X : L2.Cx) (W : WX) (C : CT) (it : Itr) : L2.TI := iI (gd X) W (evi C it)
theorem it_here {φ : List Addr} {H : Hp} {st : Sto} {p : List D × Watch} {J : L2.It} {R : L2.It → Hp → Prop} {E : L2.XK} (S : StoR (gd X) φ H st) (r : IterR (gd X) φ H p.1 p.2 J) (h : post (itR (gd X)) (gd X) φ H (.ok p st) R E) : R J H := h _ _ _ (Stp.refl _ _) S r
theorem k_val {tg : Expr} (ha : L2.PE X a (I1 X W C ea)) : L2.PI X tg a (J1 X W C (.val ea)) := by
  refine pi_weak (pi_or2 (L2.pi_list ha) (pi_or2 (L2.pi_tup ha) (L2.pi_str ha))) fun σ H R ⟨ρ, st, φ, S, en, q⟩ => ?_
  rw [evi] at q
  by_cases h1 : ∃ ds st1, ev C ea ρ st = .ok (.tup ds) st1
  · refine .inr (.inl (seqE rfl S en q fun x st1 φ1 H1 u e1 s1 S1 en1 r1 q1 => ?_))
    obtain ⟨ds, st', e⟩ := h1
    rw [e1] at e; cases e
    cases r1 with
    | @tup p _ vs hp rs => exact ⟨p, rfl, ⟨vs, L2.SqT.of hp⟩, it_here S1 (iter_tup hp rs) q1⟩
  · by_cases h2 : ∃ z st1, ev C ea ρ st = .ok (.str z) st1
    · refine .inr (.inr (seqE rfl S en q fun x st1 φ1 H1 u e1 s1 S1 en1 r1 q1 => ?_))
      obtain ⟨z, st', e⟩ := h2
      rw [e1] at e; cases e
      cases r1
      exact ⟨z, rfl, it_here S1 iter_str q1⟩
    · refine .inl (seqE rfl S en q fun x st1 φ1 H1 u e1 s1 S1 en1 r1 q1 => ?_)
      have ro : ∀ {ns : List Int} {p : Addr}, x = .ro ns → u = .ref p → VR (gd X) φ1 H1 (.ro ns) (.ref p) → ∃ a, u = .ref a ∧ (∃ xs, L2.SqL X.K H1 a xs) ∧ R (L2.Itl X.K a) H1 := fun {ns p} ex eu r => by
        subst ex eu
        exact ⟨p, rfl, ⟨_, sq_of_ro r⟩, it_here S1 (p := (ns.map D.int, [])) (iter_ro r) q1⟩
      cases r1 with
      | tup hp rs => exact absurd ⟨_, _, e1⟩ h1
      | str z => exact absurd ⟨_, _, e1⟩ h2
      | rof hp => exact ro rfl rfl (.rof hp)
      | rok hp => exact ro rfl rfl (.rok hp)
      | @ref n p hp =>
        simp only [walkOf] at q1
        split at q1
        · rename_i pr hpr
          split at hpr
          · rename_i ds h3
            cases hpr
            obtain ⟨vs, k1, k2⟩ := lst_at S1 h3 hp
            exact ⟨p, rfl, ⟨vs, L2.SqL.of k1⟩, it_here S1 (iter_lst hp (by simp)) q1⟩
          · cases hpr
        · exact q1.elim
      | _ => exact q1.elim
theorem small_of {j : Int} (h : small62 j = true) : -(2 ^ 62) ≤ j ∧ j < 2 ^ 62 := of_decide_eq_true h
theorem k_rng {tg : Expr} {p : Pos} (hg : L2.Gl X "range") (hm : X.mg "range" = none) (ha : L2.PE X a (I1 X W C ea)) (hs : isStar a = false) : L2.PI X tg (.Call (.Name "range" p) [a] [] pos) (J1 X W C (.rng ea)) := by
  refine pi_weak (L2.pi_range1 hg hm (L2.pa_cons ha L2.pa_nil (star_cons hs)) (star_cons hs)) fun σ H R ⟨ρ, st, φ, S, en, q⟩ => ?_
  rw [evi] at q
  refine seqE rfl S en q fun x st1 φ1 H1 u e1 s1 S1 en1 r1 q1 => ?_
  cases r1 with
  | int j =>
    dsimp only at q1
    split at q1
    · rename_i hj
      obtain ⟨j1, j2⟩ := small_of hj
      exact ⟨j, rfl, j1, j2, it_here S1 (p := (rngD 0 j.toNat, [])) iter_rng q1⟩
    · exact q1.elim
  | _ => exact q1.elim
theorem k_rng2 {tg : Expr} {p : Pos} (hg : L2.Gl X "range") (hm : X.mg "range" = none) (ha : L2.PE X a (I1 X W C ea)) (hb : L2.PE X b (I1 X W C eb)) (hs : isStar a = false) (hs2 : isStar b = false) : L2.PI X tg (.Call (.Name "range" p) [a, b] [] pos) (J1 X W C (.rng2 ea eb)) := by
  have e2 : starEach [b] X.env = [(false, eval b X.env)] := star_cons hs2
  have e1 : starEach [a, b] X.env = [(false, eval a X.env), (false, eval b X.env)] := by rw [star_cons hs, e2]
  refine pi_weak (L2.pi_range2 hg hm (L2.pa_cons ha (L2.pa_cons hb L2.pa_nil (star_cons hs2)) (star_cons hs)) e1 e2) fun σ H R ⟨ρ, st, φ, S, en, q⟩ => ?_
  rw [evi] at q
  refine seqE rfl S en q fun x st1 φ1 H1 u e1 s1 S1 en1 r1 q1 => seqE rfl S1 en1 q1 fun y st2 φ2 H2 v e2 s2 S2 en2 r2 q2 => ?_
  cases r1 with
  | int i =>
    cases r2 with
    | int j =>
      dsimp only at q2
      split at q2
      · rename_i hj
        rw [Bool.and_eq_true] at hj
        obtain ⟨i1, i2⟩ := small_of hj.1
        obtain ⟨j1, j2⟩ := small_of hj.2
        exact ⟨i, j, rfl, ⟨i1, i2, j1, j2⟩, it_here S2 (p := (rngD i (j - i).toNat, [])) iter_rng q2⟩
      · exact q2.elim
    | _ => exact q2.elim
  | _ => exact q2.elim
theorem k_enm {elts : List Expr} {kk : Nat} {p tpos : Pos} (hg : L2.Gl X "enumerate") (hm : X.mg "enumerate" = none) (ha : L2.PE X a (I1 X W C ea)) (hs : isStar a = false) : L2.PI X (.Tuple elts kk tpos) (.Call (.Name "enumerate" p) [a] [] pos) (J1 X W C (.enm ea)) := by
  have hA := L2.pa_cons ha L2.pa_nil (star_cons hs)
  refine pi_weak (pi_or2 (L2.pi_enum hg hm hA (star_cons hs)) (pi_enmT hg hm hA (star_cons hs))) fun σ H R ⟨ρ, st, φ, S, en, q⟩ => ?_
  rw [evi] at q
  by_cases h1 : ∃ ds st1, ev C ea ρ st = .ok (.tup ds) st1
  · refine .inr (seqE rfl S en q fun x st1 φ1 H1 u e1 s1 S1 en1 r1 q1 => ?_)
    obtain ⟨ds, st', e⟩ := h1
    rw [e1] at e; cases e
    cases r1 with
    | @tup p _ vs hp rs => exact ⟨p, vs, rfl, L2.SqT.of hp, it_here S1 (p := (zipI 0 ds, [])) (iter_enmT hp rs) q1⟩
  · refine .inl (seqE rfl S en q fun x st1 φ1 H1 u e1 s1 S1 en1 r1 q1 => ?_)
    cases r1 with
    | tup hp rs => exact absurd ⟨_, _, e1⟩ h1
    | @ref n p hp =>
      simp only [seqOf] at q1
      split at q1
      · rename_i pr hpr
        split at hpr
        · rename_i ds h3
          cases hpr
          obtain ⟨vs, k1, k2⟩ := lst_at S1 h3 hp
          exact ⟨p, vs, rfl, L2.SqL.of k1, it_here S1 (p := (zipI 0 ds, [(n, Cell.lst ds)])) (iter_enmL hp) q1⟩
        · cases hpr
      · exact q1.elim
    | _ => exact q1.elim
theorem zipD_get : ∀ (as bs : List D) (i : Nat) (d : D), (zipD as bs)[i]? = some d → ∃ x y, as[i]? = some x ∧ bs[i]? = some y ∧ d = .tup [x, y]
  | [], _, i, d, h => by simp [zipD] at h
  | _ :: _, [], i, d, h => by simp [zipD] at h
  | a :: as, b :: bs, 0, d, h => by simp [zipD] at h; exact ⟨a, b, rfl, rfl, h.symm⟩
  | a :: as, b :: bs, i + 1, d, h => by
    rw [zipD, List.getElem?_cons_succ] at h
    obtain ⟨x, y, h1, h2, h3⟩ := zipD_get as bs i d h
    exact ⟨x, y, by simpa using h1, by simpa using h2, h3⟩
theorem zipD_len : ∀ (as bs : List D), (zipD as bs).length = min as.length bs.length
  | [], _ => by simp [zipD]
  | _ :: _, [] => by simp [zipD]
  | a :: as, b :: bs => by rw [zipD, List.length_cons, zipD_len as bs, List.length_cons, List.length_cons]; omega
theorem iter_zipL {g : Gd} {φ : List Addr} {H : Hp} {n m : Nat} {a b : Addr} {ds es : List D} (hn : φ[n]? = some a) (hm : φ[m]? = some b) : IterR g φ H (zipD ds es) ([(n, Cell.lst ds)] ++ [(m, Cell.lst es)]) (L2.Itz g.K a b) where
  go := fun φ' H' st' i s S k hi => by
    rw [zipD_len] at hi
    obtain ⟨vs, h1, h2⟩ := lst_at S (okW_at (n := n) (c := .lst ds) k (by simp)) (s.pre _ _ hn)
    obtain ⟨us, h3, h4⟩ := lst_at S (okW_at (n := m) (c := .lst es) k (by simp)) (s.pre _ _ hm)
    obtain ⟨v, h5, _⟩ := h2.get (List.getElem?_eq_getElem (i := i) (by omega))
    obtain ⟨u, h6, _⟩ := h4.get (List.getElem?_eq_getElem (i := i) (by omega))
    exact ⟨vs, us, v, u, L2.SqL.of h1, L2.SqL.of h3, h5, h6⟩
  yld := fun φ' H' st' i x H'' d s S k hi y => by
    obtain ⟨e, f, he, hf, hd⟩ := zipD_get ds es i d hi
    subst hd
    obtain ⟨vs, h1, h2⟩ := lst_at S (okW_at (n := n) (c := .lst ds) k (by simp)) (s.pre _ _ hn)
    obtain ⟨us, h3, h4⟩ := lst_at S (okW_at (n := m) (c := .lst es) k (by simp)) (s.pre _ _ hm)
    obtain ⟨v, h5, r5⟩ := h2.get he
    obtain ⟨u, h6, r6⟩ := h4.get hf
    obtain ⟨T, x', y', rfl, hT, rfl, hx, hy⟩ := y
    have e1 := hx vs (L2.SqL.of h1)
    rw [h5] at e1; cases e1
    have e2 := hy us (L2.SqL.of h3)
    rw [h6] at e2; cases e2
    exact laid_tup S hT (.cons r5 (.cons r6 .nil))
  stop := fun φ' H' st' s S k => by
    obtain ⟨vs, h1, h2⟩ := lst_at S (okW_at (n := n) (c := .lst ds) k (by simp)) (s.pre _ _ hn)
    obtain ⟨us, h3, h4⟩ := lst_at S (okW_at (n := m) (c := .lst es) k (by simp)) (s.pre _ _ hm)
    refine ⟨vs, us, L2.SqL.of h1, L2.SqL.of h3, ?_⟩
    rw [zipD_len, ← h2.length, ← h4.length]; omega
theorem iter_zipT {g : Gd} {φ : List Addr} {H : Hp} {a b : Addr} {ds es : List D} {vs us : List V} (h : H a = some (.tup vs)) (r : VRs g φ H ds vs) (h' : H b = some (.tup us)) (r' : VRs g φ H es us) : IterR g φ H (zipD ds es) [] (RZ.ItzT g.K a b) where
  go := fun φ' H' st' i s S k hi => by
    rw [zipD_len] at hi
    obtain ⟨v, h5, _⟩ := r.get (List.getElem?_eq_getElem (i := i) (by omega))
    obtain ⟨u, h6, _⟩ := r'.get (List.getElem?_eq_getElem (i := i) (by omega))
    exact ⟨vs, us, v, u, L2.SqT.of (s.tup _ _ h), L2.SqT.of (s.tup _ _ h'), h5, h6⟩
  yld := fun φ' H' st' i x H'' d s S k hi y => by
    obtain ⟨e, f, he, hf, hd⟩ := zipD_get ds es i d hi
    subst hd
    obtain ⟨v, h5, r5⟩ := (r.mono s).get he
    obtain ⟨u, h6, r6⟩ := (r'.mono s).get hf
    obtain ⟨T, x', y', rfl, hT, rfl, hx, hy⟩ := y
    have e1 := hx vs (L2.SqT.of (s.tup _ _ h))
    rw [h5] at e1; cases e1
    have e2 := hy us (L2.SqT.of (s.tup _ _ h'))
    rw [h6] at e2; cases e2
    exact laid_tup S hT (.cons r5 (.cons r6 .nil))
  stop := fun φ' H' st' s S k => by
    refine ⟨vs, us, L2.SqT.of (s.tup _ _ h), L2.SqT.of (s.tup _ _ h'), ?_⟩
    rw [zipD_len, ← r.length, ← r'.length]; omega
theorem k_zip {elts : List Expr} {kk : Nat} {p tpos : Pos} (hg : L2.Gl X "zip") (hm : X.mg "zip" = none) (ha : L2.PE X a (I1 X W C ea)) (hb : L2.PE X b (I1 X W C eb)) (hs : isStar a = false) (hs2 : isStar b = false) :
    L2.PI X (.Tuple elts kk tpos) (.Call (.Name "zip" p) [a, b] [] pos) (J1 X W C (.zip ea eb)) := by
  have pl : (backTo pos (starEach [b] X.env)).any (·.1) = false := by rw [star_cons hs2]; rfl
  refine pi_weak (RZ.pi_zipA hg hm (L2.pa_cons ha (L2.pa_cons hb L2.pa_nil (star_cons hs2)) (star_cons hs)) (star_cons hs) pl) fun σ H R ⟨ρ, st, φ, S, en, q⟩ => ?_
  rw [evi] at q
  refine seqE rfl S en q fun x st1 φ1 H1 u e1 s1 S1 en1 r1 q1 => seqE rfl S1 en1 q1 fun y st2 φ2 H2 v e2 s2 S2 en2 r2 q2 => ?_
  have r1 := r1.mono s2
  split at q2
  · rename_i p q hp hq
    split at q2
    · rename_i hk
      cases r1 with
      | @tup a1 ds vs h1 k1 =>
        cases r2 with
        | @tup b1 es us h2 k2 =>
          cases hp; cases hq
          exact ⟨a1, b1, vs, us, rfl, .inr ⟨L2.SqT.of h1, L2.SqT.of h2, it_here S2 (p := (zipD ds es, [])) (iter_zipT h1 k1 h2 k2) q2⟩⟩
        | _ => cases hk
      | @ref n a1 h1 =>
        cases r2 with
        | @ref m b1 h2 =>
          simp only [seqOf] at hp hq
          split at hp
          · rename_i ds h3
            cases hp
            split at hq
            · rename_i es h4
              cases hq
              obtain ⟨vs, k1, k2⟩ := lst_at S2 h3 h1
              obtain ⟨us, k3, k4⟩ := lst_at S2 h4 h2
              exact ⟨a1, b1, vs, us, rfl, .inl ⟨L2.SqL.of k1, L2.SqL.of k3, it_here S2 (p := (zipD ds es, [(n, Cell.lst ds)] ++ [(m, Cell.lst es)])) (iter_zipL h1 h2) q2⟩⟩
            · cases hq
          · cases hp
        | _ => cases hk
      | _ => cases hk
    · exact q2.elim
  · exact q2.elim
end
end IP

/-! IpN: readings: comprehensions. -/
namespace IP
open PySem PySem.Spec PyProof.Rows
/-- values and cells as they were, in a heap with more -/
structure Grow (φ : List Addr) (H : Hp) (φ' : List Addr) (H' : Hp) : Prop where
  pre : ∀ (n : Nat) (a : Addr), φ[n]? = some a → φ'[n]? = some a
  tup : ∀ (a : Addr) (vs : List V), H a = some (.tup vs) → H' a = some (.tup vs)
  frz : ∀ (a : Addr) (o : Obj) (u : HO), H a = some (.frz o u) → H' a = some (.frz o u)
section
variable {g : Gd} {φ φ' : List Addr} {H H' : Hp} {st : Sto}
mutual
theorem VR.grow (s : Grow φ H φ' H') : ∀ {d : D} {v : V}, VR g φ H d v → VR g φ' H' d v
  | _, _, .non => .non
  | _, _, .bl b => .bl b
  | _, _, .int i => .int i
  | _, _, .str x => .str x
  | _, _, .tup e r => .tup (s.tup _ _ e) (VRs.grow s r)
  | _, _, .ref e => .ref (s.pre _ _ e)
  | _, _, .rof e => .rof (s.frz _ _ _ e)
  | _, _, .rok e => .rok e
  | _, _, .fn e => .fn e
theorem VRs.grow (s : Grow φ H φ' H') : ∀ {ds : List D} {vs : List V}, VRs g φ H ds vs → VRs g φ' H' ds vs
  | _, _, .nil => .nil
  | _, _, .cons r t => .cons (VR.grow s r) (VRs.grow s t)
end
theorem CellR.grow {a : Addr} {c : Cell} (s : Grow φ H φ' H') (e : H' a = H a) (r : CellR g φ H a c) : CellR g φ' H' a c := by
  cases c with
  | lst ds =>
    obtain ⟨vs, h1, h2⟩ := r
    exact ⟨vs, e.trans h1, h2.grow s⟩
  | dic kvs =>
    obtain ⟨o, h1, h2, h3, h4⟩ := r
    refine ⟨o, e.trans h1, h2, h3, ?_⟩
    rcases h4 with ⟨k, vs, q, p⟩ | ⟨k, xs, es, ep, q1, q2, q3, q4, p⟩
    · exact .inl ⟨k, vs, q, Paired.mapR p fun _ _ ⟨z1, v, z2, z3⟩ => ⟨z1, v, z2.grow s, z3⟩⟩
    · exact .inr ⟨k, xs, es, ep, q1, q2, q3, q4, Paired.mapR p fun _ _ ⟨z1, z0, v, z2, z3⟩ => ⟨z1, z0.grow s, v, z2.grow s, z3⟩⟩
  | ins C fs =>
    obtain ⟨Ca, dx, fs', h1, h2, h3⟩ := r
    exact ⟨Ca, dx, fs', h1, e.trans h2, Paired.mapR h3 fun _ _ h => ⟨h.1, h.2.grow s⟩⟩
/-- a list beside the store becomes its cell -/
theorem StoR.adopt {p : Addr} {acc : List D} {vs : List V} (S : StoR g φ H st) (hn : p ∉ φ) (hp : H p = some (.lst vs)) (r : VRs g φ H acc vs) : StoR g (φ ++ [p]) H (st ++ [.lst acc]) := by
  have s : Grow φ H (φ ++ [p]) H := ⟨fun n a e => by rw [List.getElem?_append_left (List.getElem?_eq_some_iff.mp e).1]; exact e, fun _ _ e => e, fun _ _ _ e => e⟩
  refine ⟨by rw [List.length_append, List.length_append, S.len]; rfl, ?_, fun n a c' h1 h2 => ?_⟩
  · rw [List.nodup_append]
    exact ⟨S.nd, by simp, fun a ha b hb e => hn (by rw [List.mem_singleton.mp hb] at e; rw [← e]; exact ha)⟩
  · by_cases hlt : n < st.length
    · rw [List.getElem?_append_left (by rw [S.len]; exact hlt)] at h1
      rw [List.getElem?_append_left hlt] at h2
      exact (S.cell n a c' h1 h2).grow s rfl
    · have e : n = st.length := by
        have := (List.getElem?_eq_some_iff.mp h2).1
        rw [List.length_append] at this
        simp at this; omega
      subst e
      rw [List.getElem?_append_right (Nat.le_refl _)] at h2
      rw [List.getElem?_append_right (by rw [S.len]; exact Nat.le_refl _)] at h1
      simp at h2
      rw [S.len] at h1
      simp at h1
      subst h1 h2
      exact ⟨vs, hp, r.grow s⟩
/-- a list beside the store is written -/
theorem StoR.aside {p : Addr} {vs us : List V} (S : StoR g φ H st) (hn : p ∉ φ) (hp : H p = some (.lst vs)) : Grow φ H φ (L2.upd H p (.lst us)) ∧ StoR g φ (L2.upd H p (.lst us)) st := by
  have s : Grow φ H φ (L2.upd H p (.lst us)) := ⟨fun _ _ e => e, fun a ws e => by rw [L2.upd_ne (L2.ne_of e hp (fun z => by cases z))]; exact e, fun a o u e => by rw [L2.upd_ne (L2.ne_of e hp (fun z => by cases z))]; exact e⟩
  exact ⟨s, S.len, S.nd, fun n a c h1 h2 => (S.cell n a c h1 h2).grow s (L2.upd_ne fun q => hn (by rw [← q]; exact List.mem_of_getElem? h1))⟩
theorem Stp.updNew {p : Addr} {o : HO} (s : Stp φ H φ' H') (hp : H p = none) : Stp φ H φ' (L2.upd H' p o) where
  pre := s.pre
  fr := fun a u e n => by rw [L2.upd_ne (L2.ne_of_none e hp)]; exact s.fr a u e n
  tup := fun a vs e => by rw [L2.upd_ne (L2.ne_of_none e hp)]; exact s.tup a vs e
  frz := fun a ob u e => by rw [L2.upd_ne (L2.ne_of_none e hp)]; exact s.frz a ob u e
  new := s.new
theorem Stp.adopt {p : Addr} (s : Stp φ H φ' H') (hp : H p = none) : Stp φ H (φ' ++ [p]) H' where
  pre := fun n a e => by
    have := s.pre n a e
    rw [List.getElem?_append_left (List.getElem?_eq_some_iff.mp this).1]; exact this
  fr := s.fr
  tup := s.tup
  frz := s.frz
  new := fun a h n => by
    rcases List.mem_append.mp h with h | h
    · exact s.new a h n
    · rw [List.mem_singleton.mp h]; exact hp
theorem Stp.still {p : Addr} {o : HO} (s : Stp φ H φ' H') (hp : H p = some o) (hn : p ∉ φ) : p ∉ φ' ∧ H' p = some o := by
  refine ⟨fun h => ?_, s.fr p o hp hn⟩
  have z := s.new p h hn
  rw [hp] at z
  cases z
end
theorem wipe_len (ρ : Env) : ∀ l : List Nat, (wipe ρ l).length = ρ.length
  | [] => rfl
  | i :: l => by rw [wipe, List.length_set, wipe_len ρ l]
theorem envR_wipe {g : Gd} {φ : List Addr} {H : Hp} {ρ : Env} {σ : L2.St} (e : EnvR g φ H ρ σ) : ∀ l : List Nat, EnvR g φ H (wipe ρ l) (L2.wipe σ l)
  | [] => e
  | i :: l => by
    have e1 := envR_wipe e l
    refine ⟨by rw [wipe, L2.wipe, List.length_set, List.length_set]; exact e1.len, fun j d h => ?_⟩
    rw [wipe] at h
    rw [L2.wipe]
    by_cases q : i = j
    · subst q
      by_cases hl : i < (wipe ρ l).length
      · rw [List.getElem?_set_self hl] at h; cases h
      · rw [List.getElem?_eq_none (by rw [List.length_set]; omega)] at h; cases h
    · rw [List.getElem?_set_ne q] at h ⊢
      exact e1.at_ j d h
theorem wipe_in {σ : L2.St} {i : Nat} : ∀ {l : List Nat}, i ∈ l → i < σ.length → (L2.wipe σ l)[i]? = some none
  | j :: l, h, hl => by
    rw [L2.wipe]
    by_cases q : j = i
    · subst q; exact List.getElem?_set_self (by rw [L2.wipe_length]; exact hl)
    · rw [List.getElem?_set_ne q]
      exact wipe_in ((List.mem_cons.mp h).resolve_left (Ne.symm q)) hl
theorem wipe_off {l m : List Nat} {σ σ' : L2.St} (o : Off m (L2.wipe σ l) σ') (h : ∀ i ∈ m, i ∈ l) : L2.wipe σ' l = L2.wipe σ l := by
  have hl : σ'.length = σ.length := by rw [o.1, L2.wipe_length]
  refine List.ext_getElem? fun i => ?_
  by_cases hi : i < σ.length
  · by_cases him : i ∈ l
    · rw [wipe_in him (by rw [hl]; exact hi), wipe_in him hi]
    · rw [L2.wipe_out him]
      exact o.2 i fun z => him (h i z)
  · rw [List.getElem?_eq_none (by rw [L2.wipe_length]; omega), List.getElem?_eq_none (by rw [L2.wipe_length]; omega)]
theorem pts_weak {X : L2.Cx} {e : List Expr} {t t' : L2.TT} (h : L2.PTs X e t) (k : ∀ σ H Q, t' σ H Q → t σ H Q) : L2.PTs X e t' := ⟨fun pins s σ H Q I q => h.run pins s σ H Q I (k σ H Q q)⟩
section
variable {X : L2.Cx} {W : WX} {C : CT} {pos : Pos} {a b c : Expr} {ea eb ec : Ex}
abbrev Wn : WX := fun _ _ _ _ => False
def cI (g : Gd) (W : WX) (f : Env → Sto → R Bool) : L2.TT := fun σ H Q => ∃ ρ st φ, StoR g φ H st ∧ EnvR g φ H ρ σ ∧ post (fun _ _ (a b : Bool) => a = b) g φ H (f ρ st) Q (fun c d H' => W c d σ H')
theorem k_ifs0 : L2.PTs X [] (cI (gd X) W (evc C .none)) := pts_weak L2.pts_nil fun σ H Q ⟨ρ, st, φ, S, en, q⟩ => by
  rw [evc] at q
  exact q _ _ _ (Stp.refl _ _) S rfl
theorem k_ifs1 (ha : L2.PT X a (T1 X W C ea)) : L2.PTs X [a] (cI (gd X) W (evc C (.some ea))) := pts_weak (L2.pts_one ha) fun σ H Q ⟨ρ, st, φ, S, en, q⟩ => by
  rw [evc] at q
  refine tI_of_T rfl S en q (fun d st1 h => by cases d <;> first | rfl | exact absurd rfl (h _)) fun x st1 φ1 H1 e1 s1 S1 en1 q1 => ?_
  exact q1 _ _ _ (Stp.refl _ _) S1 rfl
theorem w_comp {e : Ex} {t : Tg} {it : Itr} {c : Exo} {own : List Nat} (ht : ∀ i ∈ t.ix, i ∈ own) : ∀ σ H Q, I1 X W C (.comp e t it c own) σ H Q → L2.tLc (J1 X W C it) (gI (gd X) t) (cI (gd X) Wn (evc C c)) (I1 X Wn C e) own σ H Q := fun σ H Q ⟨ρ, st, φ, S, en, q⟩ => by
  rw [ev] at q
  refine ⟨ρ, st, φ, S, en, post_bind q fun p st1 φ1 H1 J e1 s1 S1 r1 q1 => ?_⟩
  have en1 := en.mono s1
  obtain ⟨ds, w⟩ := p
  dsimp only at q1
  split at q1
  case isFalse => exact q1.elim
  rename_i hw
  intro A hA
  generalize hF : (fun d st2 => match asg t d (wipe ρ own) st2 with
    | some ρ' => (evc C c ρ' st2).bind fun b st3 => if b then (ev C e ρ' st3).bind fun y st4 => R.ok (some y) st4 else R.ok none st3
    | none => R.bad : D → Sto → R (Option D)) = F at q1
  refine ⟨fun i m H2 => m = ds.length - i ∧ i ≤ ds.length ∧ ∃ φ2 st2 acc vs, Stp φ1 H1 φ2 H2 ∧ StoR (gd X) φ2 H2 st2 ∧ okW w st2 = true ∧ A ∉ φ2 ∧ H2 A = some (.lst vs) ∧ VRs (gd X) φ2 H2 acc vs ∧
    post (VR (gd X)) (gd X) φ1 H1 ((compL F w (ds.drop i) acc st2).bind fun ys st3 => R.ok (D.ref st3.length) (st3 ++ [Cell.lst ys])) Q fun c d H' => W c d σ H', ⟨ds.length, ?_⟩, fun i m H2 hW => ?_⟩
  · obtain ⟨s2, S2⟩ := S1.laid (o := .lst []) hA
    exact ⟨by omega, Nat.zero_le _, φ1, st1, [], [], s2, S2, hw, S1.notin hA, L2.upd_same, .nil, q1⟩
  obtain ⟨rfl, hi, φ2, st2, acc, vs, s2, S2, hw2, nA, hA2, racc, q2⟩ := hW
  have r1 : IterR (gd X) φ1 H1 ds w J := r1
  by_cases hlt : i < ds.length
  case neg =>
    have ei : i = ds.length := by omega
    subst ei
    rw [List.drop_length] at q2
    refine .inl ⟨r1.stop φ2 H2 st2 s2 S2 hw2, ?_⟩
    have q2 : post (VR (gd X)) (gd X) φ1 H1 (.ok (D.ref st2.length) (st2 ++ [Cell.lst acc])) Q fun c d H' => W c d σ H' := q2
    exact q2 (φ2 ++ [A]) H2 (.ref A) (s2.adopt hA) (S2.adopt nA hA2 racc) (.ref (by rw [List.getElem?_append_right (by rw [S2.len]; exact Nat.le_refl _), S2.len]; simp))
  refine .inr ⟨r1.go φ2 H2 st2 i s2 S2 hw2 hlt, _, fun H' h => ⟨ds.length - (i + 1), by omega, h⟩, fun x H3 hy => ?_⟩
  obtain ⟨s3, S3, rx⟩ := r1.yld φ2 H2 st2 i x H3 ds[i] s2 S2 hw2 (List.getElem?_eq_getElem hlt) hy
  obtain ⟨nA3, hA3⟩ := s3.still hA2 nA
  rw [List.drop_eq_getElem_cons hlt] at q2
  have s13 := s2.trans s3
  have en3 := envR_wipe (en1.mono s13) own
  -- the turn
  cases hf : F ds[i] st2 with
  | bad => simp only [compL, hf] at q2; exact q2.elim
  | exc _ _ => simp only [compL, hf] at q2; exact q2.elim
  | ok o st5 =>
    simp only [compL, hf] at q2
    rw [← hF] at hf
    dsimp only at hf
    cases hg : asg t ds[i] (wipe ρ own) st2 with
    | none => rw [hg] at hf; cases hf
    | some ρ' =>
      rw [hg] at hf
      dsimp only at hf
      refine ⟨ds[i], wipe ρ own, st2, φ2, ρ', S3, en3, rx, hg, fun σ2 en4 off => ⟨wipe_off off ht, ρ', st2, φ2, S3, en4, ?_⟩⟩
      cases hc : evc C c ρ' st2 with
      | bad => rw [hc] at hf; cases hf
      | exc _ _ => rw [hc] at hf; cases hf
      | ok k st3 =>
        rw [hc] at hf
        intro φ3 H4 k' s4 S4 ek
        subst ek
        obtain ⟨nA4, hA4⟩ := s4.still hA3 nA3
        have s14 := s13.trans s4
        cases k with
        | false =>
          have hf : (R.ok none st3 : R (Option D)) = .ok o st5 := hf
          cases hf
          dsimp only at q2
          split at q2
          case isFalse => exact q2.elim
          rename_i hw4
          rw [if_neg (by simp)]
          exact ⟨rfl, hlt, φ3, st5, acc, vs, s14, S4, hw4, nA4, hA4, (racc.mono s3).mono s4, q2⟩
        | true =>
          have hf : ((ev C e ρ' st3).bind fun y st4 => R.ok (some y) st4) = .ok o st5 := hf
          rw [if_pos rfl]
          refine ⟨ρ', st3, φ3, S4, en4.mono s4, ?_⟩
          cases he : ev C e ρ' st3 with
          | bad => rw [he] at hf; cases hf
          | exc _ _ => rw [he] at hf; cases hf
          | ok y st4 =>
            rw [he] at hf
            have hf : (R.ok (some y) st4 : R (Option D)) = .ok o st5 := hf
            cases hf
            intro φ4 H5 v s5 S5 rv
            obtain ⟨nA5, hA5⟩ := s5.still hA4 nA4
            have s15 := s14.trans s5
            dsimp only at q2
            split at q2
            case isFalse => exact q2.elim
            rename_i hw5
            rw [Bool.and_eq_true, decide_eq_true_eq] at hw5
            have racc5 := ((racc.mono s3).mono s4).mono s5
            refine ⟨vs, hA5, by rw [← racc5.length]; exact lim_line' hw5.2, ?_⟩
            obtain ⟨gr, S6⟩ := S5.aside (us := vs ++ [v]) nA5 hA5
            exact ⟨rfl, hlt, φ4, st5, acc ++ [y], vs ++ [v], s15.updNew hA, S6, hw5.1, nA5, L2.upd_same, (racc5.grow gr).append (.one (rv.grow gr)), q2⟩
/-- a comprehension as a value -/
theorem k_comp {elt tg iter : Expr} {ifs : List Expr} {scope : Scope} {own : List (Str × Nat)} {t : Tg} {it : Itr} {c : Exo} {e : Ex} (hc : X.calm = true) (hN : X.N.Nodup) (hi : L2.PI X tg iter (J1 X W C it)) (ok : L2.BlkOk X.N X.env.scope scope own)
    (hg : ∀ (s : Shared) (H : Hp) (A : Addr) (cl : List (Str × Addr)) (fp : List Addr), L2.PG (X.blk s H scope (compEnvC scope cl A X.env) fp) tg (gI (gd X) t))
    (hf : ∀ (s : Shared) (H : Hp) (A : Addr) (cl : List (Str × Addr)) (fp : List Addr), L2.PTs (X.blk s H scope (compEnvC scope cl A X.env) fp) ifs (cI (gd X) Wn (evc C c)))
    (he : ∀ (s : Shared) (H : Hp) (A : Addr) (cl : List (Str × Addr)) (fp : List Addr), L2.PE (X.blk s H scope (compEnvC scope cl A X.env) fp) elt (tI (gd X) Wn (ev C e))) (hs : isSet iter = false) (ht : ∀ i ∈ t.ix, i ∈ own.map (·.2)) :
    L2.PE X (.ListComp elt [⟨tg, iter, ifs, 0⟩] scope pos) (I1 X W C (.comp e t it c (own.map (·.2)))) :=
  pe_weak (L2.pe_lc hc hN hi ok hg hf he (folded_no hs)) (w_comp ht)
end
end IP

/-! IpO: readings: statements. -/
namespace IP
open PySem PySem.Spec PyProof.Rows
def postS (g : Gd) (W : WX) (φ : List Addr) (H : Hp) (r : SR) (Z : L2.Ends) : Prop :=
  match r with
  | .bad => False
  | .exc x ρ' st' => ∀ φ' H' σ' cls dx, Stp φ H φ' H' → StoR g φ' H' st' → EnvR g φ' H' ρ' σ' → ExnR g φ' H' x cls dx → W cls dx σ' H'
  | .next ρ' st' => ∀ φ' H' σ', Stp φ H φ' H' → StoR g φ' H' st' → EnvR g φ' H' ρ' σ' → Z.nx σ' H'
  | .ret d st' => ∀ φ' H' v, Stp φ H φ' H' → StoR g φ' H' st' → VR g φ' H' d v → Z.rt v H'
  | .brk ρ' st' => ∀ φ' H' σ', Stp φ H φ' H' → StoR g φ' H' st' → EnvR g φ' H' ρ' σ' → Z.bk σ' H'
  | .cont ρ' st' => ∀ φ' H' σ', Stp φ H φ' H' → StoR g φ' H' st' → EnvR g φ' H' ρ' σ' → Z.ct σ' H'
def sI (g : Gd) (W : WX) (f : Env → Sto → SR) : L2.TS := fun Z σ H => ∃ ρ st φ, StoR g φ H st ∧ EnvR g φ H ρ σ ∧ postS g W φ H (f ρ st) Z
section
variable {g : Gd} {W : WX} {φ φ' : List Addr} {H H' : Hp} {Z Z' : L2.Ends}
theorem postS_mono {r : SR} (s : Stp φ H φ' H') (h : postS g W φ H r Z) : postS g W φ' H' r Z := by
  cases r with
  | bad => exact h
  | exc x ρ st => exact fun φ2 H2 σ2 c d t => h φ2 H2 σ2 c d (s.trans t)
  | next ρ st => exact fun φ2 H2 σ2 t => h φ2 H2 σ2 (s.trans t)
  | ret d st => exact fun φ2 H2 σ2 t => h φ2 H2 σ2 (s.trans t)
  | brk ρ st => exact fun φ2 H2 σ2 t => h φ2 H2 σ2 (s.trans t)
  | cont ρ st => exact fun φ2 H2 σ2 t => h φ2 H2 σ2 (s.trans t)
theorem postS_ofR {α β : Type} {rel : List Addr → Hp → α → β → Prop} {ρ : Env} {σ : L2.St} {r : R α} {f : α → Sto → SR} {Q : β → Hp → Prop} (en : EnvR g φ H ρ σ) (h : postS g W φ H (SR.ofR ρ r f) Z)
    (k : ∀ a st1 φ1 H1 v, r = .ok a st1 → Stp φ H φ1 H1 → StoR g φ1 H1 st1 → EnvR g φ1 H1 ρ σ → rel φ1 H1 a v → postS g W φ1 H1 (f a st1) Z → Q v H1) : post rel g φ H r Q (fun c d H' => W c d σ H') := by
  cases r with
  | bad => exact h
  | exc x st => exact fun φ1 H1 c d s S x => h φ1 H1 σ c d s S (en.mono s) x
  | ok a st => exact fun φ1 H1 v s S q => k a st φ1 H1 v rfl s S (en.mono s) q (postS_mono s h)
end
section
variable {X : L2.Cx} {W : WX} {C : CT} {Wf : Nat} {pos : Pos} {a b c : Expr} {ea eb ec : Ex}
abbrev S1 (X : L2.Cx) (W : WX) (C : CT) (Wf : Nat) (s : St) : L2.TS := sI (gd X) W (exc C Wf s)
abbrev SS1 (X : L2.Cx) (W : WX) (C : CT) (Wf : Nat) (s : Sts) : L2.TS := sI (gd X) W (excs C Wf s)
/-- an expression's reading ahead of the rest of a statement -/
theorem seqS {f : Env → Sto → R D} {k : D → Sto → SR} {ρ : Env} {st : Sto} {φ : List Addr} {σ : L2.St} {H : Hp} {Z : L2.Ends} {Q1 : L2.VK} (S : StoR (gd X) φ H st) (en : EnvR (gd X) φ H ρ σ) (h : postS (gd X) W φ H (SR.ofR ρ (f ρ st) k) Z)
    (hk : ∀ x st1 φ1 H1 v, f ρ st = .ok x st1 → Stp φ H φ1 H1 → StoR (gd X) φ1 H1 st1 → EnvR (gd X) φ1 H1 ρ σ → VR (gd X) φ1 H1 x v → postS (gd X) W φ1 H1 (k x st1) Z → Q1 v H1) : tI (gd X) W f σ H Q1 :=
  ⟨ρ, st, φ, S, en, postS_ofR en h hk⟩
theorem q_nil : L2.PSs X [] (SS1 X W C Wf .nil) := pss_weak L2.pss_nil fun Z σ H ⟨ρ, st, φ, S, en, q⟩ => by
  rw [excs] at q
  exact q _ _ _ (Stp.refl _ _) S en
theorem q_cons {s : Stmt} {ss : List Stmt} {x : St} {xs : Sts} (h1 : L2.PS X s (S1 X W C Wf x)) (h2 : L2.PSs X ss (SS1 X W C Wf xs)) : L2.PSs X (s :: ss) (SS1 X W C Wf (.cons x xs)) :=
  pss_weak (L2.pss_cons h1 h2) fun Z σ H ⟨ρ, st, φ, S, en, q⟩ => by
    rw [excs] at q
    refine ⟨ρ, st, φ, S, en, ?_⟩
    cases e : exc C Wf x ρ st with
    | bad => rw [e] at q; exact q
    | exc y ρ' st' => rw [e] at q; exact q
    | ret d st' => rw [e] at q; exact q
    | brk ρ' st' => rw [e] at q; exact q
    | cont ρ' st' => rw [e] at q; exact q
    | next ρ' st' => rw [e] at q; exact fun φ1 H1 σ1 s S1 en1 => ⟨ρ', st', φ1, S1, en1, postS_mono s q⟩
theorem q_pass : L2.PS X (.Pass pos) (S1 X W C Wf .pass) := ps_weak L2.ps_pass fun Z σ H ⟨ρ, st, φ, S, en, q⟩ => by
  rw [exc] at q
  exact q _ _ _ (Stp.refl _ _) S en
/-- a statement that is never come to -/
theorem q_never {st : Stmt} : L2.PS X st (S1 X W C Wf .never) := ps_weak L2.ps_never fun Z σ H ⟨ρ, st, φ, S, en, q⟩ => by
  rw [exc] at q
  exact q
theorem q_doc {x : Str} {j : Nat} {p1 : Pos} : L2.PS X (.Expr (.Constant (.str x) j p1) pos) (S1 X W C Wf .pass) := ps_weak L2.ps_doc fun Z σ H ⟨ρ, st, φ, S, en, q⟩ => by
  rw [exc] at q
  exact q _ _ _ (Stp.refl _ _) S en
theorem q_cont : L2.PS X (.Continue pos) (S1 X W C Wf .cont) := ps_weak L2.ps_continue fun Z σ H ⟨ρ, st, φ, S, en, q⟩ => by
  rw [exc] at q
  exact q _ _ _ (Stp.refl _ _) S en
theorem q_ret (ha : L2.PE X a (I1 X W C ea)) : L2.PS X (.Return (some a) pos) (S1 X W C Wf (.ret ea)) := ps_weak (L2.ps_ret ha) fun Z σ H ⟨ρ, st, φ, S, en, q⟩ => by
  rw [exc] at q
  exact seqS S en q fun x st1 φ1 H1 u e1 s1 S1 en1 r1 q1 => q1 _ _ _ (Stp.refl _ _) S1 r1
theorem q_exp (ha : L2.PE X a (I1 X W C ea)) (h : isLc a = false) : L2.PS X (.Expr a pos) (S1 X W C Wf (.exp ea)) := ps_weak (L2.ps_expr ha (swaps_no h)) fun Z σ H ⟨ρ, st, φ, S, en, q⟩ => by
  rw [exc] at q
  exact seqS S en q fun x st1 φ1 H1 u e1 s1 S1 en1 r1 q1 => q1 _ _ _ (Stp.refl _ _) S1 en1
theorem q_if {p q : List Stmt} {xp xq : Sts} (hc : L2.PT X c (T1 X W C ec)) (hp : L2.PSs X p (SS1 X W C Wf xp)) (hq : L2.PSs X q (SS1 X W C Wf xq)) : L2.PS X (.If c p q pos) (S1 X W C Wf (.ife ec xp xq)) :=
  ps_weak (L2.ps_if hc hp hq) fun Z σ H ⟨ρ, st, φ, S, en, q⟩ => by
    rw [exc] at q
    refine ⟨ρ, st, φ, S, en, ?_, fun d st' e => ?_⟩
    · cases e : ev C ec ρ st with
      | bad => rw [e] at q; exact q
      | exc y st' => rw [e] at q; exact fun φ1 H1 c d s S x => q φ1 H1 σ c d s S (en.mono s) x
      | ok d st' =>
        rw [e] at q
        intro φ1 H1 k s S1 hk
        obtain rfl : d = .bl k := hk
        cases k with
        | true => exact ⟨ρ, st', φ1, S1, en.mono s, postS_mono s q⟩
        | false => exact ⟨ρ, st', φ1, S1, en.mono s, postS_mono s q⟩
    · rw [e] at q
      cases d with
      | bl k => exact ⟨k, rfl⟩
      | _ => exact q.elim
/-- target = value -/
def isTupE : Expr → Bool
  | .Tuple _ _ _ => true
  | _ => false
theorem swp_no {t e : Expr} {env : PySem.Env} (h : isTupE e = false) : swappedStores [t] e env = pure none := by
  cases e <;> first | rfl | (cases t <;> rfl) | cases h
theorem swp_name {e : Expr} {x : Str} {p : Pos} {env : PySem.Env} : swappedStores [.Name x p] e env = pure none := by
  cases e <;> rfl
theorem w_asg {t : Tg} {Z : L2.Ends} {σ : L2.St} {H : Hp} (h : S1 X W C Wf (.asg t ea) Z σ H) : L2.tAsg (I1 X W C ea) (gI (gd X) t) Z σ H := by
  obtain ⟨ρ, st, φ, S, en, q⟩ := h
  rw [exc] at q
  refine seqS S en q fun x st1 φ1 H1 u e1 s1 S1 en1 r1 q1 => ?_
  split at q1
  · rename_i ρ' h
    exact ⟨x, ρ, st1, φ1, ρ', S1, en1, r1, h, fun σ' en' _ => q1 _ _ _ (Stp.refl _ _) S1 en'⟩
  · exact q1.elim
theorem q_asg {tg : Expr} {t : Tg} (ha : L2.PE X a (I1 X W C ea)) (hg : L2.PG X tg (gI (gd X) t)) (hs : swapsWith a (some tg) pos.line X.env = pure false) (hw : swappedStores [tg] a X.env = pure none) (ht : isStar tg = false) : L2.PS X (.Assign [tg] a pos) (S1 X W C Wf (.asg t ea)) :=
  ps_weak (L2.ps_asg ha hg hs hw (asgE_cons ht)) fun Z σ H q => w_asg q
/-- name = [..] on one line -/
theorem q_setLc {i : Nat} {y : Str} {py : Pos} {elt tg iter : Expr} {ifs : List Expr} {scope : Scope} {own : List (Str × Nat)} {p1 : Pos} {t : Tg} {it : Itr} {xc : Exo} {e : Ex} (hc : X.calm = true) (hN : X.N.Nodup) (hy : X.N[i]? = some y) (hyl : X.env.scope.names.lookup y = some .local)
    (hsw : swapsWith (.ListComp elt [⟨tg, iter, ifs, 0⟩] scope p1) (some (.Name y py)) pos.line X.env = pure true) (hi : L2.PI X tg iter (J1 X W C it)) (ok : L2.BlkOk X.N X.env.scope scope own)
    (hg : ∀ (s : Shared) (H : Hp) (A : Addr) (cl : List (Str × Addr)) (fp : List Addr), L2.PG (X.blk s H scope (compEnvC scope cl A X.env) fp) tg (gI (gd X) t))
    (hf : ∀ (s : Shared) (H : Hp) (A : Addr) (cl : List (Str × Addr)) (fp : List Addr), L2.PTs (X.blk s H scope (compEnvC scope cl A X.env) fp) ifs (cI (gd X) Wn (evc C xc)))
    (he : ∀ (s : Shared) (H : Hp) (A : Addr) (cl : List (Str × Addr)) (fp : List Addr), L2.PE (X.blk s H scope (compEnvC scope cl A X.env) fp) elt (tI (gd X) Wn (ev C e))) (hs : isSet iter = false) (ht : ∀ i ∈ t.ix, i ∈ own.map (·.2)) :
    L2.PS X (.Assign [.Name y py] (.ListComp elt [⟨tg, iter, ifs, 0⟩] scope p1) pos) (S1 X W C Wf (.asg (.nm i) (.comp e t it xc (own.map (·.2))))) :=
  ps_weak (L2.ps_setLc hc hN hy hyl hsw hi ok hg hf he (folded_no hs)) fun Z σ H q => by
    obtain ⟨ρ, st, φ, S, en, q⟩ := q
    rw [exc] at q
    refine w_comp ht _ _ _ (seqS S en q fun x st1 φ1 H1 u e1 s1 S1 en1 r1 q1 => ?_)
    split at q1
    · rename_i ρ' h
      simp only [asg] at h
      split at h
      · cases h; exact q1 _ _ _ (Stp.refl _ _) S1 (en1.set r1)
      · cases h
    · exact q1.elim
/-- o[i] = e -/
def rPutI (X : L2.Cx) : L2.TSet := fun o i v H Q => L2.rSetL o i v H Q ∨ rDPut X o i v H Q
theorem set_any (hu : X.A.units + 12 < cLine) : L2.PSet X (rPutI X) := pset_or2 L2.set_list (set_dic hu)
theorem q_aset {p1 : Pos} (hu : X.A.units + 12 < cLine) (ha : L2.PE X a (I1 X W C ea)) (hb : L2.PE X b (I1 X W C eb)) (hc : L2.PE X c (I1 X W C ec)) (h : isLc c = false) (h2 : isTupE c = false)
    (hasg : ∀ v, assign (.Subscript a b p1) X.env v = (do
      let ov ← holding [v] (eval a X.env)
      let iv ← holding [v, ov] (eval b X.env)
      standAt p1
      holding [v, ov, iv] (setItem ov iv v)
      release [v, ov, iv] [])) :
    L2.PS X (.Assign [.Subscript a b p1] c pos) (S1 X W C Wf (.aset ea eb ec)) :=
  ps_weak (L2.ps_asg hc (L2.pg_sub ha hb (set_any hu) hasg) (swaps_no (t := some (.Subscript a b p1)) (l := pos.line) (env := X.env) h) (swp_no h2) rfl) fun Z σ H ⟨ρ, st, φ, S, en, q⟩ => by
    rw [exc] at q
    refine seqS S en q fun x st1 φ1 H1 u e1 s1 S1 en1 r1 q1 => seqS S1 en1 q1 fun y st2 φ2 H2 v e2 s2 S2 en2 r2 q2 => seqS S2 en2 q2 fun z st3 φ3 H3 w e3 s3 S3 en3 r3 q3 => ?_
    have r1 := (r1.mono s2).mono s3
    have r2 := r2.mono s3
    cases r2 with
    | @ref n p hp =>
      dsimp only at q3
      split at q3
      · rename_i ds h1
        obtain ⟨vs, k1, k2⟩ := lst_at S3 h1 hp
        cases r3 with
        | int j =>
          dsimp only at q3
          split at q3
          · rename_i k hk
            refine .inl ⟨p, vs, j, k, rfl, rfl, k1, by rw [← k2.length]; exact hk, ?_⟩
            obtain ⟨s4, S4⟩ := S3.write (o := .lst (vs.set k u)) (c := .lst (ds.set k x)) hp fun s => ⟨_, L2.upd_same, (k2.mono s).set k (r1.mono s)⟩
            exact q3 _ _ _ s4 S4 (en3.mono s4)
          · exact q3.elim
        | _ => exact q3.elim
      · rename_i kvs h1
        split at q3
        · rename_i hal
          rw [Bool.and_eq_true, decide_eq_true_eq] at hal
          obtain ⟨p', hp', hcell⟩ := S3.lt h1
          rw [hp] at hp'; cases hp'
          refine .inr ⟨φ3, p, z, x, kvs, List.mem_of_getElem? hp, ⟨rfl, r3, hcell, hal.1⟩, r1, hal.2, fun o' st' cr => ?_⟩
          obtain ⟨s4, S4⟩ := S3.write (o := o') (c := .dic (dput kvs z x)) hp fun s => cr
          exact q3 _ _ _ s4 S4 (en3.mono s4)
        · exact q3.elim
      · exact q3.elim
    | _ => exact q3.elim
/-! ### loops -/
theorem q_for {tg iter : Expr} {body : List Stmt} {t : Tg} {it : Itr} {xb : Sts} (own : PassesOwn (model X.prog X.w) X.A X.env X.xe) (hc : X.calm = true) (hi : L2.PI X tg iter (J1 X W C it)) (hg : L2.PG X tg (gI (gd X) t)) (hb : L2.PSs X body (SS1 X W C Wf xb)) (hs : isSet iter = false) :
    L2.PS X (.For tg iter body [] pos) (S1 X W C Wf (.fr t it xb)) :=
  ps_weak (L2.ps_for own hc hi hg hb (folded_no hs)) fun Z σ H ⟨ρ, st, φ, S, en, q⟩ => by
    rw [exc] at q
    refine ⟨ρ, st, φ, S, en, postS_ofR en q fun p st1 φ1 H1 J e1 s1 S1 en1 r1 q1 => ?_⟩
    obtain ⟨ds, w⟩ := p
    dsimp only at q1
    split at q1
    case isFalse => exact q1.elim
    rename_i hw
    generalize hF : (fun d ρ' st' => match IP.asg t d ρ' st' with
        | some ρ'' => excs C Wf xb ρ'' st'
        | none => SR.bad : D → Env → Sto → SR) = F at q1
    refine ⟨fun i m σ2 H2 => m = ds.length - i ∧ i ≤ ds.length ∧ ∃ φ2 st2 ρ2, Stp φ1 H1 φ2 H2 ∧ StoR (gd X) φ2 H2 st2 ∧ EnvR (gd X) φ2 H2 ρ2 σ2 ∧ okW w st2 = true ∧ postS (gd X) W φ2 H2 (forL F w (ds.drop i) ρ2 st2) Z,
      ⟨ds.length, by omega, Nat.zero_le _, φ1, st1, ρ, Stp.refl _ _, S1, en1, hw, q1⟩, fun i m σ2 H2 hW => ?_⟩
    obtain ⟨rfl, hi, φ2, st2, ρ2, s2, S2, en2, hw2, q2⟩ := hW
    have r1 : IterR (gd X) φ1 H1 ds w J := r1
    by_cases hlt : i < ds.length
    case neg =>
      have ei : i = ds.length := by omega
      subst ei
      rw [List.drop_length] at q2
      exact .inl ⟨r1.stop φ2 H2 st2 s2 S2 hw2, q2 _ _ _ (Stp.refl _ _) S2 en2⟩
    refine .inr ⟨r1.go φ2 H2 st2 i s2 S2 hw2 hlt, _, fun σ' H' h => ⟨ds.length - (i + 1), by omega, h⟩, fun x H3 hy => ?_⟩
    obtain ⟨s3, S3, rx⟩ := r1.yld φ2 H2 st2 i x H3 ds[i] s2 S2 hw2 (List.getElem?_eq_getElem hlt) hy
    rw [List.drop_eq_getElem_cons hlt] at q2
    have en3 := en2.mono s3
    cases hg : IP.asg t ds[i] ρ2 st2 with
    | none =>
      have hf : F ds[i] ρ2 st2 = .bad := by rw [← hF]; simp only [hg]
      simp only [forL, hf] at q2
      exact q2.elim
    | some ρ3 =>
      have hf : F ds[i] ρ2 st2 = excs C Wf xb ρ3 st2 := by rw [← hF]; simp only [hg]
      simp only [forL, hf] at q2
      refine ⟨ds[i], ρ2, st2, φ2, ρ3, S3, en3, rx, hg, fun σ3 en4 off => ⟨ρ3, st2, φ2, S3, en4, ?_⟩⟩
      have q3 := postS_mono s3 q2
      cases he : excs C Wf xb ρ3 st2 with
      | bad => simp only [he] at q3; exact q3.elim
      | exc y ρ' st' => simp only [he] at q3; exact q3
      | ret d st' => simp only [he] at q3; exact q3
      | brk ρ' st' => simp only [he] at q3; exact q3
      | cont ρ' st' =>
        simp only [he] at q3
        split at q3
        case isFalse => exact q3.elim
        rename_i hw4
        exact fun φ4 H4 σ4 s4 S4 en5 => ⟨rfl, hlt, φ4, st', ρ', (s2.trans s3).trans s4, S4, en5, hw4, postS_mono s4 q3⟩
      | next ρ' st' =>
        simp only [he] at q3
        split at q3
        case isFalse => exact q3.elim
        rename_i hw4
        exact fun φ4 H4 σ4 s4 S4 en5 => ⟨rfl, hlt, φ4, st', ρ', (s2.trans s3).trans s4, S4, en5, hw4, postS_mono s4 q3⟩
theorem q_whl {body : List Stmt} {xb : Sts} (own : PassesOwn (model X.prog X.w) X.A X.env X.xe) (hc : L2.PT X c (T1 X W C ec)) (hb : L2.PSs X body (SS1 X W C Wf xb)) : L2.PS X (.While c body [] pos) (S1 X W C Wf (.whl ec xb)) :=
  ps_weak (L2.ps_while own hc hb) fun Z σ H ⟨ρ, st, φ, S, en, q⟩ => by
    rw [exc] at q
    refine ⟨fun m σ2 H2 => ∃ φ2 st2 ρ2, StoR (gd X) φ2 H2 st2 ∧ EnvR (gd X) φ2 H2 ρ2 σ2 ∧ postS (gd X) W φ2 H2 (whlL (fun ρ' st' => ev C ec ρ' st') (fun ρ' st' => excs C Wf xb ρ' st') m ρ2 st2) Z, ⟨Wf, φ, st, ρ, S, en, q⟩, fun m σ2 H2 hW => ?_⟩
    obtain ⟨φ2, st2, ρ2, S2, en2, q2⟩ := hW
    cases m with
    | zero => exact q2.elim
    | succ m =>
      refine ⟨ρ2, st2, φ2, S2, en2, ?_, fun d st' e => ?_⟩
      · cases e : ev C ec ρ2 st2 with
        | bad => simp only [whlL, e] at q2; exact q2
        | exc y st' => simp only [whlL, e] at q2; exact fun φ1 H1 c d s S x => q2 φ1 H1 σ2 c d s S (en2.mono s) x
        | ok d st' =>
          intro φ3 H3 k s3 S3 hk
          obtain rfl : d = .bl k := hk
          cases k with
          | false => simp only [whlL, e] at q2; exact q2 φ3 H3 σ2 s3 S3 (en2.mono s3)
          | true =>
            simp only [whlL, e] at q2
            rw [if_pos rfl]
            refine ⟨_, fun σ' H' h => ⟨m, by omega, h⟩, ρ2, st', φ3, S3, en2.mono s3, ?_⟩
            have q3 := postS_mono s3 q2
            cases he : excs C Wf xb ρ2 st' with
            | bad => simp only [he] at q3; exact q3.elim
            | exc y ρ' st4 => simp only [he] at q3; exact q3
            | ret d st4 => simp only [he] at q3; exact q3
            | brk ρ' st4 => simp only [he] at q3; exact q3
            | cont ρ' st4 =>
              simp only [he] at q3
              exact fun φ4 H4 σ4 s4 S4 en5 => ⟨φ4, st4, ρ', S4, en5, postS_mono s4 q3⟩
            | next ρ' st4 =>
              simp only [he] at q3
              exact fun φ4 H4 σ4 s4 S4 en5 => ⟨φ4, st4, ρ', S4, en5, postS_mono s4 q3⟩
      · cases d with
        | bl k => exact ⟨k, rfl⟩
        | _ => simp only [whlL, e] at q2; exact q2.elim
/-- raise X('m') -/
theorem q_rse {x m : Str} {j : Nat} {p p2 p3 : Pos} {A : Addr} (hc : X.calm = true) (tk : L2.Takes X W) (gC : X.mg x = some (.ref A)) (q1 : PySem.W.excIn X.K A He.veBase "ValueError.__new__" = true) (kC : PySem.W.keepIn X.K (.ref A) = true) (r : L2.Raises X (.ref A))
    (hg : L2.Gl X x) (hd : (x == ("__debug__" : Str)) = false) : L2.PS X (.Raise (some (.Call (.Name x p) [.Constant (.str m) j p2] [] p3)) none pos) (S1 X W C Wf (.rse x)) :=
  ps_weak (L2.ps_raise hc tk (L2.pmk_own PySem.F.excBase_ValueError q1 gC kC r hg hd)) fun Z σ H ⟨ρ, st, φ, S, en, q⟩ => by
    rw [exc] at q
    exact q φ H σ (.ref A) none (Stp.refl _ _) S en ⟨⟨A, gC, rfl⟩, rfl⟩
end
end IP

/-! IpP: from the text to the small language, each step with its reading: expressions. -/
namespace IP
open PySem PySem.Spec PyProof.Rows
theorem Good.gl {c : Cc} {C : CT} {X : L2.Cx} {W : WX} (G : Good c C X W) {x : Str} (h : c.sc.names.lookup x = some .globalImplicit) : L2.Gl X x := by
  show X.env.scope.names.lookup x = _
  rw [G.sc]; exact h
theorem Good.u65 {c : Cc} {C : CT} {X : L2.Cx} {W : WX} (G : Good c C X W) : X.A.units + 65 < cLine := by have := G.un; omega
theorem Good.u66 {c : Cc} {C : CT} {X : L2.Cx} {W : WX} (G : Good c C X W) : X.A.units + 66 < cLine := by have := G.un; omega
theorem Good.u12 {c : Cc} {C : CT} {X : L2.Cx} {W : WX} (G : Good c C X W) : X.A.units + 12 < cLine := by have := G.un; omega
/-- an expression of the text: what it is, its reading; as a test too, if tst -/
structure CE (c : Cc) (e : Expr) where
  ex : Ex
  tst : Bool
  ok : ∀ (C : CT) (X : L2.Cx) (W : WX), Good c C X W → L2.PE X e (I1 X W C ex) ∧ (tst = true → L2.PT X e (T1 X W C ex))
structure CA (c : Cc) (es : List Expr) where
  xs : Exs
  ok : ∀ (C : CT) (X : L2.Cx) (W : WX), Good c C X W → L2.PA X es (A1 X W C xs)
structure CB (c : Cc) (op : BoolOp) (es : List Expr) where
  ex : Ex
  ok : ∀ (C : CT) (X : L2.Cx) (W : WX) (pos : Pos), Good c C X W → L2.PE X (.BoolOp op es pos) (I1 X W C ex) ∧ L2.PW X (.BoolOp op es pos) (T1 X W C ex)
structure CI (c : Cc) (tg e : Expr) where
  it : Itr
  ok : ∀ (C : CT) (X : L2.Cx) (W : WX), Good c C X W → L2.PI X tg e (J1 X W C it)
/-- a test that is made of the value -/
def plainT : Expr → Bool
  | .UnaryOp .Not _ _ => false
  | .BoolOp _ _ _ => false
  | .IfExp _ _ _ _ => false
  | .Compare _ _ _ _ => false
  | _ => true
theorem plain_is {e : Expr} {env : PySem.Env} (h : plainT e = true) : ∀ whole, isTrue e env whole = (do let v ← whole; standAt e.pos; holding [v] (truthy v)) := by
  intro whole
  cases e with
  | UnaryOp op a p => cases op <;> first | rfl | cases h
  | BoolOp _ _ _ => cases h
  | IfExp _ _ _ _ => cases h
  | Compare _ _ _ _ => cases h
  | _ => rfl
def CE.mk' {c : Cc} {e : Expr} (ex : Ex) (h : plainT e = true) (ok : ∀ (C : CT) (X : L2.Cx) (W : WX), Good c C X W → L2.PE X e (I1 X W C ex)) : CE c e := ⟨ex, true, fun C X W G => ⟨ok C X W G, fun _ => k_valT (ok C X W G) (plain_is h)⟩⟩
abbrev ExpF (c : Cc) := (e : Expr) → Option (CE c e)
def slot (c : Cc) (x : Str) : Option Nat := c.N.findIdx? fun y => decide (y = x)
def visB (c : Cc) (x : Str) : Bool := match c.sc.names.lookup x with
  | some .local => true
  | some .cell => true
  | some .free => true
  | _ => false
theorem vis_of {c : Cc} {x : Str} (h : visB c x = true) : L2.Vis c.sc x := by
  unfold visB at h
  split at h <;> first | exact .inl (by assumption) | exact .inr (.inl (by assumption)) | exact .inr (.inr (by assumption)) | cases h
/-- no name with a meaning of its own -/
def plainN (x : Str) : Bool := !(x == ("__debug__" : Str)) && !(x == ("__classdict__" : Str)) && !(x == ("__name__" : Str))
theorem plainN_of {x : Str} (h : plainN x = true) : (x == ("__debug__" : Str)) = false ∧ (x == ("__classdict__" : Str)) = false ∧ x ≠ "__name__" := by
  unfold plainN at h
  simp only [Bool.and_eq_true, Bool.not_eq_true', beq_eq_false_iff_ne] at h ⊢
  exact ⟨h.1.1, h.1.2, h.2⟩
def cName (c : Cc) (x : Str) (pos : Pos) : Option (CE c (.Name x pos)) :=
  if hp : plainN x = true then
    match slot c x with
    | some i => if h : c.N[i]? = some x ∧ visB c x = true then
        some (.mk' (.lc i) rfl fun C X W G => k_var (by rw [G.N]; exact h.1) (by rw [G.sc]; exact vis_of h.2) (plainN_of hp).1 (plainN_of hp).2.1)
      else none
    | none => if hg : c.sc.names.lookup x = some .globalImplicit then
        match hk : c.gk x with
        | some (.int i) => some (.mk' (.k (.int i)) rfl fun C X W G => by
            obtain ⟨t, h⟩ := G.int x i hk
            exact k_const (v := .int i) (fun _ _ => .int i) (L2.pe_glob (G.gl hg) h ⟨t, rfl⟩ (plainN_of hp).1))
        | some (.str z) => some (.mk' (.k (.str z)) rfl fun C X W G => by
            obtain ⟨t, h⟩ := G.str x z hk
            exact k_const (v := .str z) (fun _ _ => .str z) (L2.pe_glob (G.gl hg) h ⟨t, rfl⟩ (plainN_of hp).1))
        | _ => none
      else none
  else none
def cConst (c : Cc) (k : Const) (j : Nat) (pos : Pos) : Option (CE c (.Constant k j pos)) := match k with
  | .none => some (.mk' (.k .non) rfl fun C X W G => k_const (v := .non) (fun _ _ => .non) L2.pe_non)
  | .bool b => some (.mk' (.k (.bl b)) rfl fun C X W G => k_const (v := .bl b) (fun _ _ => .bl b) L2.pe_bl)
  | .int i => some (.mk' (.k (.int i)) rfl fun C X W G => k_const (v := .int i) (fun _ _ => .int i) L2.pe_int)
  | .str x => some (.mk' (.k (.str x)) rfl fun C X W G => k_const (v := .str x) (fun _ _ => .str x) L2.pe_str)
  | _ => none
def cArgs {c : Cc} (f : ExpF c) : (es : List Expr) → Option (CA c es)
  | [] => some ⟨.nil, fun C X W G => k_nil⟩
  | e :: es => if hs : isStar e = false then
      match f e, cArgs f es with
      | some a, some r => some ⟨.cons a.ex r.xs, fun C X W G => k_cons (a.ok C X W G).1 (r.ok C X W G) hs⟩
      | _, _ => none
    else none
def cBool {c : Cc} (f : ExpF c) : (op : BoolOp) → (es : List Expr) → Option (CB c op es)
  | _, [] => none
  | op, [e] => match f e with
    | some a => if ht : a.tst = true then some ⟨a.ex, fun C X W pos G => ⟨L2.pe_one (a.ok C X W G).1, by
        cases op with
        | And => exact L2.pw_and1 ((a.ok C X W G).2 ht)
        | Or => exact L2.pw_or1 ((a.ok C X W G).2 ht)⟩⟩ else none
    | none => none
  | .And, e :: b :: es => match f e, cBool f .And (b :: es) with
    | some a, some r => if ht : a.tst = true then some ⟨.and a.ex r.ex, fun C X W pos G => k_and (a.ok C X W G).1 ((a.ok C X W G).2 ht) (r.ok C X W pos G).1 (r.ok C X W pos G).2⟩ else none
    | _, _ => none
  | .Or, e :: b :: es => match f e, cBool f .Or (b :: es) with
    | some a, some r => if ht : a.tst = true then some ⟨.or a.ex r.ex, fun C X W pos G => k_or (a.ok C X W G).1 ((a.ok C X W G).2 ht) (r.ok C X W pos G).1 (r.ok C X W pos G).2⟩ else none
    | _, _ => none
def cBin {c : Cc} (f : ExpF c) (a : Expr) (op : Operator) (b : Expr) (pos : Pos) : Option (CE c (.BinOp a op b pos)) := match f a, f b with
  | some x, some y => match op with
    | .Add => some (.mk' (.bin .add x.ex y.ex) rfl fun C X W G => k_bin op_addI (fun S r1 r2 q => add_ok S r1 r2 q) (x.ok C X W G).1 (y.ok C X W G).1)
    | .Sub => some (.mk' (.bin .sub x.ex y.ex) rfl fun C X W G => k_bin L2.op_sub (fun S r1 r2 q => sub_ok S r1 r2 q) (x.ok C X W G).1 (y.ok C X W G).1)
    | .Mult => some (.mk' (.bin .mul x.ex y.ex) rfl fun C X W G => k_bin op_mulI (fun S r1 r2 q => mul_ok S r1 r2 q) (x.ok C X W G).1 (y.ok C X W G).1)
    | .Mod => some (.mk' (.bin .mod x.ex y.ex) rfl fun C X W G => k_bin L2.op_modN (fun S r1 r2 q => mod_ok S r1 r2 q) (x.ok C X W G).1 (y.ok C X W G).1)
    | .FloorDiv => some (.mk' (.bin .fdiv x.ex y.ex) rfl fun C X W G => k_bin L2.op_fdivN (fun S r1 r2 q => fdiv_ok S r1 r2 q) (x.ok C X W G).1 (y.ok C X W G).1)
    | _ => none
  | _, _ => none
def cUn {c : Cc} (f : ExpF c) (op : UnaryOp) (a : Expr) (pos : Pos) : Option (CE c (.UnaryOp op a pos)) := match f a with
  | some x => match op with
    | .USub => some (.mk' (.neg x.ex) rfl fun C X W G => k_neg (x.ok C X W G).1)
    | .Not => if ht : x.tst = true then some ⟨.not x.ex, true, fun C X W G => ⟨(k_not (x.ok C X W G).1 ((x.ok C X W G).2 ht)).1, fun _ => (k_not (x.ok C X W G).1 ((x.ok C X W G).2 ht)).2⟩⟩ else none
    | _ => none
  | none => none
/-- two operands of a comparison, none a set display -/
def cCmp {c : Cc} (f : ExpF c) (a : Expr) (op : CmpOp) (b : Expr) (pos : Pos) : Option (CE c (.Compare a [op] [b] pos)) := match f a with
  | some x => match op, b with
    | .Is, .Constant .none j p => some ⟨.isN x.ex, true, fun C X W G => ⟨(k_isN (x.ok C X W G).1).1.1, fun _ => (k_isN (x.ok C X W G).1).1.2⟩⟩
    | .IsNot, .Constant .none j p => some ⟨.notN x.ex, true, fun C X W G => ⟨(k_isN (x.ok C X W G).1).2.1, fun _ => (k_isN (x.ok C X W G).1).2.2⟩⟩
    | op, b => if hm : isSet b = false then
      match f b with
      | some y => match op with
        | .Eq => some ⟨.cmp .eq x.ex y.ex, true, fun C X W G => have k := k_cmp (f := ev C (.cmp .eq x.ex y.ex)) (pos := pos) (L2.op_eqD (by have := G.un; omega)) (x.ok C X W G).1 (y.ok C X W G).1 hm (w_two (o := fun x y st => okB (cmpD .eq x y st) st) (fun _ _ => by rw [ev]) fun S r1 r2 q => eq_ok S r1 r2 q); ⟨k.1, fun _ => k.2⟩⟩
        | .NotEq => some ⟨.cmp .ne x.ex y.ex, true, fun C X W G => have k := k_cmp (f := ev C (.cmp .ne x.ex y.ex)) (pos := pos) (L2.op_neD (by have := G.un; omega)) (x.ok C X W G).1 (y.ok C X W G).1 hm (w_two (o := fun x y st => okB (cmpD .ne x y st) st) (fun _ _ => by rw [ev]) fun S r1 r2 q => ne_ok S r1 r2 q); ⟨k.1, fun _ => k.2⟩⟩
        | .Lt => some ⟨.cmp .lt x.ex y.ex, true, fun C X W G => have k := k_cmp (f := ev C (.cmp .lt x.ex y.ex)) (pos := pos) L2.op_lt (x.ok C X W G).1 (y.ok C X W G).1 hm (w_two (o := fun x y st => okB (cmpD .lt x y st) st) (fun _ _ => by rw [ev]) fun S r1 r2 q => lt_ok S r1 r2 q); ⟨k.1, fun _ => k.2⟩⟩
        | .LtE => some ⟨.cmp .le x.ex y.ex, true, fun C X W G => have k := k_cmp (f := ev C (.cmp .le x.ex y.ex)) (pos := pos) L2.op_le (x.ok C X W G).1 (y.ok C X W G).1 hm (w_two (o := fun x y st => okB (cmpD .le x y st) st) (fun _ _ => by rw [ev]) fun S r1 r2 q => le_ok S r1 r2 q); ⟨k.1, fun _ => k.2⟩⟩
        | .Gt => some ⟨.cmp .gt x.ex y.ex, true, fun C X W G => have k := k_cmp (f := ev C (.cmp .gt x.ex y.ex)) (pos := pos) L2.op_gt (x.ok C X W G).1 (y.ok C X W G).1 hm (w_two (o := fun x y st => okB (cmpD .gt x y st) st) (fun _ _ => by rw [ev]) fun S r1 r2 q => gt_ok S r1 r2 q); ⟨k.1, fun _ => k.2⟩⟩
        | .GtE => some ⟨.cmp .ge x.ex y.ex, true, fun C X W G => have k := k_cmp (f := ev C (.cmp .ge x.ex y.ex)) (pos := pos) L2.op_ge (x.ok C X W G).1 (y.ok C X W G).1 hm (w_two (o := fun x y st => okB (cmpD .ge x y st) st) (fun _ _ => by rw [ev]) fun S r1 r2 q => ge_ok S r1 r2 q); ⟨k.1, fun _ => k.2⟩⟩
        | .In => some ⟨.cmp .isin x.ex y.ex, true, fun C X W G => have k := k_in (pos := pos) G.u65 (x.ok C X W G).1 (y.ok C X W G).1 hm; ⟨k.1, fun _ => k.2⟩⟩
        | .NotIn => some ⟨.cmp .notin x.ex y.ex, true, fun C X W G => have k := k_nin (pos := pos) G.u65 (x.ok C X W G).1 (y.ok C X W G).1 hm; ⟨k.1, fun _ => k.2⟩⟩
        | _ => none
      | none => none
    else none
  | none => none
/-- x <= y <= z, x <= y < z, x < y < z, of ints -/
def cChn {c : Cc} (f : ExpF c) (a : Expr) (op op' : CmpOp) (b d : Expr) (pos : Pos) : Option (CE c (.Compare a [op, op'] [b, d] pos)) := match f a, f b, f d with
  | some x, some y, some z => if hm : isSet d = false then match op, op' with
    | .LtE, .LtE => some ⟨.chn .le .le x.ex y.ex z.ex, true, fun C X W G => have k := k_chain (o := .le) (p := .le) (pos := pos) L2.op_le L2.op_le (fun S r1 r2 q => le_ok S r1 r2 q) (fun S r1 r2 q => le_ok S r1 r2 q) (x.ok C X W G).1 (y.ok C X W G).1 (z.ok C X W G).1 hm; ⟨k.1, fun _ => k.2⟩⟩
    | .LtE, .Lt => some ⟨.chn .le .lt x.ex y.ex z.ex, true, fun C X W G => have k := k_chain (o := .le) (p := .lt) (pos := pos) L2.op_le L2.op_lt (fun S r1 r2 q => le_ok S r1 r2 q) (fun S r1 r2 q => lt_ok S r1 r2 q) (x.ok C X W G).1 (y.ok C X W G).1 (z.ok C X W G).1 hm; ⟨k.1, fun _ => k.2⟩⟩
    | _, _ => none
    else none
  | _, _, _ => none
def cIf {c : Cc} (f : ExpF c) (t a b : Expr) (pos : Pos) : Option (CE c (.IfExp t a b pos)) := match f t, f a, f b with
  | some x, some y, some z => if ht : x.tst = true then some ⟨.ite x.ex y.ex z.ex, false, fun C X W G => ⟨k_ite ((x.ok C X W G).2 ht) (y.ok C X W G).1 (z.ok C X W G).1, fun h => nomatch h⟩⟩ else none
  | _, _, _ => none
def cIx {c : Cc} (f : ExpF c) (a i : Expr) (pos : Pos) : Option (CE c (.Subscript a i pos)) := match f a with
  | some x => match i with
    | .Slice lo hi none p => match lo, hi with
      | none, none => some (.mk' (.sl x.ex .none .none) rfl fun C X W G => k_sl (x.ok C X W G).1 k_none k_none)
      | some l, none => (match f l with
        | some y => some (.mk' (.sl x.ex (.some y.ex) .none) rfl fun C X W G => k_sl (x.ok C X W G).1 (k_some (y.ok C X W G).1) k_none)
        | none => none)
      | none, some h => (match f h with
        | some y => some (.mk' (.sl x.ex .none (.some y.ex)) rfl fun C X W G => k_sl (x.ok C X W G).1 k_none (k_some (y.ok C X W G).1))
        | none => none)
      | some l, some h => (match f l, f h with
        | some y, some z => some (.mk' (.sl x.ex (.some y.ex) (.some z.ex)) rfl fun C X W G => k_sl (x.ok C X W G).1 (k_some (y.ok C X W G).1) (k_some (z.ok C X W G).1))
        | _, _ => none)
    | i => if hs : isSlice i = false then (match f i with
      | some y => some (.mk' (.ix x.ex y.ex) rfl fun C X W G => k_ix G.u12 (x.ok C X W G).1 (y.ok C X W G).1 hs)
      | none => none) else none
  | none => none
def cMeth {c : Cc} (f : ExpF c) (o : Expr) (m : Str) (apos : Pos) (es : List Expr) (pos : Pos) : Option (CE c (.Call (.Attribute o m apos) es [] pos)) :=
  if hb : isSup o = false ∧ (apos.endLine == pos.line) = true then match f o, cArgs f es with
  | some x, some r => match es, r with
    | [], r => if hm : m = "pop" then some (.mk' (.bm .pop x.ex .nil) rfl fun C X W G => k_pop (by rw [hm]; exact PySem.F.slot_list_pop) (x.ok C X W G).1 hb.1 hb.2) else none
    | e0 :: es, r => if hs : (e0 :: es).all (fun e => !isStar e) = true ∧ (e0 :: es).length < 30 then
        if hm : m = "append" then some (.mk' (.bm .append x.ex r.xs) rfl fun C X W G => k_bm (m := .append) isT_ty PySem.F.plainAttrs_list (by rw [hm]; exact PySem.F.slot_list_append) PySem.F.type_list_append L2.mt_append (x.ok C X W G).1 (r.ok C X W G) hb.1 hs.1 hs.2 hb.2 (fun S r q => rcv_lst S r q) fun S r1 r2 q => app_okI S r1 r2 q)
        else if hm : m = "extend" then some (.mk' (.bm .extend x.ex r.xs) rfl fun C X W G => k_bm (m := .extend) isT_ty PySem.F.plainAttrs_list (by rw [hm]; exact PySem.F.slot_list_extend) PySem.F.type_list_extend L2.mt_extend (x.ok C X W G).1 (r.ok C X W G) hb.1 hs.1 hs.2 hb.2 (fun S r q => rcv_lst S r q) fun S r1 r2 q => ext_okI S r1 r2 q)
        else if hm : m = "pop" then some (.mk' (.bm .popi x.ex r.xs) rfl fun C X W G => k_bm (m := .popi) isT_ty PySem.F.plainAttrs_list (by rw [hm]; exact PySem.F.slot_list_pop) PySem.F.type_list_pop L2.mt_popAt (x.ok C X W G).1 (r.ok C X W G) hb.1 hs.1 hs.2 hb.2 (fun S r q => rcv_lst S r q) fun S r1 r2 q => popi_okI S r1 r2 q)
        else if hm : m = "index" then some (.mk' (.bm .index x.ex r.xs) rfl fun C X W G => k_bm (m := .index) isT_ty PySem.F.plainAttrs_list (by rw [hm]; exact PySem.F.slot_list_index) PySem.F.type_list_index (L2.mt_indexD G.u65) (x.ok C X W G).1 (r.ok C X W G) hb.1 hs.1 hs.2 hb.2 (fun S r q => rcv_lst S r q) fun S r1 r2 q => index_okI S r1 r2 q)
        else if hm : m = "get" then some (.mk' (.bm .get x.ex r.xs) rfl fun C X W G => k_bm (m := .get) isT_dicR PySem.F.plainAttrs_dict (by rw [hm]; exact PySem.F.slot_dict_get) PySem.F.type_dict_get (mt_dget2 G.u12) (x.ok C X W G).1 (r.ok C X W G) hb.1 hs.1 hs.2 hb.2 (fun S r q => rcv_dic S r q) fun S r1 r2 q => get_okI S r1 r2 q)
        else none
      else none
  | _, _ => none
  else none
def tyOf (x : Str) : Option Ty := if x = "int" then some .int else if x = "bool" then some .bool else if x = "str" then some .str else if x = "tuple" then some .tuple else if x = "list" then some .list else none
theorem tyOf_boot {x : Str} {T : Ty} (h : tyOf x = some T) : bootBuiltins x = some (.type (tyName T)) := by
  unfold tyOf at h
  split at h
  · subst x; cases h; exact boot_int
  · split at h
    · subst x; cases h; exact boot_bool
    · split at h
      · subst x; cases h; exact boot_str
      · split at h
        · subst x; cases h; exact boot_tuple
        · split at h
          · subst x; cases h; exact boot_list
          · cases h
/-- a built-in name -/
def bltB (c : Cc) (x : Str) : Bool := decide (c.sc.names.lookup x = some .globalImplicit) && decide (c.gk x = some .free) && plainN x
theorem blt_of {c : Cc} {C : CT} {X : L2.Cx} {W : WX} (G : Good c C X W) {x : Str} (h : bltB c x = true) : L2.Gl X x ∧ X.mg x = none ∧ x ≠ "__name__" ∧ (x == ("__debug__" : Str)) = false := by
  unfold bltB at h
  simp only [Bool.and_eq_true, decide_eq_true_eq] at h
  obtain ⟨⟨h1, h2⟩, h3⟩ := h
  obtain ⟨p1, p2, p3⟩ := plainN_of h3
  exact ⟨G.gl h1, G.free x h2, p3, p1⟩
def cB1 {c : Cc} (f : ExpF c) (x : Str) (p : Pos) (a : Expr) (pos : Pos) : Option (CE c (.Call (.Name x p) [a] [] pos)) :=
  if hb : bltB c x = true ∧ isStar a = false then match f a with
    | some y =>
      if h : x = "len" then some (.mk' (.bi .len y.ex) rfl fun C X W G => have b := blt_of G hb.1; k_bltB (o := biD .len) L2.call_len b.1 b.2.1 (by rw [h]; exact boot_len) (y.ok C X W G).1 hb.2 b.2.2.1 b.2.2.2 (fun _ _ => by rw [ev]) fun S r q => len_ok S r q)
      else if h : x = "all" then some (.mk' (.bi .all y.ex) rfl fun C X W G => have b := blt_of G hb.1; k_bltB (o := biD .all) (L2.cr_all G.calm) b.1 b.2.1 (by rw [h]; exact boot_all) (y.ok C X W G).1 hb.2 b.2.2.1 b.2.2.2 (fun _ _ => by rw [ev]) fun S r q => all_ok S r q)
      else if h : x = "any" then some (.mk' (.bi .any y.ex) rfl fun C X W G => have b := blt_of G hb.1; k_bltB (o := biD .any) (L2.cr_any G.calm) b.1 b.2.1 (by rw [h]; exact boot_any) (y.ok C X W G).1 hb.2 b.2.2.1 b.2.2.2 (fun _ _ => by rw [ev]) fun S r q => any_ok S r q)
      else if h : x = "sorted" then some (.mk' (.bi .sorted y.ex) rfl fun C X W G => have b := blt_of G hb.1; k_bltB (o := biD .sorted) (cr_sort3 G.u66) b.1 b.2.1 (by rw [h]; exact boot_sorted) (y.ok C X W G).1 hb.2 b.2.2.1 b.2.2.2 (fun _ _ => by rw [ev]) fun S r q => sorted_ok S r q)
      else if h : x = "list" then some (.mk' (.bi .list y.ex) rfl fun C X W G => have b := blt_of G hb.1; k_bltT (o := biD .list) (cr_listI G.calm) b.1 b.2.1 (by rw [h]; exact boot_list) (y.ok C X W G).1 hb.2 b.2.2.1 b.2.2.2 (fun _ _ => by rw [ev]) fun S r q => list_ok S r q)
      else if h : x = "tuple" then some (.mk' (.bi .tuple y.ex) rfl fun C X W G => have b := blt_of G hb.1; k_bltT (o := biD .tuple) L2.call_tuple_of b.1 b.2.1 (by rw [h]; exact boot_tuple) (y.ok C X W G).1 hb.2 b.2.2.1 b.2.2.2 (fun _ _ => by rw [ev]) fun S r q => tuple_ok S r q)
      else if h : x = "int" then some (.mk' (.bi .int y.ex) rfl fun C X W G => have b := blt_of G hb.1; k_bltT (o := biD .int) L2.call_int1 b.1 b.2.1 (by rw [h]; exact boot_int) (y.ok C X W G).1 hb.2 b.2.2.1 b.2.2.2 (fun _ _ => by rw [ev]) fun S r q => int_ok S r q)
      else none
    | none => none
  else none
def cLset {c : Cc} (f : ExpF c) (x : Str) (p : Pos) (y : Str) (p2 : Pos) (a : Expr) (q pos : Pos) : Option (CE c (.Call (.Name x p) [.Call (.Name y p2) [a] [] q] [] pos)) :=
  if h : x = "len" ∧ y = "set" ∧ bltB c x = true ∧ bltB c y = true ∧ isStar a = false then match f a with
    | some z => some (.mk' (.lset z.ex) rfl fun C X W G => by
        obtain ⟨rfl, rfl, h1, h2, h3⟩ := h
        have b1 := blt_of G h1
        have b2 := blt_of G h2
        exact k_lset G.calm b1.1 b1.2.1 b2.1 b2.2.1 (z.ok C X W G).1 h3)
    | none => none
  else none
def cIsT {c : Cc} (f : ExpF c) (x : Str) (p : Pos) (a : Expr) (y : Str) (p1 pos : Pos) : Option (CE c (.Call (.Name x p) [a, .Name y p1] [] pos)) :=
  if h : x = "isinstance" ∧ bltB c x = true ∧ bltB c y = true ∧ isStar a = false then match f a, hT : tyOf y with
    | some z, some T => some (.mk' (.isT z.ex T) rfl fun C X W G => by
        obtain ⟨h0, h1, h2, h3⟩ := h
        have b1 := blt_of G h1
        have b2 := blt_of G h2
        exact k_isT b1.1 b1.2.1 (by rw [h0]; exact boot_isinstance) b2.1 b2.2.1 (tyOf_boot hT) (z.ok C X W G).1 h3 b1.2.2.1 b1.2.2.2 b2.2.2.1 b2.2.2.2)
    | _, _ => none
  else none
def cFn {c : Cc} (f : ExpF c) (x : Str) (p : Pos) (es : List Expr) (pos : Pos) : Option (CE c (.Call (.Name x p) es [] pos)) := match es with
  | [] => none
  | e :: es => match hk : c.gk x with
    | some (.fn np) => if h : (e :: es).length = np ∧ (e :: es).all (fun z => !isStar z) = true ∧ c.sc.names.lookup x = some .globalImplicit ∧ plainN x = true then match cArgs f (e :: es) with
        | some r => some (.mk' (.call x r.xs) rfl fun C X W G => k_call (G.call x np hk) G.tk (G.gl h.2.2.1) (r.ok C X W G) h.1 (plainN_of h.2.2.2).1 h.2.1)
        | none => none
      else none
    | _ => none
def isFn (c : Cc) (x : Str) : Bool := match c.gk x with
  | some (.fn _) => true
  | _ => false
def cCall {c : Cc} (f : ExpF c) (x : Str) (p : Pos) (es : List Expr) (pos : Pos) : Option (CE c (.Call (.Name x p) es [] pos)) :=
  if isFn c x = true then cFn f x p es pos else match es with
    | [.Call (.Name y p2) [a] [] q] => if y = "set" then cLset f x p y p2 a q pos else cB1 f x p _ pos
    | [a] => cB1 f x p a pos
    | [a, .Name y p1] => cIsT f x p a y p1 pos
    | _ => none
end IP

/-! IpQ: from the text to the small language: targets, walks, comprehensions, statements. -/
namespace IP
open PySem PySem.Spec PyProof.Rows
structure CG (c : Cc) (tg : Expr) where
  t : Tg
  ok : ∀ (C : CT) (X : L2.Cx) (W : WX), Good c C X W → L2.PG X tg (gI (gd X) t)
structure CGs (c : Cc) (tgs : List Expr) where
  ts : Tgs
  ok : ∀ (C : CT) (X : L2.Cx) (W : WX), Good c C X W → L2.PGs X tgs (gIs (gd X) ts)
  len : ∀ ds ρ st ρ', asgs ts ds ρ st = some ρ' → ds.length = tgs.length
def locB (c : Cc) (x : Str) : Bool := match c.sc.names.lookup x with
  | some .local => true
  | some .cell => c.all
  | _ => false
theorem loc_of {c : Cc} {C : CT} {X : L2.Cx} {W : WX} (G : Good c C X W) {x : Str} (h : locB c x = true) : L2.Loc X.env.scope x ∧ (X.fn x = true ∨ X.env.scope.names.lookup x = some .local) := by
  unfold locB at h
  unfold L2.Loc
  rw [G.sc]
  split at h
  · rename_i h1; exact ⟨.inl h1, .inr h1⟩
  · rename_i h1; exact ⟨.inr h1, .inl (G.fn h x)⟩
  · cases h
def cTn (c : Cc) (x : Str) (pos : Pos) : Option (CG c (.Name x pos)) := match slot c x with
  | some i => if h : c.N[i]? = some x ∧ locB c x = true then some ⟨.nm i, fun C X W G => k_name G.nd (by rw [G.N]; exact h.1) (loc_of G h.2).1 (loc_of G h.2).2⟩ else none
  | none => none
def cTs (c : Cc) : (es : List Expr) → Option (CGs c es)
  | [] => some ⟨.nil, fun C X W G => k_tnil, fun ds ρ st ρ' h => by cases ds <;> first | rfl | simp [asgs] at h⟩
  | .Name x p :: es => match cTn c x p, cTs c es with
    | some a, some r => some ⟨.cons a.t r.ts, fun C X W G => k_tcons (a.ok C X W G) (r.ok C X W G) rfl, fun ds ρ st ρ' h => by
        cases ds with
        | nil => simp [asgs] at h
        | cons d ds =>
          simp only [asgs] at h
          split at h
          · rw [List.length_cons, List.length_cons, r.len _ _ _ _ h]
          · cases h⟩
    | _, _ => none
  | _ => none
/-- pairs of names, names in pairs -/
def cT1 (c : Cc) (tg : Expr) : Option (CG c tg) := match tg with
  | .Name x pos => cTn c x pos
  | .Tuple es n pos => if hs : es.all (fun e => !isStar e) = true then match cTs c es with
    | some r => some ⟨.tp r.ts, fun C X W G => k_tt G.calm (r.ok C X W G) hs r.len⟩
    | none => none
    else none
  | _ => none
def cT2 (c : Cc) : (es : List Expr) → Option (CGs c es)
  | [] => some ⟨.nil, fun C X W G => k_tnil, fun ds ρ st ρ' h => by cases ds <;> first | rfl | simp [asgs] at h⟩
  | e :: es => if hs : isStar e = false then match cT1 c e, cT2 c es with
    | some a, some r => some ⟨.cons a.t r.ts, fun C X W G => k_tcons (a.ok C X W G) (r.ok C X W G) hs, fun ds ρ st ρ' h => by
        cases ds with
        | nil => simp [asgs] at h
        | cons d ds =>
          simp only [asgs] at h
          split at h
          · rw [List.length_cons, List.length_cons, r.len _ _ _ _ h]
          · cases h⟩
    | _, _ => none
    else none
def cTg (c : Cc) (tg : Expr) : Option (CG c tg) := match tg with
  | .Name x pos => cTn c x pos
  | .Tuple es n pos => if hs : es.all (fun e => !isStar e) = true then match cT2 c es with
    | some r => some ⟨.tp r.ts, fun C X W G => k_tt G.calm (r.ok C X W G) hs r.len⟩
    | none => none
    else none
  | _ => none
/-! ### what is walked -/
def cItc {c : Cc} (f : ExpF c) (tg : Expr) (x : Str) (p : Pos) (es : List Expr) (pos : Pos) : Option (CI c tg (.Call (.Name x p) es [] pos)) :=
  if hb : bltB c x = true then match es with
    | [a] => if hs : isStar a = false then match f a with
      | some y => if h : x = "range" then some ⟨.rng y.ex, fun C X W G => by subst h; have b := blt_of G hb; exact k_rng b.1 b.2.1 (y.ok C X W G).1 hs⟩
        else if h : x = "enumerate" then match tg with
          | .Tuple ts k tp => some ⟨.enm y.ex, fun C X W G => by subst h; have b := blt_of G hb; exact k_enm b.1 b.2.1 (y.ok C X W G).1 hs⟩
          | _ => none
        else none
      | none => none
      else none
    | [a, b] => if hs : isStar a = false ∧ isStar b = false then match f a, f b with
      | some y, some z => if h : x = "range" then some ⟨.rng2 y.ex z.ex, fun C X W G => by subst h; have b := blt_of G hb; exact k_rng2 b.1 b.2.1 (y.ok C X W G).1 (z.ok C X W G).1 hs.1 hs.2⟩
        else if h : x = "zip" then match tg with
          | .Tuple ts k tp => some ⟨.zip y.ex z.ex, fun C X W G => by subst h; have b := blt_of G hb; exact k_zip b.1 b.2.1 (y.ok C X W G).1 (z.ok C X W G).1 hs.1 hs.2⟩
          | _ => none
        else none
      | _, _ => none
      else none
    | _ => none
  else none
def cItv {c : Cc} (f : ExpF c) (tg e : Expr) : Option (CI c tg e) := match f e with
  | some y => some ⟨.val y.ex, fun C X W G => k_val (y.ok C X W G).1⟩
  | none => none
def walkN (x : Str) : Bool := decide (x = "range") || decide (x = "enumerate") || decide (x = "zip")
def cIt {c : Cc} (f : ExpF c) (tg e : Expr) : Option (CI c tg e) := match e with
  | .Call (.Name x p) es [] pos => if walkN x = true then cItc f tg x p es pos else cItv f tg _
  | e => cItv f tg e
/-! ### comprehensions -/
def blkCc (c : Cc) (scope : Scope) : Cc := { sc := L2.relS scope c.sc, N := c.N, gk := c.gk, all := false }
theorem Good.blk {c : Cc} {C : CT} {X : L2.Cx} {W : WX} (G : Good c C X W) (scope : Scope) (s : Shared) (H : Hp) (A : Addr) (cl : List (Str × Addr)) (fp : List Addr) : Good (blkCc c scope) C (X.blk s H scope (compEnvC scope cl A X.env) fp) Wn where
  sc := by
    show L2.relS scope X.env.scope = L2.relS scope c.sc
    rw [G.sc]
  N := G.N
  nd := G.nd
  calm := G.calm
  un := G.un
  int := G.int
  str := G.str
  free := G.free
  call := G.call
  exc := G.exc
  own := PassesOwn.never
  tk := fun _ _ ⟨_, _, _, _, _, _, _, _, _, _, _, _, _, _, _, _, w⟩ => w.elim
  fn := fun h => nomatch h
def ownOf (c : Cc) (scope : Scope) : List (Str × Nat) := scope.names.filterMap fun p => match p.2 with
  | .local => (slot c p.1).map fun i => (p.1, i)
  | .cell => (slot c p.1).map fun i => (p.1, i)
  | _ => none
/-- the parts of a comprehension -/
structure CC (c : Cc) (elt tg iter : Expr) (ifs : List Expr) (scope : Scope) where
  e : Ex
  t : Tg
  it : Itr
  xc : Exo
  own : List (Str × Nat)
  hb : L2.blkC c.N c.sc scope own = true
  hs : isSet iter = false
  ht : ∀ i ∈ t.ix, i ∈ own.map (·.2)
  hi : ∀ (C : CT) (X : L2.Cx) (W : WX), Good c C X W → L2.PI X tg iter (J1 X W C it)
  hg : ∀ (C : CT) (X : L2.Cx) (W : WX), Good (blkCc c scope) C X W → L2.PG X tg (gI (gd X) t)
  hf : ∀ (C : CT) (X : L2.Cx) (W : WX), Good (blkCc c scope) C X W → L2.PTs X ifs (cI (gd X) W (evc C xc))
  he : ∀ (C : CT) (X : L2.Cx) (W : WX), Good (blkCc c scope) C X W → L2.PE X elt (I1 X W C e)
def cIfs {c : Cc} (f : ExpF c) (ifs : List Expr) : Option { x : Exo // ∀ (C : CT) (X : L2.Cx) (W : WX), Good c C X W → L2.PTs X ifs (cI (gd X) W (evc C x)) } := match ifs with
  | [] => some ⟨.none, fun C X W G => k_ifs0⟩
  | [a] => match f a with
    | some y => if ht : y.tst = true then some ⟨.some y.ex, fun C X W G => k_ifs1 ((y.ok C X W G).2 ht)⟩ else none
    | none => none
  | _ => none
def cParts {c : Cc} (f : (c : Cc) → ExpF c) (elt tg iter : Expr) (ifs : List Expr) (scope : Scope) : Option (CC c elt tg iter ifs scope) :=
  match cIt (f c) tg iter, cTg (blkCc c scope) tg, cIfs (f (blkCc c scope)) ifs, f (blkCc c scope) elt with
  | some i, some g, some q, some e =>
    if h : L2.blkC c.N c.sc scope (ownOf c scope) = true ∧ isSet iter = false ∧ ∀ i ∈ g.t.ix, i ∈ (ownOf c scope).map (·.2) then
      some ⟨e.ex, g.t, i.it, q.1, ownOf c scope, h.1, h.2.1, h.2.2, i.ok, g.ok, q.2, fun C X W G => (e.ok C X W G).1⟩
    else none
  | _, _, _, _ => none
theorem CC.blkOk {c : Cc} {elt tg iter : Expr} {ifs : List Expr} {scope : Scope} (p : CC c elt tg iter ifs scope) {C : CT} {X : L2.Cx} {W : WX} (G : Good c C X W) : L2.BlkOk X.N X.env.scope scope p.own := by
  rw [G.N, G.sc]
  exact L2.blkOk_by p.hb
def cLc {c : Cc} (f : (c : Cc) → ExpF c) (elt : Expr) (gs : List Comprehension) (scope : Scope) (pos : Pos) : Option (CE c (.ListComp elt gs scope pos)) := match gs with
  | [⟨tg, iter, ifs, 0⟩] => match cParts (c := c) f elt tg iter ifs scope with
    | some p => some (.mk' (.comp p.e p.t p.it p.xc (p.own.map (·.2))) rfl fun C X W G => k_comp G.calm G.nd (p.hi C X W G) (p.blkOk G) (fun s H A cl fp => p.hg C _ _ (G.blk scope s H A cl fp)) (fun s H A cl fp => p.hf C _ _ (G.blk scope s H A cl fp)) (fun s H A cl fp => p.he C _ _ (G.blk scope s H A cl fp)) p.hs p.ht)
    | none => none
  | _ => none
/-! ### expressions -/
def stepE (f : (c : Cc) → ExpF c) (c : Cc) (e : Expr) : Option (CE c e) := match e with
  | .Constant k j pos => cConst c k j pos
  | .Name x pos => cName c x pos
  | .BinOp a op b pos => cBin (f c) a op b pos
  | .UnaryOp op a pos => cUn (f c) op a pos
  | .BoolOp op es pos => match cBool (f c) op es with
    | some r => some ⟨r.ex, true, fun C X W G => ⟨(r.ok C X W pos G).1, fun _ => (r.ok C X W pos G).2.pt⟩⟩
    | none => none
  | .Compare a [op] [b] pos => cCmp (f c) a op b pos
  | .Compare a [op, op'] [b, d] pos => cChn (f c) a op op' b d pos
  | .IfExp t a b pos => cIf (f c) t a b pos
  | .Subscript a i pos => cIx (f c) a i pos
  | .Call (.Name x p) es [] pos => cCall (f c) x p es pos
  | .Call (.Attribute o m apos) es [] pos => cMeth (f c) o m apos es pos
  | .Tuple es n pos => match cArgs (f c) es with
    | some r => some (.mk' (.tup r.xs) rfl fun C X W G => k_tup (r.ok C X W G))
    | none => none
  | .List es pos => match cArgs (f c) es with
    | some r => some (.mk' (.lst r.xs) rfl fun C X W G => k_lst (r.ok C X W G))
    | none => none
  | .Dict [] [] pos => some (.mk' (.dct .nil) rfl fun C X W G => k_dnew)
  | .ListComp elt gs scope pos => cLc f elt gs scope pos
  | _ => none
def cE : Nat → (c : Cc) → ExpF c
  | 0, _, _ => none
  | n + 1, c, e => stepE (cE n) c e
/-! ### statements -/
structure CS (c : Cc) (s : Stmt) where
  x : St
  ok : ∀ (C : CT) (Wf : Nat) (X : L2.Cx) (W : WX), Good c C X W → L2.PS X s (S1 X W C Wf x)
structure CSs (c : Cc) (ss : List Stmt) where
  xs : Sts
  ok : ∀ (C : CT) (Wf : Nat) (X : L2.Cx) (W : WX), Good c C X W → L2.PSs X ss (SS1 X W C Wf xs)
abbrev StmF (c : Cc) := (s : Stmt) → Option (CS c s)
def cSs {c : Cc} (f : StmF c) : (ss : List Stmt) → Option (CSs c ss)
  | [] => some ⟨.nil, fun C Wf X W G => q_nil⟩
  | s :: ss => match f s, cSs f ss with
    | some a, some r => some ⟨.cons a.x r.xs, fun C Wf X W G => q_cons (a.ok C Wf X W G) (r.ok C Wf X W G)⟩
    | _, _ => none
/-- name = [..] on one line, the name a local: it is stored within -/
def swB (c : Cc) (y : Str) (py : Pos) (scope : Scope) (p1 : Pos) : Bool := decide (c.sc.names.lookup y = some .local) && (py.line == p1.line) && !(scope.names.any fun p => p.1 == y && (p.2 == .local || p.2 == .cell))
theorem sw_is {c : Cc} {C : CT} {X : L2.Cx} {W : WX} (G : Good c C X W) {elt : Expr} {gs : List Comprehension} {scope : Scope} {p1 py : Pos} {y : Str} {l : Nat} (hk : c.sc.kind = .function) : swapsWith (.ListComp elt gs scope p1) (some (.Name y py)) l X.env = pure (swB c y py scope p1) := by
  have hk' : X.env.scope.kind = .function := by rw [G.sc]; exact hk
  have hb : X.env.blockKind = .function := by unfold Env.blockKind; rw [hk']; rfl
  have ky : X.env.kindOf y = c.sc.names.lookup y := by unfold Env.kindOf; rw [G.sc]
  unfold swapsWith
  simp only [hb, ky, Expr.pos]
  unfold swB
  cases h : c.sc.names.lookup y with
  | none => rfl
  | some k => cases k <;> rfl
def cAsgLc {c : Cc} (f : (c : Cc) → ExpF c) (y : Str) (py : Pos) (elt tg iter : Expr) (ifs : List Expr) (scope : Scope) (p1 pos : Pos) : Option (CS c (.Assign [.Name y py] (.ListComp elt [⟨tg, iter, ifs, 0⟩] scope p1) pos)) :=
  if hk : c.sc.kind = .function then match slot c y, cParts (c := c) f elt tg iter ifs scope with
    | some i, some p => if h : c.N[i]? = some y ∧ locB c y = true then
        if hs : swB c y py scope p1 = true then
          if hl : c.sc.names.lookup y = some .local then some ⟨.asg (.nm i) (.comp p.e p.t p.it p.xc (p.own.map (·.2))), fun C Wf X W G => q_setLc G.calm G.nd (by rw [G.N]; exact h.1) (by rw [G.sc]; exact hl) (by rw [sw_is G hk, hs]) (p.hi C X W G) (p.blkOk G)
            (fun s H A cl fp => p.hg C _ _ (G.blk scope s H A cl fp)) (fun s H A cl fp => p.hf C _ _ (G.blk scope s H A cl fp)) (fun s H A cl fp => p.he C _ _ (G.blk scope s H A cl fp)) p.hs p.ht⟩
          else none
        else some ⟨.asg (.nm i) (.comp p.e p.t p.it p.xc (p.own.map (·.2))), fun C Wf X W G => q_asg (k_comp G.calm G.nd (p.hi C X W G) (p.blkOk G) (fun s H A cl fp => p.hg C _ _ (G.blk scope s H A cl fp)) (fun s H A cl fp => p.hf C _ _ (G.blk scope s H A cl fp))
            (fun s H A cl fp => p.he C _ _ (G.blk scope s H A cl fp)) p.hs p.ht) (k_name G.nd (by rw [G.N]; exact h.1) (loc_of G h.2).1 (loc_of G h.2).2) (by rw [sw_is G hk, Bool.eq_false_iff.mpr hs]) swp_name rfl⟩
      else none
    | _, _ => none
  else none
theorem asg_sub {a b : Expr} {p1 : Pos} {env : PySem.Env} (h : isSlice b = false) : ∀ v, assign (.Subscript a b p1) env v = (do
      let ov ← holding [v] (eval a env)
      let iv ← holding [v, ov] (eval b env)
      standAt p1
      holding [v, ov, iv] (setItem ov iv v)
      release [v, ov, iv] []) := by
  intro v
  cases b <;> first | rfl | cases h
def cAsg {c : Cc} (f : (c : Cc) → ExpF c) (tg e : Expr) (pos : Pos) : Option (CS c (.Assign [tg] e pos)) :=
  if hl : isLc e = false then match f c e with
    | some y => match tg with
      | .Subscript a b p1 => if hs : isSlice b = false ∧ isTupE e = false then match f c a, f c b with
        | some u, some v => some ⟨.aset u.ex v.ex y.ex, fun C Wf X W G => q_aset G.u12 (u.ok C X W G).1 (v.ok C X W G).1 (y.ok C X W G).1 hl hs.2 (asg_sub hs.1)⟩
        | _, _ => none
        else none
      | .Name x p => match cTg c (.Name x p) with
        | some g => some ⟨.asg g.t y.ex, fun C Wf X W G => q_asg (y.ok C X W G).1 (g.ok C X W G) (swaps_no hl) swp_name rfl⟩
        | none => none
      | tg => if ht : isTupE e = false ∧ isStar tg = false then match cTg c tg with
        | some g => some ⟨.asg g.t y.ex, fun C Wf X W G => q_asg (y.ok C X W G).1 (g.ok C X W G) (swaps_no hl) (swp_no ht.1) ht.2⟩
        | none => none
        else none
    | none => none
  else none
def stepS (fe : (c : Cc) → ExpF c) (f : (c : Cc) → StmF c) (c : Cc) (s : Stmt) : Option (CS c s) := match s with
  | .Pass pos => some ⟨.pass, fun C Wf X W G => q_pass⟩
  | .Continue pos => some ⟨.cont, fun C Wf X W G => q_cont⟩
  | .Expr (.Constant (.str x) j p1) pos => some ⟨.pass, fun C Wf X W G => q_doc⟩
  | .Expr e pos => if h : isLc e = false then match fe c e with
    | some y => some ⟨.exp y.ex, fun C Wf X W G => q_exp (y.ok C X W G).1 h⟩
    | none => none
    else none
  | .Return (some e) pos => match fe c e with
    | some y => some ⟨.ret y.ex, fun C Wf X W G => q_ret (y.ok C X W G).1⟩
    | none => none
  | .Assign [.Name y py] (.ListComp elt [⟨tg, iter, ifs, 0⟩] scope p1) pos => cAsgLc fe y py elt tg iter ifs scope p1 pos
  | .Assign [tg] e pos => cAsg fe tg e pos
  | .If t p q pos => match fe c t, cSs (f c) p, cSs (f c) q with
    | some x, some y, some z => if ht : x.tst = true then some ⟨.ife x.ex y.xs z.xs, fun C Wf X W G => q_if ((x.ok C X W G).2 ht) (y.ok C Wf X W G) (z.ok C Wf X W G)⟩ else none
    | _, _, _ => none
  | .For tg iter body [] pos => if hs : isSet iter = false then match cIt (fe c) tg iter, cTg c tg, cSs (f c) body with
    | some i, some g, some b => some ⟨.fr g.t i.it b.xs, fun C Wf X W G => q_for G.own G.calm (i.ok C X W G) (g.ok C X W G) (b.ok C Wf X W G) hs⟩
    | _, _, _ => none
    else none
  | .While t body [] pos => match fe c t, cSs (f c) body with
    | some x, some b => if ht : x.tst = true then some ⟨.whl x.ex b.xs, fun C Wf X W G => q_whl G.own ((x.ok C X W G).2 ht) (b.ok C Wf X W G)⟩ else none
    | _, _ => none
  | .Raise (some (.Call (.Name x p) [.Constant (.str m) j p2] [] p3)) none pos => if h : c.gk x = some .exc ∧ c.sc.names.lookup x = some .globalImplicit ∧ plainN x = true then
      some ⟨.rse x, fun C Wf X W G => by
        obtain ⟨a, e1, e2, e3, e4⟩ := G.exc x h.1
        exact q_rse G.calm G.tk e1 e2 e3 e4 (G.gl h.2.1) (plainN_of h.2.2).1⟩
    else none
  | _ => none
def cS : Nat → (c : Cc) → StmF c
  | 0, _, _ => none
  | n + 1, c, s => match stepS (cE n) (cS n) c s with
    | some r => some r
    | none => some ⟨.never, fun C Wf X W G => q_never⟩
end IP

/-! IpR: all defs keep their promise; a law's end. -/
namespace IP
open PySem PySem.Spec PyProof.Rows
/-- a def of the text: its name, where it stands, its slots, its parameters' number, what it is -/
structure Ent where
  x : Str
  d : He.DefD
  N : List Str
  np : Nat
  xs : Sts
/-- the module's other names -/
abbrev Gl := List (Str × GK)
def gkE (es : List Ent) (gl : Gl) (x : Str) : Option GK := match es.find? fun e => decide (e.x = x) with
  | some e => some (.fn e.np)
  | none => gl.lookup x
def tabE (es : List Ent) : Tab := fun x => (es.find? fun e => decide (e.x = x)).map fun e => .fn e.np e.N.length e.xs
def fa1 (p : Str × GK) : List He.Fa := match p.2 with
  | .int i => [.int p.1 i]
  | .str z => [.str p.1 z]
  | .free => [.free p.1]
  | .exc => [.glo p.1, .exc p.1]
  | .fn _ => []
def faE (es : List Ent) (gl : Gl) : List He.Fa := gl.flatMap fa1 ++ es.map fun e => .glo e.x
def fnE (es : List Ent) : List He.DefD := es.map (·.d)
def notFn (p : Str × GK) : Bool := match p.2 with
  | .fn _ => false
  | _ => true
def nodupB : List Str → Bool
  | [] => true
  | x :: xs => !(xs.any fun y => decide (y = x)) && nodupB xs
theorem nodup_of : ∀ {l : List Str}, nodupB l = true → l.Nodup
  | [], _ => List.nodup_nil
  | x :: xs, h => by
    unfold nodupB at h
    simp only [Bool.and_eq_true, Bool.not_eq_true', List.any_eq_false, decide_eq_true_eq] at h
    exact List.nodup_cons.mpr ⟨fun m => h.1 x m rfl, nodup_of h.2⟩
def fnScB (N P : List Str) (sc : Scope) : Bool := (match sc.kind with | .function => true | _ => false) && !sc.isCoroutine && !sc.isGenerator && nodupB N && decide (N.take P.length = P) &&
  (P.all fun x => match sc.names.lookup x with | some .local => true | some .cell => true | _ => false) && (sc.names.all fun y => match y.2 with | .free => false | _ => true)
theorem fnSc_of {N P : List Str} {sc : Scope} (h : fnScB N P sc = true) : L2.FnScope N P sc := by
  unfold fnScB at h
  simp only [Bool.and_eq_true, Bool.not_eq_true', decide_eq_true_eq, List.all_eq_true] at h
  obtain ⟨⟨⟨⟨⟨⟨h1, h2⟩, h3⟩, h4⟩, h5⟩, h6⟩, h7⟩ := h
  refine ⟨?_, h2, h3, nodup_of h4, h5, fun x hx => ?_, fun y hy e => ?_⟩
  · split at h1
    · assumption
    · cases h1
  · have := h6 x hx
    split at this
    · exact .inl (by assumption)
    · exact .inr (by assumption)
    · cases this
  · have := h7 y hy
    rw [e] at this
    cases this
/-- the fuel of the reading of the text -/
def FUEL : Nat := 60
structure EntOk (gk : Str → Option GK) (e : Ent) : Prop where
  at_ : e.d.at_ = (e.x, none)
  dfl : e.d.dfl = []
  kwd : e.d.kwd = []
  sc : fnScB e.N (e.N.take e.np) e.d.scope = true
  np : e.np ≤ e.N.length
  body : (cSs (c := ⟨e.d.scope, e.N, gk, true⟩) (cS FUEL _) e.d.body).map (·.xs) = some e.xs
  bind : ∀ (kV doc pm : Value) (an : Option Addr) (cdv ct : Value) (us : List Value), us.length = (e.N.take e.np).length → bindArgs (PySem.W.fnOf e.d.name e.d.qual e.d.params e.d.body e.d.scope .none kV doc pm an cdv ct) ⟨us, []⟩ = pure ((e.N.take e.np).zip us)
section
variable {es : List Ent} {gl : Gl} {P : Program} {w : World} {K : PySem.W.Frag} {mg : Str → Option Value} {h : Heap}
theorem lookupS {α : Type} {x : Str} {k : α} : ∀ {l : List (Str × α)}, l.lookup x = some k → (x, k) ∈ l
  | [], h => by cases h
  | (b, u) :: r, h => by
    have h2 : (match x == b with | true => some u | false => r.lookup x) = some k := h
    cases q : (x == b) with
    | true =>
      rw [q] at h2
      rw [beq_iff_eq.mp q, Option.some.inj h2]
      exact List.mem_cons_self
    | false =>
      rw [q] at h2
      exact List.mem_cons_of_mem _ (lookupS h2)
theorem find_ent {x : Str} {e : Ent} (q : es.find? (fun e => decide (e.x = x)) = some e) : e ∈ es ∧ e.x = x := ⟨List.mem_of_find?_eq_some q, of_decide_eq_true (List.find?_some (p := fun e : Ent => decide (e.x = x)) q)⟩
theorem gk_fn (hg : gl.all notFn = true) {x : Str} {np : Nat} (q : gkE es gl x = some (.fn np)) : ∃ e ∈ es, e.x = x ∧ e.np = np ∧ tabE es x = some (.fn e.np e.N.length e.xs) := by
  unfold gkE at q
  split at q
  · rename_i e he
    cases q
    exact ⟨e, (find_ent he).1, (find_ent he).2, rfl, by unfold tabE; rw [he]; rfl⟩
  · have := List.all_eq_true.mp hg (x, .fn np) (lookupS q)
    cases this
theorem gk_gl {x : Str} {k : GK} (q : gkE es gl x = some k) (hk : notFn (x, k) = true) : (x, k) ∈ gl := by
  unfold gkE at q
  split at q
  · cases q; cases hk
  · exact lookupS q
theorem fin_post {g : Gd} {W : WX} {φ : List Addr} {H : Hp} {r : SR} {Q : L2.VK} {E : L2.XK} (hW : W = fun c d _ H' => E c d H') (h : post (VR g) g φ H r.fin Q E) : postS g W φ H r { nx := fun _ H' => Q .non H', rt := Q } := by
  subst hW
  cases r with
  | bad => exact h
  | exc x ρ st => exact fun φ' H' σ' c d s S en x => h φ' H' c d s S x
  | next ρ st => exact fun φ' H' σ' s S en => h φ' H' .non s S .non
  | ret d st => exact fun φ' H' v s S r => h φ' H' v s S r
  | brk ρ st => exact h.elim
  | cont ρ st => exact h.elim
theorem env_start {g : Gd} {φ : List Addr} {H : Hp} {ds : List D} {vs : List V} (r : VRs g φ H ds vs) (N : List Str) : EnvR g φ H (ds.map some ++ List.replicate (N.length - ds.length) none) (L2.start N vs) := by
  have hl := r.length
  refine ⟨by unfold L2.start; simp [hl], fun i d h => ?_⟩
  unfold L2.start
  by_cases hi : i < ds.length
  · rw [List.getElem?_append_left (by simpa using hi)] at h
    rw [List.getElem?_append_left (by simpa [← hl] using hi)]
    rw [List.getElem?_map] at h ⊢
    cases q : ds[i]? with
    | none => rw [q] at h; cases h
    | some d' =>
      rw [q] at h; cases h
      obtain ⟨v, h1, h2⟩ := r.get q
      exact ⟨v, by rw [h1]; rfl, h2⟩
  · rw [List.getElem?_append_right (by simpa using hi)] at h
    rw [List.getElem?_replicate] at h
    split at h <;> cases h
theorem callD_len {T : Tab} {Wf n : Nat} {x : Str} {np ns : Nat} {b : Sts} (h : T x = some (.fn np ns b)) (ds : List D) (st : Sto) (hl : ds.length ≠ np) : callD T Wf n x ds st = .bad := by
  cases n with
  | zero => rfl
  | succ n => unfold callD; simp only [h]; rw [if_neg hl]
abbrev FunE (K : PySem.W.Frag) (e : Ent) (fd : FuncData) : Prop := L2.FunD K e.d.name e.d.qual e.d.params e.d.body e.d.scope [] (e.d.kws K) (He.ga K e.x) fd
theorem fun_ent {gk : Str → Option GK} (c : He.SaysD (faE es gl) (fnE es) K) {e : Ent} (he : e ∈ es) (ok : EntOk gk e) : ∃ fd, FunE K e fd := by
  obtain ⟨fd, F⟩ := c.defs (d := e.d) (List.mem_map_of_mem he)
  have ea : He.fAd K e.d.at_ = He.ga K e.x := by rw [ok.at_]; rfl
  have dvs : e.d.dvs K = [] := by unfold He.DefD.dvs; rw [ok.dfl]; rfl
  rw [ea, dvs] at F
  exact ⟨fd, F⟩
theorem glo_ent (X : K.In h) (G : h.Ns mainGlobals mg) (c : He.SaysD (faE es gl) (fnE es) K) {e : Ent} (he : e ∈ es) : mg e.x = some (.ref (He.ga K e.x)) := He.glo_ok X G (c.facts (f := .glo e.x) (List.mem_append_right _ (List.mem_map_of_mem he)))
theorem all_kept (X : K.In h) (G : h.Ns mainGlobals mg) (c : He.SaysD (faE es gl) (fnE es) K) (hg : gl.all notFn = true) (hes : ∀ e ∈ es, EntOk (gkE es gl) e) (Wf : Nat) (base : Heap) (FD : Ent → FuncData) (hFD : ∀ e ∈ es, FunE K e (FD e)) :
    ∀ (n : Nat) (x : Str) (e : Ent), es.find? (fun e => decide (e.x = x)) = some e → L2.FnOk P w K mg base (L2.CX P w) n (He.ga K e.x) (FD e) (e.N.take e.np) (spD ⟨P, w, K, mg⟩ (callD (tabE es) Wf n) x e.np) := by
  have fact : ∀ {x : Str} {k : GK}, gkE es gl x = some k → notFn (x, k) = true → ∀ f ∈ fa1 (x, k), f.ok K = true := fun q hk f hf => c.facts (List.mem_append_left _ (List.mem_flatMap.mpr ⟨_, gk_gl q hk, hf⟩))
  have len : ∀ {e : Ent}, e ∈ es → (e.N.take e.np).length = e.np := fun he => by rw [List.length_take]; have := (hes _ he).np; omega
  intro n
  induction n with
  | zero =>
    intro x e q
    refine ⟨fun vs H Q E h => h.1.trans (len (find_ent q).1).symm, fun A outer s H args us vs Q E _ _ _ _ h => ?_⟩
    obtain ⟨_, ds, st, φ, _, _, hp⟩ := h
    exact False.elim hp
  | succ n ih =>
    intro x e q
    obtain ⟨he, ex⟩ := find_ent q
    have F := hFD e he
    have ok := hes e he
    have hT : tabE es x = some (.fn e.np e.N.length e.xs) := by unfold tabE; rw [q]; rfl
    have S := fnSc_of ok.sc
    refine F.ok (CX := L2.CX P w) (P := P) (w := w) (mg := mg) (base := base) S (fun vs H Q E h => h.1.trans (len he).symm) fun cdv A outer s H vs Q E hr hsp => ?_
    have hb := ok.body
    cases hcs : cSs (c := ⟨e.d.scope, e.N, gkE es gl, true⟩) (cS FUEL _) e.d.body with
    | none => rw [hcs] at hb; cases hb
    | some r =>
      rw [hcs] at hb
      have exs : r.xs = e.xs := Option.some.inj hb
      have Gd : Good ⟨e.d.scope, e.N, gkE es gl, true⟩ (callD (tabE es) Wf n) (L2.cxOf (L2.CX P w) P w K mg base e.N e.d.qual e.d.scope (He.ga K e.x) cdv A outer s H E) (fun cls d _ H' => E cls d H') :=
        { sc := rfl, N := rfl, nd := S.nd, calm := rfl, un := by
            have := hr.un
            show (A.deeper _).units + 200 < cLine
            omega
          int := fun x i q => He.int_ok X G (fact q rfl _ (List.mem_singleton.mpr rfl))
          str := fun x z q => He.str_ok X G (fact q rfl _ (List.mem_singleton.mpr rfl))
          free := fun x q => He.free_ok X G (fact q rfl _ (List.mem_singleton.mpr rfl))
          call := fun y np q => by
            obtain ⟨e', he', ey, hnp, hT'⟩ := gk_fn hg q
            have hq : ∃ e2, es.find? (fun e => decide (e.x = y)) = some e2 ∧ e2.np = np := by
              have q : gkE es gl y = some (.fn np) := q
              unfold gkE at q
              split at q
              · rename_i e2 h2; cases q; exact ⟨e2, h2, rfl⟩
              · have := List.all_eq_true.mp hg (y, .fn np) (lookupS q)
                cases this
            obtain ⟨e2, h2, rfl⟩ := hq
            obtain ⟨he2, ey2⟩ := find_ent h2
            have F2 := hFD e2 he2
            refine ⟨He.ga K e2.x, FD e2, e2.N.take e2.np, n, ?_, F2.kp, F2.bindsN fun kV doc pm an cdv ct us hl => (hes e2 he2).bind kV doc pm an cdv ct us hl, fun ds st hl => callD_len (by unfold tabE; rw [h2]; rfl) ds st hl, ih y e2 h2, hr⟩
            rw [← ey2]
            exact glo_ent X G c he2
          exc := fun x q => by
            have g1 := He.glo_ok X G (fact q rfl (.glo x) (by simp [fa1]))
            obtain ⟨k1, k2, k3, k4⟩ := He.exc_ok (fact q rfl (.exc x) (by simp [fa1]))
            exact ⟨_, g1, k1, k2, L2.raises_own k3 k4⟩
          own := L2.passes_of rfl
          tk := L2.takes_of rfl rfl rfl rfl
          fn := fun _ _ => rfl }
      refine ⟨_, r.ok _ Wf _ _ Gd, ?_⟩
      obtain ⟨hl, ds, st, φ, St, rs, hp⟩ := hsp
      refine ⟨_, st, φ, St, env_start rs e.N, ?_⟩
      rw [exs]
      have hd : ds.length = e.np := by rw [rs.length]; exact hl
      unfold callD at hp
      simp only [hT] at hp
      rw [if_pos hd, ← hd] at hp
      exact fin_post rfl hp
/-- the law's end: the law's def answers True in the small language -/
theorem law_end {l : PySem.W.OpenLaw} {n k Wf : Nat} {q : Program} {loose : List Str} {XP : (Str → Option Value) → Heap → Prop} {d : DefRec} {x : Str} {es : List Ent} {gl : Gl} {e : Ent}
    (hn : l.most = some n) (hn2 : n ≤ sizeLine) (hdf : d.params.defaults = []) (hr : L2.Room k callerA) (hg : gl.all notFn = true) (hes : ∀ e ∈ es, EntOk (gkE es gl) e) (hd : es.find? (fun e => decide (e.x = d.name)) = some e)
    (h1 : e.np = 1) (hx : e.N.take 1 = [x]) (hlaw : ∀ ns : List Int, ns.length ≤ n → ∃ st, callD (tabE es) Wf k d.name [.ro ns] [] = .ok (.bl true) st) :
    PySem.W.WalkO q loose XP (fun _ h => ∃ K : PySem.W.Frag, K.In h ∧ He.SaysD (faE es gl) (fnE es) K) l.row.toRowW d [] (fun f vs => PySem.call f vs) := by
  refine L2.walk_ofE (CX := L2.CX0) (k := k) (x := x) hn hn2 hdf hr ?_ (fun _ _ _ _ z => z)
  intro w mg fa h Y G hmg
  obtain ⟨K, KX, c⟩ := Y
  have hex : ∀ e' : Ent, ∃ fd, e' ∈ es → FunE K e' fd := fun e' => by
    by_cases he : e' ∈ es
    · obtain ⟨fd, F⟩ := fun_ent c he (hes e' he)
      exact ⟨fd, fun _ => F⟩
    · exact ⟨default, fun z => absurd z he⟩
  obtain ⟨FD, hFD⟩ := Classical.axiomOfChoice hex
  obtain ⟨he, ey⟩ := find_ent hd
  have ps : e.N.take e.np = [x] := by rw [h1]; exact hx
  have ga := glo_ent KX G c he
  rw [ey, hmg] at ga
  have F := hFD e he
  refine ⟨K, FD e, fun vs H Q E => spD ⟨l.prog, w, K, mg⟩ (callD (tabE es) Wf k) d.name e.np vs H Q (fun _ _ _ => False), KX, fun s u => ?_, fun H a ns hlen hO hS => ?_, fun base hb1 hb2 => ?_⟩
  · have b := F.bindsA (ps := e.N.take e.np) (fun kV doc pm an cdv ct us hl => (hes e he).bind kV doc pm an cdv ct us hl) s [u] (by rw [ps]; rfl)
    rw [ps] at b
    exact b
  · obtain ⟨st, hst⟩ := hlaw ns hlen
    refine ⟨h1.symm, [.ro ns], [], [], ⟨rfl, List.nodup_nil, fun n a c h1 h2 => by simp at h1⟩, .one ?_, ?_⟩
    · rcases hS with hS | hS
      · rcases hS with hS | ⟨o, hS⟩
        · rcases hO a with h0 | ⟨o, xs, h0⟩
          · rw [h0] at hS; cases hS
          · rw [h0] at hS; cases hS
        · exact .rof hS
      · exact .rok (.inr hS)
    · rw [hst]
      intro φ' H' v s S r
      cases r
      rfl
  · have A := all_kept (P := l.prog) (w := w) KX G c hg hes Wf base FD hFD k d.name e hd
    have e2 : He.ga K e.x = fa := by
      have := ga
      cases this
      rw [ey]
    rw [e2, ps] at A
    refine ⟨fun vs H Q E hq => ?_, fun A' outer s H args us vs Q E hr' e0 hb hv hq => ?_⟩
    · exact A.len vs H Q _ hq
    · refine codeAny_mono (A.run A' outer s H args us vs Q (fun _ _ _ => False) hr' e0 hb hv hq) fun r s' hc => ?_
      cases r with
      | ok f => cases f <;> exact hc
      | error e3 =>
        obtain ⟨_, _, _, _, _, _, _, _, _, _, _, _, z⟩ := hc
        exact z.elim
end
end IP

/-! PrA: what the small language answers: the calculus. -/
namespace IP.Q
open PySem
def ok {α : Type} (r : R α) (Q : α → Sto → Prop) : Prop := match r with
  | .ok a st => Q a st
  | _ => False
theorem ok_ok {α : Type} {a : α} {st : Sto} {Q : α → Sto → Prop} : ok (.ok a st) Q = Q a st := rfl
theorem ok_bad {α : Type} {Q : α → Sto → Prop} : ok (.bad : R α) Q = False := rfl
theorem ok_bind {α β : Type} {r : R α} {f : α → Sto → R β} {Q : β → Sto → Prop} : ok (r.bind f) Q = ok r fun a st => ok (f a st) Q := by cases r <;> rfl
theorem ok_mono {α : Type} {r : R α} {Q Q' : α → Sto → Prop} (h : ok r Q) (k : ∀ a st, Q a st → Q' a st) : ok r Q' := by
  cases r with
  | ok a st => exact k a st h
  | _ => exact h
/-- a suite's end: next, return, continue -/
def okS (r : SR) (N : Env → Sto → Prop) (Rt : D → Sto → Prop) (Ct : Env → Sto → Prop) : Prop := match r with
  | .next ρ st => N ρ st
  | .ret d st => Rt d st
  | .cont ρ st => Ct ρ st
  | _ => False
theorem okS_mono {r : SR} {N N' : Env → Sto → Prop} {Rt Rt' : D → Sto → Prop} {Ct Ct' : Env → Sto → Prop} (h : okS r N Rt Ct) (h1 : ∀ ρ st, N ρ st → N' ρ st) (h2 : ∀ d st, Rt d st → Rt' d st) (h3 : ∀ ρ st, Ct ρ st → Ct' ρ st) : okS r N' Rt' Ct' := by
  cases r with
  | next ρ st => exact h1 _ _ h
  | ret d st => exact h2 _ _ h
  | cont ρ st => exact h3 _ _ h
  | _ => exact h
theorem okS_ofR {α : Type} {ρ : Env} {r : R α} {f : α → Sto → SR} {N : Env → Sto → Prop} {Rt : D → Sto → Prop} {Ct : Env → Sto → Prop} : okS (SR.ofR ρ r f) N Rt Ct = ok r fun a st => okS (f a st) N Rt Ct := by cases r <;> rfl
section
variable {C : Str → List D → Sto → R D} {W : Nat} {ρ : Env} {st : Sto} {Q : D → Sto → Prop} {N : Env → Sto → Prop} {Rt : D → Sto → Prop} {Ct : Env → Sto → Prop}
theorem w_k {d : D} : ok (ev C (.k d) ρ st) Q = Q d st := by rw [ev]; rfl
theorem w_lc {i : Nat} {d : D} (h : ρ[i]? = some (some d)) : ok (ev C (.lc i) ρ st) Q = Q d st := by rw [ev]; simp only [h]; rfl
theorem w_bin {o : Bop} {a b : Ex} : ok (ev C (.bin o a b) ρ st) Q = ok (ev C a ρ st) fun x s1 => ok (ev C b ρ s1) fun y s2 => ok (binD o x y s2) Q := by rw [ev]; simp only [ok_bind]
theorem w_cmp {o : Cop} {a b : Ex} : ok (ev C (.cmp o a b) ρ st) Q = ok (ev C a ρ st) fun x s1 => ok (ev C b ρ s1) fun y s2 => ok (okB (cmpD o x y s2) s2) Q := by rw [ev]; simp only [ok_bind]
theorem w_neg {a : Ex} : ok (ev C (.neg a) ρ st) Q = ok (ev C a ρ st) fun x s1 => ∃ i, x = .int i ∧ Q (.int (-i)) s1 := by
  rw [ev, ok_bind]
  congr 1; funext x s1
  cases x <;> simp [ok]
theorem w_not {a : Ex} : ok (ev C (.not a) ρ st) Q = ok (ev C a ρ st) fun x s1 => ∃ b, x = .bl b ∧ Q (.bl (!b)) s1 := by
  rw [ev, ok_bind]
  congr 1; funext x s1
  cases x <;> simp [ok]
theorem w_and {a b : Ex} : ok (ev C (.and a b) ρ st) Q = ok (ev C a ρ st) fun x s1 => (x = .bl true ∧ ok (ev C b ρ s1) Q) ∨ (x = .bl false ∧ Q (.bl false) s1) := by
  rw [ev, ok_bind]
  congr 1; funext x s1
  cases x <;> simp [ok]
  rename_i b
  cases b <;> simp [ok]
theorem w_or {a b : Ex} : ok (ev C (.or a b) ρ st) Q = ok (ev C a ρ st) fun x s1 => (x = .bl true ∧ Q (.bl true) s1) ∨ (x = .bl false ∧ ok (ev C b ρ s1) Q) := by
  rw [ev, ok_bind]
  congr 1; funext x s1
  cases x <;> simp [ok]
  rename_i b
  cases b <;> simp [ok]
theorem w_chn {o p : Cop} {a b c : Ex} : ok (ev C (.chn o p a b c) ρ st) Q = ok (ev C a ρ st) fun x s1 => ok (ev C b ρ s1) fun y s2 => (cmpD o x y s2 = some true ∧ ok (ev C c ρ s2) fun z s3 => ok (okB (cmpD p y z s3) s3) Q) ∨ (cmpD o x y s2 = some false ∧ Q (.bl false) s2) := by
  rw [ev]
  simp only [ok_bind]
  congr 1; funext x s1
  congr 1; funext y s2
  cases cmpD o x y s2 with
  | none => simp [ok]
  | some b => cases b <;> simp [ok_bind, ok_ok]
theorem w_isN {a : Ex} : ok (ev C (.isN a) ρ st) Q = ok (ev C a ρ st) fun x s1 => Q (.bl (decide (x = .non))) s1 := by rw [ev]; simp only [ok_bind]; rfl
theorem w_notN {a : Ex} : ok (ev C (.notN a) ρ st) Q = ok (ev C a ρ st) fun x s1 => Q (.bl (!decide (x = .non))) s1 := by rw [ev]; simp only [ok_bind]; rfl
theorem w_call {f : Str} {es : Exs} : ok (ev C (.call f es) ρ st) Q = ok (evs C es ρ st) fun ds s1 => ok (C f ds s1) Q := by rw [ev, ok_bind]
theorem w_bi {b : Bi} {e : Ex} : ok (ev C (.bi b e) ρ st) Q = ok (ev C e ρ st) fun x s1 => ok (biD b x s1) Q := by rw [ev, ok_bind]
theorem w_lset {e : Ex} : ok (ev C (.lset e) ρ st) Q = ok (ev C e ρ st) fun x s1 => ok (lsetD x s1) Q := by rw [ev, ok_bind]
theorem w_bm {m : Bm} {o : Ex} {es : Exs} : ok (ev C (.bm m o es) ρ st) Q = ok (ev C o ρ st) fun x s1 => rcv m x s1 = true ∧ ok (evs C es ρ s1) fun ds s2 => ok (bmD m x ds s2) Q := by
  rw [ev, ok_bind]
  congr 1; funext x s1
  split
  · rename_i h; simp only [h, true_and, ok_bind]
  · rename_i h; simp [h, ok]
theorem w_isT {e : Ex} {T : Ty} : ok (ev C (.isT e T) ρ st) Q = ok (ev C e ρ st) fun x s1 => ok (okB (isTD x T s1) s1) Q := by rw [ev, ok_bind]
theorem w_ix {a i : Ex} : ok (ev C (.ix a i) ρ st) Q = ok (ev C a ρ st) fun x s1 => ok (ev C i ρ s1) fun y s2 => ok (ixD x y s2) Q := by rw [ev]; simp only [ok_bind]
theorem w_sl {a : Ex} {l h : Exo} : ok (ev C (.sl a l h) ρ st) Q = ok (ev C a ρ st) fun x s1 => ok (evo C l ρ s1) fun i s2 => ok (evo C h ρ s2) fun j s3 => ok (slD x i j s3) Q := by rw [ev]; simp only [ok_bind]
theorem w_tup {es : Exs} : ok (ev C (.tup es) ρ st) Q = ok (evs C es ρ st) fun ds s1 => ds.length ≤ LIM ∧ Q (.tup ds) s1 := by
  rw [ev, ok_bind]
  congr 1; funext ds s1
  split
  · rename_i h; simp [h, ok]
  · rename_i h; simp [h, ok]
theorem w_lst {es : Exs} : ok (ev C (.lst es) ρ st) Q = ok (evs C es ρ st) fun ds s1 => ds.length ≤ LIM ∧ Q (.ref s1.length) (s1 ++ [.lst ds]) := by
  rw [ev, ok_bind]
  congr 1; funext ds s1
  split
  · rename_i h; simp [h, ok]
  · rename_i h; simp [h, ok]
theorem w_dnew : ok (ev C (.dct .nil) ρ st) Q = Q (.ref st.length) (st ++ [.dic []]) := by rw [ev, evd]; rfl
theorem w_nil {Q : List D → Sto → Prop} : ok (evs C .nil ρ st) Q = Q [] st := by rw [evs]; rfl
theorem w_cons {e : Ex} {es : Exs} {Q : List D → Sto → Prop} : ok (evs C (.cons e es) ρ st) Q = ok (ev C e ρ st) fun d s1 => ok (evs C es ρ s1) fun ds s2 => Q (d :: ds) s2 := by
  rw [evs]; simp only [ok_bind]; rfl
theorem w_none {Q : Option Int → Sto → Prop} : ok (evo C .none ρ st) Q = Q none st := by rw [evo]; rfl
theorem w_some {e : Ex} {Q : Option Int → Sto → Prop} : ok (evo C (.some e) ρ st) Q = ok (ev C e ρ st) fun x s1 => ∃ i, x = .int i ∧ Q (some i) s1 := by
  rw [evo, ok_bind]
  congr 1; funext x s1
  cases x <;> simp [ok]
theorem w_cno {Q : Bool → Sto → Prop} : ok (evc C .none ρ st) Q = Q true st := by rw [evc]; rfl
theorem w_csome {e : Ex} {Q : Bool → Sto → Prop} : ok (evc C (.some e) ρ st) Q = ok (ev C e ρ st) fun x s1 => ∃ b, x = .bl b ∧ Q b s1 := by
  rw [evc, ok_bind]
  congr 1; funext x s1
  cases x <;> simp [ok]
theorem w_comp {e : Ex} {t : Tg} {it : Itr} {c : Exo} {own : List Nat} : ok (ev C (.comp e t it c own) ρ st) Q = ok (evi C it ρ st) fun p s1 => okW p.2 s1 = true ∧
    ok (compL (fun d st2 => match asg t d (wipe ρ own) st2 with
      | some ρ' => (evc C c ρ' st2).bind fun b st3 => if b then (ev C e ρ' st3).bind fun y st4 => .ok (some y) st4 else .ok none st3
      | none => .bad) p.2 p.1 [] s1) fun ys s2 => Q (.ref s2.length) (s2 ++ [.lst ys]) := by
  rw [ev, ok_bind]
  congr 1; funext p s1
  split
  · rename_i h; simp only [h, true_and, ok_bind]; rfl
  · rename_i h; simp [h, ok]
theorem w_val {e : Ex} {Q : List D × Watch → Sto → Prop} : ok (evi C (.val e) ρ st) Q = ok (ev C e ρ st) fun d s1 => ∃ p, walkOf d s1 = some p ∧ Q p s1 := by
  rw [evi, ok_bind]
  congr 1; funext x s1
  cases walkOf x s1 <;> simp [ok]
theorem w_enm {e : Ex} {Q : List D × Watch → Sto → Prop} : ok (evi C (.enm e) ρ st) Q = ok (ev C e ρ st) fun d s1 => ∃ p, seqOf d s1 = some p ∧ Q (zipI 0 p.1, p.2) s1 := by
  rw [evi, ok_bind]
  congr 1; funext x s1
  cases seqOf x s1 <;> simp [ok]
theorem w_rng {e : Ex} {Q : List D × Watch → Sto → Prop} : ok (evi C (.rng e) ρ st) Q = ok (ev C e ρ st) fun d s1 => ∃ j, d = .int j ∧ small62 j = true ∧ Q (rngD 0 j.toNat, []) s1 := by
  rw [evi, ok_bind]
  congr 1; funext x s1
  cases x with
  | int j =>
    by_cases h : small62 j = true
    · simp [h, ok]
    · simp [h, ok]
  | _ => simp [ok]
/-! statements -/
theorem s_nil : okS (excs C W .nil ρ st) N Rt Ct = N ρ st := by rw [excs]; rfl
theorem s_cons {s : St} {ss : Sts} : okS (excs C W (.cons s ss) ρ st) N Rt Ct = okS (exc C W s ρ st) (fun ρ' st' => okS (excs C W ss ρ' st') N Rt Ct) Rt Ct := by
  rw [excs]
  cases exc C W s ρ st <;> rfl
theorem s_asg {t : Tg} {e : Ex} : okS (exc C W (.asg t e) ρ st) N Rt Ct = ok (ev C e ρ st) fun d s1 => ∃ ρ', asg t d ρ s1 = some ρ' ∧ N ρ' s1 := by
  rw [exc, okS_ofR]
  congr 1; funext d s1
  cases asg t d ρ s1 <;> simp [okS]
theorem s_ife {c : Ex} {a b : Sts} : okS (exc C W (.ife c a b) ρ st) N Rt Ct = ok (ev C c ρ st) fun d s1 => (d = .bl true ∧ okS (excs C W a ρ s1) N Rt Ct) ∨ (d = .bl false ∧ okS (excs C W b ρ s1) N Rt Ct) := by
  rw [exc, okS_ofR]
  congr 1; funext d s1
  cases d <;> simp [okS]
  rename_i b
  cases b <;> simp
theorem s_ret {e : Ex} : okS (exc C W (.ret e) ρ st) N Rt Ct = ok (ev C e ρ st) fun d s1 => Rt d s1 := by
  rw [exc, okS_ofR]; rfl
theorem s_exp {e : Ex} : okS (exc C W (.exp e) ρ st) N Rt Ct = ok (ev C e ρ st) fun d s1 => N ρ s1 := by
  rw [exc, okS_ofR]; rfl
theorem s_pass : okS (exc C W .pass ρ st) N Rt Ct = N ρ st := by rw [exc]; rfl
theorem s_fr {t : Tg} {it : Itr} {b : Sts} : okS (exc C W (.fr t it b) ρ st) N Rt Ct = ok (evi C it ρ st) fun p s1 => okW p.2 s1 = true ∧ okS (forL (fun d ρ' st' => match asg t d ρ' st' with
      | some ρ'' => excs C W b ρ'' st'
      | none => .bad) p.2 p.1 ρ s1) N Rt Ct := by
  rw [exc, okS_ofR]
  congr 1; funext p s1
  split
  · rename_i h; (simp only [h, true_and]) <;> rfl
  · rename_i h; simp [h, okS]
/-- the turns of a for: I by the turn -/
theorem for_rule {f : D → Env → Sto → SR} {w : Watch} (I : Nat → Env → Sto → Prop) : ∀ (ds : List D) (k : Nat) (ρ : Env) (st : Sto), I k ρ st →
    (∀ i d ρ st, ds[i]? = some d → I (k + i) ρ st → okS (f d ρ st) (fun ρ' st' => I (k + i + 1) ρ' st' ∧ okW w st' = true) Rt (fun ρ' st' => I (k + i + 1) ρ' st' ∧ okW w st' = true)) →
    (∀ ρ st, I (k + ds.length) ρ st → N ρ st) → okS (forL f w ds ρ st) N Rt Ct
  | [], k, ρ, st, h0, _, hn => hn ρ st h0
  | d :: ds, k, ρ, st, h0, hs, hn => by
    have h1 := hs 0 d ρ st rfl h0
    unfold forL
    cases e : f d ρ st with
    | next ρ' st' =>
      rw [e] at h1
      have h1 : I (k + 0 + 1) ρ' st' ∧ okW w st' = true := h1
      dsimp only
      rw [if_pos h1.2]
      exact for_rule I ds (k + 1) ρ' st' h1.1 (fun i d ρ st hi hI => by
        have := hs (i + 1) d ρ st (by simpa using hi) (by rw [show k + (i + 1) = k + 1 + i by omega]; exact hI)
        rw [show k + (i + 1) = k + 1 + i by omega] at this
        exact this) fun ρ st hI => hn ρ st (by rw [List.length_cons, show k + (ds.length + 1) = k + 1 + ds.length by omega]; exact hI)
    | cont ρ' st' =>
      rw [e] at h1
      have h1 : I (k + 0 + 1) ρ' st' ∧ okW w st' = true := h1
      dsimp only
      rw [if_pos h1.2]
      exact for_rule I ds (k + 1) ρ' st' h1.1 (fun i d ρ st hi hI => by
        have := hs (i + 1) d ρ st (by simpa using hi) (by rw [show k + (i + 1) = k + 1 + i by omega]; exact hI)
        rw [show k + (i + 1) = k + 1 + i by omega] at this
        exact this) fun ρ st hI => hn ρ st (by rw [List.length_cons, show k + (ds.length + 1) = k + 1 + ds.length by omega]; exact hI)
    | ret d' st' => rw [e] at h1; exact h1
    | bad => rw [e] at h1; exact h1
    | exc _ _ _ => rw [e] at h1; exact h1
    | brk _ _ => rw [e] at h1; exact h1.elim
end
/-- more of the store, the old cells as they were -/
def Ext (st st' : Sto) : Prop := ∃ t, st' = st ++ t
theorem Ext.refl (st : Sto) : Ext st st := ⟨[], by simp⟩
theorem Ext.trans {a b c : Sto} (h : Ext a b) (k : Ext b c) : Ext a c := by
  obtain ⟨t, rfl⟩ := h
  obtain ⟨u, rfl⟩ := k
  exact ⟨t ++ u, by rw [List.append_assoc]⟩
theorem Ext.more {a : Sto} (t : Sto) : Ext a (a ++ t) := ⟨t, rfl⟩
theorem Ext.at_ {a b : Sto} (h : Ext a b) {n : Nat} {c : Cell} (e : a[n]? = some c) : b[n]? = some c := by
  obtain ⟨t, rfl⟩ := h
  rw [List.getElem?_append_left (List.getElem?_eq_some_iff.mp e).1]; exact e
theorem Ext.okW {a b : Sto} (h : Ext a b) {w : Watch} (e : okW w a = true) : okW w b = true := by
  unfold IP.okW at *
  rw [List.all_eq_true] at *
  intro p hp
  have := of_decide_eq_true (e p hp)
  exact decide_eq_true (h.at_ this)
theorem Ext.len {a b : Sto} (h : Ext a b) : a.length ≤ b.length := by
  obtain ⟨t, rfl⟩ := h
  simp
/-- a cell behind the old ones is written -/
theorem Ext.set {a b : Sto} (h : Ext a b) {n : Nat} {c : Cell} (hn : a.length ≤ n) : Ext a (b.set n c) := by
  obtain ⟨t, rfl⟩ := h
  rw [List.set_append_right _ _ hn]
  exact ⟨_, rfl⟩
/-- a comprehension's turns, each of its value: g by the item -/
theorem comp_rule {f : D → Sto → R (Option D)} {w : Watch} {st0 : Sto} (g : D → Option D) (hw : okW w st0 = true) : ∀ (ds acc : List D) (st : Sto), Ext st0 st → acc.length + ds.length ≤ LIM → (∀ d ∈ ds, ∀ st, Ext st0 st → ok (f d st) fun o st' => Ext st st' ∧ o = g d) →
    ok (compL f w ds acc st) fun ys st' => Ext st st' ∧ ys = acc ++ ds.filterMap g
  | [], acc, st, _, _, _ => ⟨Ext.refl _, by simp⟩
  | d :: ds, acc, st, h0, hl, hs => by
    have h1 := hs d List.mem_cons_self st h0
    unfold compL
    rw [List.length_cons] at hl
    cases e : f d st with
    | ok o st' =>
      rw [e] at h1
      obtain ⟨h2, rfl⟩ := h1
      have h3 := h0.trans h2
      have h4 : okW w st' = true := h3.okW hw
      cases hg : g d with
      | none =>
        dsimp only
        rw [if_pos h4]
        refine ok_mono (comp_rule g hw ds acc st' h3 (by omega) fun d hd => hs d (List.mem_cons_of_mem _ hd)) fun ys s ⟨k1, k2⟩ => ⟨h2.trans k1, ?_⟩
        rw [List.filterMap_cons, hg]; exact k2
      | some y =>
        dsimp only
        rw [h4, if_pos (by simp; omega)]
        refine ok_mono (comp_rule g hw ds (acc ++ [y]) st' h3 (by rw [List.length_append, List.length_singleton]; omega) fun d hd => hs d (List.mem_cons_of_mem _ hd)) fun ys s ⟨k1, k2⟩ => ⟨h2.trans k1, ?_⟩
        rw [List.filterMap_cons, hg]
        simpa using k2
    | bad => rw [e] at h1; exact h1.elim
    | exc _ _ => rw [e] at h1; exact h1.elim
/-- a call -/
theorem call_ok {T : Tab} {W n : Nat} {f : Str} {np ns : Nat} {body : Sts} {ds : List D} {st : Sto} {Q : D → Sto → Prop} (hT : T f = some (.fn np ns body)) (hl : ds.length = np)
    (h : okS (excs (callD T W n) W body (ds.map some ++ List.replicate (ns - np) none) st) (fun _ s => Q .non s) Q fun _ _ => False) : ok (callD T W (n + 1) f ds st) Q := by
  unfold callD
  simp only [hT]
  rw [if_pos hl]
  cases e : excs (callD T W n) W body (ds.map some ++ List.replicate (ns - np) none) st with
  | next ρ s => rw [e] at h; exact h
  | ret d s => rw [e] at h; exact h
  | cont ρ s => rw [e] at h; exact h.elim
  | bad => rw [e] at h; exact h
  | exc _ _ _ => rw [e] at h; exact h
  | brk _ _ => rw [e] at h; exact h
end IP.Q

/-! UaA: the small language once more, by content: lists and dicts are values; a name that is written to by
append and its like owns its list. Values, operators, the interpreter. -/
namespace IP.Q
open PySem
inductive U where
  | non
  | bl (b : Bool)
  | int (i : Int)
  | str (x : Str)
  | tup (us : List U)
  | lst (us : List U)
  | dic (ks us : List U)
  | obj (m : Nat)
  | ro (ns : List Int)
  | fn (x : Str)
  | exn (C : Str) (w : List U)
mutual
def U.beq : U → U → Bool
  | .non, .non => true
  | .bl a, .bl b => decide (a = b)
  | .int a, .int b => decide (a = b)
  | .str a, .str b => decide (a = b)
  | .tup a, .tup b => U.beqs a b
  | .lst a, .lst b => U.beqs a b
  | .dic a c, .dic b d => U.beqs a b && U.beqs c d
  | .obj a, .obj b => decide (a = b)
  | .ro a, .ro b => decide (a = b)
  | .fn a, .fn b => decide (a = b)
  | .exn a v, .exn b w => decide (a = b) && U.beqs v w
  | _, _ => false
def U.beqs : List U → List U → Bool
  | [], [] => true
  | a :: as, b :: bs => U.beq a b && U.beqs as bs
  | _, _ => false
end
mutual
theorem U.beq_rfl : ∀ a : U, U.beq a a = true
  | .non => by simp [U.beq]
  | .bl _ => by simp [U.beq]
  | .int _ => by simp [U.beq]
  | .str _ => by simp [U.beq]
  | .tup a => by simp [U.beq, U.beqs_rfl a]
  | .lst a => by simp [U.beq, U.beqs_rfl a]
  | .dic a b => by simp [U.beq, U.beqs_rfl a, U.beqs_rfl b]
  | .obj _ => by simp [U.beq]
  | .ro _ => by simp [U.beq]
  | .fn _ => by simp [U.beq]
  | .exn _ w => by simp [U.beq, U.beqs_rfl w]
theorem U.beqs_rfl : ∀ a : List U, U.beqs a a = true
  | [] => by simp [U.beqs]
  | a :: as => by simp [U.beqs, U.beq_rfl a, U.beqs_rfl as]
end
mutual
theorem U.eq_of : ∀ a b : U, U.beq a b = true → a = b
  | .non, b, h => by cases b <;> simp [U.beq] at h ⊢
  | .bl _, b, h => by cases b <;> simp [U.beq] at h ⊢ <;> exact h
  | .int _, b, h => by cases b <;> simp [U.beq] at h ⊢ <;> exact h
  | .str _, b, h => by cases b <;> simp [U.beq] at h ⊢ <;> exact h
  | .tup a, b, h => by
    cases b <;> simp [U.beq] at h ⊢
    exact U.eqs_of a _ h
  | .lst a, b, h => by
    cases b <;> simp [U.beq] at h ⊢
    exact U.eqs_of a _ h
  | .dic a c, b, h => by
    cases b <;> simp [U.beq] at h ⊢
    exact ⟨U.eqs_of a _ h.1, U.eqs_of c _ h.2⟩
  | .obj _, b, h => by cases b <;> simp [U.beq] at h ⊢ <;> exact h
  | .ro _, b, h => by cases b <;> simp [U.beq] at h ⊢ <;> exact h
  | .fn _, b, h => by cases b <;> simp [U.beq] at h ⊢ <;> exact h
  | .exn _ w, b, h => by
    cases b <;> simp [U.beq] at h ⊢
    exact ⟨h.1, U.eqs_of w _ h.2⟩
theorem U.eqs_of : ∀ a b : List U, U.beqs a b = true → a = b
  | [], b, h => by cases b <;> simp [U.beqs] at h ⊢
  | a :: as, b, h => by
    cases b with
    | nil => simp [U.beqs] at h
    | cons b bs =>
      simp only [U.beqs, Bool.and_eq_true] at h
      rw [U.eq_of a b h.1, U.eqs_of as bs h.2]
end
instance : DecidableEq U := fun a b =>
  if h : U.beq a b = true then .isTrue (U.eq_of a b h) else .isFalse fun e => h (e ▸ U.beq_rfl a)
mutual
def toDataU : Nat → U → Option PyData
  | _, .non => some .none
  | _, .bl b => some (.bool b)
  | _, .int i => some (.int i)
  | _, .str x => some (.str x)
  | n + 1, .tup us => (toDatasU n us).map .tuple
  | n + 1, .lst us => (toDatasU n us).map .list
  | _ + 1, .ro ns => some (.list (ns.map .int))
  | _, _ => none
def toDatasU : Nat → List U → Option (List PyData)
  | _, [] => some []
  | n, u :: us => match toDataU n u, toDatasU n us with
    | some p, some ps => some (p :: ps)
    | _, _ => none
end
def eqU (a b : U) : Option Bool :=
  match toDataU 64 a, toDataU 64 b with
  | some p, some q => some (PyData.eqv p q)
  | _, _ => none
def inU (a : U) (us : List U) : Option Bool :=
  match toDataU 64 a, toDatasU 63 us with
  | some p, some ps => some (ps.any fun z => PyData.eqv z p)
  | _, _ => none
def idxU (a : U) (us : List U) : Option Nat :=
  match toDataU 64 a, toDatasU 63 us with
  | some p, some ps => ps.findIdx? fun z => PyData.eqv z p
  | _, _ => none
def flatU : U → Bool
  | .non => true
  | .bl _ => true
  | .int _ => true
  | .str _ => true
  | _ => false
mutual
def keyTU : Nat → U → Bool
  | _, .non => true
  | _, .int _ => true
  | _, .str _ => true
  | n + 1, .tup us => keyTsU n us
  | _, _ => false
def keyTsU : Nat → List U → Bool
  | _, [] => true
  | n, d :: ds => keyTU n d && keyTsU n ds
end
def keyKindU : U → Option KK
  | .int _ => some .flat
  | .str _ => some .flat
  | .tup us => if keyTsU 7 us then some .deep else none
  | _ => none
def dgetU (ks us : List U) (k : U) : Option U := ((ks.zip us).find? fun p => decide (p.1 = k)).map (·.2)
def dputU (ks us : List U) (k v : U) : U :=
  if ks.any (fun q => decide (q = k)) then .dic ks ((ks.zip us).map fun p => if p.1 = k then v else p.2) else .dic (ks ++ [k]) (us ++ [v])
def alikeU (ks : List U) (k : U) : Bool :=
  match keyKindU k with
  | none => false
  | some kk => ks.all fun q => decide (keyKindU q = some kk)
/-! ### operators -/
def binU : Bop → U → U → Option U
  | .add, .int i, .int j => some (.int (i + j))
  | .add, .str x, .str y => if x.length + y.length ≤ LIM then some (.str (x ++ y)) else none
  | .add, .tup xs, .tup ys => if xs.length + ys.length ≤ LIM then some (.tup (xs ++ ys)) else none
  | .add, .lst xs, .lst ys => if xs.length + ys.length ≤ LIM then some (.lst (xs ++ ys)) else none
  | .sub, .int i, .int j => some (.int (i - j))
  | .mul, .int i, .int j => if mulOk i j then some (.int (i * j)) else none
  | .mul, .tup xs, .int k => if xs ≠ [] ∧ 2 ≤ k ∧ k ≤ 1000 ∧ xs.length ≤ 1000 then some (.tup (List.replicate k.toNat xs).flatten) else none
  | .mul, .lst xs, .int k => if -(2 ^ 63) ≤ k ∧ k < 2 ^ 63 ∧ xs.length * k.toNat ≤ LIM then some (.lst (List.replicate k.toNat xs).flatten) else none
  | .mod, .int i, .int j => if j ≠ 0 then some (.int (i.fmod j)) else none
  | .fdiv, .int i, .int j => if j ≠ 0 ∧ j.natAbs < 1073741824 then some (.int (i.fdiv j)) else none
  | _, _, _ => none
def memU (a b : U) : Option Bool :=
  match b with
  | .str y => match a with
    | .str x => oneIn x y
    | _ => none
  | .tup us => if flatU a && us.all flatU then inU a us else none
  | .lst us => inU a us
  | .dic ks us => if alikeU ks a then some (dgetU ks us a).isSome else none
  | _ => none
def cmpU (o : Cop) (a b : U) : Option Bool :=
  match o with
  | .eq => eqU a b
  | .ne => (eqU a b).map (!·)
  | .lt => match a, b with
    | .int i, .int j => some (decide (i < j))
    | _, _ => none
  | .le => match a, b with
    | .int i, .int j => some (decide (i ≤ j))
    | _, _ => none
  | .gt => match a, b with
    | .int i, .int j => some (decide (j < i))
    | _, _ => none
  | .ge => match a, b with
    | .int i, .int j => some (decide (j ≤ i))
    | _, _ => none
  | .isin => memU a b
  | .notin => (memU a b).map (!·)
def ixU : U → U → Option U
  | .tup us, .int j => L2.atI us j
  | .lst us, .int j => L2.atI us j
  | .ro ns, .int j => (L2.atI ns j).map .int
  | .str x, .int j => if x.length ≤ LIM then (L2.atI x.cps.toList j).map fun c => .str ⟨#[c]⟩ else none
  | .dic ks us, k => if alikeU ks k then dgetU ks us k else none
  | _, _ => none
def slU (a : U) (lo hi : Option Int) : Option U :=
  match a with
  | .tup us => some (.tup (cutL us lo hi))
  | .lst us => some (.lst (cutL us lo hi))
  | .str x => if x.length ≤ LIM then some (.str ⟨(cutL x.cps.toList lo hi).toArray⟩) else none
  | _ => none
def boolsU : List U → Option (List Bool)
  | [] => some []
  | .bl b :: ds => (boolsU ds).map (b :: ·)
  | _ => none
def strsU : List U → Option (List Str)
  | [] => some []
  | .str b :: ds => (strsU ds).map (b :: ·)
  | _ => none
def datasU : List U → Option (List (U × PyData))
  | [] => some []
  | d :: ds => match toDataU 64 d, datasU ds with
    | some p, some ps => some ((d, p) :: ps)
    | _, _ => none
def sortU (us : List U) : Option (List U) :=
  match datasU us with
  | some ps => if alikeB (ps.map (·.2)) && ((ps.map (·.2)).all tupleB || (ps.map (·.2)).all otherB) && decide (us.length ≤ LIM) then some ((ps.mergeSort (PySem.W.dataLe false (·.2))).map (·.1)) else none
  | none => none
def biU (b : Bi) (a : U) : Option U :=
  match b with
  | .len => match a with
    | .str x => if x.length ≤ LIM then some (.int x.length) else none
    | .tup us => some (.int us.length)
    | .ro ns => some (.int ns.length)
    | .lst us => some (.int us.length)
    | _ => none
  | .all => match a with
    | .lst us => (boolsU us).map fun bs => .bl (bs.all id)
    | _ => none
  | .any => match a with
    | .lst us => (boolsU us).map fun bs => .bl (bs.any id)
    | _ => none
  | .list => match a with
    | .tup us => some (.lst us)
    | .lst us => some (.lst us)
    | .dic ks _ => some (.lst ks)
    | _ => none
  | .tuple => match a with
    | .tup us => some (.tup us)
    | .lst us => some (.tup us)
    | _ => none
  | .int => match a with
    | .int i => some (.int i)
    | .bl c => some (.int (if c then 1 else 0))
    | _ => none
  | .str => none
  | .sorted => match a with
    | .lst us => (sortU us).map .lst
    | _ => none
  | .dict => none
def lsetU (a : U) : Option U :=
  match (match a with
    | .tup us => strsU us
    | .lst us => strsU us
    | _ => none) with
  | some xs => if xs.length ≤ 100 then some (.int (distinct xs).length) else none
  | none => none
def getU (a : U) (vs : List U) : Option U := match a, vs with
  | .dic ks us, [k, d] => if alikeU ks k then some ((dgetU ks us k).getD d) else none
  | _, _ => none
def indexU (a : U) (vs : List U) : Option U := match a, vs with
  | .lst us, [d] => (idxU d us).map fun (j : Nat) => U.int (j : Int)
  | _, _ => none
/-- what changes a list: the answer, the list behind it -/
def mutU : Bm → List U → List U → Option (U × List U)
  | .append, us, [v] => if us.length < LIM then some (.non, us ++ [v]) else none
  | .extend, us, [.lst vs] => if us.length + vs.length ≤ LIM then some (.non, us ++ vs) else none
  | .pop, us, [] => (us[us.length - 1]?).map fun v => (v, us.dropLast)
  | .popi, us, [.int i] => match L2.ixN us.length i with
    | some k => if us.length ≤ LIM then (us[k]?).map fun v => (v, us.eraseIdx k) else none
    | none => none
  | _, _, _ => none
def isTU (a : U) (T : Ty) : Option Bool :=
  match a with
  | .non => some false
  | .bl _ => some (match T with | .int => true | .bool => true | _ => false)
  | .int _ => some (match T with | .int => true | _ => false)
  | .str _ => some (match T with | .str => true | _ => false)
  | .tup _ => some (match T with | .tuple => true | _ => false)
  | .lst _ => some (match T with | .list => true | _ => false)
  | _ => none
def isDicU : U → Bool
  | .dic _ _ => true
  | _ => false
def isLstU : U → Bool
  | .lst _ => true
  | _ => false
def isNonU : U → Bool
  | .non => true
  | _ => false
def noRef : U → Bool
  | .lst _ => false
  | .dic _ _ => false
  | _ => true
def zipUI (i : Nat) : List U → List U
  | [] => []
  | d :: ds => .tup [.int i, d] :: zipUI (i + 1) ds
def zipUU : List U → List U → List U
  | a :: as, b :: bs => .tup [a, b] :: zipUU as bs
  | _, _ => []
def rngU (lo : Int) : Nat → List U
  | 0 => []
  | n + 1 => .int lo :: rngU (lo + 1) n
def seqU : U → Option (List U)
  | .tup us => some us
  | .lst us => some us
  | _ => none
def walkU : U → Option (List U)
  | .tup us => some us
  | .str x => some (x.cps.toList.map fun c => .str ⟨#[c]⟩)
  | .ro ns => some (ns.map .int)
  | .lst us => some us
  | _ => none
def sameKU : U → U → Bool
  | .tup _, .tup _ => true
  | .lst _, .lst _ => true
  | _, _ => false
def ofD : D → Option U
  | .non => some .non
  | .bl b => some (.bl b)
  | .int i => some (.int i)
  | .str x => some (.str x)
  | .fn x => some (.fn x)
  | _ => none
/-! ### answers -/
structure ExnU where
  cls : Str
  why : Option U
abbrev EnvU := List (Option U)
inductive RU (Ob α : Type) where
  | bad
  | exc (x : ExnU) (ρ : EnvU) (H : List Ob)
  | ok (a : α) (ρ : EnvU) (H : List Ob)
inductive RC (Ob : Type) where
  | bad
  | exc (x : ExnU) (H : List Ob)
  | ok (u : U) (H : List Ob)
inductive SU (Ob : Type) where
  | bad
  | exc (x : ExnU) (ρ : EnvU) (H : List Ob)
  | next (ρ : EnvU) (H : List Ob)
  | ret (u : U) (H : List Ob)
  | brk (ρ : EnvU) (H : List Ob)
  | cont (ρ : EnvU) (H : List Ob)
section
variable {Ob α β : Type}
def RU.bind : RU Ob α → (α → EnvU → List Ob → RU Ob β) → RU Ob β
  | .bad, _ => .bad
  | .exc x ρ H, _ => .exc x ρ H
  | .ok a ρ H, f => f a ρ H
def RU.to (r : RU Ob α) (f : α → EnvU → List Ob → SU Ob) : SU Ob := match r with
  | .bad => .bad
  | .exc x ρ H => .exc x ρ H
  | .ok a ρ H => f a ρ H
def ofO (o : Option α) (ρ : EnvU) (H : List Ob) : RU Ob α := match o with
  | some a => .ok a ρ H
  | none => .bad
def ofB (o : Option Bool) (ρ : EnvU) (H : List Ob) : RU Ob U := match o with
  | some a => .ok (.bl a) ρ H
  | none => .bad
def ofC (r : RC Ob) (ρ : EnvU) : RU Ob U := match r with
  | .bad => .bad
  | .exc x H => .exc x ρ H
  | .ok u H => .ok u ρ H
def lookU (i : Nat) (ρ : EnvU) (H : List Ob) : RU Ob U := match ρ[i]? with
  | some (some u) => .ok u ρ H
  | _ => .bad
/-- a name's value, its list not handed on -/
def bor (a : Ex) (r : RU Ob U) (ρ : EnvU) (H : List Ob) : RU Ob U := match a with
  | .lc i => lookU i ρ H
  | _ => r
def same (a : Ex) (ρ ρ' : EnvU) : Bool := match a with
  | .lc i => decide (ρ[i]? = ρ'[i]?)
  | _ => true
def memN (i : Nat) : List Nat → Bool
  | [] => false
  | j :: js => Nat.beq i j || memN i js
def freshE : Ex → Bool
  | .lst _ => true
  | .dct _ => true
  | .comp _ _ _ _ _ => true
  | .bin _ _ _ => true
  | .sl _ _ _ => true
  | .bi _ _ => true
  | _ => false
def lockE : Ex → List Nat
  | .lc i => [i]
  | _ => []
def lockI : Itr → List Nat
  | .val e => lockE e
  | .enm e => lockE e
  | .zip a b => lockE a ++ lockE b
  | _ => []
mutual
def asgU (M : List Nat) : Tg → U → EnvU → Option EnvU
  | .nm i, u, ρ => if memN i M then none else if i < ρ.length then some (ρ.set i (some u)) else none
  | .tp ts, u, ρ => match u with
    | .tup us => asgsU M ts us ρ
    | .lst us => asgsU M ts us ρ
    | _ => none
def asgsU (M : List Nat) : Tgs → List U → EnvU → Option EnvU
  | .nil, [], ρ => some ρ
  | .cons t ts, u :: us, ρ => match asgU M t u ρ with
    | some ρ' => asgsU M ts us ρ'
    | none => none
  | _, _, _ => none
end
def wipeU : EnvU → List Nat → EnvU
  | ρ, [] => ρ
  | ρ, i :: is => (wipeU ρ is).set i none
/-! ### which names a loop's turn leaves behind that no further turn reads -/
mutual
def rdE (i : Nat) : Ex → Bool
  | .k _ => false
  | .lc j => Nat.beq i j
  | .bin _ a b => rdE i a || rdE i b
  | .neg a => rdE i a
  | .not a => rdE i a
  | .and a b => rdE i a || rdE i b
  | .or a b => rdE i a || rdE i b
  | .cmp _ a b => rdE i a || rdE i b
  | .chn _ _ a b c => rdE i a || rdE i b || rdE i c
  | .isN a => rdE i a
  | .notN a => rdE i a
  | .ite c a b => rdE i c || rdE i a || rdE i b
  | .call _ es => rdEs i es
  | .cal j es => Nat.beq i j || rdEs i es
  | .mth o _ _ _ es => rdE i o || rdEs i es
  | .bi _ e => rdE i e
  | .lset e => rdE i e
  | .bm _ o es => rdE i o || rdEs i es
  | .isT e _ => rdE i e
  | .isX e _ => rdE i e
  | .fld o _ => rdE i o
  | .ix a b => rdE i a || rdE i b
  | .sl a l h => rdE i a || rdO i l || rdO i h
  | .lst es => rdEs i es
  | .tup es => rdEs i es
  | .dct ps => rdPs i ps
  | .comp e _ it c own => rdI i it || (!memN i own && (rdE i e || rdO i c))
def rdEs (i : Nat) : Exs → Bool
  | .nil => false
  | .cons e es => rdE i e || rdEs i es
def rdPs (i : Nat) : Exps → Bool
  | .nil => false
  | .cons k v ps => rdE i k || rdE i v || rdPs i ps
def rdO (i : Nat) : Exo → Bool
  | .none => false
  | .some e => rdE i e
def rdI (i : Nat) : Itr → Bool
  | .val e => rdE i e
  | .rng a => rdE i a
  | .rng2 a b => rdE i a || rdE i b
  | .enm e => rdE i e
  | .zip a b => rdE i a || rdE i b
end
mutual
def ixT : Tg → List Nat
  | .nm i => [i]
  | .tp ts => ixTs ts
def ixTs : Tgs → List Nat
  | .nil => []
  | .cons t ts => ixT t ++ ixTs ts
end
mutual
def wrS : St → List Nat
  | .asg t _ => ixT t
  | .ife _ a b => wrSs a ++ wrSs b
  | .fr t _ b => ixT t ++ wrSs b
  | .whl _ b => wrSs b
  | .trya b _ i _ => i :: wrSs b
  | _ => []
def wrSs : Sts → List Nat
  | .nil => []
  | .cons s ss => wrS s ++ wrSs ss
end
/-- some true: read first; some false: written first -/
def seqF : Option Bool → Option Bool → Option Bool
  | none, b => b
  | a, _ => a
def altF : Option Bool → Option Bool → Option Bool
  | some true, _ => some true
  | _, some true => some true
  | some false, some false => some false
  | _, _ => none
def rdF (b : Bool) : Option Bool := if b then some true else none
mutual
def fuS (i : Nat) : St → Option Bool
  | .asg t e => if rdE i e then some true else if memN i (ixT t) then some false else none
  | .aset o k e => rdF (rdE i o || rdE i k || rdE i e)
  | .afld o _ e => rdF (rdE i o || rdE i e)
  | .ife c a b => if rdE i c then some true else altF (fuSs i a) (fuSs i b)
  | .fr t it b => if rdI i it then some true else if memN i (ixT t) then none else (match fuSs i b with
    | some true => some true
    | _ => none)
  | .whl c b => if rdE i c then some true else (match fuSs i b with
    | some true => some true
    | _ => none)
  | .ret e => if rdE i e then some true else some false
  | .exp e => rdF (rdE i e)
  | .pass => none
  | .cont => some false
  | .rse _ => some false
  | .rsw _ e => if rdE i e then some true else some false
  | .never => none
  | .trya b _ j e => if j = i then some true else altF (fuSs i b) (rdF (rdE i e))
def fuSs (i : Nat) : Sts → Option Bool
  | .nil => none
  | .cons s ss => seqF (fuS i s) (fuSs i ss)
end
def dedupN : List Nat → List Nat
  | [] => []
  | i :: is => if memN i is then dedupN is else i :: dedupN is
def tmpF (t : Tg) (b : Sts) : List Nat := dedupN ((ixT t ++ wrSs b).filter fun i => memN i (ixT t) || !decide (fuSs i b = some true))
def tmpW (c : Ex) (b : Sts) : List Nat := dedupN ((wrSs b).filter fun i => !rdE i c && !decide (fuSs i b = some true))
/-! ### walks -/
def forU (f : U → EnvU → List Ob → SU Ob) (tm : List Nat) : List U → EnvU → List Ob → SU Ob
  | [], ρ, H => .next ρ H
  | u :: us, ρ, H => match f u ρ H with
    | .next ρ' H' => forU f tm us (wipeU ρ' tm) H'
    | .cont ρ' H' => forU f tm us (wipeU ρ' tm) H'
    | .brk ρ' H' => .next (wipeU ρ' tm) H'
    | .ret u H' => .ret u H'
    | .exc x ρ' H' => .exc x ρ' H'
    | .bad => .bad
def compU (f : U → List Ob → Option (Option U × List Ob)) : List U → List U → List Ob → Option (List U × List Ob)
  | [], acc, H => some (acc, H)
  | u :: us, acc, H => match f u H with
    | some (some y, H') => if acc.length < LIM then compU f us (acc ++ [y]) H' else none
    | some (none, H') => compU f us acc H'
    | none => none
def whlU (c : EnvU → List Ob → RU Ob U) (b : EnvU → List Ob → SU Ob) (tm : List Nat) : Nat → EnvU → List Ob → SU Ob
  | 0, _, _ => .bad
  | n + 1, ρ, H => match c ρ H with
    | .ok (.bl true) ρ1 H1 => (match b ρ1 H1 with
      | .next ρ' H' => whlU c b tm n (wipeU ρ' tm) H'
      | .cont ρ' H' => whlU c b tm n (wipeU ρ' tm) H'
      | .brk ρ' H' => .next (wipeU ρ' tm) H'
      | .ret u H' => .ret u H'
      | .exc x ρ' H' => .exc x ρ' H'
      | .bad => .bad)
    | .ok (.bl false) ρ1 H1 => .next ρ1 H1
    | .exc x ρ1 H1 => .exc x ρ1 H1
    | _ => .bad
end
def putAllU (a : List U × List U) : List U → List U → Option (List U × List U)
  | k :: ks, v :: vs => if alikeU a.1 k then (match dputU a.1 a.2 k v with
    | .dic ks' us' => putAllU (ks', us') ks vs
    | _ => none) else none
  | [], [] => some a
  | _, _ => none
section
variable {Ob : Type} (C : Str → List U → List Ob → RC Ob) (cn : Str) (W : Nat)
mutual
def eu (M L : List Nat) : Ex → EnvU → List Ob → RU Ob U
  | .k d, ρ, H => ofO (ofD d) ρ H
  | .lc i, ρ, H => if memN i M then .bad else lookU i ρ H
  | .bin o a b, ρ, H => (bor a (eu M L a ρ H) ρ H).bind fun x ρ1 H1 => (bor b (eu M L b ρ1 H1) ρ1 H1).bind fun y ρ2 H2 => if same a ρ1 ρ2 then ofO (binU o x y) ρ2 H2 else .bad
  | .neg a, ρ, H => (eu M L a ρ H).bind fun x ρ1 H1 => match x with
    | .int i => .ok (.int (-i)) ρ1 H1
    | _ => .bad
  | .not a, ρ, H => (eu M L a ρ H).bind fun x ρ1 H1 => match x with
    | .bl c => .ok (.bl (!c)) ρ1 H1
    | _ => .bad
  | .and a b, ρ, H => (eu M L a ρ H).bind fun x ρ1 H1 => match x with
    | .bl true => eu M L b ρ1 H1
    | .bl false => .ok (.bl false) ρ1 H1
    | _ => .bad
  | .or a b, ρ, H => (eu M L a ρ H).bind fun x ρ1 H1 => match x with
    | .bl true => .ok (.bl true) ρ1 H1
    | .bl false => eu M L b ρ1 H1
    | _ => .bad
  | .cmp o a b, ρ, H => (bor a (eu M L a ρ H) ρ H).bind fun x ρ1 H1 => (bor b (eu M L b ρ1 H1) ρ1 H1).bind fun y ρ2 H2 => if same a ρ1 ρ2 then ofB (cmpU o x y) ρ2 H2 else .bad
  | .chn o p a b c, ρ, H => (eu M L a ρ H).bind fun x ρ1 H1 => (eu M L b ρ1 H1).bind fun y ρ2 H2 => match cmpU o x y with
    | some true => (eu M L c ρ2 H2).bind fun z ρ3 H3 => ofB (cmpU p y z) ρ3 H3
    | some false => .ok (.bl false) ρ2 H2
    | none => .bad
  | .isN a, ρ, H => (bor a (eu M L a ρ H) ρ H).bind fun x ρ1 H1 => .ok (.bl (isNonU x)) ρ1 H1
  | .notN a, ρ, H => (bor a (eu M L a ρ H) ρ H).bind fun x ρ1 H1 => .ok (.bl (!isNonU x)) ρ1 H1
  | .ite c a b, ρ, H => (eu M L c ρ H).bind fun x ρ1 H1 => match x with
    | .bl true => eu M L a ρ1 H1
    | .bl false => eu M L b ρ1 H1
    | _ => .bad
  | .call f es, ρ, H => (eus M L es ρ H).bind fun us ρ1 H1 => ofC (C f us H1) ρ1
  | .cal i es, ρ, H => match ρ[i]? with
    | some (some (.fn f)) => (eus M L es ρ H).bind fun us ρ1 H1 => ofC (C f us H1) ρ1
    | _ => .bad
  | .mth o Cn _ f es, ρ, H => (eu M L o ρ H).bind fun x ρ1 H1 => match x with
    | .obj m => if cn = Cn then (eus M L es ρ1 H1).bind fun us ρ2 H2 => ofC (C f (.obj m :: us) H2) ρ2 else .bad
    | _ => .bad
  | .bi b e, ρ, H => (bor e (eu M L e ρ H) ρ H).bind fun x ρ1 H1 => ofO (biU b x) ρ1 H1
  | .lset e, ρ, H => (bor e (eu M L e ρ H) ρ H).bind fun x ρ1 H1 => ofO (lsetU x) ρ1 H1
  | .bm m o es, ρ, H => match m with
    | .get => (bor o (eu M L o ρ H) ρ H).bind fun x ρ1 H1 => if isDicU x then (eus M L es ρ1 H1).bind fun vs ρ2 H2 => if same o ρ1 ρ2 then ofO (getU x vs) ρ2 H2 else .bad else .bad
    | .index => (bor o (eu M L o ρ H) ρ H).bind fun x ρ1 H1 => if isLstU x then (eus M L es ρ1 H1).bind fun vs ρ2 H2 => if same o ρ1 ρ2 then ofO (indexU x vs) ρ2 H2 else .bad else .bad
    | m => match o with
      | .lc i => if memN i M && !memN i L then (match ρ[i]? with
        | some (some (.lst _)) => (eus M L es ρ H).bind fun vs ρ1 H1 => match ρ1[i]? with
          | some (some (.lst us)) => (match mutU m us vs with
            | some (v, us') => .ok v (ρ1.set i (some (.lst us'))) H1
            | none => .bad)
          | _ => .bad
        | _ => .bad) else .bad
      | _ => .bad
  | .isT e T, ρ, H => (bor e (eu M L e ρ H) ρ H).bind fun x ρ1 H1 => ofB (isTU x T) ρ1 H1
  | .isX _ _, _, _ => .bad
  | .fld _ _, _, _ => .bad
  | .ix a i, ρ, H => (bor a (eu M L a ρ H) ρ H).bind fun x ρ1 H1 => (eu M L i ρ1 H1).bind fun y ρ2 H2 => if same a ρ1 ρ2 then ofO (ixU x y) ρ2 H2 else .bad
  | .sl a lo hi, ρ, H => (bor a (eu M L a ρ H) ρ H).bind fun x ρ1 H1 => (euo M L lo ρ1 H1).bind fun l ρ2 H2 => (euo M L hi ρ2 H2).bind fun h ρ3 H3 => if same a ρ1 ρ3 then ofO (slU x l h) ρ3 H3 else .bad
  | .lst es, ρ, H => (eus M L es ρ H).bind fun us ρ1 H1 => if us.length ≤ LIM then .ok (.lst us) ρ1 H1 else .bad
  | .tup es, ρ, H => (eus M L es ρ H).bind fun us ρ1 H1 => if us.length ≤ LIM then .ok (.tup us) ρ1 H1 else .bad
  | .dct ps, ρ, H => (eud M L ps ρ H).bind fun a ρ1 H1 => if a.1.length ≤ 15 then (match putAllU ([], []) a.1 a.2 with
    | some (ks, us) => .ok (.dic ks us) ρ1 H1
    | none => .bad) else .bad
  | .comp elt tg it c own, ρ, H => (eui M L it ρ H).bind fun p ρ1 H1 => match compU (fun u H2 => match asgU M tg u (wipeU ρ1 own) with
      | some ρ' => (match euc M M c ρ' H2 with
        | .ok true ρ2 H3 => (match eu M M elt ρ2 H3 with
          | .ok y _ H4 => some (some y, H4)
          | _ => none)
        | .ok false _ H3 => some (none, H3)
        | _ => none)
      | none => none) p [] H1 with
    | some (ys, H2) => .ok (.lst ys) ρ1 H2
    | none => .bad
def eus (M L : List Nat) : Exs → EnvU → List Ob → RU Ob (List U)
  | .nil, ρ, H => .ok [] ρ H
  | .cons e es, ρ, H => (eu M L e ρ H).bind fun u ρ1 H1 => (eus M L es ρ1 H1).bind fun us ρ2 H2 => .ok (u :: us) ρ2 H2
def euo (M L : List Nat) : Exo → EnvU → List Ob → RU Ob (Option Int)
  | .none, ρ, H => .ok none ρ H
  | .some e, ρ, H => (eu M L e ρ H).bind fun u ρ1 H1 => match u with
    | .int i => .ok (some i) ρ1 H1
    | _ => .bad
def euc (M L : List Nat) : Exo → EnvU → List Ob → RU Ob Bool
  | .none, ρ, H => .ok true ρ H
  | .some e, ρ, H => (eu M L e ρ H).bind fun u ρ1 H1 => match u with
    | .bl b => .ok b ρ1 H1
    | _ => .bad
def eud (M L : List Nat) : Exps → EnvU → List Ob → RU Ob (List U × List U)
  | .nil, ρ, H => .ok ([], []) ρ H
  | .cons k v ps, ρ, H => (eu M L k ρ H).bind fun d ρ1 H1 => (eu M L v ρ1 H1).bind fun e ρ2 H2 => (eud M L ps ρ2 H2).bind fun a ρ3 H3 => .ok (d :: a.1, e :: a.2) ρ3 H3
def eui (M L : List Nat) : Itr → EnvU → List Ob → RU Ob (List U)
  | .val e, ρ, H => (bor e (eu M L e ρ H) ρ H).bind fun x ρ1 H1 => ofO (walkU x) ρ1 H1
  | .rng a, ρ, H => (eu M L a ρ H).bind fun x ρ1 H1 => match x with
    | .int j => if small62 j then .ok (rngU 0 j.toNat) ρ1 H1 else .bad
    | _ => .bad
  | .rng2 a b, ρ, H => (eu M L a ρ H).bind fun x ρ1 H1 => (eu M L b ρ1 H1).bind fun y ρ2 H2 => match x, y with
    | .int i, .int j => if small62 i && small62 j then .ok (rngU i (j - i).toNat) ρ2 H2 else .bad
    | _, _ => .bad
  | .enm e, ρ, H => (bor e (eu M L e ρ H) ρ H).bind fun x ρ1 H1 => ofO ((seqU x).map (zipUI 0)) ρ1 H1
  | .zip a b, ρ, H => (bor a (eu M L a ρ H) ρ H).bind fun x ρ1 H1 => (bor b (eu M L b ρ1 H1) ρ1 H1).bind fun y ρ2 H2 => match seqU x, seqU y with
    | some p, some q => if same a ρ1 ρ2 && sameKU x y then .ok (zipUU p q) ρ2 H2 else .bad
    | _, _ => .bad
end
mutual
def xu (M L : List Nat) : St → EnvU → List Ob → SU Ob
  | .asg t e, ρ, H => (eu C cn M L e ρ H).to fun u ρ1 H1 => match t with
    | .nm i => if memN i M then (if (freshE e || noRef u) && !memN i L && decide (i < ρ1.length) then .next (ρ1.set i (some u)) H1 else .bad) else (if i < ρ1.length then .next (ρ1.set i (some u)) H1 else .bad)
    | t => (match asgU M t u ρ1 with
      | some ρ' => .next ρ' H1
      | none => .bad)
  | .aset o i e, ρ, H => (eu C cn M L e ρ H).to fun u ρ1 H1 => match o with
    | .lc j => (match ρ1[j]? with
      | some (some _) => (eu C cn M L i ρ1 H1).to fun y ρ2 H2 => if memN j M && !memN j L then (match ρ2[j]? with
        | some (some (.lst us)) => (match y with
          | .int z => (match L2.ixN us.length z with
            | some k => .next (ρ2.set j (some (.lst (us.set k u)))) H2
            | none => .bad)
          | _ => .bad)
        | some (some (.dic ks us)) => if alikeU ks y && decide (ks.length < LIM) then .next (ρ2.set j (some (dputU ks us y u))) H2 else .bad
        | _ => .bad) else .bad
      | _ => .bad)
    | _ => .bad
  | .afld _ _ _, _, _ => .bad
  | .ife c a b, ρ, H => (eu C cn M L c ρ H).to fun u ρ1 H1 => match u with
    | .bl true => xus M L a ρ1 H1
    | .bl false => xus M L b ρ1 H1
    | _ => .bad
  | .fr t it body, ρ, H => (eui C cn M L it ρ H).to fun p ρ1 H1 => forU (fun u ρ' H' => match asgU M t u ρ' with
        | some ρ'' => xus M (lockI it ++ L) body ρ'' H'
        | none => .bad) (tmpF t body) p (wipeU ρ1 (tmpF t body)) H1
  | .whl c body, ρ, H => whlU (fun ρ' H' => eu C cn M L c ρ' H') (fun ρ' H' => xus M L body ρ' H') (tmpW c body) W (wipeU ρ (tmpW c body)) H
  | .ret e, ρ, H => (eu C cn [] [] e ρ H).to fun u _ H1 => .ret u H1
  | .exp e, ρ, H => (eu C cn M L e ρ H).to fun _ ρ1 H1 => .next ρ1 H1
  | .pass, ρ, H => .next ρ H
  | .cont, ρ, H => .cont ρ H
  | .rse c, ρ, H => .exc ⟨c, none⟩ ρ H
  | .rsw c e, ρ, H => (eu C cn M L e ρ H).to fun u ρ1 H1 => .exc ⟨c, some u⟩ ρ1 H1
  | .never, _, _ => .bad
  | .trya _ _ _ _, _, _ => .bad
def xus (M L : List Nat) : Sts → EnvU → List Ob → SU Ob
  | .nil, ρ, H => .next ρ H
  | .cons s ss, ρ, H => match xu M L s ρ H with
    | .next ρ' H' => xus M L ss ρ' H'
    | r => r
end
end
/-- a def: its parameters, its slots, the names that own, its body -/
inductive DefU where
  | fn (np ns : Nat) (M : List Nat) (body : Sts)
abbrev TabU := Str → Option DefU
section
variable {Ob : Type}
def SU.fin : SU Ob → RC Ob
  | .ret u H => .ok u H
  | .next _ H => .ok .non H
  | .exc x _ H => .exc x H
  | _ => .bad
def callU (O : Nat → Str → List U → List Ob → Option (RC Ob)) (cn : Str) (T : TabU) (W : Nat) : Nat → Str → List U → List Ob → RC Ob
  | 0, _, _, _ => .bad
  | n + 1, f, us, H => match O n f us H with
    | some r => r
    | none => match T f with
      | some (.fn np ns M body) => if us.length = np then (xus (callU O cn T W n) cn W M [] body (us.map some ++ List.replicate (ns - np) none) H).fin else .bad
      | none => .bad
end
end IP.Q

/-! UaB: what a value by content stands for in a store. -/
namespace IP.Q
open PySem
mutual
/-- u stands for d: its lists are cells that are not in X -/
inductive Rep (X : Nat → Prop) (φ : List Nat) (st : Sto) : U → D → Prop
  | non : Rep X φ st .non .non
  | bl (b : Bool) : Rep X φ st (.bl b) (.bl b)
  | int (i : Int) : Rep X φ st (.int i) (.int i)
  | str {x : Str} : PyData.strOk x = true → Rep X φ st (.str x) (.str x)
  | tup {us : List U} {ds : List D} : Reps X φ st us ds → Rep X φ st (.tup us) (.tup ds)
  | box {u : U} {n : Nat} {c : Cell} : ¬ X n → st[n]? = some c → RepC X φ st u c → Rep X φ st u (.ref n)
  | obj {m a : Nat} : φ[m]? = some a → Rep X φ st (.obj m) (.ref a)
  | ro (ns : List Int) : Rep X φ st (.ro ns) (.ro ns)
  | fn (x : Str) : Rep X φ st (.fn x) (.fn x)
  | exn {C : Str} {us : List U} {ds : List D} : Reps X φ st us ds → Rep X φ st (.exn C us) (.exn C ds)
inductive Reps (X : Nat → Prop) (φ : List Nat) (st : Sto) : List U → List D → Prop
  | nil : Reps X φ st [] []
  | cons {u : U} {d : D} {us : List U} {ds : List D} : Rep X φ st u d → Reps X φ st us ds → Reps X φ st (u :: us) (d :: ds)
inductive RepC (X : Nat → Prop) (φ : List Nat) (st : Sto) : U → Cell → Prop
  | lst {us : List U} {ds : List D} : Reps X φ st us ds → RepC X φ st (.lst us) (.lst ds)
  | dic {ks us : List U} {es : List (D × D)} : Reps X φ st ks (es.map (·.1)) → Reps X φ st us (es.map (·.2)) → RepC X φ st (.dic ks us) (.dic es)
end
/-- the store goes on: cells not in X stay, those in K stay -/
structure Fr (b : Nat) (K X : Nat → Prop) (φ : List Nat) (st : Sto) (X' : Nat → Prop) (φ' : List Nat) (st' : Sto) : Prop where
  len : st.length ≤ st'.length
  x : ∀ n, n < b → (X' n ↔ X n)
  keep : ∀ n, n < b → ¬ X n → st'[n]? = st[n]?
  kk : ∀ n, n < b → K n → st'[n]? = st[n]?
  phi : ∃ t, φ' = φ ++ t
theorem Fr.refl {b : Nat} {K X : Nat → Prop} {φ : List Nat} {st : Sto} : Fr b K X φ st X φ st := ⟨Nat.le_refl _, fun _ _ => Iff.rfl, fun _ _ _ => rfl, fun _ _ _ => rfl, [], by simp⟩
theorem Fr.trans {b c : Nat} {K K' X X1 X2 : Nat → Prop} {φ φ1 φ2 : List Nat} {s s1 s2 : Sto} (h : Fr b K X φ s X1 φ1 s1) (k : Fr c K' X1 φ1 s1 X2 φ2 s2) (hb : b ≤ c) (hK : ∀ n, n < b → K n → K' n) : Fr b K X φ s X2 φ2 s2 where
  len := Nat.le_trans h.len k.len
  x := fun n hn => (k.x n (Nat.lt_of_lt_of_le hn hb)).trans (h.x n hn)
  keep := fun n hn hx => by
    rw [k.keep n (Nat.lt_of_lt_of_le hn hb) (fun z => hx ((h.x n hn).mp z)), h.keep n hn hx]
  kk := fun n hn hx => by rw [k.kk n (Nat.lt_of_lt_of_le hn hb) (hK n hn hx), h.kk n hn hx]
  phi := by
    obtain ⟨t, rfl⟩ := h.phi
    obtain ⟨u, rfl⟩ := k.phi
    exact ⟨t ++ u, by rw [List.append_assoc]⟩
theorem Fr.le {b b' : Nat} {K K' X X1 : Nat → Prop} {φ φ1 : List Nat} {s s1 : Sto} (h : Fr b K X φ s X1 φ1 s1) (hb : b' ≤ b) (hK : ∀ n, n < b' → K' n → K n) : Fr b' K' X φ s X1 φ1 s1 :=
  ⟨h.len, fun n hn => h.x n (Nat.lt_of_lt_of_le hn hb), fun n hn => h.keep n (Nat.lt_of_lt_of_le hn hb), fun n hn hk => h.kk n (Nat.lt_of_lt_of_le hn hb) (hK n hn hk), h.phi⟩
theorem Fr.ext {b : Nat} {K X : Nat → Prop} {φ : List Nat} {s : Sto} (hb : b ≤ s.length) (t : Sto) : Fr b K X φ s X φ (s ++ t) :=
  ⟨by simp, fun _ _ => Iff.rfl, fun n hn _ => List.getElem?_append_left (Nat.lt_of_lt_of_le hn hb), fun n hn _ => List.getElem?_append_left (Nat.lt_of_lt_of_le hn hb), [], by simp⟩
section
variable {K X X' : Nat → Prop} {φ φ' : List Nat} {st st' : Sto}
theorem lt_of_some {α : Type} {l : List α} {n : Nat} {a : α} (h : l[n]? = some a) : n < l.length := (List.getElem?_eq_some_iff.mp h).1
mutual
theorem Rep.mono (f : Fr st.length K X φ st X' φ' st') : ∀ {u : U} {d : D}, Rep X φ st u d → Rep X' φ' st' u d
  | _, _, .non => .non
  | _, _, .bl b => .bl b
  | _, _, .int i => .int i
  | _, _, .str h => .str h
  | _, _, .tup r => .tup (Reps.mono f r)
  | _, _, .box hx hc r => .box (fun z => hx ((f.x _ (lt_of_some hc)).mp z)) ((f.keep _ (lt_of_some hc) hx).trans hc) (RepC.mono f r)
  | _, _, .obj h => .obj (by obtain ⟨t, e⟩ := f.phi; rw [e, List.getElem?_append_left (lt_of_some h)]; exact h)
  | _, _, .ro ns => .ro ns
  | _, _, .fn x => .fn x
  | _, _, .exn r => .exn (Reps.mono f r)
theorem Reps.mono (f : Fr st.length K X φ st X' φ' st') : ∀ {us : List U} {ds : List D}, Reps X φ st us ds → Reps X' φ' st' us ds
  | _, _, .nil => .nil
  | _, _, .cons r s => .cons (Rep.mono f r) (Reps.mono f s)
theorem RepC.mono (f : Fr st.length K X φ st X' φ' st') : ∀ {u : U} {c : Cell}, RepC X φ st u c → RepC X' φ' st' u c
  | _, _, .lst r => .lst (Reps.mono f r)
  | _, _, .dic r s => .dic (Reps.mono f r) (Reps.mono f s)
end
mutual
theorem Rep.sub (h : ∀ n, X' n → X n) : ∀ {u : U} {d : D}, Rep X φ st u d → Rep X' φ st u d
  | _, _, .non => .non
  | _, _, .bl b => .bl b
  | _, _, .int i => .int i
  | _, _, .str h => .str h
  | _, _, .tup r => .tup (Reps.sub h r)
  | _, _, .box hx hc r => .box (fun z => hx (h _ z)) hc (RepC.sub h r)
  | _, _, .obj h => .obj h
  | _, _, .ro ns => .ro ns
  | _, _, .fn x => .fn x
  | _, _, .exn r => .exn (Reps.sub h r)
theorem Reps.sub (h : ∀ n, X' n → X n) : ∀ {us : List U} {ds : List D}, Reps X φ st us ds → Reps X' φ st us ds
  | _, _, .nil => .nil
  | _, _, .cons r s => .cons (Rep.sub h r) (Reps.sub h s)
theorem RepC.sub (h : ∀ n, X' n → X n) : ∀ {u : U} {c : Cell}, RepC X φ st u c → RepC X' φ st u c
  | _, _, .lst r => .lst (Reps.sub h r)
  | _, _, .dic r s => .dic (Reps.sub h r) (Reps.sub h s)
end
/-! ### lists -/
theorem Reps.len : ∀ {us : List U} {ds : List D}, Reps X φ st us ds → us.length = ds.length
  | _, _, .nil => rfl
  | _, _, .cons _ s => by rw [List.length_cons, List.length_cons, s.len]
theorem Reps.get : ∀ {us : List U} {ds : List D} {i : Nat} {u : U}, Reps X φ st us ds → us[i]? = some u → ∃ d, ds[i]? = some d ∧ Rep X φ st u d
  | _, _, _, _, .nil, e => by simp at e
  | _, _, 0, _, .cons r _, e => by simp at e; subst e; exact ⟨_, rfl, r⟩
  | _, _, i + 1, _, .cons _ s, e => by
    obtain ⟨d, h1, h2⟩ := Reps.get (i := i) s (by simpa using e)
    exact ⟨d, by simpa using h1, h2⟩
theorem Reps.none : ∀ {us : List U} {ds : List D} {i : Nat}, Reps X φ st us ds → us[i]? = none → ds[i]? = none := fun r e => by
  rw [List.getElem?_eq_none_iff] at e ⊢
  rw [← r.len]; exact e
theorem Reps.append : ∀ {us vs : List U} {ds es : List D}, Reps X φ st us ds → Reps X φ st vs es → Reps X φ st (us ++ vs) (ds ++ es)
  | _, _, _, _, .nil, s => s
  | _, _, _, _, .cons r t, s => .cons r (Reps.append t s)
theorem Reps.one {u : U} {d : D} (r : Rep X φ st u d) : Reps X φ st [u] [d] := .cons r .nil
theorem Reps.set : ∀ {us : List U} {ds : List D} {u : U} {d : D} (i : Nat), Reps X φ st us ds → Rep X φ st u d → Reps X φ st (us.set i u) (ds.set i d)
  | _, _, _, _, _, .nil, _ => .nil
  | _, _, _, _, 0, .cons _ t, q => .cons q t
  | _, _, _, _, i + 1, .cons r t, q => .cons r (Reps.set i t q)
theorem Reps.drop : ∀ {us : List U} {ds : List D} (n : Nat), Reps X φ st us ds → Reps X φ st (us.drop n) (ds.drop n)
  | _, _, 0, r => r
  | _, _, _ + 1, .nil => .nil
  | _, _, n + 1, .cons _ t => Reps.drop n t
theorem Reps.take : ∀ {us : List U} {ds : List D} (n : Nat), Reps X φ st us ds → Reps X φ st (us.take n) (ds.take n)
  | _, _, 0, _ => .nil
  | _, _, _ + 1, .nil => .nil
  | _, _, n + 1, .cons r t => .cons r (Reps.take n t)
theorem Reps.dropLast : ∀ {us : List U} {ds : List D}, Reps X φ st us ds → Reps X φ st us.dropLast ds.dropLast
  | _, _, .nil => .nil
  | _, _, .cons _ .nil => .nil
  | _, _, .cons r (.cons q t) => .cons r (Reps.dropLast (.cons q t))
theorem Reps.eraseIdx : ∀ {us : List U} {ds : List D} (i : Nat), Reps X φ st us ds → Reps X φ st (us.eraseIdx i) (ds.eraseIdx i)
  | _, _, _, .nil => .nil
  | _, _, 0, .cons _ t => t
  | _, _, i + 1, .cons r t => .cons r (Reps.eraseIdx i t)
theorem Reps.rep {us : List U} {ds : List D} (r : Reps X φ st us ds) : ∀ k : Nat, Reps X φ st (List.replicate k us).flatten (List.replicate k ds).flatten
  | 0 => .nil
  | k + 1 => by
    rw [List.replicate_succ, List.replicate_succ, List.flatten_cons, List.flatten_cons]
    exact r.append (Reps.rep r k)
theorem Reps.cut {us : List U} {ds : List D} (r : Reps X φ st us ds) (lo hi : Option Int) : Reps X φ st (cutL us lo hi) (cutL ds lo hi) := by
  unfold cutL
  rw [r.len]
  exact (r.drop _).take _
theorem Reps.atI {us : List U} {ds : List D} (r : Reps X φ st us ds) {j : Int} {u : U} (h : L2.atI us j = some u) : ∃ d, L2.atI ds j = some d ∧ Rep X φ st u d := by
  unfold L2.atI at h ⊢
  rw [r.len] at h
  cases hi : L2.ixN ds.length j with
  | none => rw [hi] at h; cases h
  | some k => rw [hi] at h; exact r.get h
theorem Reps.ints : ∀ (ns : List Int), Reps X φ st (ns.map U.int) (ns.map D.int)
  | [] => .nil
  | n :: ns => .cons (.int n) (Reps.ints ns)
theorem Reps.chars : ∀ (cs : List Nat), (∀ c ∈ cs, c < 0x110000) → Reps X φ st (cs.map fun c => U.str ⟨#[c]⟩) (cs.map fun c => D.str ⟨#[c]⟩)
  | [], _ => .nil
  | c :: cs, h => .cons (.str (by simp [PyData.strOk, h c List.mem_cons_self])) (Reps.chars cs fun c hc => h c (List.mem_cons_of_mem _ hc))
theorem Reps.mem : ∀ {us : List U} {ds : List D} {u : U}, Reps X φ st us ds → u ∈ us → ∃ d ∈ ds, Rep X φ st u d
  | _, _, _, .nil, h => by cases h
  | _, _, _, .cons r s, h => by
    rcases List.mem_cons.mp h with rfl | h
    · exact ⟨_, List.mem_cons_self, r⟩
    · obtain ⟨d, h1, h2⟩ := s.mem h
      exact ⟨d, List.mem_cons_of_mem _ h1, h2⟩
/-- a value read in place -/
inductive RepB (X : Nat → Prop) (φ : List Nat) (st : Sto) : U → D → Prop
  | val {u : U} {d : D} : Rep X φ st u d → RepB X φ st u d
  | own {u : U} {n : Nat} {c : Cell} : st[n]? = some c → RepC X φ st u c → RepB X φ st u (.ref n)
theorem RepB.lst {us : List U} {d : D} (r : RepB X φ st (.lst us) d) : ∃ n ds, d = .ref n ∧ st[n]? = some (.lst ds) ∧ Reps X φ st us ds := by
  cases r with
  | val r => cases r with
    | box _ hc r => cases r with
      | lst r => exact ⟨_, _, rfl, hc, r⟩
  | own hc r => cases r with
    | lst r => exact ⟨_, _, rfl, hc, r⟩
theorem RepB.dic {ks us : List U} {d : D} (r : RepB X φ st (.dic ks us) d) : ∃ n es, d = .ref n ∧ st[n]? = some (.dic es) ∧ Reps X φ st ks (es.map (·.1)) ∧ Reps X φ st us (es.map (·.2)) := by
  cases r with
  | val r => cases r with
    | box _ hc r => cases r with
      | dic r s => exact ⟨_, _, rfl, hc, r, s⟩
  | own hc r => cases r with
    | dic r s => exact ⟨_, _, rfl, hc, r, s⟩
theorem RepB.tup {us : List U} {d : D} (r : RepB X φ st (.tup us) d) : ∃ ds, d = .tup ds ∧ Reps X φ st us ds := by
  cases r with
  | val r => cases r with
    | box _ hc r => cases r
    | tup r => exact ⟨_, rfl, r⟩
  | own hc r => cases r
theorem RepB.int {i : Int} {d : D} (r : RepB X φ st (.int i) d) : d = .int i := by
  cases r with
  | val r => cases r with
    | box _ hc r => cases r
    | int => rfl
  | own hc r => cases r
theorem RepB.bl {i : Bool} {d : D} (r : RepB X φ st (.bl i) d) : d = .bl i := by
  cases r with
  | val r => cases r with
    | box _ hc r => cases r
    | bl => rfl
  | own hc r => cases r
theorem RepB.str {x : Str} {d : D} (r : RepB X φ st (.str x) d) : d = .str x ∧ PyData.strOk x = true := by
  cases r with
  | val r => cases r with
    | box _ hc r => cases r
    | str h => exact ⟨rfl, h⟩
  | own hc r => cases r
theorem RepB.ro {x : List Int} {d : D} (r : RepB X φ st (.ro x) d) : d = .ro x := by
  cases r with
  | val r => cases r with
    | box _ hc r => cases r
    | ro => rfl
  | own hc r => cases r
theorem RepB.non {d : D} (r : RepB X φ st .non d) : d = .non := by
  cases r with
  | val r => cases r with
    | box _ hc r => cases r
    | non => rfl
  | own hc r => cases r
theorem RepB.fn {x : Str} {d : D} (r : RepB X φ st (.fn x) d) : d = .fn x := by
  cases r with
  | val r => cases r with
    | box _ hc r => cases r
    | fn => rfl
  | own hc r => cases r
theorem RepB.obj {m : Nat} {d : D} (r : RepB X φ st (.obj m) d) : ∃ a, d = .ref a ∧ φ[m]? = some a := by
  cases r with
  | val r => cases r with
    | box _ hc r => cases r
    | obj h => exact ⟨_, rfl, h⟩
  | own hc r => cases r
/-! ### data -/
mutual
theorem Rep.data : ∀ {u : U} {d : D} (n : Nat) {p : PyData}, Rep X φ st u d → toDataU n u = some p → toData st n d = some p
  | _, _, _, _, .non, h => by simp only [toDataU] at h; simp only [toData]; exact h
  | _, _, _, _, .bl b, h => by simp only [toDataU] at h; simp only [toData]; exact h
  | _, _, _, _, .int b, h => by simp only [toDataU] at h; simp only [toData]; exact h
  | _, _, _, _, .str hk, h => by simp only [toDataU] at h; simp only [toData, hk, if_true]; exact h
  | _, _, 0, _, .tup r, h => by simp [toDataU] at h
  | _, _, n + 1, p, .tup r, h => by
    simp only [toDataU, Option.map_eq_some_iff] at h
    obtain ⟨ps, h1, rfl⟩ := h
    simp only [toData, Reps.datas n r h1, Option.map_some]
  | _, _, 0, _, .box _ hc r, h => by cases r <;> simp [toDataU] at h
  | _, _, n + 1, p, .box _ hc r, h => RepC.data n hc r h
  | _, _, n, _, .obj _, h => by cases n <;> simp [toDataU] at h
  | _, _, 0, _, .ro ns, h => by simp [toDataU] at h
  | _, _, n + 1, _, .ro ns, h => by simp only [toDataU] at h; simp only [toData]; exact h
  | _, _, n, _, .fn _, h => by cases n <;> simp [toDataU] at h
  | _, _, n, _, .exn _, h => by cases n <;> simp [toDataU] at h
theorem Reps.datas : ∀ {us : List U} {ds : List D} (n : Nat) {ps : List PyData}, Reps X φ st us ds → toDatasU n us = some ps → toDatas st n ds = some ps
  | _, _, _, _, .nil, h => by simp only [toDatasU] at h; simp only [toDatas]; exact h
  | _, _, n, ps, .cons r s, h => by
    simp only [toDatasU] at h
    split at h
    · rename_i p qs h1 h2
      simp only [toDatas, Rep.data n r h1, Reps.datas n s h2]; exact h
    · cases h
theorem RepC.data : ∀ {u : U} {c : Cell} (n : Nat) {m : Nat} {p : PyData}, st[m]? = some c → RepC X φ st u c → toDataU (n + 1) u = some p → toData st (n + 1) (.ref m) = some p
  | _, _, n, m, p, hc, .lst r, h => by
    simp only [toDataU, Option.map_eq_some_iff] at h
    obtain ⟨ps, h1, rfl⟩ := h
    simp only [toData, hc, Reps.datas n r h1, Option.map_some]
  | _, _, n, m, p, hc, .dic r s, h => by simp [toDataU] at h
end
theorem RepB.data {u : U} {d : D} {n : Nat} {p : PyData} (r : RepB X φ st u d) (h : toDataU n u = some p) : toData st n d = some p := by
  cases r with
  | val r => exact r.data n h
  | own hc r =>
    cases n with
    | zero => cases r <;> simp [toDataU] at h
    | succ n => exact r.data n hc h
theorem eq_rep {u v : U} {d e : D} {b : Bool} (r : RepB X φ st u d) (s : RepB X φ st v e) (h : eqU u v = some b) : eqD st d e = some b := by
  unfold eqU at h
  split at h
  · rename_i p q h1 h2
    unfold eqD
    rw [r.data h1, s.data h2]; exact h
  · cases h
theorem in_rep {u : U} {us : List U} {d : D} {ds : List D} {b : Bool} (r : RepB X φ st u d) (s : Reps X φ st us ds) (h : inU u us = some b) : inD st d ds = some b := by
  unfold inU at h
  split at h
  · rename_i p q h1 h2
    unfold inD
    rw [r.data h1, s.datas _ h2]; exact h
  · cases h
theorem flat_rep {u : U} {d : D} (r : RepB X φ st u d) (h : flatU u = true) : flatD d = true := by
  cases u <;> simp [flatU] at h
  · rw [r.non]; rfl
  · rw [r.bl]; rfl
  · rw [r.int]; rfl
  · rw [r.str.1]; rfl
theorem flats_rep : ∀ {us : List U} {ds : List D}, Reps X φ st us ds → us.all flatU = true → ds.all flatD = true
  | _, _, .nil, _ => rfl
  | _, _, .cons r s, h => by
    rw [List.all_cons, Bool.and_eq_true] at h ⊢
    exact ⟨flat_rep (.val r) h.1, flats_rep s h.2⟩
/-! ### keys -/
mutual
def embU : U → D
  | .non => .non
  | .bl b => .bl b
  | .int i => .int i
  | .str x => .str x
  | .tup us => .tup (embsU us)
  | _ => .non
def embsU : List U → List D
  | [] => []
  | u :: us => embU u :: embsU us
end
mutual
theorem key_emb : ∀ (n : Nat) {u : U} {d : D}, keyTU n u = true → Rep X φ st u d → d = embU u ∧ keyT n d = true
  | n, _, _, h, .non => ⟨by simp [embU], by simp [keyT]⟩
  | n, _, _, h, .bl _ => by simp [keyTU] at h
  | n, _, _, h, .int _ => ⟨by simp [embU], by simp [keyT]⟩
  | n, _, _, h, .str _ => ⟨by simp [embU], by simp [keyT]⟩
  | 0, _, _, h, .tup r => by simp [keyTU] at h
  | n + 1, _, _, h, .tup r => by
    simp only [keyTU] at h
    obtain ⟨h1, h2⟩ := keys_emb n h r
    exact ⟨by simp only [embU, h1], by simp only [keyT, h2]⟩
  | n, _, _, h, .box _ hc r => by cases r <;> simp [keyTU] at h
  | n, _, _, h, .obj _ => by simp [keyTU] at h
  | n, _, _, h, .ro _ => by simp [keyTU] at h
  | n, _, _, h, .fn _ => by simp [keyTU] at h
  | n, _, _, h, .exn _ => by simp [keyTU] at h
theorem keys_emb : ∀ (n : Nat) {us : List U} {ds : List D}, keyTsU n us = true → Reps X φ st us ds → ds = embsU us ∧ keyTs n ds = true
  | n, _, _, h, .nil => ⟨by simp [embsU], by simp [keyTs]⟩
  | n, _, _, h, .cons r s => by
    simp only [keyTsU, Bool.and_eq_true] at h
    obtain ⟨h1, h2⟩ := key_emb n h.1 r
    obtain ⟨h3, h4⟩ := keys_emb n h.2 s
    exact ⟨by simp only [embsU, ← h1, ← h3], by simp only [keyTs, h2, h4, Bool.and_self]⟩
end
mutual
theorem emb_inj : ∀ (n m : Nat) {u v : U}, keyTU n u = true → keyTU m v = true → embU u = embU v → u = v
  | n, m, .non, v, h, k, e => by cases v <;> first | rfl | (simp [embU] at e; done) | (simp [keyTU] at k; done)
  | n, m, .int i, v, h, k, e => by cases v <;> first | (simp [embU] at e; exact congrArg _ e) | (simp [embU] at e; done) | (simp [keyTU] at k; done)
  | n, m, .str i, v, h, k, e => by cases v <;> first | (simp [embU] at e; exact congrArg _ e) | (simp [embU] at e; done) | (simp [keyTU] at k; done)
  | 0, m, .tup us, v, h, k, e => by simp [keyTU] at h
  | n + 1, m, .tup us, v, h, k, e => by
    cases v with
    | tup vs =>
      cases m with
      | zero => simp [keyTU] at k
      | succ m =>
        simp only [keyTU] at h k
        simp only [embU, D.tup.injEq] at e
        rw [embs_inj n m h k e]
    | non => simp [embU] at e
    | int _ => simp [embU] at e
    | str _ => simp [embU] at e
    | _ => simp [keyTU] at k
  | n, m, .bl _, v, h, k, e => by simp [keyTU] at h
  | n, m, .lst _, v, h, k, e => by simp [keyTU] at h
  | n, m, .dic _ _, v, h, k, e => by simp [keyTU] at h
  | n, m, .obj _, v, h, k, e => by simp [keyTU] at h
  | n, m, .ro _, v, h, k, e => by simp [keyTU] at h
  | n, m, .fn _, v, h, k, e => by simp [keyTU] at h
  | n, m, .exn _ _, v, h, k, e => by simp [keyTU] at h
theorem embs_inj : ∀ (n m : Nat) {us vs : List U}, keyTsU n us = true → keyTsU m vs = true → embsU us = embsU vs → us = vs
  | n, m, [], vs, h, k, e => by cases vs <;> first | rfl | simp [embsU] at e
  | n, m, u :: us, vs, h, k, e => by
    cases vs with
    | nil => simp [embsU] at e
    | cons v vs =>
      simp only [keyTsU, Bool.and_eq_true] at h k
      simp only [embsU, List.cons.injEq] at e
      rw [emb_inj n m h.1 k.1 e.1, embs_inj n m h.2 k.2 e.2]
end
theorem kind_emb {u : U} {d : D} {kk : KK} (h : keyKindU u = some kk) (r : Rep X φ st u d) : d = embU u ∧ keyKind d = some kk ∧ keyTU 8 u = true := by
  cases u <;> simp [keyKindU] at h
  · rw [RepB.int (.val r)]; exact ⟨by simp [embU], by simp [keyKind, h], by simp [keyTU]⟩
  · rw [(RepB.str (.val r)).1]; exact ⟨by simp [embU], by simp [keyKind, h], by simp [keyTU]⟩
  · rename_i us
    obtain ⟨h1, rfl⟩ := h
    obtain ⟨h2, h3⟩ := key_emb 8 (u := .tup us) (by simp only [keyTU]; exact h1) r
    obtain ⟨ds, rfl, r'⟩ := RepB.tup (.val r)
    simp only [keyT] at h3
    exact ⟨h2, by simp only [keyKind, h3, if_true], by simp only [keyTU]; exact h1⟩
theorem alike_kind {ks : List U} {k : U} (h : alikeU ks k = true) : ∃ kk, keyKindU k = some kk ∧ ∀ q ∈ ks, keyKindU q = some kk := by
  unfold alikeU at h
  split at h
  · cases h
  · rename_i kk hk
    rw [List.all_eq_true] at h
    exact ⟨kk, hk, fun q hq => of_decide_eq_true (h q hq)⟩
theorem alike_rep {ks : List U} {k : U} {es : List (D × D)} {d : D} (r : Reps X φ st ks (es.map (·.1))) (q : Rep X φ st k d) (h : alikeU ks k = true) : alikeK es d = true := by
  obtain ⟨kk, hk, ha⟩ := alike_kind h
  have h1 := (kind_emb hk q).2.1
  unfold alikeK
  rw [h1]
  dsimp only
  clear h
  induction es generalizing ks with
  | nil => rfl
  | cons e es ih =>
    rw [List.map_cons] at r
    cases r with
    | cons r s =>
      rw [List.all_cons, ih s (fun q hq => ha q (List.mem_cons_of_mem _ hq)), Bool.and_true]
      exact decide_eq_true (kind_emb (ha _ List.mem_cons_self) r).2.1
theorem key_iff {k q : U} {d e : D} {kk : KK} (hk : keyKindU k = some kk) (hq : keyKindU q = some kk) (r : Rep X φ st k d) (s : Rep X φ st q e) : q = k ↔ e = d := by
  obtain ⟨h1, _, h2⟩ := kind_emb hk r
  obtain ⟨h3, _, h4⟩ := kind_emb hq s
  constructor
  · rintro rfl; rw [h1, h3]
  · intro z
    exact emb_inj 8 8 h4 h2 (by rw [← h1, ← h3, z])
theorem get_rep {ks us : List U} {k : U} {es : List (D × D)} {d : D} (r : Reps X φ st ks (es.map (·.1))) (r2 : Reps X φ st us (es.map (·.2))) (q : Rep X φ st k d) (h : alikeU ks k = true) :
    match dgetU ks us k with
    | some u => ∃ e, dget es d = some e ∧ Rep X φ st u e
    | none => dget es d = none := by
  obtain ⟨kk, hk, ha⟩ := alike_kind h
  clear h
  induction es generalizing ks us with
  | nil =>
    cases r
    cases r2
    simp [dgetU, dget]
  | cons e es ih =>
    rw [List.map_cons] at r r2
    cases r with
    | cons r s =>
      cases r2 with
      | cons r2 s2 =>
        rename_i k0 ks u0 us
        have ih := ih s s2 fun q hq => ha q (List.mem_cons_of_mem _ hq)
        have hi := key_iff hk (ha _ List.mem_cons_self) q r
        unfold dgetU dget at ih ⊢
        rw [List.zip_cons_cons, List.find?_cons, List.find?_cons]
        by_cases hc : k0 = k
        · rw [decide_eq_true hc, decide_eq_true (hi.mp hc)]
          exact ⟨_, rfl, r2⟩
        · rw [decide_eq_false hc, decide_eq_false (fun z => hc (hi.mpr z))]
          exact ih
theorem put_rep {ks us : List U} {k v : U} {es : List (D × D)} {d x : D} (r : Reps X φ st ks (es.map (·.1))) (r2 : Reps X φ st us (es.map (·.2))) (q : Rep X φ st k d) (qv : Rep X φ st v x) (h : alikeU ks k = true) :
    RepC X φ st (dputU ks us k v) (.dic (dput es d x)) := by
  obtain ⟨kk, hk, ha⟩ := alike_kind h
  have hany : ks.any (fun q => decide (q = k)) = es.any (fun p => decide (p.1 = d)) := by
    clear r2 h
    induction es generalizing ks with
    | nil => cases r; rfl
    | cons e es ih =>
      rw [List.map_cons] at r
      cases r with
      | cons r s =>
        rename_i k0 ks
        rw [List.any_cons, List.any_cons, ih s fun q hq => ha q (List.mem_cons_of_mem _ hq)]
        congr 1
        exact decide_eq_decide.mpr (key_iff hk (ha _ List.mem_cons_self) q r)
  unfold dputU dput
  rw [hany]
  split
  · refine .dic ?_ ?_
    · have : (es.map fun p => if p.1 = d then (p.1, x) else p).map (·.1) = es.map (·.1) := by
        rw [List.map_map]
        refine List.map_congr_left fun p _ => ?_
        show (if p.1 = d then (p.1, x) else p).1 = p.1
        split <;> rfl
      rw [this]; exact r
    · rename_i hx
      clear hany h hx
      induction es generalizing ks us with
      | nil => cases r; exact .nil
      | cons e es ih =>
        rw [List.map_cons] at r r2
        cases r with
        | cons r s =>
          cases r2 with
          | cons r2 s2 =>
            rename_i k0 ks u0 us
            rw [List.zip_cons_cons, List.map_cons, List.map_cons, List.map_cons]
            refine .cons ?_ (ih s s2 fun q hq => ha q (List.mem_cons_of_mem _ hq))
            have hi := key_iff hk (ha _ List.mem_cons_self) q r
            dsimp only
            by_cases hc : k0 = k
            · rw [if_pos hc, if_pos (hi.mp hc)]; exact qv
            · rw [if_neg hc, if_neg (fun z => hc (hi.mpr z))]; exact r2
  · refine .dic ?_ ?_
    · rw [List.map_append]; exact r.append (.one q)
    · rw [List.map_append]; exact r2.append (.one qv)
end
end IP.Q

/-! UaC: the operators, by content and in a store. -/
namespace IP.Q
open PySem
section
variable {X : Nat → Prop} {φ : List Nat} {st : Sto}
/-- an answer: a value without a list of its own, or a new cell -/
def OpR (X : Nat → Prop) (φ : List Nat) (st : Sto) (u : U) (r : R D) : Prop :=
  (∃ d, r = .ok d st ∧ Rep X φ st u d ∧ noRef u = true) ∨ (∃ c, r = .ok (.ref st.length) (st ++ [c]) ∧ RepC X φ st u c)
theorem strOk_app {x y : Str} (h : PyData.strOk x = true) (k : PyData.strOk y = true) : PyData.strOk (x ++ y) = true := by
  unfold PyData.strOk at *
  show (x.cps ++ y.cps).all _ = true
  rw [Array.all_append, h, k]; rfl
theorem strOk_mem {x : Str} (h : PyData.strOk x = true) : ∀ c ∈ x.cps.toList, c < 0x110000 := by
  unfold PyData.strOk at h
  intro c hc
  rw [Array.all_eq_true_iff_forall_mem] at h
  exact of_decide_eq_true (h c (by simpa using hc))
theorem strOk_of {cs : List Nat} (h : ∀ c ∈ cs, c < 0x110000) : PyData.strOk ⟨cs.toArray⟩ = true := by
  unfold PyData.strOk
  rw [Array.all_eq_true_iff_forall_mem]
  intro c hc
  exact decide_eq_true (h c (by simpa using hc))
theorem cut_mem {α : Type} {xs : List α} {lo hi : Option Int} {a : α} (h : a ∈ cutL xs lo hi) : a ∈ xs := List.mem_of_mem_drop (List.mem_of_mem_take h)
theorem atI_mem {α : Type} {xs : List α} {j : Int} {a : α} (h : L2.atI xs j = some a) : a ∈ xs := by
  unfold L2.atI at h
  cases hi : L2.ixN xs.length j with
  | none => rw [hi] at h; cases h
  | some k => rw [hi] at h; exact List.mem_of_getElem? h
theorem reps_of {α : Type} {f : α → U} {g : α → D} : ∀ {ts : List α}, (∀ t ∈ ts, Rep X φ st (f t) (g t)) → Reps X φ st (ts.map f) (ts.map g)
  | [], _ => .nil
  | t :: ts, h => .cons (h t List.mem_cons_self) (reps_of fun t ht => h t (List.mem_cons_of_mem _ ht))
theorem bin_rep {o : Bop} {u v w : U} {d e : D} (r : RepB X φ st u d) (s : RepB X φ st v e) (h : binU o u v = some w) : OpR X φ st w (binD o d e st) := by
  unfold binU at h
  split at h
  · rw [r.int, s.int]; cases h
    exact .inl ⟨_, rfl, .int _, rfl⟩
  · obtain ⟨ed_, k1⟩ := r.str; subst ed_
    obtain ⟨ed_, k2⟩ := s.str; subst ed_
    split at h
    · rename_i hl
      cases h
      exact .inl ⟨_, by simp only [binD, hl, if_true], .str (strOk_app k1 k2), rfl⟩
    · cases h
  · obtain ⟨ds, ed_, q_r⟩ := r.tup; subst ed_; have r := q_r
    obtain ⟨es, ed_, q_s⟩ := s.tup; subst ed_; have s := q_s
    rw [r.len, s.len] at h
    split at h
    · rename_i hl
      cases h
      exact .inl ⟨_, by simp only [binD, hl, if_true], .tup (r.append s), rfl⟩
    · cases h
  · obtain ⟨n, ds, ed_, hc, q_r⟩ := r.lst; subst ed_; have r := q_r
    obtain ⟨m, es, ed_, hd, q_s⟩ := s.lst; subst ed_; have s := q_s
    rw [r.len, s.len] at h
    split at h
    · rename_i hl
      cases h
      exact .inr ⟨_, by simp only [binD, hc, hd, hl, if_true], .lst (r.append s)⟩
    · cases h
  · rw [r.int, s.int]; cases h
    exact .inl ⟨_, rfl, .int _, rfl⟩
  · rw [r.int, s.int]
    split at h
    · rename_i hl
      cases h
      exact .inl ⟨_, by simp only [binD, hl, if_true], .int _, rfl⟩
    · cases h
  · obtain ⟨ds, ed_, q_r⟩ := r.tup; subst ed_; have r := q_r
    rw [s.int]
    split at h
    · rename_i xs k hl
      cases h
      have h1 : ds ≠ [] := fun z => hl.1 (by rw [z] at r; cases r; rfl)
      exact .inl ⟨_, by simp only [binD]; rw [if_pos ⟨h1, hl.2.1, hl.2.2.1, by rw [← r.len]; exact hl.2.2.2⟩], .tup (r.rep _), rfl⟩
    · cases h
  · obtain ⟨n, ds, ed_, hc, q_r⟩ := r.lst; subst ed_; have r := q_r
    rw [s.int]
    rw [r.len] at h
    split at h
    · rename_i hl
      cases h
      exact .inr ⟨_, by simp only [binD, hc]; rw [if_pos hl], .lst (r.rep _)⟩
    · cases h
  · rw [r.int, s.int]
    split at h
    · rename_i hl
      cases h
      exact .inl ⟨_, by simp only [binD]; rw [if_pos hl], .int _, rfl⟩
    · cases h
  · rw [r.int, s.int]
    split at h
    · rename_i hl
      cases h
      exact .inl ⟨_, by simp only [binD]; rw [if_pos hl], .int _, rfl⟩
    · cases h
  · cases h
theorem mem_rep {u v : U} {d e : D} {b : Bool} (r : RepB X φ st u d) (s : RepB X φ st v e) (h : memU u v = some b) (hk : ∀ ks us, v = .dic ks us → Rep X φ st u d) : memD d e st = some b := by
  unfold memU at h
  split at h
  · obtain ⟨ed_, k1⟩ := s.str; subst ed_
    split at h
    · obtain ⟨ed_, k2⟩ := r.str; subst ed_; exact h
    · cases h
  · obtain ⟨es, ed_, q_s⟩ := s.tup; subst ed_; have s := q_s
    split at h
    · rename_i hf
      rw [Bool.and_eq_true] at hf
      simp only [memD]
      rw [flat_rep r hf.1, flats_rep s hf.2]
      exact in_rep r s h
    · cases h
  · obtain ⟨n, es, ed_, hc, q_s⟩ := s.lst; subst ed_; have s := q_s
    simp only [memD, hc]
    exact in_rep r s h
  · rename_i ks us
    obtain ⟨n, es, ed_, hc, s1, s2⟩ := s.dic; subst ed_
    split at h
    · rename_i ha
      have r := hk ks us rfl
      have g := get_rep s1 s2 r ha
      simp only [memD, hc]
      rw [if_pos (alike_rep s1 r ha)]
      cases h
      split at g
      · rename_i z hz
        obtain ⟨x, hx, _⟩ := g
        rw [hx, hz]; rfl
      · rename_i hz
        rw [g, hz]; rfl
    · cases h
  · cases h
theorem alike_key {ks : List U} {k : U} (h : alikeU ks k = true) : noRef k = true := by
  obtain ⟨kk, hk, _⟩ := alike_kind h
  cases k <;> simp [keyKindU] at hk <;> rfl
theorem RepB.key {u : U} {d : D} (r : RepB X φ st u d) (h : noRef u = true) : Rep X φ st u d := by
  cases r with
  | val r => exact r
  | own hc r => cases r <;> cases h
theorem cmp_rep {o : Cop} {u v : U} {d e : D} {b : Bool} (r : RepB X φ st u d) (s : RepB X φ st v e) (h : cmpU o u v = some b) : cmpD o d e st = some b := by
  have hm : ∀ b', memU u v = some b' → memD d e st = some b' := fun b' h' => mem_rep r s h' fun ks us hv => by
    subst hv
    unfold memU at h'
    dsimp only at h'
    split at h'
    · rename_i ha; exact r.key (alike_key ha)
    · cases h'
  unfold cmpU at h
  cases o with
  | eq => exact eq_rep r s h
  | ne =>
    simp only [Option.map_eq_some_iff] at h
    obtain ⟨b', h1, rfl⟩ := h
    simp only [cmpD, eq_rep r s h1, Option.map_some]
  | lt => dsimp only at h; split at h <;> first | (rw [r.int, s.int]; exact h) | cases h
  | le => dsimp only at h; split at h <;> first | (rw [r.int, s.int]; exact h) | cases h
  | gt => dsimp only at h; split at h <;> first | (rw [r.int, s.int]; exact h) | cases h
  | ge => dsimp only at h; split at h <;> first | (rw [r.int, s.int]; exact h) | cases h
  | isin => exact hm b h
  | notin =>
    simp only [Option.map_eq_some_iff] at h
    obtain ⟨b', h1, rfl⟩ := h
    simp only [cmpD, hm b' h1, Option.map_some]
theorem ix_rep {u v w : U} {d e : D} (r : RepB X φ st u d) (s : Rep X φ st v e) (h : ixU u v = some w) : ∃ x, ixD d e st = .ok x st ∧ Rep X φ st w x := by
  unfold ixU at h
  split at h
  · obtain ⟨ds, ed_, q_r⟩ := r.tup; subst ed_; have r := q_r
    rw [RepB.int (.val s)]
    obtain ⟨x, h1, h2⟩ := r.atI h
    exact ⟨x, by simp only [ixD, h1], h2⟩
  · obtain ⟨n, ds, ed_, hc, q_r⟩ := r.lst; subst ed_; have r := q_r
    rw [RepB.int (.val s)]
    obtain ⟨x, h1, h2⟩ := r.atI h
    exact ⟨x, by simp only [ixD, hc, h1], h2⟩
  · rw [r.ro, RepB.int (.val s)]
    rw [Option.map_eq_some_iff] at h
    obtain ⟨i, h1, rfl⟩ := h
    exact ⟨_, by simp only [ixD, h1], .int _⟩
  · obtain ⟨ed_, hk⟩ := r.str; subst ed_
    rw [RepB.int (.val s)]
    split at h
    · rename_i hl
      rw [Option.map_eq_some_iff] at h
      obtain ⟨c, h1, rfl⟩ := h
      exact ⟨_, by simp only [ixD, hl, if_true, h1], .str (strOk_of fun z hz => by rw [List.mem_singleton.mp hz]; exact strOk_mem hk _ (atI_mem h1))⟩
    · cases h
  · obtain ⟨n, es, ed_, hc, r1, r2⟩ := r.dic; subst ed_
    split at h
    · rename_i ha
      have g := get_rep r1 r2 s ha
      rw [h] at g
      obtain ⟨x, hx, hr⟩ := g
      refine ⟨x, ?_, hr⟩
      simp only [ixD, hc]
      rw [if_pos (alike_rep r1 s ha), hx]
    · cases h
  · cases h
theorem sl_rep {u w : U} {d : D} {lo hi : Option Int} (r : RepB X φ st u d) (h : slU u lo hi = some w) : OpR X φ st w (slD d lo hi st) := by
  unfold slU at h
  split at h
  · obtain ⟨ds, ed_, q_r⟩ := r.tup; subst ed_; have r := q_r
    cases h
    exact .inl ⟨_, rfl, .tup (r.cut _ _), rfl⟩
  · obtain ⟨n, ds, ed_, hc, q_r⟩ := r.lst; subst ed_; have r := q_r
    cases h
    exact .inr ⟨_, by simp only [slD, hc], .lst (r.cut _ _)⟩
  · obtain ⟨ed_, hk⟩ := r.str; subst ed_
    split at h
    · rename_i hl
      cases h
      exact .inl ⟨_, by simp only [slD, hl, if_true], .str (strOk_of fun z hz => strOk_mem hk _ (cut_mem hz)), rfl⟩
    · cases h
  · cases h
theorem bools_rep : ∀ {us : List U} {ds : List D} {bs : List Bool}, Reps X φ st us ds → boolsU us = some bs → boolsOf ds = some bs
  | _, _, _, .nil, h => by simp only [boolsU] at h; exact h
  | _, _, _, .cons (u := u) r s, h => by
    cases u <;> simp [boolsU] at h
    obtain ⟨bs, h1, rfl⟩ := h
    rw [RepB.bl (.val r)]
    simp only [boolsOf, bools_rep s h1, Option.map_some]
theorem strs_rep : ∀ {us : List U} {ds : List D} {bs : List Str}, Reps X φ st us ds → strsU us = some bs → strsOf ds = some bs
  | _, _, _, .nil, h => by simp only [strsU] at h; exact h
  | _, _, _, .cons (u := u) r s, h => by
    cases u <;> simp [strsU] at h
    obtain ⟨bs, h1, rfl⟩ := h
    rw [(RepB.str (.val r)).1]
    simp only [strsOf, strs_rep s h1, Option.map_some]
theorem datas_rep : ∀ {us : List U} {ds : List D} {ps : List (U × PyData)}, Reps X φ st us ds → datasU us = some ps → ∃ ts : List (U × D × PyData), ps = ts.map (fun t => (t.1, t.2.2)) ∧ datasOf st ds = some (ts.map fun t => (t.2.1, t.2.2)) ∧ ∀ t ∈ ts, Rep X φ st t.1 t.2.1
  | _, _, _, .nil, h => by simp only [datasU] at h; cases h; exact ⟨[], rfl, rfl, fun t ht => by cases ht⟩
  | _, _, _, .cons (d := d0) r s, h => by
    simp only [datasU] at h
    split at h
    · rename_i p ps h1 h2
      cases h
      obtain ⟨ts, e1, e2, e3⟩ := datas_rep s h2
      refine ⟨(_, d0, p) :: ts, by rw [List.map_cons, e1], ?_, fun t ht => ?_⟩
      · simp only [datasOf, r.data 64 h1, e2, List.map_cons]
      · rcases List.mem_cons.mp ht with rfl | ht
        · exact r
        · exact e3 t ht
    · cases h
theorem sort_rep {us vs : List U} {ds : List D} (r : Reps X φ st us ds) (h : sortU us = some vs) : ∃ es, sortD ds st = some es ∧ Reps X φ st vs es := by
  unfold sortU at h
  split at h
  · rename_i ps hp
    split at h
    · rename_i hc
      cases h
      obtain ⟨ts, rfl, e2, e3⟩ := datas_rep r hp
      unfold sortD
      rw [e2]
      dsimp only
      have e : (ts.map fun t => (t.1, t.2.2)).map (·.2) = (ts.map fun t => (t.2.1, t.2.2)).map (·.2) := by rw [List.map_map, List.map_map]; rfl
      rw [e, r.len] at hc
      rw [if_pos hc]
      refine ⟨_, rfl, ?_⟩
      have m1 : (ts.map fun t => (t.1, t.2.2)).mergeSort (PySem.W.dataLe false (·.2)) = (ts.mergeSort (PySem.W.dataLe false (·.2.2))).map fun t => (t.1, t.2.2) := (List.map_mergeSort (f := fun (t : U × D × PyData) => (t.1, t.2.2)) (l := ts) (r := PySem.W.dataLe false (·.2.2)) (s := PySem.W.dataLe false (·.2)) fun a _ b _ => rfl).symm
      have m2 : (ts.map fun t => (t.2.1, t.2.2)).mergeSort (PySem.W.dataLe false (·.2)) = (ts.mergeSort (PySem.W.dataLe false (·.2.2))).map fun t => (t.2.1, t.2.2) := (List.map_mergeSort (f := fun (t : U × D × PyData) => (t.2.1, t.2.2)) (l := ts) (r := PySem.W.dataLe false (·.2.2)) (s := PySem.W.dataLe false (·.2)) fun a _ b _ => rfl).symm
      rw [m1, m2, List.map_map, List.map_map]
      exact reps_of fun t ht => e3 t (List.mem_mergeSort.mp ht)
    · cases h
  · cases h
theorem bi_rep {b : Bi} {u w : U} {d : D} (r : RepB X φ st u d) (h : biU b u = some w) : OpR X φ st w (biD b d st) := by
  unfold biU at h
  cases b with
  | len =>
    dsimp only at h
    split at h
    · obtain ⟨ed_, hk⟩ := r.str; subst ed_
      split at h
      · rename_i hl
        cases h
        exact .inl ⟨_, by simp only [biD, hl, if_true], .int _, rfl⟩
      · cases h
    · obtain ⟨ds, ed_, q_r⟩ := r.tup; subst ed_; have r := q_r
      cases h
      exact .inl ⟨_, by simp only [biD, r.len], .int _, rfl⟩
    · rw [r.ro]
      cases h
      exact .inl ⟨_, rfl, .int _, rfl⟩
    · obtain ⟨n, ds, ed_, hc, q_r⟩ := r.lst; subst ed_; have r := q_r
      cases h
      exact .inl ⟨_, by simp only [biD, hc, r.len], .int _, rfl⟩
    · cases h
  | all =>
    dsimp only at h
    split at h
    · obtain ⟨n, ds, ed_, hc, q_r⟩ := r.lst; subst ed_; have r := q_r
      rw [Option.map_eq_some_iff] at h
      obtain ⟨bs, h1, rfl⟩ := h
      exact .inl ⟨_, by simp only [biD, hc, bools_rep r h1], .bl _, rfl⟩
    · cases h
  | any =>
    dsimp only at h
    split at h
    · obtain ⟨n, ds, ed_, hc, q_r⟩ := r.lst; subst ed_; have r := q_r
      rw [Option.map_eq_some_iff] at h
      obtain ⟨bs, h1, rfl⟩ := h
      exact .inl ⟨_, by simp only [biD, hc, bools_rep r h1], .bl _, rfl⟩
    · cases h
  | list =>
    dsimp only at h
    split at h
    · obtain ⟨ds, ed_, q_r⟩ := r.tup; subst ed_; have r := q_r
      cases h
      exact .inr ⟨_, rfl, .lst r⟩
    · obtain ⟨n, ds, ed_, hc, q_r⟩ := r.lst; subst ed_; have r := q_r
      cases h
      exact .inr ⟨_, by simp only [biD, hc], .lst r⟩
    · obtain ⟨n, es, ed_, hc, r1, r2⟩ := r.dic; subst ed_
      cases h
      exact .inr ⟨_, by simp only [biD, hc], .lst r1⟩
    · cases h
  | tuple =>
    dsimp only at h
    split at h
    · obtain ⟨ds, ed_, q_r⟩ := r.tup; subst ed_; have r := q_r
      cases h
      exact .inl ⟨_, rfl, .tup r, rfl⟩
    · obtain ⟨n, ds, ed_, hc, q_r⟩ := r.lst; subst ed_; have r := q_r
      cases h
      exact .inl ⟨_, by simp only [biD, hc], .tup r, rfl⟩
    · cases h
  | int =>
    dsimp only at h
    split at h
    · rw [r.int]; cases h
      exact .inl ⟨_, rfl, .int _, rfl⟩
    · rw [r.bl]; cases h
      exact .inl ⟨_, rfl, .int _, rfl⟩
    · cases h
  | str => cases h
  | sorted =>
    dsimp only at h
    split at h
    · obtain ⟨n, ds, ed_, hc, q_r⟩ := r.lst; subst ed_; have r := q_r
      rw [Option.map_eq_some_iff] at h
      obtain ⟨bs, h1, rfl⟩ := h
      obtain ⟨es, h2, h3⟩ := sort_rep r h1
      exact .inr ⟨_, by simp only [biD, hc, h2], .lst h3⟩
    · cases h
  | dict => cases h
theorem lset_rep {u w : U} {d : D} (r : RepB X φ st u d) (h : lsetU u = some w) : lsetD d st = .ok (embU w) st ∧ Rep X φ st w (embU w) := by
  unfold lsetU at h
  split at h
  · rename_i xs hx
    split at h
    · rename_i hl
      cases h
      refine ⟨?_, by simp only [embU]; exact .int _⟩
      split at hx
      · obtain ⟨ds, ed_, q_r⟩ := r.tup; subst ed_; have r := q_r
        simp only [lsetD, strs_rep r hx]
        rw [if_pos hl]
        simp only [embU]
      · obtain ⟨n, ds, ed_, hc, q_r⟩ := r.lst; subst ed_; have r := q_r
        simp only [lsetD, hc, strs_rep r hx]
        rw [if_pos hl]
        simp only [embU]
      · cases hx
    · cases h
  · cases h
theorem isT_rep {u : U} {d : D} {T : Ty} {b : Bool} (r : RepB X φ st u d) (h : isTU u T = some b) : isTD d T st = some b := by
  unfold isTU at h
  split at h
  · rw [r.non]; exact h
  · rw [r.bl]; exact h
  · rw [r.int]; exact h
  · rw [r.str.1]; exact h
  · obtain ⟨ds, ed_, q_r⟩ := r.tup; subst ed_; have r := q_r; exact h
  · obtain ⟨n, ds, ed_, hc, q_r⟩ := r.lst; subst ed_; have r := q_r
    simp only [isTD, hc]; exact h
  · cases h
theorem getv_rep {u w : U} {d : D} {vs : List U} {es : List D} (r : RepB X φ st u d) (s : Reps X φ st vs es) (h : getU u vs = some w) : ∃ x, getDD d es st = .ok x st ∧ Rep X φ st w x := by
  unfold getU at h
  split at h
  · obtain ⟨n, es', ed_, hc, r1, r2⟩ := r.dic; subst ed_
    cases s with
    | cons s1 s =>
      cases s with
      | cons s2 s =>
        cases s
        split at h
        · rename_i ha
          cases h
          have g := get_rep r1 r2 s1 ha
          simp only [getDD, hc]
          rw [if_pos (alike_rep r1 s1 ha)]
          split at g
          · rename_i z hz
            obtain ⟨x, hx, hr⟩ := g
            exact ⟨x, by rw [hx]; rfl, by rw [hz]; exact hr⟩
          · rename_i hz
            exact ⟨_, by rw [g], by rw [hz]; exact s2⟩
        · cases h
  · cases h
theorem index_rep {u w : U} {d : D} {vs : List U} {es : List D} (r : RepB X φ st u d) (s : Reps X φ st vs es) (h : indexU u vs = some w) : ∃ x, indexD d es st = .ok x st ∧ Rep X φ st w x := by
  unfold indexU at h
  split at h
  · obtain ⟨n, ds, ed_, hc, q_r⟩ := r.lst; subst ed_; have r := q_r
    cases s with
    | cons s1 s =>
      cases s
      rw [Option.map_eq_some_iff] at h
      obtain ⟨j, h1, rfl⟩ := h
      unfold idxU at h1
      split at h1
      · rename_i p ps e1 e2
        have : toData st 64 (.ref n) = some (.list ps) := by
          simp only [toData, hc, r.datas 63 e2, Option.map_some]
        exact ⟨_, by simp only [indexD, idxD, s1.data 64 e1, this, h1], .int _⟩
      · cases h1
  · cases h
theorem mut_rep {m : Bm} {us us' vs : List U} {v : U} {n : Nat} {ds es : List D} (hc : st[n]? = some (.lst ds)) (r : Reps X φ st us ds) (s : Reps X φ st vs es) (h : mutU m us vs = some (v, us')) :
    ∃ x ds', bmD m (.ref n) es st = .ok x (st.set n (.lst ds')) ∧ Rep X φ st v x ∧ Reps X φ st us' ds' := by
  unfold mutU at h
  split at h
  · cases s with
    | cons s1 s =>
      cases s
      rw [r.len] at h
      split at h
      · rename_i hl
        cases h
        exact ⟨_, _, by simp only [bmD, appD, hc, hl, if_true], .non, r.append (.one s1)⟩
      · cases h
  · cases s with
    | cons s1 s =>
      cases s
      obtain ⟨m2, fs, rfl, hd, q⟩ := RepB.lst (.val s1)
      rw [r.len, q.len] at h
      split at h
      · rename_i hl
        cases h
        exact ⟨_, _, by simp only [bmD, extD, hc, hd, hl, if_true], .non, r.append q⟩
      · cases h
  · cases s
    rw [Option.map_eq_some_iff] at h
    obtain ⟨w, h1, h2⟩ := h
    cases h2
    rw [r.len] at h1
    obtain ⟨x, h3, h4⟩ := r.get h1
    exact ⟨x, _, by simp only [bmD, popD, hc, h3], h4, r.dropLast⟩
  · cases s with
    | cons s1 s =>
      cases s
      rw [RepB.int (.val s1)]
      split at h
      · rename_i k hk
        split at h
        · rename_i hl
          rw [Option.map_eq_some_iff] at h
          obtain ⟨w, h1, h2⟩ := h
          cases h2
          obtain ⟨x, h3, h4⟩ := r.get h1
          rw [r.len] at hk hl
          exact ⟨x, _, by simp only [bmD, popiD, hc, hk, h3, hl, if_true], h4, r.eraseIdx k⟩
        · cases h
      · cases h
  · cases h
/-! ### what is walked -/
theorem zipI_rep : ∀ {us : List U} {ds : List D} (i : Nat), Reps X φ st us ds → Reps X φ st (zipUI i us) (zipI i ds)
  | _, _, _, .nil => .nil
  | _, _, i, .cons r s => .cons (.tup (.cons (.int _) (.one r))) (zipI_rep (i + 1) s)
theorem zipD_rep : ∀ {us vs : List U} {ds es : List D}, Reps X φ st us ds → Reps X φ st vs es → Reps X φ st (zipUU us vs) (zipD ds es)
  | _, _, _, _, .nil, .nil => .nil
  | _, _, _, _, .nil, .cons _ _ => .nil
  | _, _, _, _, .cons _ _, .nil => .nil
  | _, _, _, _, .cons r s, .cons q t => .cons (.tup (.cons r (.one q))) (zipD_rep s t)
theorem rng_rep : ∀ (n : Nat) (lo : Int), Reps X φ st (rngU lo n) (rngD lo n)
  | 0, _ => .nil
  | n + 1, lo => .cons (.int lo) (rng_rep n (lo + 1))
/-- what is watched: the list itself -/
def WatchOk (st : Sto) (d : D) (ds : List D) (w : Watch) : Prop := w = [] ∨ ∃ n, d = .ref n ∧ w = [(n, .lst ds)] ∧ st[n]? = some (.lst ds)
theorem walk_rep {u : U} {d : D} {us : List U} (r : RepB X φ st u d) (h : walkU u = some us) : ∃ ds w, walkOf d st = some (ds, w) ∧ Reps X φ st us ds ∧ WatchOk st d ds w := by
  unfold walkU at h
  split at h
  · obtain ⟨ds, ed_, q_r⟩ := r.tup; subst ed_; have r := q_r
    cases h
    exact ⟨ds, [], rfl, r, .inl rfl⟩
  · obtain ⟨ed_, hk⟩ := r.str; subst ed_
    cases h
    exact ⟨_, [], rfl, Reps.chars _ (strOk_mem hk), .inl rfl⟩
  · rw [r.ro]; cases h
    exact ⟨_, [], rfl, Reps.ints _, .inl rfl⟩
  · obtain ⟨n, ds, ed_, hc, q_r⟩ := r.lst; subst ed_; have r := q_r
    cases h
    exact ⟨ds, _, by simp only [walkOf, hc], r, .inr ⟨n, rfl, rfl, hc⟩⟩
  · cases h
theorem seq_rep {u : U} {d : D} {us : List U} (r : RepB X φ st u d) (h : seqU u = some us) : ∃ ds w, seqOf d st = some (ds, w) ∧ Reps X φ st us ds ∧ WatchOk st d ds w := by
  unfold seqU at h
  split at h
  · obtain ⟨ds, ed_, q_r⟩ := r.tup; subst ed_; have r := q_r
    cases h
    exact ⟨ds, [], rfl, r, .inl rfl⟩
  · obtain ⟨n, ds, ed_, hc, q_r⟩ := r.lst; subst ed_; have r := q_r
    cases h
    exact ⟨ds, _, by simp only [seqOf, hc], r, .inr ⟨n, rfl, rfl, hc⟩⟩
  · cases h
theorem sameK_rep {u v : U} {d e : D} (r : RepB X φ st u d) (s : RepB X φ st v e) (h : sameKU u v = true) : sameK d e = true := by
  unfold sameKU at h
  split at h
  · obtain ⟨ds, ed_, q_r⟩ := r.tup; subst ed_; have r := q_r
    obtain ⟨es, ed_, q_s⟩ := s.tup; subst ed_; have s := q_s
    rfl
  · obtain ⟨n, ds, ed_, hc, q_r⟩ := r.lst; subst ed_; have r := q_r
    obtain ⟨m, es, ed_, hd, q_s⟩ := s.lst; subst ed_; have s := q_s
    rfl
  · cases h
theorem putAll_rep : ∀ {ks vs : List U} {ps : List (D × D)} {a : List U × List U} {acc : List (D × D)} {r : List U × List U}, Reps X φ st ks (ps.map (·.1)) → Reps X φ st vs (ps.map (·.2)) → Reps X φ st a.1 (acc.map (·.1)) → Reps X φ st a.2 (acc.map (·.2)) → putAllU a ks vs = some r →
    ∃ es, putAll acc ps = some es ∧ Reps X φ st r.1 (es.map (·.1)) ∧ Reps X φ st r.2 (es.map (·.2))
  | [], vs, [], a, acc, r, h1, h2, h3, h4, h => by
    cases h2
    simp only [putAllU] at h
    cases h
    exact ⟨acc, rfl, h3, h4⟩
  | [], vs, p :: ps, a, acc, r, h1, h2, h3, h4, h => by cases h1
  | k :: ks, vs, [], a, acc, r, h1, h2, h3, h4, h => by cases h1
  | k :: ks, vs, p :: ps, a, acc, r, h1, h2, h3, h4, h => by
    rw [List.map_cons] at h1 h2
    cases h1 with
    | cons q1 h1 =>
      cases h2 with
      | cons q2 h2 =>
        simp only [putAllU] at h
        split at h
        · rename_i ha
          split at h
          · rename_i ks' us' hp
            have g := put_rep h3 h4 q1 q2 ha
            rw [hp] at g
            cases g with
            | dic g1 g2 =>
              obtain ⟨es, e1, e2, e3⟩ := putAll_rep h1 h2 g1 g2 h
              exact ⟨es, by simp only [putAll, alike_rep h3 q1 ha, if_true]; exact e1, e2, e3⟩
          · cases h
        · cases h
theorem ofD_rep {d : D} {u : U} (h : ofD d = some u) (hk : ∀ x, d = .str x → PyData.strOk x = true) : Rep X φ st u d := by
  cases d <;> simp [ofD] at h <;> subst h
  · exact .non
  · exact .bl _
  · exact .int _
  · exact .str (hk _ rfl)
  · exact .fn _
end
end IP.Q

/-! UaD: what holds at each step: names, stores, objects. -/
namespace IP.Q
open PySem
/-- what objects are: their cells, all of one class -/
structure ObS (Ob : Type) (cn : Str) where
  OR : List Ob → List Nat → Sto → (Nat → Prop) → Prop
  loc : ∀ {H : List Ob} {φ : List Nat} {st st' : Sto} {O : Nat → Prop}, OR H φ st O → (∀ n, O n → st'[n]? = st[n]?) → OR H φ st' O
  lt : ∀ {H : List Ob} {φ : List Nat} {st : Sto} {O : Nat → Prop} {n : Nat}, OR H φ st O → O n → n < st.length
  cls : ∀ {H : List Ob} {φ : List Nat} {st : Sto} {O : Nat → Prop} {m a : Nat}, OR H φ st O → φ[m]? = some a → ∃ fs, st[a]? = some (.ins cn fs)
structure Cx where
  M : List Nat
  L : List Nat
  b : Nat
  Kf : Nat → Prop
  K : Nat → Prop
def Own (M : List Nat) (ρ : EnvU) (ρd : Env) (i n : Nat) : Prop := memN i M = true ∧ (∃ u, ρ[i]? = some (some u) ∧ noRef u = false) ∧ ρd[i]? = some (some (.ref n))
section
variable {Ob : Type} {cn : Str}
structure Inv (S : ObS Ob cn) (c : Cx) (ρ : EnvU) (H : List Ob) (ρd : Env) (st : Sto) (X O : Nat → Prop) (φ : List Nat) : Prop where
  len : ρ.length = ρd.length
  val : ∀ i u, ρ[i]? = some (some u) → (memN i c.M = false ∨ noRef u = true) → ∃ d, ρd[i]? = some (some d) ∧ Rep X φ st u d
  own : ∀ i u, ρ[i]? = some (some u) → memN i c.M = true → noRef u = false → ∃ n cl, ρd[i]? = some (some (.ref n)) ∧ st[n]? = some cl ∧ RepC X φ st u cl ∧ X n ∧ ¬ O n ∧ ¬ c.Kf n ∧ c.b ≤ n ∧ (memN i c.L = false → ¬ c.K n)
  inj : ∀ i j n, Own c.M ρ ρd i n → Own c.M ρ ρd j n → i = j
  obj : S.OR H φ st O
  ox : ∀ n, O n → X n ∧ ¬ c.K n
  xl : ∀ n, X n → n < st.length
  kx : ∀ n, c.K n → X n
  kf : ∀ n, c.Kf n → c.K n ∧ n < c.b
  bl : c.b ≤ st.length
variable {S : ObS Ob cn} {c : Cx} {ρ ρ' ρ1 ρ2 : EnvU} {H H' : List Ob} {ρd ρd' : Env} {st st' : Sto} {X X' O O' : Nat → Prop} {φ φ' : List Nat}
/-- cells that a call, or a turn, does not touch -/
def Kc (c : Cx) (ρ : EnvU) (ρd : Env) (n : Nat) : Prop := c.K n ∨ ∃ i, Own c.M ρ ρd i n
theorem Inv.own_at (v : Inv S c ρ H ρd st X O φ) {i n : Nat} (h : Own c.M ρ ρd i n) : ∃ u cl, ρ[i]? = some (some u) ∧ noRef u = false ∧ st[n]? = some cl ∧ RepC X φ st u cl ∧ X n ∧ ¬ O n ∧ ¬ c.Kf n ∧ c.b ≤ n ∧ (memN i c.L = false → ¬ c.K n) := by
  obtain ⟨h1, ⟨u, h2, h3⟩, h4⟩ := h
  obtain ⟨n', cl, k1, k2, k3, k4, k5, k6, k7, k8⟩ := v.own i u h2 h1 h3
  rw [h4] at k1
  cases k1
  exact ⟨u, cl, h2, h3, k2, k3, k4, k5, k6, k7, k8⟩
theorem Inv.kc_x (v : Inv S c ρ H ρd st X O φ) {n : Nat} (h : Kc c ρ ρd n) : X n := by
  rcases h with h | ⟨i, h⟩
  · exact v.kx n h
  · obtain ⟨u, cl, _, _, _, _, h1, _⟩ := v.own_at h; exact h1
theorem Inv.kc_o (v : Inv S c ρ H ρd st X O φ) {n : Nat} (h : O n) : ¬ Kc c ρ ρd n := by
  rintro (k | ⟨i, k⟩)
  · exact (v.ox n h).2 k
  · obtain ⟨u, cl, _, _, _, _, _, h1, _⟩ := v.own_at k; exact h1 h
/-- what is touched is none of ours -/
theorem Inv.frame (v : Inv S c ρ H ρd st X O φ) {K : Nat → Prop} (f : Fr st.length K X φ st X' φ' st') (hK : ∀ n, Kc c ρ ρd n → K n) (ho : S.OR H' φ' st' O') (hox : ∀ n, O' n → X' n ∧ ¬ K n) (hxl : ∀ n, X' n → n < st'.length) : Inv S c ρ H' ρd st' X' O' φ' where
  len := v.len
  val := fun i u h1 h2 => by
    obtain ⟨d, k1, k2⟩ := v.val i u h1 h2
    exact ⟨d, k1, k2.mono f⟩
  own := fun i u h1 h2 h3 => by
    obtain ⟨n, cl, k1, k2, k3, k4, k5, k6, k7, k8⟩ := v.own i u h1 h2 h3
    have ho : Own c.M ρ ρd i n := ⟨h2, ⟨u, h1, h3⟩, k1⟩
    have hn := v.xl n k4
    have hk := hK n (.inr ⟨i, ho⟩)
    exact ⟨n, cl, k1, (f.kk n hn hk).trans k2, k3.mono f, (f.x n hn).mpr k4, fun z => (hox n z).2 hk, k6, k7, k8⟩
  inj := v.inj
  obj := ho
  ox := fun n h => ⟨(hox n h).1, fun k => (hox n h).2 (hK n (.inl k))⟩
  xl := hxl
  kx := fun n h => (f.x n (v.xl n (v.kx n h))).mpr (v.kx n h)
  kf := v.kf
  bl := Nat.le_trans v.bl f.len
theorem Inv.ext (v : Inv S c ρ H ρd st X O φ) (t : Sto) : Inv S c ρ H ρd (st ++ t) X O φ := by
  refine v.frame (K := Kc c ρ ρd) (Fr.ext (Nat.le_refl _) t) (fun n h => h) (S.loc v.obj fun n hn => List.getElem?_append_left (S.lt v.obj hn)) (fun n hn => ⟨(v.ox n hn).1, v.kc_o hn⟩) fun n hn => ?_
  have := v.xl n hn
  rw [List.length_append]; omega
/-! ### a name read in place -/
theorem Inv.look (v : Inv S c ρ H ρd st X O φ) {i : Nat} {u : U} (h : ρ[i]? = some (some u)) : ∃ d, ρd[i]? = some (some d) ∧ RepB X φ st u d := by
  by_cases hm : memN i c.M = false ∨ noRef u = true
  · obtain ⟨d, k1, k2⟩ := v.val i u h hm
    exact ⟨d, k1, .val k2⟩
  · have h1 : memN i c.M = true := by cases hh : memN i c.M with
      | true => rfl
      | false => exact absurd (.inl hh) hm
    have h2 : noRef u = false := by cases hh : noRef u with
      | false => rfl
      | true => exact absurd (.inr hh) hm
    obtain ⟨n, cl, k1, k2, k3, _⟩ := v.own i u h h1 h2
    exact ⟨_, k1, .own k2 k3⟩
/-! ### answers side by side -/
def ExR (X : Nat → Prop) (φ : List Nat) (st : Sto) (x : ExnU) (y : Exn) : Prop := x.cls = y.cls ∧ match x.why, y.why with
  | none, none => True
  | some u, some d => Rep X φ st u d
  | _, _ => False
theorem ExR.mono {K : Nat → Prop} {x : ExnU} {y : Exn} (f : Fr st.length K X φ st X' φ' st') (h : ExR X φ st x y) : ExR X' φ' st' x y := by
  obtain ⟨xc, xw⟩ := x
  obtain ⟨yc, yw⟩ := y
  refine ⟨h.1, ?_⟩
  have := h.2
  cases xw <;> cases yw
  · exact trivial
  · exact this.elim
  · exact this.elim
  · exact Rep.mono f this
def ResG {α β : Type} (P : α → EnvU → List Ob → β → Sto → Prop) (E : ExnU → EnvU → List Ob → Exn → Sto → Prop) : RU Ob α → R β → Prop
  | .bad, _ => True
  | .ok u ρ H, .ok d st => P u ρ H d st
  | .exc x ρ H, .exc y st => E x ρ H y st
  | _, _ => False
theorem ResG.bind {α β γ δ : Type} {P : α → EnvU → List Ob → β → Sto → Prop} {P' : γ → EnvU → List Ob → δ → Sto → Prop} {E : ExnU → EnvU → List Ob → Exn → Sto → Prop} {r : RU Ob α} {rd : R β} {f : α → EnvU → List Ob → RU Ob γ} {g : β → Sto → R δ}
    (h : ResG P E r rd) (k : ∀ u ρ H d st, P u ρ H d st → ResG P' E (f u ρ H) (g d st)) : ResG P' E (r.bind f) (rd.bind g) := by
  cases r with
  | bad => exact trivial
  | ok u ρ H => cases rd with
    | ok d st => exact k _ _ _ _ _ h
    | _ => exact h.elim
  | exc x ρ H => cases rd with
    | exc y st => exact h
    | _ => exact h.elim
theorem ResG.mono {α β : Type} {P P' : α → EnvU → List Ob → β → Sto → Prop} {E E' : ExnU → EnvU → List Ob → Exn → Sto → Prop} {r : RU Ob α} {rd : R β} (h : ResG P E r rd) (k : ∀ u ρ H d st, P u ρ H d st → P' u ρ H d st) (k2 : ∀ u ρ H d st, E u ρ H d st → E' u ρ H d st) : ResG P' E' r rd := by
  cases r with
  | bad => exact trivial
  | ok u ρ H => cases rd with
    | ok d st => exact k _ _ _ _ _ h
    | _ => exact h.elim
  | exc x ρ H => cases rd with
    | exc y st => exact k2 _ _ _ _ _ h
    | _ => exact h.elim
variable (S c ρd) in
abbrev PE {α β : Type} (X : Nat → Prop) (φ : List Nat) (st : Sto) (Q : EnvU → (Nat → Prop) → List Nat → Sto → α → β → Prop) : α → EnvU → List Ob → β → Sto → Prop := fun u ρ' H' d st' =>
  ∃ X' O' φ', Fr st.length c.K X φ st X' φ' st' ∧ Inv S c ρ' H' ρd st' X' O' φ' ∧ Q ρ' X' φ' st' u d
variable (S c ρd) in
abbrev EE (X : Nat → Prop) (φ : List Nat) (st : Sto) : ExnU → EnvU → List Ob → Exn → Sto → Prop := fun x ρ' H' y st' =>
  ∃ X' O' φ', Fr st.length c.K X φ st X' φ' st' ∧ Inv S c ρ' H' ρd st' X' O' φ' ∧ ExR X' φ' st' x y
variable (S c ρd) in
abbrev PP (X : Nat → Prop) (φ : List Nat) (st : Sto) : U → EnvU → List Ob → D → Sto → Prop := fun u ρ' H' d st' =>
  ∃ sp X' O' φ', Fr st.length c.K X φ st X' φ' sp ∧ Inv S c ρ' H' ρd sp X' O' φ' ∧ ((st' = sp ∧ Rep X' φ' sp u d ∧ noRef u = true) ∨ ∃ cl, st' = sp ++ [cl] ∧ d = .ref sp.length ∧ RepC X' φ' sp u cl)
variable (S c ρd) in
abbrev ResE {α β : Type} (X : Nat → Prop) (φ : List Nat) (st : Sto) (Q : EnvU → (Nat → Prop) → List Nat → Sto → α → β → Prop) (r : RU Ob α) (rd : R β) : Prop := ResG (PE S c ρd X φ st Q) (EE S c ρd X φ st) r rd
variable (S c ρd) in
abbrev ResP (X : Nat → Prop) (φ : List Nat) (st : Sto) (r : RU Ob U) (rd : R D) : Prop := ResG (PP S c ρd X φ st) (EE S c ρd X φ st) r rd
abbrev QV : EnvU → (Nat → Prop) → List Nat → Sto → U → D → Prop := fun _ X φ st u d => Rep X φ st u d
abbrev QVs : EnvU → (Nat → Prop) → List Nat → Sto → List U → List D → Prop := fun _ X φ st u d => Reps X φ st u d
theorem tr {K : Nat → Prop} {X1 X2 : Nat → Prop} {φ1 φ2 : List Nat} {s s1 s2 : Sto} (h : Fr s.length K X φ s X1 φ1 s1) (k : Fr s1.length K X1 φ1 s1 X2 φ2 s2) : Fr s.length K X φ s X2 φ2 s2 := h.trans k h.len fun _ _ z => z
theorem EE.re {X1 : Nat → Prop} {φ1 : List Nat} {s1 : Sto} (f : Fr st.length c.K X φ st X1 φ1 s1) {x : ExnU} {y : Exn} (h : EE S c ρd X1 φ1 s1 x ρ' H' y st') : EE S c ρd X φ st x ρ' H' y st' := by
  obtain ⟨X2, O2, φ2, h1, h2, h3⟩ := h
  exact ⟨X2, O2, φ2, tr f h1, h2, h3⟩
theorem ResE.bindE {α β γ δ : Type} {Q : EnvU → (Nat → Prop) → List Nat → Sto → α → β → Prop} {Q' : EnvU → (Nat → Prop) → List Nat → Sto → γ → δ → Prop} {r : RU Ob α} {rd : R β} {f : α → EnvU → List Ob → RU Ob γ} {g : β → Sto → R δ}
    (h : ResE S c ρd X φ st Q r rd) (k : ∀ u d ρ' H' st' X' O' φ', Fr st.length c.K X φ st X' φ' st' → Inv S c ρ' H' ρd st' X' O' φ' → Q ρ' X' φ' st' u d → ResE S c ρd X' φ' st' Q' (f u ρ' H') (g d st')) : ResE S c ρd X φ st Q' (r.bind f) (rd.bind g) := by
  refine ResG.bind h fun u ρ' H' d st' ⟨X', O', φ', h1, h2, h3⟩ => ?_
  exact (k u d ρ' H' st' X' O' φ' h1 h2 h3).mono (fun u ρ H d st ⟨X2, O2, φ2, k1, k2, k3⟩ => ⟨X2, O2, φ2, tr h1 k1, k2, k3⟩) fun u ρ H d st z => EE.re h1 z
theorem ResE.bindP {α β : Type} {Q : EnvU → (Nat → Prop) → List Nat → Sto → α → β → Prop} {r : RU Ob α} {rd : R β} {f : α → EnvU → List Ob → RU Ob U} {g : β → Sto → R D}
    (h : ResE S c ρd X φ st Q r rd) (k : ∀ u d ρ' H' st' X' O' φ', Fr st.length c.K X φ st X' φ' st' → Inv S c ρ' H' ρd st' X' O' φ' → Q ρ' X' φ' st' u d → ResP S c ρd X' φ' st' (f u ρ' H') (g d st')) : ResP S c ρd X φ st (r.bind f) (rd.bind g) := by
  refine ResG.bind h fun u ρ' H' d st' ⟨X', O', φ', h1, h2, h3⟩ => ?_
  exact (k u d ρ' H' st' X' O' φ' h1 h2 h3).mono (fun u ρ H d st ⟨sp, X2, O2, φ2, k1, k2, k3⟩ => ⟨sp, X2, O2, φ2, tr h1 k1, k2, k3⟩) fun u ρ H d st z => EE.re h1 z
theorem new_rep {cl : Cell} {u : U} (v : Inv S c ρ H ρd st X O φ) (r : RepC X φ st u cl) : Rep X φ (st ++ [cl]) u (.ref st.length) := by
  refine .box (c := cl) (fun z => Nat.lt_irrefl _ (v.xl _ z)) (by rw [List.getElem?_append_right (Nat.le_refl _)]; simp) ?_
  exact r.mono (K := c.K) (Fr.ext (Nat.le_refl _) [cl])
theorem ResP.toE {r : RU Ob U} {rd : R D} (h : ResP S c ρd X φ st r rd) : ResE S c ρd X φ st QV r rd := by
  refine ResG.mono h (fun u ρ' H' d st' ⟨sp, X', O', φ', h1, h2, h3⟩ => ?_) fun _ _ _ _ _ z => z
  rcases h3 with ⟨rfl, h3, _⟩ | ⟨cl, rfl, rfl, h3⟩
  · exact ⟨X', O', φ', h1, h2, h3⟩
  · exact ⟨X', O', φ', tr h1 (Fr.ext (Nat.le_refl _) [cl]), h2.ext _, new_rep h2 h3⟩
theorem ResE.now {α β : Type} {Q : EnvU → (Nat → Prop) → List Nat → Sto → α → β → Prop} {u : α} {d : β} (v : Inv S c ρ H ρd st X O φ) (h : Q ρ X φ st u d) : ResE S c ρd X φ st Q (.ok u ρ H) (.ok d st) := ⟨X, O, φ, Fr.refl, v, h⟩
theorem ResP.op {o : Option U} {r : R D} (v : Inv S c ρ H ρd st X O φ) (h : ∀ w, o = some w → OpR X φ st w r) : ResP S c ρd X φ st (ofO o ρ H) r := by
  cases o with
  | none => exact trivial
  | some w =>
    rcases h w rfl with ⟨d, rfl, h1, h2⟩ | ⟨cl, rfl, h1⟩
    · exact ⟨st, X, O, φ, Fr.refl, v, .inl ⟨rfl, h1, h2⟩⟩
    · exact ⟨st, X, O, φ, Fr.refl, v, .inr ⟨cl, rfl, rfl, h1⟩⟩
theorem ResE.op {o : Option U} {r : R D} (v : Inv S c ρ H ρd st X O φ) (h : ∀ w, o = some w → ∃ d, r = .ok d st ∧ Rep X φ st w d) : ResE S c ρd X φ st QV (ofO o ρ H) r := by
  cases o with
  | none => exact trivial
  | some w =>
    obtain ⟨d, rfl, h1⟩ := h w rfl
    exact .now v h1
theorem ResE.opB {o : Option Bool} {od : Option Bool} (v : Inv S c ρ H ρd st X O φ) (h : ∀ w, o = some w → od = some w) : ResE S c ρd X φ st QV (ofB o ρ H) (okB od st) := by
  cases o with
  | none => exact trivial
  | some w =>
    rw [h w rfl]
    exact .now v (.bl w)
/-- a value read in place: a name's, or one for itself -/
def BQ (a : Ex) (ρd : Env) : EnvU → (Nat → Prop) → List Nat → Sto → U → D → Prop := fun ρ' X φ st u d => RepB X φ st u d ∧ (∀ i, a = .lc i → ρ'[i]? = some (some u) ∧ ρd[i]? = some (some d)) ∧ ((∃ i, a = .lc i) ∨ Rep X φ st u d)
theorem BQ.move {a : Ex} {u : U} {d : D} (h : BQ a ρd ρ1 X φ st u d) (f : Fr st.length c.K X φ st X' φ' st') (v : Inv S c ρ2 H' ρd st' X' O' φ') (hs : same a ρ1 ρ2 = true) : BQ a ρd ρ2 X' φ' st' u d := by
  rcases h.2.2 with ⟨i, rfl⟩ | h2
  · obtain ⟨h1, h2⟩ := h.2.1 i rfl
    have : ρ1[i]? = ρ2[i]? := of_decide_eq_true hs
    rw [this] at h1
    obtain ⟨d', k1, k2⟩ := v.look h1
    rw [h2] at k1
    cases k1
    exact ⟨k2, fun j hj => by cases hj; exact ⟨h1, h2⟩, .inl ⟨i, rfl⟩⟩
  · have h3 := h2.mono f
    refine ⟨.val h3, fun j hj => ?_, .inr h3⟩
    subst hj
    have : ρ1[j]? = ρ2[j]? := of_decide_eq_true hs
    rw [← this]; exact h.2.1 j rfl
/-! ### targets -/
theorem set_len {α : Type} {l : List α} {i : Nat} {a : α} : (l.set i a).length = l.length := List.length_set
/-- a name gets a value, its list not its own -/
theorem Inv.set (v : Inv S c ρ H ρd st X O φ) {i : Nat} {u : U} {d : D} (r : Rep X φ st u d) (hm : memN i c.M = false ∨ noRef u = true) (hi : i < ρ.length) : Inv S c (ρ.set i (some u)) H (ρd.set i (some d)) st X O φ where
  len := by rw [List.length_set, List.length_set]; exact v.len
  val := fun j w h1 h2 => by
    by_cases e : j = i
    · subst e
      rw [List.getElem?_set_self hi] at h1
      cases h1
      exact ⟨d, List.getElem?_set_self (by rw [← v.len]; exact hi), r⟩
    · rw [List.getElem?_set_ne (Ne.symm e)] at h1 ⊢
      exact v.val j w h1 h2
  own := fun j w h1 h2 h3 => by
    by_cases e : j = i
    · subst e
      rw [List.getElem?_set_self hi] at h1
      cases h1
      rcases hm with hm | hm
      · rw [hm] at h2; cases h2
      · rw [hm] at h3; cases h3
    · rw [List.getElem?_set_ne (Ne.symm e)] at h1 ⊢
      exact v.own j w h1 h2 h3
  inj := by
    have key : ∀ j n, Own c.M (ρ.set i (some u)) (ρd.set i (some d)) j n → Own c.M ρ ρd j n := by
      rintro j n ⟨h1, ⟨w, h2, h3⟩, h4⟩
      by_cases e : j = i
      · subst e
        rw [List.getElem?_set_self hi] at h2
        cases h2
        rcases hm with hm | hm
        · rw [hm] at h1; cases h1
        · rw [hm] at h3; cases h3
      · rw [List.getElem?_set_ne (Ne.symm e)] at h2 h4
        exact ⟨h1, ⟨w, h2, h3⟩, h4⟩
    exact fun j k n h1 h2 => v.inj j k n (key j n h1) (key k n h2)
  obj := v.obj
  ox := v.ox
  xl := v.xl
  kx := v.kx
  kf := v.kf
  bl := v.bl
/-- a name is forgotten -/
theorem Inv.drop (v : Inv S c ρ H ρd st X O φ) {i : Nat} {ρd' : Env} (hl : ρd'.length = ρd.length) (h : ∀ j, j ≠ i → ρd'[j]? = ρd[j]?) : Inv S c (ρ.set i none) H ρd' st X O φ := by
  have key : ∀ j w, (ρ.set i none)[j]? = some (some w) → j ≠ i ∧ ρ[j]? = some (some w) := fun j w h1 => by
    by_cases e : j = i
    · subst e
      by_cases hi : j < ρ.length
      · rw [List.getElem?_set_self hi] at h1; cases h1
      · rw [List.getElem?_eq_none (by rw [List.length_set]; omega)] at h1; cases h1
    · rw [List.getElem?_set_ne (Ne.symm e)] at h1
      exact ⟨e, h1⟩
  exact {
    len := by rw [List.length_set, hl]; exact v.len
    val := fun j w h1 h2 => by
      obtain ⟨e, h1⟩ := key j w h1
      rw [h j e]; exact v.val j w h1 h2
    own := fun j w h1 h2 h3 => by
      obtain ⟨e, h1⟩ := key j w h1
      rw [h j e]; exact v.own j w h1 h2 h3
    inj := by
      have k2 : ∀ j n, Own c.M (ρ.set i none) ρd' j n → Own c.M ρ ρd j n := by
        rintro j n ⟨h1, ⟨w, h2, h3⟩, h4⟩
        obtain ⟨e, h2⟩ := key j w h2
        rw [h j e] at h4
        exact ⟨h1, ⟨w, h2, h3⟩, h4⟩
      exact fun j k n h1 h2 => v.inj j k n (k2 j n h1) (k2 k n h2)
    obj := v.obj
    ox := v.ox
    xl := v.xl
    kx := v.kx
    kf := v.kf
    bl := v.bl }
theorem Inv.wipe2 (v : Inv S c ρ H ρd st X O φ) : ∀ is : List Nat, Inv S c (wipeU ρ is) H (wipe ρd is) st X O φ
  | [] => v
  | i :: is => (Inv.wipe2 v is).drop (by rw [show wipe ρd (i :: is) = (wipe ρd is).set i none from rfl, List.length_set]) fun j hj => by
      rw [show wipe ρd (i :: is) = (wipe ρd is).set i none from rfl, List.getElem?_set_ne (Ne.symm hj)]
theorem Inv.wipe1 (v : Inv S c ρ H ρd st X O φ) : ∀ is : List Nat, Inv S c (wipeU ρ is) H ρd st X O φ
  | [] => v
  | i :: is => (Inv.wipe1 v is).drop rfl fun j hj => rfl
mutual
theorem asg_rep : ∀ (t : Tg) {u : U} {d : D} {ρ ρ' : EnvU} {ρd : Env}, Inv S c ρ H ρd st X O φ → Rep X φ st u d → asgU c.M t u ρ = some ρ' → ∃ ρd', asg t d ρd st = some ρd' ∧ Inv S c ρ' H ρd' st X O φ ∧ ∀ i, memN i c.M = true → ρd'[i]? = ρd[i]?
  | .nm i, u, d, ρ, ρ', ρd, v, r, h => by
    simp only [asgU] at h
    split at h
    · cases h
    · rename_i hm
      split at h
      · rename_i hi
        cases h
        have hm : memN i c.M = false := by cases hh : memN i c.M with
          | false => rfl
          | true => exact absurd hh hm
        refine ⟨ρd.set i (some d), by simp only [asg]; rw [if_pos (by rw [← v.len]; exact hi)], v.set r (.inl hm) hi, fun j hj => ?_⟩
        rw [List.getElem?_set_ne]
        rintro rfl
        rw [hm] at hj; cases hj
      · cases h
  | .tp ts, u, d, ρ, ρ', ρd, v, r, h => by
    simp only [asgU] at h
    split at h
    · obtain ⟨ds, rfl, q⟩ := RepB.tup (.val r)
      obtain ⟨ρd', h1, h2⟩ := asgs_rep ts v q h
      exact ⟨ρd', by simp only [asg]; exact h1, h2⟩
    · obtain ⟨n, ds, rfl, hc, q⟩ := RepB.lst (.val r)
      obtain ⟨ρd', h1, h2⟩ := asgs_rep ts v q h
      exact ⟨ρd', by simp only [asg, hc]; exact h1, h2⟩
    · cases h
theorem asgs_rep : ∀ (ts : Tgs) {us : List U} {ds : List D} {ρ ρ' : EnvU} {ρd : Env}, Inv S c ρ H ρd st X O φ → Reps X φ st us ds → asgsU c.M ts us ρ = some ρ' → ∃ ρd', asgs ts ds ρd st = some ρd' ∧ Inv S c ρ' H ρd' st X O φ ∧ ∀ i, memN i c.M = true → ρd'[i]? = ρd[i]?
  | .nil, _, _, ρ, ρ', ρd, v, .nil, h => by
    simp only [asgsU] at h
    cases h
    exact ⟨ρd, by simp only [asgs], v, fun _ _ => rfl⟩
  | .nil, _, _, ρ, ρ', ρd, v, .cons _ _, h => by simp [asgsU] at h
  | .cons t ts, _, _, ρ, ρ', ρd, v, .nil, h => by simp [asgsU] at h
  | .cons t ts, _, _, ρ, ρ', ρd, v, .cons r s, h => by
    simp only [asgsU] at h
    split at h
    · rename_i ρ1 h1
      obtain ⟨ρd1, k1, k2, k3⟩ := asg_rep t v r h1
      obtain ⟨ρd2, k4, k5, k6⟩ := asgs_rep ts k2 s h
      exact ⟨ρd2, by simp only [asgs, k1]; exact k4, k5, fun i hi => (k6 i hi).trans (k3 i hi)⟩
    · cases h
end
end
end IP.Q

/-! UaE: what an expression answers by content it answers in a store. -/
namespace IP.Q
open PySem
mutual
def kokE : Ex → Bool
  | .k d => (match d with
    | .str x => PyData.strOk x
    | _ => true)
  | .lc _ => true
  | .bin _ a b => kokE a && kokE b
  | .neg a => kokE a
  | .not a => kokE a
  | .and a b => kokE a && kokE b
  | .or a b => kokE a && kokE b
  | .cmp _ a b => kokE a && kokE b
  | .chn _ _ a b c => kokE a && kokE b && kokE c
  | .isN a => kokE a
  | .notN a => kokE a
  | .ite c a b => kokE c && kokE a && kokE b
  | .call _ es => kokEs es
  | .cal _ es => kokEs es
  | .mth o _ _ _ es => kokE o && kokEs es
  | .bi _ e => kokE e
  | .lset e => kokE e
  | .bm _ o es => kokE o && kokEs es
  | .isT e _ => kokE e
  | .isX e _ => kokE e
  | .fld o _ => kokE o
  | .ix a b => kokE a && kokE b
  | .sl a l h => kokE a && kokO l && kokO h
  | .lst es => kokEs es
  | .tup es => kokEs es
  | .dct ps => kokPs ps
  | .comp e _ it c _ => kokE e && kokI it && kokO c
def kokEs : Exs → Bool
  | .nil => true
  | .cons e es => kokE e && kokEs es
def kokPs : Exps → Bool
  | .nil => true
  | .cons k v ps => kokE k && kokE v && kokPs ps
def kokO : Exo → Bool
  | .none => true
  | .some e => kokE e
def kokI : Itr → Bool
  | .val e => kokE e
  | .rng a => kokE a
  | .rng2 a b => kokE a && kokE b
  | .enm e => kokE e
  | .zip a b => kokE a && kokE b
end
section
variable {Ob : Type} {cn : Str}
def OI (S : ObS Ob cn) (K : Nat → Prop) (H : List Ob) (X O : Nat → Prop) (φ : List Nat) (st : Sto) : Prop := S.OR H φ st O ∧ (∀ n, O n → X n ∧ ¬ K n) ∧ ∀ n, X n → n < st.length
def ResC (S : ObS Ob cn) (K X : Nat → Prop) (φ : List Nat) (st : Sto) : RC Ob → R D → Prop
  | .bad, _ => True
  | .ok u H', .ok d st' => ∃ X' O' φ', Fr st.length K X φ st X' φ' st' ∧ OI S K H' X' O' φ' st' ∧ Rep X' φ' st' u d
  | .exc x H', .exc y st' => ∃ X' O' φ', Fr st.length K X φ st X' φ' st' ∧ OI S K H' X' O' φ' st' ∧ ExR X' φ' st' x y
  | _, _ => False
def CallS (S : ObS Ob cn) (C : Str → List U → List Ob → RC Ob) (Cd : Str → List D → Sto → R D) : Prop :=
  ∀ (f : Str) (us : List U) (H : List Ob) (ds : List D) (st : Sto) (X O : Nat → Prop) (φ : List Nat) (K : Nat → Prop), Reps X φ st us ds → OI S K H X O φ st → (∀ n, K n → X n) → ResC S K X φ st (C f us H) (Cd f ds st)
variable {S : ObS Ob cn} {C : Str → List U → List Ob → RC Ob} {Cd : Str → List D → Sto → R D}
section
variable {c : Cx} {ρ ρ' ρ1 ρ2 : EnvU} {H H' : List Ob} {ρd ρd' : Env} {st st' : Sto} {X X' O O' : Nat → Prop} {φ φ' : List Nat}
theorem Inv.lockAll (v : Inv S c ρ H ρd st X O φ) : Inv S ⟨c.M, c.M, c.b, c.Kf, Kc c ρ ρd⟩ ρ H ρd st X O φ where
  len := v.len
  val := v.val
  own := fun i u h1 h2 h3 => by
    obtain ⟨n, cl, k1, k2, k3, k4, k5, k6, k7, k8⟩ := v.own i u h1 h2 h3
    exact ⟨n, cl, k1, k2, k3, k4, k5, k6, k7, fun z => by rw [show memN i c.M = true from h2] at z; cases z⟩
  inj := v.inj
  obj := v.obj
  ox := fun n h => ⟨(v.ox n h).1, v.kc_o h⟩
  xl := v.xl
  kx := fun n h => v.kc_x h
  kf := fun n h => ⟨.inl (v.kf n h).1, (v.kf n h).2⟩
  bl := v.bl
theorem call_res (hC : CallS S C Cd) (v : Inv S c ρ H ρd st X O φ) {f : Str} {us : List U} {ds : List D} (r : Reps X φ st us ds) : ResE S c ρd X φ st QV (ofC (C f us H) ρ) (Cd f ds st) := by
  have h := hC f us H ds st X O φ (Kc c ρ ρd) r ⟨v.obj, fun n hn => ⟨(v.ox n hn).1, v.kc_o hn⟩, v.xl⟩ fun n hn => v.kc_x hn
  cases hu : C f us H with
  | bad => exact trivial
  | ok u H' =>
    rw [hu] at h
    cases hd : Cd f ds st with
    | ok d st' =>
      rw [hd] at h
      obtain ⟨X', O', φ', h1, ⟨h2, h3, h4⟩, h5⟩ := h
      exact ⟨X', O', φ', h1.le (Nat.le_refl _) fun n _ z => .inl z, v.frame h1 (fun n z => z) h2 h3 h4, h5⟩
    | _ => rw [hd] at h; exact h.elim
  | exc x H' =>
    rw [hu] at h
    cases hd : Cd f ds st with
    | exc y st' =>
      rw [hd] at h
      obtain ⟨X', O', φ', h1, ⟨h2, h3, h4⟩, h5⟩ := h
      exact ⟨X', O', φ', h1.le (Nat.le_refl _) fun n _ z => .inl z, v.frame h1 (fun n z => z) h2 h3 h4, h5⟩
    | _ => rw [hd] at h; exact h.elim
theorem nonU_rep {u : U} {d : D} (r : RepB X φ st u d) : decide (d = .non) = isNonU u := by
  cases u with
  | non => rw [r.non]; rfl
  | bl b => rw [r.bl]; rfl
  | int b => rw [r.int]; rfl
  | str b => rw [r.str.1]; rfl
  | tup b => obtain ⟨ds, e, _⟩ := r.tup; rw [e]; rfl
  | lst b => obtain ⟨n, ds, e, _⟩ := r.lst; rw [e]; rfl
  | dic k b => obtain ⟨n, ds, e, _⟩ := r.dic; rw [e]; rfl
  | obj b => obtain ⟨ds, e, _⟩ := r.obj; rw [e]; rfl
  | ro b => rw [r.ro]; rfl
  | fn b => rw [r.fn]; rfl
  | exn b w =>
    cases r with
    | val r => cases r with
      | exn _ => rfl
      | box _ _ r => cases r
    | own _ r => cases r
theorem bor_sound {a : Ex} (h : ResE S c ρd X φ st QV (eu C cn c.M c.L a ρ H) (ev Cd a ρd st)) (v : Inv S c ρ H ρd st X O φ) : ResE S c ρd X φ st (BQ a ρd) (bor a (eu C cn c.M c.L a ρ H) ρ H) (ev Cd a ρd st) := by
  have key : (∀ i, a ≠ .lc i) → ResE S c ρd X φ st (BQ a ρd) (eu C cn c.M c.L a ρ H) (ev Cd a ρd st) := fun hne => ResG.mono h (fun u ρ H d st ⟨X', O', φ', h1, h2, h3⟩ => ⟨X', O', φ', h1, h2, .val h3, fun i hi => absurd hi (hne i), .inr h3⟩) fun _ _ _ _ _ z => z
  cases a <;> try exact key fun i hi => nomatch hi
  rename_i i
  simp only [bor, lookU, ev]
  cases hi : ρ[i]? with
  | none => exact trivial
  | some o =>
    cases o with
    | none => exact trivial
    | some u =>
      obtain ⟨d, h1, h2⟩ := v.look hi
      simp only [h1]
      exact .now v ⟨h2, fun j hj => by cases hj; exact ⟨hi, h1⟩, .inl ⟨i, rfl⟩⟩
/-! ### comprehensions -/
theorem watch_move {w : Watch} {K : Nat → Prop} (f : Fr st.length K X φ st X' φ' st') (h : ∀ p ∈ w, st[p.1]? = some p.2 ∧ (¬ X p.1 ∨ K p.1)) : (∀ p ∈ w, st'[p.1]? = some p.2 ∧ (¬ X' p.1 ∨ K p.1)) ∧ okW w st' = true := by
  have : ∀ p ∈ w, st'[p.1]? = some p.2 ∧ (¬ X' p.1 ∨ K p.1) := fun p hp => by
    obtain ⟨h1, h2⟩ := h p hp
    have hn := lt_of_some h1
    rcases h2 with h2 | h2
    · exact ⟨(f.keep _ hn h2).trans h1, .inl fun z => h2 ((f.x _ hn).mp z)⟩
    · exact ⟨(f.kk _ hn h2).trans h1, .inr h2⟩
  refine ⟨this, ?_⟩
  unfold okW
  rw [List.all_eq_true]
  exact fun p hp => decide_eq_true (this p hp).1
def CompS (S : ObS Ob cn) (c : Cx) (ρ : EnvU) (ρd : Env) (fU : U → List Ob → Option (Option U × List Ob)) (fD : D → Sto → R (Option D)) : Prop :=
  ∀ (u : U) (d : D) (H : List Ob) (st : Sto) (X O : Nat → Prop) (φ : List Nat), Inv S c ρ H ρd st X O φ → Rep X φ st u d → match fU u H with
    | none => True
    | some (oy, H') => ∃ od st' X' O' φ', fD d st = .ok od st' ∧ Fr st.length (Kc c ρ ρd) X φ st X' φ' st' ∧ Inv S c ρ H' ρd st' X' O' φ' ∧ match oy, od with
      | some y, some e => Rep X' φ' st' y e
      | none, none => True
      | _, _ => False
theorem comp_sound {fU : U → List Ob → Option (Option U × List Ob)} {fD : D → Sto → R (Option D)} (hf : CompS S c ρ ρd fU fD) {w : Watch} : ∀ (us : List U) (ds : List D) (acc : List U) (accd : List D) (H : List Ob) (st : Sto) (X O : Nat → Prop) (φ : List Nat) (ys : List U) (H' : List Ob),
    Inv S c ρ H ρd st X O φ → Reps X φ st us ds → Reps X φ st acc accd → (∀ p ∈ w, st[p.1]? = some p.2 ∧ (¬ X p.1 ∨ Kc c ρ ρd p.1)) → compU fU us acc H = some (ys, H') →
    ∃ es st' X' O' φ', compL fD w ds accd st = .ok es st' ∧ Fr st.length (Kc c ρ ρd) X φ st X' φ' st' ∧ Inv S c ρ H' ρd st' X' O' φ' ∧ Reps X' φ' st' ys es
  | [], _, acc, accd, H, st, X, O, φ, ys, H', v, .nil, ra, hw, h => by
    simp only [compU] at h
    cases h
    exact ⟨accd, st, X, O, φ, rfl, Fr.refl, v, ra⟩
  | u :: us, _, acc, accd, H, st, X, O, φ, ys, H', v, .cons (d := d) (ds := ds) r s, ra, hw, h => by
    have h1 := hf u d H st X O φ v r
    simp only [compU] at h
    split at h
    · rename_i y H1 hy
      rw [hy] at h1
      obtain ⟨od, s1, X1, O1, φ1, e1, f1, v1, q1⟩ := h1
      cases od with
      | none => exact q1.elim
      | some e =>
        rw [ra.len] at h
        split at h
        · rename_i hl
          obtain ⟨hw1, hok⟩ := watch_move f1 hw
          obtain ⟨es, s2, X2, O2, φ2, e2, f2, v2, q2⟩ := comp_sound hf us ds _ (accd ++ [e]) H1 s1 X1 O1 φ1 ys H' v1 (s.mono f1) ((ra.mono f1).append (.one q1)) hw1 h
          exact ⟨es, s2, X2, O2, φ2, by simp only [compL, e1, hok, hl, decide_true, Bool.and_self, if_true]; exact e2, tr f1 f2, v2, q2⟩
        · cases h
    · rename_i H1 hy
      rw [hy] at h1
      obtain ⟨od, s1, X1, O1, φ1, e1, f1, v1, q1⟩ := h1
      cases od with
      | some e => exact q1.elim
      | none =>
        obtain ⟨hw1, hok⟩ := watch_move f1 hw
        obtain ⟨es, s2, X2, O2, φ2, e2, f2, v2, q2⟩ := comp_sound hf us ds _ accd H1 s1 X1 O1 φ1 ys H' v1 (s.mono f1) (ra.mono f1) hw1 h
        exact ⟨es, s2, X2, O2, φ2, by simp only [compL, e1, hok, if_true]; exact e2, tr f1 f2, v2, q2⟩
    · cases h
end
/-- what an iterator answers -/
def QI (c : Cx) (it : Itr) (ρd : Env) : EnvU → (Nat → Prop) → List Nat → Sto → List U → List D × Watch → Prop := fun ρ' X φ st us p => Reps X φ st us p.1 ∧ (∀ q ∈ p.2, st[q.1]? = some q.2 ∧ (¬ X q.1 ∨ ∃ i, memN i (lockI it) = true ∧ Own c.M ρ' ρd i q.1)) ∧ ∀ i, i ∈ lockI it → ∃ u, ρ'[i]? = some (some u) ∧ walkU u ≠ none
theorem memN_self {i : Nat} {l : List Nat} (h : i ∈ l) : memN i l = true := by
  induction l with
  | nil => cases h
  | cons j js ih =>
    simp only [memN]
    rcases List.mem_cons.mp h with rfl | h
    · simp
    · rw [ih h, Bool.or_true]
theorem memN_iff {i : Nat} {l : List Nat} : memN i l = true ↔ i ∈ l := by
  constructor
  · intro h
    induction l with
    | nil => cases h
    | cons j js ih =>
      simp only [memN, Bool.or_eq_true] at h
      rcases h with h | h
      · exact List.mem_cons.mpr (.inl (by simpa using h))
      · exact List.mem_cons_of_mem _ (ih h)
  · exact memN_self
theorem seq_walk {u : U} {us : List U} (h : seqU u = some us) : walkU u ≠ none := by
  unfold seqU at h
  split at h <;> first | (simp [walkU]; done) | cases h
theorem lock_ok {a : Ex} {ρ : EnvU} {ρd : Env} {X : Nat → Prop} {φ : List Nat} {st : Sto} {u : U} {d : D} (h : BQ a ρd ρ X φ st u d) (hu : walkU u ≠ none) : ∀ i, i ∈ lockE a → ∃ u, ρ[i]? = some (some u) ∧ walkU u ≠ none := by
  intro i hi
  cases a <;> simp [lockE] at hi
  subst hi
  exact ⟨u, (h.2.1 _ rfl).1, hu⟩
theorem watch_own {c : Cx} {a : Ex} {ρ : EnvU} {H : List Ob} {ρd : Env} {st : Sto} {X O : Nat → Prop} {φ : List Nat} {u : U} {d : D} {ds : List D} {w : Watch} {l : List Nat} (v : Inv S c ρ H ρd st X O φ) (hl : ∀ i ∈ lockE a, i ∈ l) (h : BQ a ρd ρ X φ st u d) (hw : WatchOk st d ds w) : ∀ q ∈ w, st[q.1]? = some q.2 ∧ (¬ X q.1 ∨ ∃ i, memN i l = true ∧ Own c.M ρ ρd i q.1) := by
  intro q hq
  rcases hw with rfl | ⟨n, rfl, rfl, hc⟩
  · cases hq
  · rw [List.mem_singleton.mp hq]
    refine ⟨hc, ?_⟩
    have hnr : ∀ {u : U}, Rep X φ st u (.ref n) → ¬ X n ∨ ∃ m, u = .obj m := fun r => by
      cases r with
      | box h _ _ => exact .inl h
      | obj _ => exact .inr ⟨_, rfl⟩
    have hno : Rep X φ st u (.ref n) → ¬ X n := fun r => by
      rcases hnr r with h | ⟨m, rfl⟩
      · exact h
      · obtain ⟨a', e1, e2⟩ := RepB.obj (.val r)
        cases e1
        obtain ⟨fs, e3⟩ := S.cls v.obj e2
        rw [hc] at e3; cases e3
    rcases h.2.2 with ⟨i, rfl⟩ | h2
    · obtain ⟨h1, h2⟩ := h.2.1 i rfl
      by_cases hm : memN i c.M = false ∨ noRef u = true
      · obtain ⟨d', k1, k2⟩ := v.val i u h1 hm
        rw [h2] at k1; cases k1
        exact .inl (hno k2)
      · have k1 : memN i c.M = true := by cases hh : memN i c.M with
          | true => rfl
          | false => exact absurd (.inl hh) hm
        have k2 : noRef u = false := by cases hh : noRef u with
          | false => rfl
          | true => exact absurd (.inr hh) hm
        exact .inr ⟨i, memN_self (hl i (by simp [lockE])), k1, ⟨u, h1, k2⟩, h2⟩
    · exact .inl (hno h2)
end
end IP.Q

/-! UaF: expressions: by content and in a store. -/
namespace IP.Q
open PySem
section
variable {Ob : Type} {cn : Str} {S : ObS Ob cn} {C : Str → List U → List Ob → RC Ob} {Cd : Str → List D → Sto → R D}
section
variable {c : Cx} {ρ ρ' ρ1 ρ2 : EnvU} {H H' : List Ob} {ρd ρd' : Env} {st st' : Sto} {X X' O O' : Nat → Prop} {φ φ' : List Nat}
theorem isDic_rep {u : U} {d : D} (r : RepB X φ st u d) (h : isDicU u = true) : isDct d st = true := by
  cases u <;> simp [isDicU] at h
  obtain ⟨n, es, rfl, hc, _⟩ := r.dic
  simp only [isDct, hc]
theorem isLst_rep {u : U} {d : D} (r : RepB X φ st u d) (h : isLstU u = true) : isLst d st = true := by
  cases u <;> simp [isLstU] at h
  obtain ⟨n, es, rfl, hc, _⟩ := r.lst
  simp only [isLst, hc]
/-- a list of one's own is written -/
theorem Inv.write (v : Inv S c ρ H ρd st X O φ) {i n : Nat} {u u' : U} {cl' : Cell} (h1 : ρ[i]? = some (some u)) (hm : memN i c.M = true) (hL : memN i c.L = false) (hu : noRef u = false) (hd : ρd[i]? = some (some (.ref n))) (r : RepC X φ st u' cl') (hu' : noRef u' = false) :
    Fr st.length c.K X φ st X φ (st.set n cl') ∧ Inv S c (ρ.set i (some u')) H ρd (st.set n cl') X O φ := by
  have ho : Own c.M ρ ρd i n := ⟨hm, ⟨u, h1, hu⟩, hd⟩
  obtain ⟨u0, cl0, k0, k1, k2, k3, k4, k5, k6, k7, k8⟩ := v.own_at ho
  have hlt := v.xl n k4
  have f : Fr st.length c.K X φ st X φ (st.set n cl') := ⟨by rw [List.length_set]; exact Nat.le_refl _, fun _ _ => Iff.rfl, fun m _ hx => by rw [List.getElem?_set_ne]; rintro rfl; exact hx k4, fun m _ hx => by rw [List.getElem?_set_ne]; rintro rfl; exact k8 hL hx, [], by simp⟩
  have hi : i < ρ.length := lt_of_some h1
  refine ⟨f, ?_⟩
  exact {
    len := by rw [List.length_set]; exact v.len
    val := fun j w e1 e2 => by
      by_cases e : j = i
      · subst e
        rw [List.getElem?_set_self hi] at e1
        cases e1
        rcases e2 with e2 | e2
        · rw [hm] at e2; cases e2
        · rw [hu'] at e2; cases e2
      · rw [List.getElem?_set_ne (Ne.symm e)] at e1
        obtain ⟨d, q1, q2⟩ := v.val j w e1 e2
        exact ⟨d, q1, q2.mono f⟩
    own := fun j w e1 e2 e3 => by
      by_cases e : j = i
      · subst e
        rw [List.getElem?_set_self hi] at e1
        cases e1
        exact ⟨n, cl', hd, List.getElem?_set_self hlt, r.mono f, k4, k5, k6, k7, k8⟩
      · rw [List.getElem?_set_ne (Ne.symm e)] at e1
        obtain ⟨m, cl, q1, q2, q3, q4, q5, q6, q7, q8⟩ := v.own j w e1 e2 e3
        refine ⟨m, cl, q1, ?_, q3.mono f, q4, q5, q6, q7, q8⟩
        rw [List.getElem?_set_ne]
        · exact q2
        · rintro rfl
          exact e (v.inj j i n ⟨e2, ⟨w, e1, e3⟩, q1⟩ ho)
    inj := by
      have key : ∀ j m, Own c.M (ρ.set i (some u')) ρd j m → Own c.M ρ ρd j m := by
        rintro j m ⟨e1, ⟨w, e2, e3⟩, e4⟩
        by_cases e : j = i
        · subst e
          exact ⟨e1, ⟨u, h1, hu⟩, e4⟩
        · rw [List.getElem?_set_ne (Ne.symm e)] at e2
          exact ⟨e1, ⟨w, e2, e3⟩, e4⟩
      exact fun j k m e1 e2 => v.inj j k m (key j m e1) (key k m e2)
    obj := S.loc v.obj fun m hm' => by
      rw [List.getElem?_set_ne]
      rintro rfl
      exact k5 hm'
    ox := v.ox
    xl := fun m hm' => by rw [List.length_set]; exact v.xl m hm'
    kx := v.kx
    kf := v.kf
    bl := by rw [List.length_set]; exact v.bl }
theorem comp_end {fU : U → List Ob → Option (Option U × List Ob)} {fD : D → Sto → R (Option D)} (hf : CompS S c ρ ρd fU fD) {us : List U} {p : List D × Watch} (v : Inv S c ρ H ρd st X O φ) (r : Reps X φ st us p.1) (hw : ∀ q ∈ p.2, st[q.1]? = some q.2 ∧ (¬ X q.1 ∨ Kc c ρ ρd q.1)) :
    ResP S c ρd X φ st (match compU fU us [] H with
      | some (ys, H2) => .ok (.lst ys) ρ H2
      | none => .bad) ((compL fD p.2 p.1 [] st).bind fun ys st2 => .ok (.ref st2.length) (st2 ++ [.lst ys])) := by
  cases hu : compU fU us [] H with
  | none => exact trivial
  | some r' =>
    obtain ⟨ys, H2⟩ := r'
    obtain ⟨es, s2, X2, O2, φ2, e2, f2, v2, q2⟩ := comp_sound hf us p.1 [] [] H st X O φ ys H2 v r .nil hw hu
    rw [e2]
    exact ⟨s2, X2, O2, φ2, f2.le (Nat.le_refl _) (fun n _ z => .inl z), v2, .inr ⟨_, rfl, rfl, .lst q2⟩⟩
theorem mutU_len {m : Bm} {us us' vs : List U} {v : U} (h : mutU m us vs = some (v, us')) : True := trivial
end
theorem nofr {P : Prop} {b : Bool} (h : b = false) : b = true → P := fun z => by rw [h] at z; cases z
def SE (S : ObS Ob cn) (C : Str → List U → List Ob → RC Ob) (Cd : Str → List D → Sto → R D) (e : Ex) : Prop := ∀ ⦃c : Cx⦄ ⦃ρ : EnvU⦄ ⦃H : List Ob⦄ ⦃ρd : Env⦄ ⦃st : Sto⦄ ⦃X O : Nat → Prop⦄ ⦃φ : List Nat⦄, Inv S c ρ H ρd st X O φ →
  ResE S c ρd X φ st QV (eu C cn c.M c.L e ρ H) (ev Cd e ρd st) ∧ (freshE e = true → ResP S c ρd X φ st (eu C cn c.M c.L e ρ H) (ev Cd e ρd st))
def SEs (S : ObS Ob cn) (C : Str → List U → List Ob → RC Ob) (Cd : Str → List D → Sto → R D) (e : Exs) : Prop := ∀ ⦃c : Cx⦄ ⦃ρ : EnvU⦄ ⦃H : List Ob⦄ ⦃ρd : Env⦄ ⦃st : Sto⦄ ⦃X O : Nat → Prop⦄ ⦃φ : List Nat⦄, Inv S c ρ H ρd st X O φ →
  ResE S c ρd X φ st QVs (eus C cn c.M c.L e ρ H) (evs Cd e ρd st)
abbrev QQ {α : Type} : EnvU → (Nat → Prop) → List Nat → Sto → α → α → Prop := fun _ _ _ _ u d => u = d
def SEo (S : ObS Ob cn) (C : Str → List U → List Ob → RC Ob) (Cd : Str → List D → Sto → R D) (e : Exo) : Prop := ∀ ⦃c : Cx⦄ ⦃ρ : EnvU⦄ ⦃H : List Ob⦄ ⦃ρd : Env⦄ ⦃st : Sto⦄ ⦃X O : Nat → Prop⦄ ⦃φ : List Nat⦄, Inv S c ρ H ρd st X O φ →
  ResE S c ρd X φ st QQ (euo C cn c.M c.L e ρ H) (evo Cd e ρd st) ∧ ResE S c ρd X φ st QQ (euc C cn c.M c.L e ρ H) (evc Cd e ρd st)
def SEi (S : ObS Ob cn) (C : Str → List U → List Ob → RC Ob) (Cd : Str → List D → Sto → R D) (e : Itr) : Prop := ∀ ⦃c : Cx⦄ ⦃ρ : EnvU⦄ ⦃H : List Ob⦄ ⦃ρd : Env⦄ ⦃st : Sto⦄ ⦃X O : Nat → Prop⦄ ⦃φ : List Nat⦄, Inv S c ρ H ρd st X O φ →
  ResE S c ρd X φ st (QI c e ρd) (eui C cn c.M c.L e ρ H) (evi Cd e ρd st)
def SEd (S : ObS Ob cn) (C : Str → List U → List Ob → RC Ob) (Cd : Str → List D → Sto → R D) (e : Exps) : Prop := ∀ ⦃c : Cx⦄ ⦃ρ : EnvU⦄ ⦃H : List Ob⦄ ⦃ρd : Env⦄ ⦃st : Sto⦄ ⦃X O : Nat → Prop⦄ ⦃φ : List Nat⦄, Inv S c ρ H ρd st X O φ →
  match eud C cn c.M c.L e ρ H with
  | .bad => True
  | .ok a ρ' H' => ∃ qs st' X' O' φ', (∀ acc, evd Cd e acc ρd st = evd Cd .nil (acc ++ qs) ρd st') ∧ Fr st.length c.K X φ st X' φ' st' ∧ Inv S c ρ' H' ρd st' X' O' φ' ∧ Reps X' φ' st' a.1 (qs.map (·.1)) ∧ Reps X' φ' st' a.2 (qs.map (·.2))
  | .exc x ρ' H' => ∃ y st', (∀ acc, evd Cd e acc ρd st = .exc y st') ∧ EE S c ρd X φ st x ρ' H' y st'
theorem ifbad {α : Type} {b : Bool} {r : RU Ob α} {P : RU Ob α → Prop} (h : b = true → P r) (hb : P .bad) : P (if b then r else .bad) := by
  cases b with
  | true => exact h rfl
  | false => exact hb
mutual
theorem eu_sound (hC : CallS S C Cd) : ∀ e : Ex, kokE e = true → SE S C Cd e
  | .k d, hk => fun c ρ H ρd st X O φ v => ⟨by
      simp only [eu, ev]
      refine ResE.op v fun w hw => ⟨d, rfl, ofD_rep hw fun x hx => ?_⟩
      subst hx
      simpa [kokE] using hk, nofr rfl⟩
  | .lc i, hk => fun c ρ H ρd st X O φ v => ⟨by
      simp only [eu, ev]
      cases hm : memN i c.M with
      | true => exact trivial
      | false =>
        simp only [lookU]
        cases hi : ρ[i]? with
        | none => exact trivial
        | some o => cases o with
          | none => exact trivial
          | some u =>
            obtain ⟨d, h1, h2⟩ := v.val i u hi (.inl hm)
            simp only [h1]
            exact ResE.now v h2, nofr rfl⟩
  | .bin o a b, hk => fun c ρ H ρd st X O φ v => by
      simp only [kokE, Bool.and_eq_true] at hk
      have : ResP S c ρd X φ st (eu C cn c.M c.L (.bin o a b) ρ H) (ev Cd (.bin o a b) ρd st) := by
        simp only [eu, ev]
        refine ResE.bindP (bor_sound (eu_sound hC a hk.1 v).1 v) fun x d ρ1 H1 s1 X1 O1 φ1 f1 v1 q1 => ?_
        refine ResE.bindP (bor_sound (eu_sound hC b hk.2 v1).1 v1) fun y e ρ2 H2 s2 X2 O2 φ2 f2 v2 q2 => ?_
        cases hs : same a ρ1 ρ2 with
        | false => exact trivial
        | true => exact ResP.op v2 fun w hw => bin_rep (q1.move f2 v2 hs).1 q2.1 hw
      exact ⟨this.toE, fun _ => this⟩
  | .neg a, hk => fun c ρ H ρd st X O φ v => ⟨by
      simp only [eu, ev]
      refine ResE.bindE (eu_sound hC a (by simpa [kokE] using hk) v).1 fun x d ρ1 H1 s1 X1 O1 φ1 f1 v1 q1 => ?_
      cases x <;> try exact trivial
      rw [RepB.int (.val q1)]
      exact ResE.now v1 (.int _), nofr rfl⟩
  | .not a, hk => fun c ρ H ρd st X O φ v => ⟨by
      simp only [eu, ev]
      refine ResE.bindE (eu_sound hC a (by simpa [kokE] using hk) v).1 fun x d ρ1 H1 s1 X1 O1 φ1 f1 v1 q1 => ?_
      cases x <;> try exact trivial
      rw [RepB.bl (.val q1)]
      exact ResE.now v1 (.bl _), nofr rfl⟩
  | .and a b, hk => fun c ρ H ρd st X O φ v => ⟨by
      simp only [kokE, Bool.and_eq_true] at hk
      simp only [eu, ev]
      refine ResE.bindE (eu_sound hC a hk.1 v).1 fun x d ρ1 H1 s1 X1 O1 φ1 f1 v1 q1 => ?_
      cases x <;> try exact trivial
      rename_i z
      rw [RepB.bl (.val q1)]
      cases z with
      | true => exact (eu_sound hC b hk.2 v1).1
      | false => exact ResE.now v1 (.bl _), nofr rfl⟩
  | .or a b, hk => fun c ρ H ρd st X O φ v => ⟨by
      simp only [kokE, Bool.and_eq_true] at hk
      simp only [eu, ev]
      refine ResE.bindE (eu_sound hC a hk.1 v).1 fun x d ρ1 H1 s1 X1 O1 φ1 f1 v1 q1 => ?_
      cases x <;> try exact trivial
      rename_i z
      rw [RepB.bl (.val q1)]
      cases z with
      | false => exact (eu_sound hC b hk.2 v1).1
      | true => exact ResE.now v1 (.bl _), nofr rfl⟩
  | .cmp o a b, hk => fun c ρ H ρd st X O φ v => ⟨by
      simp only [kokE, Bool.and_eq_true] at hk
      simp only [eu, ev]
      refine ResE.bindE (bor_sound (eu_sound hC a hk.1 v).1 v) fun x d ρ1 H1 s1 X1 O1 φ1 f1 v1 q1 => ?_
      refine ResE.bindE (bor_sound (eu_sound hC b hk.2 v1).1 v1) fun y e ρ2 H2 s2 X2 O2 φ2 f2 v2 q2 => ?_
      cases hs : same a ρ1 ρ2 with
      | false => exact trivial
      | true => exact ResE.opB v2 fun w hw => cmp_rep (q1.move f2 v2 hs).1 q2.1 hw, nofr rfl⟩
  | .chn o p a b e, hk => fun c ρ H ρd st X O φ v => ⟨by
      simp only [kokE, Bool.and_eq_true] at hk
      simp only [eu, ev]
      refine ResE.bindE (eu_sound hC a hk.1.1 v).1 fun x d ρ1 H1 s1 X1 O1 φ1 f1 v1 q1 => ?_
      refine ResE.bindE (eu_sound hC b hk.1.2 v1).1 fun y d2 ρ2 H2 s2 X2 O2 φ2 f2 v2 q2 => ?_
      cases hc : cmpU o x y with
      | none => exact trivial
      | some z =>
        rw [cmp_rep (.val (q1.mono f2)) (.val q2) hc]
        cases z with
        | false => exact ResE.now v2 (.bl _)
        | true =>
          refine ResE.bindE (eu_sound hC e hk.2 v2).1 fun z d3 ρ3 H3 s3 X3 O3 φ3 f3 v3 q3 => ?_
          exact ResE.opB v3 fun w hw => cmp_rep (.val (q2.mono f3)) (.val q3) hw, nofr rfl⟩
  | .isN a, hk => fun c ρ H ρd st X O φ v => ⟨by
      simp only [eu, ev]
      refine ResE.bindE (bor_sound (eu_sound hC a (by simpa [kokE] using hk) v).1 v) fun x d ρ1 H1 s1 X1 O1 φ1 f1 v1 q1 => ?_
      rw [nonU_rep q1.1]
      exact ResE.now v1 (.bl _), nofr rfl⟩
  | .notN a, hk => fun c ρ H ρd st X O φ v => ⟨by
      simp only [eu, ev]
      refine ResE.bindE (bor_sound (eu_sound hC a (by simpa [kokE] using hk) v).1 v) fun x d ρ1 H1 s1 X1 O1 φ1 f1 v1 q1 => ?_
      rw [nonU_rep q1.1]
      exact ResE.now v1 (.bl _), nofr rfl⟩
  | .ite e a b, hk => fun c ρ H ρd st X O φ v => ⟨by
      simp only [kokE, Bool.and_eq_true] at hk
      simp only [eu, ev]
      refine ResE.bindE (eu_sound hC e hk.1.1 v).1 fun x d ρ1 H1 s1 X1 O1 φ1 f1 v1 q1 => ?_
      cases x <;> try exact trivial
      rename_i z
      rw [RepB.bl (.val q1)]
      cases z with
      | true => exact (eu_sound hC a hk.1.2 v1).1
      | false => exact (eu_sound hC b hk.2 v1).1, nofr rfl⟩
  | .call f es, hk => fun c ρ H ρd st X O φ v => ⟨by
      simp only [eu, ev]
      refine ResE.bindE (eus_sound hC es (by simpa [kokE] using hk) v) fun x d ρ1 H1 s1 X1 O1 φ1 f1 v1 q1 => ?_
      exact call_res hC v1 q1, nofr rfl⟩
  | .cal i es, hk => fun c ρ H ρd st X O φ v => ⟨by
      simp only [eu, ev]
      cases hi : ρ[i]? with
      | none => exact trivial
      | some o => cases o with
        | none => exact trivial
        | some u =>
          cases u <;> try exact trivial
          rename_i f
          obtain ⟨d, h1, h2⟩ := v.look hi
          rw [h2.fn] at h1
          simp only [h1]
          refine ResE.bindE (eus_sound hC es (by simpa [kokE] using hk) v) fun x d ρ1 H1 s1 X1 O1 φ1 f1 v1 q1 => ?_
          exact call_res hC v1 q1, nofr rfl⟩
  | .mth o Cn m f es, hk => fun c ρ H ρd st X O φ v => ⟨by
      simp only [kokE, Bool.and_eq_true] at hk
      simp only [eu, ev]
      refine ResE.bindE (eu_sound hC o hk.1 v).1 fun x d ρ1 H1 s1 X1 O1 φ1 f1 v1 q1 => ?_
      cases x <;> try exact trivial
      rename_i k
      obtain ⟨a, rfl, ha⟩ := RepB.obj (.val q1)
      obtain ⟨fs, hf⟩ := S.cls v1.obj ha
      simp only [hf]
      by_cases hcn : cn = Cn
      · rw [if_pos hcn, if_pos hcn]
        refine ResE.bindE (eus_sound hC es hk.2 v1) fun x d ρ2 H2 s2 X2 O2 φ2 f2 v2 q2 => ?_
        exact call_res hC v2 (.cons (q1.mono f2) q2)
      · rw [if_neg hcn]; exact trivial, nofr rfl⟩
  | .bi b a, hk => fun c ρ H ρd st X O φ v => by
      have : ResP S c ρd X φ st (eu C cn c.M c.L (.bi b a) ρ H) (ev Cd (.bi b a) ρd st) := by
        simp only [eu, ev]
        refine ResE.bindP (bor_sound (eu_sound hC a (by simpa [kokE] using hk) v).1 v) fun x d ρ1 H1 s1 X1 O1 φ1 f1 v1 q1 => ?_
        exact ResP.op v1 fun w hw => bi_rep q1.1 hw
      exact ⟨this.toE, fun _ => this⟩
  | .lset a, hk => fun c ρ H ρd st X O φ v => ⟨by
      simp only [eu, ev]
      refine ResE.bindE (bor_sound (eu_sound hC a (by simpa [kokE] using hk) v).1 v) fun x d ρ1 H1 s1 X1 O1 φ1 f1 v1 q1 => ?_
      exact ResE.op v1 fun w hw => ⟨_, (lset_rep q1.1 hw).1, (lset_rep q1.1 hw).2⟩, nofr rfl⟩
  | .bm m o es, hk => fun c ρ H ρd st X O φ v => ⟨by
      simp only [kokE, Bool.and_eq_true] at hk
      have mt : ∀ m : Bm, rcv m = isLst → ResE S c ρd X φ st QV (match (generalizing := false) o with
          | .lc i => if memN i c.M && !memN i c.L then (match ρ[i]? with
            | some (some (.lst _)) => (eus C cn c.M c.L es ρ H).bind fun vs ρ1 H1 => match ρ1[i]? with
              | some (some (.lst us)) => (match mutU m us vs with
                | some (v, us') => .ok v (ρ1.set i (some (.lst us'))) H1
                | none => .bad)
              | _ => .bad
            | _ => .bad) else .bad
          | _ => .bad) ((ev Cd o ρd st).bind fun x st1 => if rcv m x st1 then (evs Cd es ρd st1).bind fun ds st2 => bmD m x ds st2 else .bad) := by
        intro m hrc
        cases o <;> try exact trivial
        rename_i i
        dsimp only
        cases hm : memN i c.M with
        | false => exact trivial
        | true =>
          cases hL : memN i c.L with
          | true => exact trivial
          | false =>
            simp only [Bool.not_false, Bool.and_self, if_true]
            cases hi : ρ[i]? with
            | none => exact trivial
            | some o => cases o with
              | none => exact trivial
              | some u =>
                cases u <;> try exact trivial
                rename_i us0
                obtain ⟨n, cl, k1, k2, k3, _⟩ := v.own i _ hi hm rfl
                have e1 : ev Cd (.lc i) ρd st = .ok (.ref n) st := by simp only [ev, k1]
                have e2 : isLst (.ref n) st = true := isLst_rep (.own k2 k3) rfl
                rw [e1, hrc]
                simp only [R.bind, e2, if_true]
                refine ResE.bindE (eus_sound hC es hk.2 v) fun x d ρ1 H1 s1 X1 O1 φ1 f1 v1 q1 => ?_
                cases hi1 : ρ1[i]? with
                | none => exact trivial
                | some o => cases o with
                  | none => exact trivial
                  | some u =>
                    cases u <;> try exact trivial
                    rename_i us
                    obtain ⟨n', cl, k4, k5, k6, _⟩ := v1.own i _ hi1 hm rfl
                    rw [k1] at k4
                    cases k4
                    cases k6 with
                    | lst k6 =>
                      rename_i dl
                      cases hmu : mutU m us x with
                      | none => simp only [hmu]; exact trivial
                      | some p =>
                        obtain ⟨w, us'⟩ := p
                        obtain ⟨y, ds', e3, e4, e5⟩ := mut_rep k5 k6 q1 hmu
                        simp only [hmu]
                        rw [e3]
                        obtain ⟨f2, v2⟩ := v1.write hi1 hm hL rfl k1 (.lst e5) rfl
                        exact ⟨X1, O1, φ1, f2, v2, e4.mono f2⟩
      cases m with
      | get =>
        simp only [eu, ev]
        refine ResE.bindE (bor_sound (eu_sound hC o hk.1 v).1 v) fun x d ρ1 H1 s1 X1 O1 φ1 f1 v1 q1 => ?_
        cases hd : isDicU x with
        | false => exact trivial
        | true =>
          have : rcv .get d s1 = true := isDic_rep q1.1 hd
          simp only [this, if_true]
          refine ResE.bindE (eus_sound hC es hk.2 v1) fun y e ρ2 H2 s2 X2 O2 φ2 f2 v2 q2 => ?_
          cases hs : same o ρ1 ρ2 with
          | false => exact trivial
          | true => exact ResE.op v2 fun w hw => getv_rep (q1.move f2 v2 hs).1 q2 hw
      | index =>
        simp only [eu, ev]
        refine ResE.bindE (bor_sound (eu_sound hC o hk.1 v).1 v) fun x d ρ1 H1 s1 X1 O1 φ1 f1 v1 q1 => ?_
        cases hd : isLstU x with
        | false => exact trivial
        | true =>
          have : rcv .index d s1 = true := isLst_rep q1.1 hd
          simp only [this, if_true]
          refine ResE.bindE (eus_sound hC es hk.2 v1) fun y e ρ2 H2 s2 X2 O2 φ2 f2 v2 q2 => ?_
          cases hs : same o ρ1 ρ2 with
          | false => exact trivial
          | true => exact ResE.op v2 fun w hw => index_rep (q1.move f2 v2 hs).1 q2 hw
      | append => simp only [eu, ev]; exact mt .append rfl
      | extend => simp only [eu, ev]; exact mt .extend rfl
      | pop => simp only [eu, ev]; exact mt .pop rfl
      | popi => simp only [eu, ev]; exact mt .popi rfl
      | count => simp only [eu, ev]; exact mt .count rfl
      | join => simp only [eu, ev]; exact mt .join rfl
      | split => simp only [eu, ev]; exact mt .split rfl
      | startswith => simp only [eu, ev]; exact mt .startswith rfl, nofr rfl⟩
  | .isT a T, hk => fun c ρ H ρd st X O φ v => ⟨by
      simp only [eu, ev]
      refine ResE.bindE (bor_sound (eu_sound hC a (by simpa [kokE] using hk) v).1 v) fun x d ρ1 H1 s1 X1 O1 φ1 f1 v1 q1 => ?_
      exact ResE.opB v1 fun w hw => isT_rep q1.1 hw, nofr rfl⟩
  | .isX a T, hk => fun c ρ H ρd st X O φ v => ⟨by simp only [eu]; exact trivial, nofr rfl⟩
  | .fld a T, hk => fun c ρ H ρd st X O φ v => ⟨by simp only [eu]; exact trivial, nofr rfl⟩
  | .ix a b, hk => fun c ρ H ρd st X O φ v => ⟨by
      simp only [kokE, Bool.and_eq_true] at hk
      simp only [eu, ev]
      refine ResE.bindE (bor_sound (eu_sound hC a hk.1 v).1 v) fun x d ρ1 H1 s1 X1 O1 φ1 f1 v1 q1 => ?_
      refine ResE.bindE (eu_sound hC b hk.2 v1).1 fun y e ρ2 H2 s2 X2 O2 φ2 f2 v2 q2 => ?_
      cases hs : same a ρ1 ρ2 with
      | false => exact trivial
      | true => exact ResE.op v2 fun w hw => ix_rep (q1.move f2 v2 hs).1 q2 hw, nofr rfl⟩
  | .sl a l h, hk => fun c ρ H ρd st X O φ v => by
      simp only [kokE, Bool.and_eq_true] at hk
      have : ResP S c ρd X φ st (eu C cn c.M c.L (.sl a l h) ρ H) (ev Cd (.sl a l h) ρd st) := by
        simp only [eu, ev]
        refine ResE.bindP (bor_sound (eu_sound hC a hk.1.1 v).1 v) fun x d ρ1 H1 s1 X1 O1 φ1 f1 v1 q1 => ?_
        refine ResE.bindP (euo_sound hC l hk.1.2 v1).1 fun y e ρ2 H2 s2 X2 O2 φ2 f2 v2 q2 => ?_
        refine ResE.bindP (euo_sound hC h hk.2 v2).1 fun z e2 ρ3 H3 s3 X3 O3 φ3 f3 v3 q3 => ?_
        cases q2
        cases q3
        cases hs : same a ρ1 ρ3 with
        | false => exact trivial
        | true => exact ResP.op v3 fun w hw => sl_rep (q1.move (tr f2 f3) v3 hs).1 hw
      exact ⟨this.toE, fun _ => this⟩
  | .lst es, hk => fun c ρ H ρd st X O φ v => by
      have : ResP S c ρd X φ st (eu C cn c.M c.L (.lst es) ρ H) (ev Cd (.lst es) ρd st) := by
        simp only [eu, ev]
        refine ResE.bindP (eus_sound hC es (by simpa [kokE] using hk) v) fun x d ρ1 H1 s1 X1 O1 φ1 f1 v1 q1 => ?_
        rw [q1.len]
        by_cases hl : d.length ≤ LIM
        · rw [if_pos hl, if_pos hl]
          exact ⟨s1, X1, O1, φ1, Fr.refl, v1, .inr ⟨_, rfl, rfl, .lst q1⟩⟩
        · rw [if_neg hl]; exact trivial
      exact ⟨this.toE, fun _ => this⟩
  | .tup es, hk => fun c ρ H ρd st X O φ v => ⟨by
      simp only [eu, ev]
      refine ResE.bindE (eus_sound hC es (by simpa [kokE] using hk) v) fun x d ρ1 H1 s1 X1 O1 φ1 f1 v1 q1 => ?_
      rw [q1.len]
      by_cases hl : d.length ≤ LIM
      · rw [if_pos hl, if_pos hl]
        exact ResE.now v1 (.tup q1)
      · rw [if_neg hl]; exact trivial, nofr rfl⟩
  | .dct ps, hk => fun c ρ H ρd st X O φ v => by
      have : ResP S c ρd X φ st (eu C cn c.M c.L (.dct ps) ρ H) (ev Cd (.dct ps) ρd st) := by
        have h := eud_sound hC ps (by simpa [kokE] using hk) v
        simp only [eu, ev]
        cases he : eud C cn c.M c.L ps ρ H with
        | bad => exact trivial
        | exc x ρ' H' =>
          rw [he] at h
          obtain ⟨y, st', h1, h2⟩ := h
          rw [h1]
          exact h2
        | ok a ρ' H' =>
          rw [he] at h
          obtain ⟨qs, s1, X1, O1, φ1, h1, f1, v1, r1, r2⟩ := h
          rw [h1]
          simp only [RU.bind, List.nil_append, evd]
          have hl : a.1.length = qs.length := by rw [r1.len, List.length_map]
          rw [hl]
          by_cases hq : qs.length ≤ 15
          · rw [if_pos hq]
            cases hp : putAllU ([], []) a.1 a.2 with
            | none => exact trivial
            | some r =>
              obtain ⟨es, e1, e2, e3⟩ := putAll_rep (acc := []) r1 r2 (.nil : Reps X1 φ1 s1 _ _) .nil hp
              rw [e1]
              dsimp only
              rw [if_pos hq]
              exact ⟨s1, X1, O1, φ1, f1, v1, .inr ⟨_, rfl, rfl, .dic e2 e3⟩⟩
          · rw [if_neg hq]; exact trivial
      exact ⟨this.toE, fun _ => this⟩
  | .comp elt tg it xc own, hk => fun c ρ H ρd st X O φ v => by
      simp only [kokE, Bool.and_eq_true] at hk
      have : ResP S c ρd X φ st (eu C cn c.M c.L (.comp elt tg it xc own) ρ H) (ev Cd (.comp elt tg it xc own) ρd st) := by
        simp only [eu, ev]
        refine ResE.bindP (eui_sound hC it hk.1.2 v) fun us p ρ1 H1 s1 X1 O1 φ1 f1 v1 q1 => ?_
        obtain ⟨q1, qw, _⟩ := q1
        have hw : ∀ q ∈ p.2, s1[q.1]? = some q.2 ∧ (¬ X1 q.1 ∨ Kc c ρ1 ρd q.1) := fun q hq => by
          obtain ⟨k1, k2⟩ := qw q hq
          refine ⟨k1, ?_⟩
          rcases k2 with k2 | ⟨i, _, k2⟩
          · exact .inl k2
          · exact .inr (.inr ⟨i, k2⟩)
        have hok : okW p.2 s1 = true := by
          unfold okW
          rw [List.all_eq_true]
          exact fun q hq => decide_eq_true (hw q hq).1
        rw [if_pos hok]
        refine comp_end ?_ v1 q1 hw
        · intro u d H2 st2 X2 O2 φ2 v2 r2
          dsimp only
          cases ha : asgU c.M tg u (wipeU ρ1 own) with
          | none => exact trivial
          | some ρ' =>
            obtain ⟨ρd', a1, a2, _⟩ := asg_rep (c := ⟨c.M, c.M, c.b, c.Kf, Kc c ρ1 ρd⟩) tg (v2.lockAll.wipe2 own) r2 ha
            rw [a1]
            dsimp only
            have h1 := (euo_sound hC xc hk.2 a2).2
            dsimp only at h1
            cases hc : euc C cn c.M c.M xc ρ' H2 with
            | bad => exact trivial
            | exc x ρ2 H3 => exact trivial
            | ok b ρ2 H3 =>
              rw [hc] at h1
              cases hcd : evc Cd xc ρd' st2 with
              | bad => rw [hcd] at h1; exact h1.elim
              | exc x s => rw [hcd] at h1; exact h1.elim
              | ok bd s3 =>
                rw [hcd] at h1
                obtain ⟨X3, O3, φ3, f3, v3, q3⟩ := h1
                cases q3
                cases b with
                | false =>
                  refine ⟨none, s3, X3, O3, φ3, rfl, f3, v2.frame f3 (fun n z => z) v3.obj v3.ox v3.xl, trivial⟩
                | true =>
                  dsimp only [R.bind]
                  have h2 := (eu_sound hC elt hk.1.1 v3).1
                  dsimp only at h2
                  cases he : eu C cn c.M c.M elt ρ2 H3 with
                  | bad => exact trivial
                  | exc x ρ2 H3 => exact trivial
                  | ok y ρ4 H4 =>
                    rw [he] at h2
                    cases hed : ev Cd elt ρd' s3 with
                    | bad => rw [hed] at h2; exact h2.elim
                    | exc x s => rw [hed] at h2; exact h2.elim
                    | ok e s4 =>
                      rw [hed] at h2
                      obtain ⟨X4, O4, φ4, f4, v4, q4⟩ := h2
                      refine ⟨some e, s4, X4, O4, φ4, by simp only [if_true, hed, R.bind], tr f3 f4, v2.frame (tr f3 f4) (fun n z => z) v4.obj v4.ox v4.xl, q4⟩
      exact ⟨this.toE, fun _ => this⟩
theorem eus_sound (hC : CallS S C Cd) : ∀ e : Exs, kokEs e = true → SEs S C Cd e
  | .nil, hk => fun c ρ H ρd st X O φ v => by
      simp only [eus, evs]
      exact ResE.now v .nil
  | .cons e es, hk => fun c ρ H ρd st X O φ v => by
      simp only [kokEs, Bool.and_eq_true] at hk
      simp only [eus, evs]
      refine ResE.bindE (eu_sound hC e hk.1 v).1 fun x d ρ1 H1 s1 X1 O1 φ1 f1 v1 q1 => ?_
      refine ResE.bindE (eus_sound hC es hk.2 v1) fun y e ρ2 H2 s2 X2 O2 φ2 f2 v2 q2 => ?_
      exact ResE.now v2 (.cons (q1.mono f2) q2)
theorem euo_sound (hC : CallS S C Cd) : ∀ e : Exo, kokO e = true → SEo S C Cd e
  | .none, hk => fun c ρ H ρd st X O φ v => by
      simp only [euo, evo, euc, evc]
      exact ⟨ResE.now v rfl, ResE.now v rfl⟩
  | .some e, hk => fun c ρ H ρd st X O φ v => by
      simp only [kokO] at hk
      simp only [euo, evo, euc, evc]
      constructor
      · refine ResE.bindE (eu_sound hC e hk v).1 fun x d ρ1 H1 s1 X1 O1 φ1 f1 v1 q1 => ?_
        cases x <;> try exact trivial
        rw [RepB.int (.val q1)]
        exact ResE.now v1 rfl
      · refine ResE.bindE (eu_sound hC e hk v).1 fun x d ρ1 H1 s1 X1 O1 φ1 f1 v1 q1 => ?_
        cases x <;> try exact trivial
        rw [RepB.bl (.val q1)]
        exact ResE.now v1 rfl
theorem eud_sound (hC : CallS S C Cd) : ∀ e : Exps, kokPs e = true → SEd S C Cd e
  | .nil, hk => fun c ρ H ρd st X O φ v => by
      simp only [eud]
      exact ⟨[], st, X, O, φ, fun acc => by rw [List.append_nil], Fr.refl, v, .nil, .nil⟩
  | .cons k e ps, hk => fun c ρ H ρd st X O φ v => by
      simp only [kokPs, Bool.and_eq_true] at hk
      simp only [eud]
      have h1 := (eu_sound hC k hk.1.1 v).1
      cases hu : eu C cn c.M c.L k ρ H with
      | bad => exact trivial
      | exc x ρ1 H1 =>
        rw [hu] at h1
        cases hd : ev Cd k ρd st with
        | exc y s1 =>
          rw [hd] at h1
          exact ⟨y, s1, fun acc => by simp only [evd, hd, R.bind], h1⟩
        | bad => rw [hd] at h1; exact h1.elim
        | ok _ _ => rw [hd] at h1; exact h1.elim
      | ok u ρ1 H1 =>
        rw [hu] at h1
        cases hd : ev Cd k ρd st with
        | exc y s1 => rw [hd] at h1; exact h1.elim
        | bad => rw [hd] at h1; exact h1.elim
        | ok d s1 =>
          rw [hd] at h1
          obtain ⟨X1, O1, φ1, f1, v1, q1⟩ := h1
          dsimp only [RU.bind]
          have h2 := (eu_sound hC e hk.1.2 v1).1
          cases hu2 : eu C cn c.M c.L e ρ1 H1 with
          | bad => exact trivial
          | exc x ρ2 H2 =>
            rw [hu2] at h2
            cases hd2 : ev Cd e ρd s1 with
            | exc y s2 =>
              rw [hd2] at h2
              exact ⟨y, s2, fun acc => by simp only [evd, hd, R.bind, hd2], EE.re f1 h2⟩
            | bad => rw [hd2] at h2; exact h2.elim
            | ok _ _ => rw [hd2] at h2; exact h2.elim
          | ok u2 ρ2 H2 =>
            rw [hu2] at h2
            cases hd2 : ev Cd e ρd s1 with
            | exc y s1 => rw [hd2] at h2; exact h2.elim
            | bad => rw [hd2] at h2; exact h2.elim
            | ok d2 s2 =>
              rw [hd2] at h2
              obtain ⟨X2, O2, φ2, f2, v2, q2⟩ := h2
              dsimp only [RU.bind]
              have h3 := eud_sound hC ps hk.2 v2
              cases hu3 : eud C cn c.M c.L ps ρ2 H2 with
              | bad => exact trivial
              | exc x ρ3 H3 =>
                rw [hu3] at h3
                obtain ⟨y, s3, e3, h3⟩ := h3
                exact ⟨y, s3, fun acc => by simp only [evd, hd, R.bind, hd2]; exact e3 _, EE.re (tr f1 f2) h3⟩
              | ok a ρ3 H3 =>
                rw [hu3] at h3
                obtain ⟨qs, s3, X3, O3, φ3, e3, f3, v3, r3, r4⟩ := h3
                refine ⟨(d, d2) :: qs, s3, X3, O3, φ3, fun acc => by simp only [evd, hd, R.bind, hd2]; rw [e3, List.append_assoc]; simp only [evd]; rfl, tr f1 (tr f2 f3), v3, ?_, ?_⟩
                · exact .cons (q1.mono (tr f2 f3)) r3
                · exact .cons (q2.mono f3) r4
theorem eui_sound (hC : CallS S C Cd) : ∀ e : Itr, kokI e = true → SEi S C Cd e
  | .val a, hk => fun c ρ H ρd st X O φ v => by
      simp only [kokI] at hk
      simp only [eui, evi]
      refine ResE.bindE (bor_sound (eu_sound hC a hk v).1 v) fun x d ρ1 H1 s1 X1 O1 φ1 f1 v1 q1 => ?_
      cases hx : walkU x with
      | none => exact trivial
      | some us =>
        obtain ⟨ds, w, e1, r1, w1⟩ := walk_rep q1.1 hx
        rw [e1]
        exact ResE.now v1 ⟨r1, watch_own v1 (fun i hi => hi) q1 w1, lock_ok q1 (by rw [hx]; exact fun z => nomatch z)⟩
  | .rng a, hk => fun c ρ H ρd st X O φ v => by
      simp only [kokI] at hk
      simp only [eui, evi]
      refine ResE.bindE (eu_sound hC a hk v).1 fun x d ρ1 H1 s1 X1 O1 φ1 f1 v1 q1 => ?_
      cases x <;> try exact trivial
      rename_i j
      rw [RepB.int (.val q1)]
      dsimp only
      cases hj : small62 j with
      | false => exact trivial
      | true => exact ResE.now v1 ⟨rng_rep _ _, fun q hq => (by cases hq), fun i hi => (by cases hi)⟩
  | .rng2 a b, hk => fun c ρ H ρd st X O φ v => by
      simp only [kokI, Bool.and_eq_true] at hk
      simp only [eui, evi]
      refine ResE.bindE (eu_sound hC a hk.1 v).1 fun x d ρ1 H1 s1 X1 O1 φ1 f1 v1 q1 => ?_
      refine ResE.bindE (eu_sound hC b hk.2 v1).1 fun y e ρ2 H2 s2 X2 O2 φ2 f2 v2 q2 => ?_
      cases x <;> try exact trivial
      cases y <;> try exact trivial
      rename_i i j
      rw [RepB.int (.val q1), RepB.int (.val q2)]
      dsimp only
      cases hj : small62 i && small62 j with
      | false => exact trivial
      | true => exact ResE.now v2 ⟨rng_rep _ _, fun q hq => (by cases hq), fun i hi => (by cases hi)⟩
  | .enm a, hk => fun c ρ H ρd st X O φ v => by
      simp only [kokI] at hk
      simp only [eui, evi]
      refine ResE.bindE (bor_sound (eu_sound hC a hk v).1 v) fun x d ρ1 H1 s1 X1 O1 φ1 f1 v1 q1 => ?_
      cases hx : seqU x with
      | none => exact trivial
      | some us =>
        obtain ⟨ds, w, e1, r1, w1⟩ := seq_rep q1.1 hx
        rw [e1]
        exact ResE.now v1 ⟨zipI_rep 0 r1, watch_own v1 (fun i hi => hi) q1 w1, lock_ok q1 (seq_walk hx)⟩
  | .zip a b, hk => fun c ρ H ρd st X O φ v => by
      simp only [kokI, Bool.and_eq_true] at hk
      simp only [eui, evi]
      refine ResE.bindE (bor_sound (eu_sound hC a hk.1 v).1 v) fun x d ρ1 H1 s1 X1 O1 φ1 f1 v1 q1 => ?_
      refine ResE.bindE (bor_sound (eu_sound hC b hk.2 v1).1 v1) fun y e ρ2 H2 s2 X2 O2 φ2 f2 v2 q2 => ?_
      cases hx : seqU x with
      | none => exact trivial
      | some us =>
        cases hy : seqU y with
        | none => exact trivial
        | some us2 =>
          dsimp only
          cases hs : same a ρ1 ρ2 with
          | false => exact trivial
          | true =>
            cases hs2 : sameKU x y with
            | false => exact trivial
            | true =>
              have q3 := q1.move f2 v2 hs
              obtain ⟨ds, w, e1, r1, w1⟩ := seq_rep q3.1 hx
              obtain ⟨ds2, w2, e2, r2, w3⟩ := seq_rep q2.1 hy
              rw [e1, e2]
              simp only [sameK_rep q3.1 q2.1 hs2, Bool.and_self, if_true]
              refine ResE.now v2 ⟨zipD_rep r1 r2, fun q hq => ?_, fun i hi => ?_⟩
              · rcases List.mem_append.mp hq with hq | hq
                · exact watch_own v2 (fun i hi => List.mem_append_left _ hi) q3 w1 q hq
                · exact watch_own v2 (fun i hi => List.mem_append_right _ hi) q2 w3 q hq
              · rcases List.mem_append.mp hi with hi | hi
                · exact lock_ok q3 (seq_walk hx) i hi
                · exact lock_ok q2 (seq_walk hy) i hi
end
end
end IP.Q

/-! UaG: statements, calls: by content and in a store. -/
namespace IP.Q
open PySem
mutual
def kokS : St → Bool
  | .asg _ e => kokE e
  | .aset o i e => kokE o && kokE i && kokE e
  | .afld o _ e => kokE o && kokE e
  | .ife c a b => kokE c && kokSs a && kokSs b
  | .fr _ it b => kokI it && kokSs b
  | .whl c b => kokE c && kokSs b
  | .ret e => kokE e
  | .exp e => kokE e
  | .pass => true
  | .cont => true
  | .rse _ => true
  | .rsw _ e => kokE e
  | .never => true
  | .trya b _ _ e => kokSs b && kokE e
def kokSs : Sts → Bool
  | .nil => true
  | .cons s ss => kokS s && kokSs ss
end
section
variable {Ob : Type} {cn : Str} {S : ObS Ob cn} {C : Str → List U → List Ob → RC Ob} {Cd : Str → List D → Sto → R D}
section
variable {c : Cx} {ρ ρ' ρ1 ρ2 : EnvU} {H H' : List Ob} {ρd ρd' : Env} {st st' : Sto} {X X' O O' : Nat → Prop} {φ φ' : List Nat}
variable (S c ρd) in
abbrev NX (X : Nat → Prop) (φ : List Nat) (st : Sto) (ρ' : EnvU) (H' : List Ob) (ρd' : Env) (st' : Sto) : Prop := ∃ X' O' φ', Fr st.length c.K X φ st X' φ' st' ∧ Inv S c ρ' H' ρd' st' X' O' φ' ∧ ∀ i, memN i c.L = true → memN i c.M = true → ρd'[i]? = ρd[i]?
variable (S c) in
abbrev RT (X : Nat → Prop) (φ : List Nat) (st : Sto) (u : U) (H' : List Ob) (d : D) (st' : Sto) : Prop := ∃ X' O' φ', Fr c.b c.Kf X φ st X' φ' st' ∧ OI S c.Kf H' X' O' φ' st' ∧ Rep X' φ' st' u d
variable (S c) in
abbrev XT (X : Nat → Prop) (φ : List Nat) (st : Sto) (x : ExnU) (H' : List Ob) (y : Exn) (st' : Sto) : Prop := ∃ X' O' φ', Fr c.b c.Kf X φ st X' φ' st' ∧ OI S c.Kf H' X' O' φ' st' ∧ ExR X' φ' st' x y
def ResS (S : ObS Ob cn) (c : Cx) (ρd : Env) (X : Nat → Prop) (φ : List Nat) (st : Sto) : SU Ob → SR → Prop
  | .bad, _ => True
  | .next ρ' H', .next ρd' st' => NX S c ρd X φ st ρ' H' ρd' st'
  | .cont ρ' H', .cont ρd' st' => NX S c ρd X φ st ρ' H' ρd' st'
  | .brk ρ' H', .brk ρd' st' => NX S c ρd X φ st ρ' H' ρd' st'
  | .ret u H', .ret d st' => RT S c X φ st u H' d st'
  | .exc x _ H', .exc y _ st' => XT S c X φ st x H' y st'
  | _, _ => False
theorem Inv.oi (v : Inv S c ρ H ρd st X O φ) : OI S c.Kf H X O φ st := ⟨v.obj, fun n hn => ⟨(v.ox n hn).1, fun z => (v.ox n hn).2 (v.kf n z).1⟩, v.xl⟩
theorem Inv.low (v : Inv S c ρ H ρd st X O φ) {X1 : Nat → Prop} {φ1 : List Nat} {s1 : Sto} (f : Fr st.length c.K X φ st X1 φ1 s1) : Fr c.b c.Kf X φ st X1 φ1 s1 := f.le v.bl fun n _ z => (v.kf n z).1
theorem RT.re (v : Inv S c ρ H ρd st X O φ) {X1 : Nat → Prop} {φ1 : List Nat} {s1 : Sto} (f : Fr st.length c.K X φ st X1 φ1 s1) {u : U} {d : D} (h : RT S c X1 φ1 s1 u H' d st') : RT S c X φ st u H' d st' := by
  obtain ⟨X2, O2, φ2, h1, h2, h3⟩ := h
  exact ⟨X2, O2, φ2, (v.low f).trans h1 (Nat.le_refl _) fun _ _ z => z, h2, h3⟩
theorem XT.re (v : Inv S c ρ H ρd st X O φ) {X1 : Nat → Prop} {φ1 : List Nat} {s1 : Sto} (f : Fr st.length c.K X φ st X1 φ1 s1) {u : ExnU} {d : Exn} (h : XT S c X1 φ1 s1 u H' d st') : XT S c X φ st u H' d st' := by
  obtain ⟨X2, O2, φ2, h1, h2, h3⟩ := h
  exact ⟨X2, O2, φ2, (v.low f).trans h1 (Nat.le_refl _) fun _ _ z => z, h2, h3⟩
theorem NX.re {X1 : Nat → Prop} {φ1 : List Nat} {s1 : Sto} {ρ1d : Env} (f : Fr st.length c.K X φ st X1 φ1 s1) (hl : ∀ i, memN i c.L = true → memN i c.M = true → ρ1d[i]? = ρd[i]?) (h : NX S c ρ1d X1 φ1 s1 ρ' H' ρd' st') : NX S c ρd X φ st ρ' H' ρd' st' := by
  obtain ⟨X2, O2, φ2, h1, h2, h3⟩ := h
  exact ⟨X2, O2, φ2, tr f h1, h2, fun i k1 k2 => (h3 i k1 k2).trans (hl i k1 k2)⟩
/-- from a later state on -/
theorem ResS.re (v : Inv S c ρ H ρd st X O φ) {X1 : Nat → Prop} {φ1 : List Nat} {s1 : Sto} {ρ1d : Env} (f : Fr st.length c.K X φ st X1 φ1 s1) (hl : ∀ i, memN i c.L = true → memN i c.M = true → ρ1d[i]? = ρd[i]?) {r : SU Ob} {rd : SR} (h : ResS S c ρ1d X1 φ1 s1 r rd) : ResS S c ρd X φ st r rd := by
  cases r with
  | bad => exact trivial
  | next _ _ => cases rd <;> first | exact NX.re f hl h | exact False.elim h
  | cont _ _ => cases rd <;> first | exact NX.re f hl h | exact False.elim h
  | brk _ _ => cases rd <;> first | exact NX.re f hl h | exact False.elim h
  | ret _ _ => cases rd <;> first | exact RT.re v f h | exact False.elim h
  | exc _ _ _ => cases rd <;> first | exact XT.re v f h | exact False.elim h
theorem to_sound {α β : Type} {Q : EnvU → (Nat → Prop) → List Nat → Sto → α → β → Prop} {r : RU Ob α} {rd : R β} {f : α → EnvU → List Ob → SU Ob} {g : β → Sto → SR} (v : Inv S c ρ H ρd st X O φ)
    (h : ResE S c ρd X φ st Q r rd) (k : ∀ u d ρ' H' st' X' O' φ', Fr st.length c.K X φ st X' φ' st' → Inv S c ρ' H' ρd st' X' O' φ' → Q ρ' X' φ' st' u d → ResS S c ρd X' φ' st' (f u ρ' H') (g d st')) : ResS S c ρd X φ st (r.to f) (SR.ofR ρd rd g) := by
  cases r with
  | bad => exact trivial
  | ok u ρ1 H1 => cases rd with
    | ok d s1 =>
      obtain ⟨X1, O1, φ1, h1, h2, h3⟩ := h
      exact (k u d ρ1 H1 s1 X1 O1 φ1 h1 h2 h3).re v h1 fun _ _ _ => rfl
    | _ => exact False.elim h
  | exc x ρ1 H1 => cases rd with
    | exc y s1 =>
      obtain ⟨X1, O1, φ1, h1, h2, h3⟩ := h
      exact ⟨X1, O1, φ1, v.low h1, h2.oi, h3⟩
    | _ => exact False.elim h
theorem ResS.now (v : Inv S c ρ' H ρd' st X O φ) (hl : ∀ i, memN i c.L = true → memN i c.M = true → ρd'[i]? = ρd[i]?) : ResS S c ρd X φ st (.next ρ' H) (.next ρd' st) := ⟨X, O, φ, Fr.refl, v, hl⟩
/-- a new list of one's own -/
theorem Inv.alloc (v : Inv S c ρ H ρd st X O φ) {i : Nat} {u : U} {cl : Cell} (r : RepC X φ st u cl) (hm : memN i c.M = true) (hi : i < ρ.length) : Fr st.length c.K X φ st (fun n => X n ∨ n = st.length) φ (st ++ [cl]) ∧ Inv S c (ρ.set i (some u)) H (ρd.set i (some (.ref st.length))) (st ++ [cl]) (fun n => X n ∨ n = st.length) O φ := by
  have f : Fr st.length c.K X φ st (fun n => X n ∨ n = st.length) φ (st ++ [cl]) := ⟨by simp, fun n hn => ⟨fun h => h.resolve_right (Nat.ne_of_lt hn), .inl⟩, fun n hn _ => List.getElem?_append_left hn, fun n hn _ => List.getElem?_append_left hn, [], by simp⟩
  have hu : noRef u = false := by cases r <;> rfl
  refine ⟨f, ?_⟩
  have hid : i < ρd.length := by rw [← v.len]; exact hi
  have own' : ∀ j m, Own c.M (ρ.set i (some u)) (ρd.set i (some (.ref st.length))) j m → (j = i ∧ m = st.length) ∨ (j ≠ i ∧ Own c.M ρ ρd j m) := by
    rintro j m ⟨e1, ⟨w, e2, e3⟩, e4⟩
    by_cases e : j = i
    · subst e
      rw [List.getElem?_set_self hid] at e4
      cases e4
      exact .inl ⟨rfl, rfl⟩
    · rw [List.getElem?_set_ne (Ne.symm e)] at e2 e4
      exact .inr ⟨e, e1, ⟨w, e2, e3⟩, e4⟩
  exact {
    len := by rw [List.length_set, List.length_set]; exact v.len
    val := fun j w e1 e2 => by
      by_cases e : j = i
      · subst e
        rw [List.getElem?_set_self hi] at e1
        cases e1
        rcases e2 with e2 | e2
        · rw [hm] at e2; cases e2
        · rw [hu] at e2; cases e2
      · rw [List.getElem?_set_ne (Ne.symm e)] at e1 ⊢
        obtain ⟨d, q1, q2⟩ := v.val j w e1 e2
        exact ⟨d, q1, q2.mono f⟩
    own := fun j w e1 e2 e3 => by
      by_cases e : j = i
      · subst e
        rw [List.getElem?_set_self hi] at e1
        cases e1
        refine ⟨st.length, cl, List.getElem?_set_self hid, by rw [List.getElem?_append_right (Nat.le_refl _)]; simp, r.mono f, .inr rfl, fun z => ?_, fun z => ?_, v.bl, fun _ z => ?_⟩
        · exact Nat.lt_irrefl _ (S.lt v.obj z)
        · exact Nat.lt_irrefl _ (Nat.lt_of_lt_of_le (v.kf _ z).2 v.bl)
        · exact Nat.lt_irrefl _ (v.xl _ (v.kx _ z))
      · rw [List.getElem?_set_ne (Ne.symm e)] at e1 ⊢
        obtain ⟨m, cl', q1, q2, q3, q4, q5, q6, q7, q8⟩ := v.own j w e1 e2 e3
        exact ⟨m, cl', q1, by rw [List.getElem?_append_left (v.xl _ q4)]; exact q2, q3.mono f, .inl q4, q5, q6, q7, q8⟩
    inj := fun j k m h1 h2 => by
      rcases own' j m h1 with ⟨rfl, rfl⟩ | ⟨a1, a2⟩
      · rcases own' k st.length h2 with ⟨rfl, _⟩ | ⟨b1, b2⟩
        · rfl
        · obtain ⟨_, _, _, _, _, _, z, _⟩ := v.own_at b2
          exact absurd (v.xl _ z) (Nat.lt_irrefl _)
      · rcases own' k m h2 with ⟨rfl, rfl⟩ | ⟨b1, b2⟩
        · obtain ⟨_, _, _, _, _, _, z, _⟩ := v.own_at a2
          exact absurd (v.xl _ z) (Nat.lt_irrefl _)
        · exact v.inj j k m a2 b2
    obj := S.loc v.obj fun m hm' => List.getElem?_append_left (S.lt v.obj hm')
    ox := fun m hm' => ⟨.inl (v.ox m hm').1, (v.ox m hm').2⟩
    xl := fun m hm' => by
      rw [List.length_append, List.length_singleton]
      rcases hm' with h | h
      · have := v.xl m h; omega
      · omega
    kx := fun m hm' => .inl (v.kx m hm')
    kf := v.kf
    bl := by rw [List.length_append]; exact Nat.le_trans v.bl (Nat.le_add_right _ _) }
/-! ### walks -/
/-- lists that are walked are locked -/
def lockC (c : Cx) (l : List Nat) (ρ : EnvU) (ρd : Env) : Cx := ⟨c.M, l ++ c.L, c.b, c.Kf, fun n => c.K n ∨ ∃ i, memN i l = true ∧ Own c.M ρ ρd i n⟩
theorem memN_app {i : Nat} {a b : List Nat} : memN i (a ++ b) = true ↔ memN i a = true ∨ memN i b = true := by
  rw [memN_iff, memN_iff, memN_iff, List.mem_append]
theorem Inv.lock (v : Inv S c ρ H ρd st X O φ) (l : List Nat) : Inv S (lockC c l ρ ρd) ρ H ρd st X O φ where
  len := v.len
  val := v.val
  own := fun i u h1 h2 h3 => by
    obtain ⟨n, cl, k1, k2, k3, k4, k5, k6, k7, k8⟩ := v.own i u h1 h2 h3
    refine ⟨n, cl, k1, k2, k3, k4, k5, k6, k7, fun z => ?_⟩
    have z1 : memN i l = false ∧ memN i c.L = false := by
      constructor
      · cases hh : memN i l with
        | false => rfl
        | true => have z : memN i (l ++ c.L) = false := z; rw [memN_app.mpr (.inl hh)] at z; cases z
      · cases hh : memN i c.L with
        | false => rfl
        | true => have z : memN i (l ++ c.L) = false := z; rw [memN_app.mpr (.inr hh)] at z; cases z
    rintro (k | ⟨j, k9, k⟩)
    · exact k8 z1.2 k
    · have := v.inj j i n k ⟨h2, ⟨u, h1, h3⟩, k1⟩
      subst this
      rw [z1.1] at k9; cases k9
  inj := v.inj
  obj := v.obj
  ox := fun n h => ⟨(v.ox n h).1, by
    rintro (k | ⟨i, _, k⟩)
    · exact (v.ox n h).2 k
    · obtain ⟨_, _, _, _, _, _, _, z, _⟩ := v.own_at k; exact z h⟩
  xl := v.xl
  kx := fun n h => by
    rcases h with k | ⟨i, _, k⟩
    · exact v.kx n k
    · obtain ⟨_, _, _, _, _, _, z, _⟩ := v.own_at k; exact z
  kf := fun n h => ⟨.inl (v.kf n h).1, (v.kf n h).2⟩
  bl := v.bl
theorem Inv.unlock {l : List Nat} (v0 : Inv S c ρ H ρd st X O φ) (hl : ∀ i, i ∈ l → ∃ u, ρ[i]? = some (some u) ∧ walkU u ≠ none) (v : Inv S (lockC c l ρ ρd) ρ' H' ρd' st' X' O' φ') (h : ∀ i, memN i (l ++ c.L) = true → memN i c.M = true → ρd'[i]? = ρd[i]?) : Inv S c ρ' H' ρd' st' X' O' φ' where
  len := v.len
  val := v.val
  own := fun i u h1 h2 h3 => by
    obtain ⟨n, cl, k1, k2, k3, k4, k5, k6, k7, k8⟩ := v.own i u h1 h2 h3
    refine ⟨n, cl, k1, k2, k3, k4, k5, k6, k7, fun z => ?_⟩
    cases hh : memN i l with
    | false =>
      have z2 : memN i (l ++ c.L) = false := by
        cases h9 : memN i (l ++ c.L) with
        | false => rfl
        | true =>
          rcases memN_app.mp h9 with h9 | h9
          · rw [hh] at h9; cases h9
          · rw [z] at h9; cases h9
      exact fun z3 => k8 z2 (.inl z3)
    | true =>
      have e := h i (memN_app.mpr (.inl hh)) h2
      rw [k1] at e
      obtain ⟨w, e1, e2⟩ := hl i (memN_iff.mp hh)
      cases hw : noRef w with
      | false =>
        obtain ⟨_, _, _, _, _, _, _, _, _, _, k⟩ := v0.own_at ⟨h2, ⟨w, e1, hw⟩, e.symm⟩
        exact k z
      | true =>
        obtain ⟨d, q1, q2⟩ := v0.val i w e1 (.inr hw)
        rw [← e] at q1
        cases q1
        exfalso
        cases q2 with
        | box _ _ r => cases r <;> cases hw
        | obj _ => exact e2 rfl
  inj := v.inj
  obj := v.obj
  ox := fun n h => ⟨(v.ox n h).1, fun z => (v.ox n h).2 (.inl z)⟩
  xl := v.xl
  kx := fun n h => v.kx n (.inl h)
  kf := fun n h => ⟨(v0.kf n h).1, (v0.kf n h).2⟩
  bl := v.bl
/-- the turns of a for -/
theorem for_sound {f : U → EnvU → List Ob → SU Ob} {g : D → Env → Sto → SR} {tm : List Nat} {w : Watch} (hf : ∀ (u : U) (d : D) (ρ : EnvU) (H : List Ob) (ρd : Env) (st : Sto) (X O : Nat → Prop) (φ : List Nat), Inv S c ρ H ρd st X O φ → Rep X φ st u d → ResS S c ρd X φ st (f u ρ H) (g d ρd st)) :
    ∀ (us : List U) (ds : List D) (ρ : EnvU) (H : List Ob) (ρd : Env) (st : Sto) (X O : Nat → Prop) (φ : List Nat), Inv S c ρ H ρd st X O φ → Reps X φ st us ds → (∀ q ∈ w, st[q.1]? = some q.2 ∧ (¬ X q.1 ∨ c.K q.1)) → ResS S c ρd X φ st (forU f tm us ρ H) (forL g w ds ρd st)
  | [], _, ρ, H, ρd, st, X, O, φ, v, .nil, hw => by
    simp only [forU, forL]
    exact ResS.now v fun _ _ _ => rfl
  | u :: us, _, ρ, H, ρd, st, X, O, φ, v, .cons (d := d) (ds := ds) r s, hw => by
    have h1 := hf u d ρ H ρd st X O φ v r
    simp only [forU, forL]
    have go : ∀ ρ' H' ρd' st', NX S c ρd X φ st ρ' H' ρd' st' → ResS S c ρd X φ st (forU f tm us (wipeU ρ' tm) H') (if okW w st' = true then forL g w ds ρd' st' else .bad) := by
      rintro ρ' H' ρd' st' ⟨X1, O1, φ1, f1, v1, l1⟩
      obtain ⟨hw1, hok⟩ := watch_move f1 hw
      rw [if_pos hok]
      exact (for_sound hf us ds _ H' ρd' st' X1 O1 φ1 (v1.wipe1 tm) (s.mono f1) hw1).re v f1 l1
    cases hu : f u ρ H with
    | bad => exact trivial
    | next ρ' H' =>
      rw [hu] at h1
      cases hd : g d ρd st <;> rw [hd] at h1 <;> first | exact False.elim h1 | exact go _ _ _ _ h1
    | cont ρ' H' =>
      rw [hu] at h1
      cases hd : g d ρd st <;> rw [hd] at h1 <;> first | exact False.elim h1 | exact go _ _ _ _ h1
    | brk ρ' H' =>
      rw [hu] at h1
      cases hd : g d ρd st <;> rw [hd] at h1 <;> first | exact False.elim h1 | skip
      obtain ⟨X1, O1, φ1, f1, v1, l1⟩ := h1
      exact ⟨X1, O1, φ1, f1, v1.wipe1 tm, l1⟩
    | ret u' H' =>
      rw [hu] at h1
      cases hd : g d ρd st <;> rw [hd] at h1 <;> first | exact False.elim h1 | exact h1
    | exc x ρ' H' =>
      rw [hu] at h1
      cases hd : g d ρd st <;> rw [hd] at h1 <;> first | exact False.elim h1 | exact h1
theorem whl_sound {f : EnvU → List Ob → RU Ob U} {g : Env → Sto → R D} {b : EnvU → List Ob → SU Ob} {bd : Env → Sto → SR} {tm : List Nat} (hc : ∀ (ρ : EnvU) (H : List Ob) (ρd : Env) (st : Sto) (X O : Nat → Prop) (φ : List Nat), Inv S c ρ H ρd st X O φ → ResE S c ρd X φ st QV (f ρ H) (g ρd st))
    (hf : ∀ (ρ : EnvU) (H : List Ob) (ρd : Env) (st : Sto) (X O : Nat → Prop) (φ : List Nat), Inv S c ρ H ρd st X O φ → ResS S c ρd X φ st (b ρ H) (bd ρd st)) :
    ∀ (n : Nat) (ρ : EnvU) (H : List Ob) (ρd : Env) (st : Sto) (X O : Nat → Prop) (φ : List Nat), Inv S c ρ H ρd st X O φ → ResS S c ρd X φ st (whlU f b tm n ρ H) (whlL g bd n ρd st)
  | 0, ρ, H, ρd, st, X, O, φ, v => by simp only [whlU]; exact trivial
  | n + 1, ρ, H, ρd, st, X, O, φ, v => by
    have h0 := hc ρ H ρd st X O φ v
    simp only [whlU, whlL]
    cases hu : f ρ H with
    | bad => exact trivial
    | exc x ρ1 H1 =>
      rw [hu] at h0
      cases hd : g ρd st with
      | exc y s1 =>
        rw [hd] at h0
        obtain ⟨X1, O1, φ1, f1, v1, q1⟩ := h0
        exact ⟨X1, O1, φ1, v.low f1, v1.oi, q1⟩
      | _ => rw [hd] at h0; exact False.elim h0
    | ok u ρ1 H1 =>
      rw [hu] at h0
      cases hd : g ρd st with
      | ok d s1 =>
        rw [hd] at h0
        obtain ⟨X1, O1, φ1, f1, v1, q1⟩ := h0
        cases u <;> try exact trivial
        rename_i z
        rw [RepB.bl (.val q1)]
        cases z with
        | false => exact (ResS.now v1 (ρd := ρd) fun _ _ _ => rfl).re v f1 fun _ _ _ => rfl
        | true =>
          have h1 := (hf ρ1 H1 ρd s1 X1 O1 φ1 v1).re v f1 fun _ _ _ => rfl
          dsimp only
          have go : ∀ ρ' H' ρd' st', NX S c ρd X φ st ρ' H' ρd' st' → ResS S c ρd X φ st (whlU f b tm n (wipeU ρ' tm) H') (whlL g bd n ρd' st') := by
            rintro ρ' H' ρd' st' ⟨X2, O2, φ2, f2, v2, l2⟩
            exact (whl_sound hc hf n _ H' ρd' st' X2 O2 φ2 (v2.wipe1 tm)).re v f2 l2
          cases hu : b ρ1 H1 with
          | bad => exact trivial
          | next ρ' H' =>
            rw [hu] at h1
            cases hd : bd ρd s1 <;> rw [hd] at h1 <;> first | exact False.elim h1 | exact go _ _ _ _ h1
          | cont ρ' H' =>
            rw [hu] at h1
            cases hd : bd ρd s1 <;> rw [hd] at h1 <;> first | exact False.elim h1 | exact go _ _ _ _ h1
          | brk ρ' H' =>
            rw [hu] at h1
            cases hd : bd ρd s1 <;> rw [hd] at h1 <;> first | exact False.elim h1 | skip
            obtain ⟨X1, O1, φ1, f1, v1, l1⟩ := h1
            exact ⟨X1, O1, φ1, f1, v1.wipe1 tm, l1⟩
          | ret u' H' =>
            rw [hu] at h1
            cases hd : bd ρd s1 <;> rw [hd] at h1 <;> first | exact False.elim h1 | exact h1
          | exc x ρ' H' =>
            rw [hu] at h1
            cases hd : bd ρd s1 <;> rw [hd] at h1 <;> first | exact False.elim h1 | exact h1
      | _ => rw [hd] at h0; exact False.elim h0
/-- behind a return nothing is one's own -/
theorem Inv.ret (v : Inv S c ρ H ρd st X O φ) : Inv S ⟨[], [], c.b, c.Kf, c.Kf⟩ ρ H ρd st (fun n => (n < c.b ∧ X n) ∨ O n) O φ := by
  have hs : ∀ n, ((n < c.b ∧ X n) ∨ O n) → X n := fun n h => h.elim (·.2) fun h => (v.ox n h).1
  exact {
    len := v.len
    val := fun i u h1 _ => by
      by_cases hm : memN i c.M = false ∨ noRef u = true
      · obtain ⟨d, k1, k2⟩ := v.val i u h1 hm
        exact ⟨d, k1, k2.sub hs⟩
      · have k1 : memN i c.M = true := by cases hh : memN i c.M with
          | true => rfl
          | false => exact absurd (.inl hh) hm
        have k2 : noRef u = false := by cases hh : noRef u with
          | false => rfl
          | true => exact absurd (.inr hh) hm
        obtain ⟨n, cl, e1, e2, e3, e4, e5, e6, e7, e8⟩ := v.own i u h1 k1 k2
        exact ⟨_, e1, .box (by rintro (⟨z, _⟩ | z); · omega
                               · exact e5 z) e2 (e3.sub hs)⟩
    own := fun i u _ h => nomatch h
    inj := fun i j n h => nomatch h.1
    obj := v.obj
    ox := fun n h => ⟨.inr h, fun z => (v.ox n h).2 (v.kf n z).1⟩
    xl := fun n h => v.xl n (hs n h)
    kx := fun n h => .inl ⟨(v.kf n h).2, v.kx n (v.kf n h).1⟩
    kf := fun n h => ⟨h, (v.kf n h).2⟩
    bl := v.bl }
theorem ret_fr (v : Inv S c ρ H ρd st X O φ) {X1 : Nat → Prop} {φ1 : List Nat} {s1 : Sto} (f : Fr st.length c.Kf (fun n => (n < c.b ∧ X n) ∨ O n) φ st X1 φ1 s1) : Fr c.b c.Kf X φ st X1 φ1 s1 := by
  have hx : ∀ n, n < c.b → (((n < c.b ∧ X n) ∨ O n) ↔ X n) := fun n hn => ⟨fun h => h.elim (·.2) fun h => (v.ox n h).1, fun h => .inl ⟨hn, h⟩⟩
  exact ⟨f.len, fun n hn => (f.x n (Nat.lt_of_lt_of_le hn v.bl)).trans (hx n hn), fun n hn h => f.keep n (Nat.lt_of_lt_of_le hn v.bl) fun z => h ((hx n hn).mp z), fun n hn h => f.kk n (Nat.lt_of_lt_of_le hn v.bl) h, f.phi⟩
end
def SS (S : ObS Ob cn) (C : Str → List U → List Ob → RC Ob) (Cd : Str → List D → Sto → R D) (W : Nat) (s : St) : Prop := ∀ ⦃c : Cx⦄ ⦃ρ : EnvU⦄ ⦃H : List Ob⦄ ⦃ρd : Env⦄ ⦃st : Sto⦄ ⦃X O : Nat → Prop⦄ ⦃φ : List Nat⦄, Inv S c ρ H ρd st X O φ →
  ResS S c ρd X φ st (xu C cn W c.M c.L s ρ H) (exc Cd W s ρd st)
def SSs (S : ObS Ob cn) (C : Str → List U → List Ob → RC Ob) (Cd : Str → List D → Sto → R D) (W : Nat) (s : Sts) : Prop := ∀ ⦃c : Cx⦄ ⦃ρ : EnvU⦄ ⦃H : List Ob⦄ ⦃ρd : Env⦄ ⦃st : Sto⦄ ⦃X O : Nat → Prop⦄ ⦃φ : List Nat⦄, Inv S c ρ H ρd st X O φ →
  ResS S c ρd X φ st (xus C cn W c.M c.L s ρ H) (excs Cd W s ρd st)
theorem noM {i j : Nat} {M : List Nat} (h : memN i M = true) (k : memN j M = false) : i ≠ j := by
  rintro rfl
  rw [h] at k; cases k
theorem set_ok {ρd : Env} {i : Nat} {d : D} {st : Sto} (h : i < ρd.length) : asg (.nm i) d ρd st = some (ρd.set i (some d)) := by simp only [asg, h, if_true]
theorem asg_sound (hC : CallS S C Cd) {W : Nat} (t : Tg) (e : Ex) (hk : kokE e = true) : SS S C Cd W (.asg t e) := by
  intro c ρ H ρd st X O φ v
  obtain ⟨hE, hP⟩ := eu_sound hC e hk v
  simp only [xu, exc]
  cases t with
  | tp ts =>
    refine to_sound v hE fun u d ρ1 H1 s1 X1 O1 φ1 f1 v1 q1 => ?_
    dsimp only
    cases ha : asgU c.M (.tp ts) u ρ1 with
    | none => exact trivial
    | some ρ' =>
      obtain ⟨ρd', a1, a2, a3⟩ := asg_rep (.tp ts) v1 q1 ha
      rw [a1]
      exact ResS.now a2 fun i _ hi => a3 i hi
  | nm i =>
    cases hm : memN i c.M with
    | false =>
      refine to_sound v hE fun u d ρ1 H1 s1 X1 O1 φ1 f1 v1 q1 => ?_
      simp only [hm, Bool.false_eq_true, if_false]
      by_cases hi : i < ρ1.length
      · rw [if_pos hi, set_ok (by rw [← v1.len]; exact hi)]
        exact ResS.now (v1.set q1 (.inl hm) hi) fun j _ hj => List.getElem?_set_ne (Ne.symm (noM hj hm))
      · rw [if_neg hi]; exact trivial
    | true =>
      have fin : ∀ {u : U} {d : D} {ρ1 : EnvU} {H1 : List Ob} {s1 : Sto} {X1 O1 : Nat → Prop} {φ1 : List Nat} {bb : Bool}, Inv S c ρ1 H1 ρd s1 X1 O1 φ1 → Rep X1 φ1 s1 u d → noRef u = true → ResS S c ρd X1 φ1 s1 (if (bb && !memN i c.L && decide (i < ρ1.length)) = true then .next (ρ1.set i (some u)) H1 else .bad) (match asg (.nm i) d ρd s1 with
          | some ρ' => .next ρ' s1
          | none => .bad) := by
        intro u d ρ1 H1 s1 X1 O1 φ1 bb v1 q1 hn
        by_cases hb : (bb && !memN i c.L && decide (i < ρ1.length)) = true
        · rw [if_pos hb]
          simp only [Bool.and_eq_true, Bool.not_eq_true', decide_eq_true_eq] at hb
          rw [set_ok (by rw [← v1.len]; exact hb.2)]
          exact ResS.now (v1.set q1 (.inr hn) hb.2) fun j hj _ => List.getElem?_set_ne (Ne.symm (noM hj hb.1.2))
        · rw [if_neg hb]; exact trivial
      cases hf : freshE e with
      | false =>
        refine to_sound v hE fun u d ρ1 H1 s1 X1 O1 φ1 f1 v1 q1 => ?_
        simp only [hm, if_true, Bool.false_or]
        cases hn : noRef u with
        | false => exact trivial
        | true => exact fin v1 q1 hn
      | true =>
        have h := hP hf
        cases hu : eu C cn c.M c.L e ρ H with
        | bad => exact trivial
        | exc x ρ1 H1 =>
          rw [hu] at h
          cases hd : ev Cd e ρd st with
          | exc y s1 =>
            rw [hd] at h
            obtain ⟨X1, O1, φ1, f1, v1, q1⟩ := h
            exact ⟨X1, O1, φ1, v.low f1, v1.oi, q1⟩
          | _ => rw [hd] at h; exact False.elim h
        | ok u ρ1 H1 =>
          rw [hu] at h
          cases hd : ev Cd e ρd st with
          | ok d s1 =>
            rw [hd] at h
            obtain ⟨sp, X1, O1, φ1, f1, v1, q1⟩ := h
            simp only [RU.to, SR.ofR, hm, if_true, Bool.true_or]
            rcases q1 with ⟨rfl, q1, q2⟩ | ⟨cl, rfl, rfl, q1⟩
            · exact (fin (bb := true) v1 q1 q2).re v f1 fun _ _ _ => rfl
            · by_cases hb : (true && !memN i c.L && decide (i < ρ1.length)) = true
              · rw [if_pos hb]
                simp only [Bool.and_eq_true, Bool.not_eq_true', decide_eq_true_eq] at hb
                rw [set_ok (by rw [← v1.len]; exact hb.2)]
                obtain ⟨f2, v2⟩ := v1.alloc q1 hm hb.2
                exact ⟨_, _, _, tr f1 f2, v2, fun j hj _ => List.getElem?_set_ne (Ne.symm (noM hj hb.1.2))⟩
              · rw [if_neg hb]; exact trivial
          | _ => rw [hd] at h; exact False.elim h
theorem aset_sound (hC : CallS S C Cd) {W : Nat} (o i e : Ex) (hk : kokE o = true ∧ kokE i = true ∧ kokE e = true) : SS S C Cd W (.aset o i e) := by
  intro c ρ H ρd st X O φ v
  simp only [xu, exc]
  refine to_sound v (eu_sound hC e hk.2.2 v).1 fun u d ρ1 H1 s1 X1 O1 φ1 f1 v1 q1 => ?_
  cases o <;> try exact trivial
  rename_i j
  dsimp only
  cases hj : ρ1[j]? with
  | none => exact trivial
  | some oo => cases oo with
    | none => exact trivial
    | some w =>
      obtain ⟨dj, k1, k2⟩ := v1.look hj
      simp only [ev, k1, SR.ofR]
      refine to_sound v1 (eu_sound hC i hk.2.1 v1).1 fun y z ρ2 H2 s2 X2 O2 φ2 f2 v2 q2 => ?_
      cases hm : memN j c.M with
      | false => exact trivial
      | true =>
        cases hL : memN j c.L with
        | true => exact trivial
        | false =>
          simp only [Bool.not_false, Bool.and_self, if_true]
          cases hj2 : ρ2[j]? with
          | none => exact trivial
          | some oo => cases oo with
            | none => exact trivial
            | some w2 =>
              cases w2 <;> try exact trivial
              · rename_i us
                obtain ⟨n, cl, e1, e2, e3, _⟩ := v2.own j _ hj2 hm rfl
                rw [k1] at e1
                cases e1
                cases e3 with
                | lst e3 =>
                  rename_i ds
                  simp only [e2]
                  cases y <;> try exact trivial
                  rename_i zi
                  rw [RepB.int (.val q2), e3.len]
                  dsimp only
                  cases hx : L2.ixN ds.length zi with
                  | none => exact trivial
                  | some k =>
                    obtain ⟨f3, v3⟩ := v2.write hj2 hm hL rfl k1 (.lst (e3.set k (q1.mono f2))) rfl
                    exact ⟨_, _, _, f3, v3, fun _ _ _ => rfl⟩
              · rename_i ks us
                obtain ⟨n, cl, e1, e2, e3, _⟩ := v2.own j _ hj2 hm rfl
                rw [k1] at e1
                cases e1
                cases e3 with
                | dic e3 e4 =>
                  rename_i es
                  simp only [e2]
                  have hkl : ks.length = es.length := by rw [e3.len, List.length_map]
                  rw [hkl]
                  cases hal : alikeU ks y with
                  | false => exact trivial
                  | true =>
                    rw [alike_rep e3 q2 hal]
                    by_cases hl : (true && decide (es.length < LIM)) = true
                    · rw [if_pos hl, if_pos hl]
                      have hr := put_rep e3 e4 q2 (q1.mono f2) hal
                      have hnr : noRef (dputU ks us y u) = false := by unfold dputU; split <;> rfl
                      obtain ⟨f3, v3⟩ := v2.write hj2 hm hL rfl k1 hr hnr
                      exact ⟨_, _, _, f3, v3, fun _ _ _ => rfl⟩
                    · rw [if_neg hl]; exact trivial
mutual
theorem xu_sound (hC : CallS S C Cd) (W : Nat) : ∀ s : St, kokS s = true → SS S C Cd W s
  | .asg t e, hk => asg_sound hC t e (by simpa [kokS] using hk)
  | .aset o i e, hk => aset_sound hC o i e (by
      simp only [kokS, Bool.and_eq_true] at hk
      exact ⟨hk.1.1, hk.1.2, hk.2⟩)
  | .afld o f e, hk => fun c ρ H ρd st X O φ v => by simp only [xu]; exact trivial
  | .ife e a b, hk => fun c ρ H ρd st X O φ v => by
      simp only [kokS, Bool.and_eq_true] at hk
      simp only [xu, exc]
      refine to_sound v (eu_sound hC e hk.1.1 v).1 fun u d ρ1 H1 s1 X1 O1 φ1 f1 v1 q1 => ?_
      cases u <;> try exact trivial
      rename_i z
      rw [RepB.bl (.val q1)]
      cases z with
      | true => exact xus_sound hC W a hk.1.2 v1
      | false => exact xus_sound hC W b hk.2 v1
  | .fr t it b, hk => fun c ρ H ρd st X O φ v => by
      simp only [kokS, Bool.and_eq_true] at hk
      simp only [xu, exc]
      refine to_sound v (eui_sound hC it hk.1 v) fun us p ρ1 H1 s1 X1 O1 φ1 f1 v1 q1 => ?_
      obtain ⟨q1, qw, ql⟩ := q1
      have hw : ∀ q ∈ p.2, s1[q.1]? = some q.2 ∧ (¬ X1 q.1 ∨ (lockC c (lockI it) ρ1 ρd).K q.1) := fun q hq => by
        obtain ⟨k1, k2⟩ := qw q hq
        refine ⟨k1, ?_⟩
        rcases k2 with k2 | ⟨i, k3, k2⟩
        · exact .inl k2
        · exact .inr (.inr ⟨i, k3, k2⟩)
      have hok : okW p.2 s1 = true := by
        unfold okW
        rw [List.all_eq_true]
        exact fun q hq => decide_eq_true (hw q hq).1
      rw [if_pos hok]
      have v2 := v1.lock (lockI it)
      have h := for_sound (c := lockC c (lockI it) ρ1 ρd) (w := p.2) (tm := tmpF t b) (f := fun u ρ' H' => match asgU c.M t u ρ' with
        | some ρ'' => xus C cn W c.M (lockI it ++ c.L) b ρ'' H'
        | none => .bad) (g := fun d ρ' st' => match asg t d ρ' st' with
        | some ρ'' => excs Cd W b ρ'' st'
        | none => .bad) (fun u d ρ3 H3 ρd3 s3 X3 O3 φ3 v3 r3 => by
          cases ha : asgU c.M t u ρ3 with
          | none => exact trivial
          | some ρ4 =>
            obtain ⟨ρd4, a1, a2, a3⟩ := asg_rep (c := lockC c (lockI it) ρ1 ρd) t v3 r3 ha
            dsimp only
            rw [a1]
            exact (xus_sound hC W b hk.2 a2).re v3 Fr.refl fun i _ hi => a3 i hi) us p.1 _ H1 ρd s1 X1 O1 φ1 (v2.wipe1 (tmpF t b)) q1 hw
      have fin : ∀ {r : SU Ob} {rd : SR}, ResS S (lockC c (lockI it) ρ1 ρd) ρd X1 φ1 s1 r rd → ResS S c ρd X1 φ1 s1 r rd := by
        intro r rd h
        have nx : ∀ {ρ' H' ρd' st'}, NX S (lockC c (lockI it) ρ1 ρd) ρd X1 φ1 s1 ρ' H' ρd' st' → NX S c ρd X1 φ1 s1 ρ' H' ρd' st' := by
          rintro ρ' H' ρd' st' ⟨X2, O2, φ2, f2, v2, l2⟩
          exact ⟨X2, O2, φ2, f2.le (Nat.le_refl _) fun n _ z => .inl z, v1.unlock ql v2 l2, fun i h1 h2 => l2 i (memN_app.mpr (.inr h1)) h2⟩
        cases r with
        | bad => exact trivial
        | next _ _ => cases rd <;> first | exact False.elim h | exact nx h
        | cont _ _ => cases rd <;> first | exact False.elim h | exact nx h
        | brk _ _ => cases rd <;> first | exact False.elim h | exact nx h
        | ret _ _ => cases rd <;> first | exact False.elim h | exact h
        | exc _ _ _ => cases rd <;> first | exact False.elim h | exact h
      exact fin h
  | .whl e b, hk => fun c ρ H ρd st X O φ v => by
      simp only [kokS, Bool.and_eq_true] at hk
      simp only [xu, exc]
      exact whl_sound (fun ρ H ρd st X O φ v => (eu_sound hC e hk.1 v).1) (fun ρ H ρd st X O φ v => xus_sound hC W b hk.2 v) W _ H ρd st X O φ (v.wipe1 _)
  | .ret e, hk => fun c ρ H ρd st X O φ v => by
      simp only [xu, exc]
      have h := (eu_sound hC e (by simpa [kokS] using hk) v.ret).1
      dsimp only at h
      cases hu : eu C cn [] [] e ρ H with
      | bad => exact trivial
      | exc x ρ1 H1 =>
        rw [hu] at h
        cases hd : ev Cd e ρd st with
        | exc y s1 =>
          rw [hd] at h
          obtain ⟨X1, O1, φ1, f1, v1, q1⟩ := h
          exact ⟨X1, O1, φ1, ret_fr v f1, v1.oi, q1⟩
        | _ => rw [hd] at h; exact False.elim h
      | ok u ρ1 H1 =>
        rw [hu] at h
        cases hd : ev Cd e ρd st with
        | ok d s1 =>
          rw [hd] at h
          obtain ⟨X1, O1, φ1, f1, v1, q1⟩ := h
          exact ⟨X1, O1, φ1, ret_fr v f1, v1.oi, q1⟩
        | _ => rw [hd] at h; exact False.elim h
  | .exp e, hk => fun c ρ H ρd st X O φ v => by
      simp only [xu, exc]
      refine to_sound v (eu_sound hC e (by simpa [kokS] using hk) v).1 fun u d ρ1 H1 s1 X1 O1 φ1 f1 v1 q1 => ?_
      exact ResS.now v1 fun _ _ _ => rfl
  | .pass, hk => fun c ρ H ρd st X O φ v => by
      simp only [xu, exc]
      exact ResS.now v fun _ _ _ => rfl
  | .cont, hk => fun c ρ H ρd st X O φ v => by
      simp only [xu, exc]
      exact ⟨X, O, φ, Fr.refl, v, fun _ _ _ => rfl⟩
  | .rse C', hk => fun c ρ H ρd st X O φ v => by
      simp only [xu, exc]
      exact ⟨X, O, φ, Fr.refl, v.oi, rfl, trivial⟩
  | .rsw C' e, hk => fun c ρ H ρd st X O φ v => by
      simp only [xu, exc]
      refine to_sound v (eu_sound hC e (by simpa [kokS] using hk) v).1 fun u d ρ1 H1 s1 X1 O1 φ1 f1 v1 q1 => ?_
      exact ⟨X1, O1, φ1, Fr.refl, v1.oi, rfl, q1⟩
  | .never, hk => fun c ρ H ρd st X O φ v => by simp only [xu]; exact trivial
  | .trya _ _ _ _, hk => fun c ρ H ρd st X O φ v => by simp only [xu]; exact trivial
theorem xus_sound (hC : CallS S C Cd) (W : Nat) : ∀ s : Sts, kokSs s = true → SSs S C Cd W s
  | .nil, hk => fun c ρ H ρd st X O φ v => by
      simp only [xus, excs]
      exact ResS.now v fun _ _ _ => rfl
  | .cons s ss, hk => fun c ρ H ρd st X O φ v => by
      simp only [kokSs, Bool.and_eq_true] at hk
      simp only [xus, excs]
      have h := xu_sound hC W s hk.1 v
      cases hu : xu C cn W c.M c.L s ρ H with
      | bad => exact trivial
      | next ρ1 H1 =>
        rw [hu] at h
        cases hd : exc Cd W s ρd st <;> rw [hd] at h <;> first | exact False.elim h | skip
        obtain ⟨X1, O1, φ1, f1, v1, l1⟩ := h
        exact (xus_sound hC W ss hk.2 v1).re v f1 l1
      | cont ρ' H' =>
        rw [hu] at h
        cases hd : exc Cd W s ρd st <;> rw [hd] at h <;> first | exact False.elim h | exact h
      | brk ρ' H' =>
        rw [hu] at h
        cases hd : exc Cd W s ρd st <;> rw [hd] at h <;> first | exact False.elim h | exact h
      | ret u' H' =>
        rw [hu] at h
        cases hd : exc Cd W s ρd st <;> rw [hd] at h <;> first | exact False.elim h | exact h
      | exc x ρ' H' =>
        rw [hu] at h
        cases hd : exc Cd W s ρd st <;> rw [hd] at h <;> first | exact False.elim h | exact h
end
/-- tables side by side -/
def TabS (TU : TabU) (TD : Tab) : Prop := ∀ f np ns M body, TU f = some (.fn np ns M body) → TD f = some (.fn np ns body) ∧ (∀ i ∈ M, np ≤ i) ∧ kokSs body = true
theorem get_args {us : List U} {k i : Nat} {u : U} (h : (us.map some ++ List.replicate k none)[i]? = some (some u)) : i < us.length ∧ us[i]? = some u := by
  by_cases hi : i < us.length
  · rw [List.getElem?_append_left (by simpa using hi), List.getElem?_map] at h
    refine ⟨hi, ?_⟩
    cases hu : us[i]? with
    | none => rw [hu] at h; cases h
    | some w => rw [hu] at h; cases h; rfl
  · rw [List.getElem?_append_right (by simpa using hi), List.getElem?_replicate] at h
    split at h <;> cases h
def OraS (S : ObS Ob cn) (O : Nat → Str → List U → List Ob → Option (RC Ob)) (TD : Tab) (W : Nat) : Prop := ∀ n f us H r, O n f us H = some r → ∀ (ds : List D) (st : Sto) (X Oc : Nat → Prop) (φ : List Nat) (K : Nat → Prop), Reps X φ st us ds → OI S K H X Oc φ st → (∀ n, K n → X n) → ResC S K X φ st r (callD TD W (n + 1) f ds st)
theorem callU_sound {O : Nat → Str → List U → List Ob → Option (RC Ob)} {TU : TabU} {TD : Tab} {W : Nat} (hT : TabS TU TD) (hO : OraS S O TD W) : ∀ n, CallS S (callU O cn TU W n) (callD TD W n)
  | 0 => fun f us H ds st X Oc φ K _ _ _ => by simp only [callU]; exact trivial
  | n + 1 => fun f us H ds st X Oc φ K r oi hK => by
    simp only [callU]
    cases ho : O n f us H with
    | some r' => exact hO n f us H r' ho ds st X Oc φ K r oi hK
    | none =>
      dsimp only
      cases ht : TU f with
      | none => exact trivial
      | some d =>
        obtain ⟨np, ns, M, body⟩ := d
        obtain ⟨t1, t2, t3⟩ := hT f np ns M body ht
        dsimp only
        by_cases hl : us.length = np
        · rw [if_pos hl]
          have hld : ds.length = np := by rw [← r.len]; exact hl
          simp only [callD, t1]
          rw [if_pos hld]
          have noown : ∀ i u, (us.map some ++ List.replicate (ns - np) none)[i]? = some (some u) → memN i M = true → False := fun i u h1 h2 => by
            have := (get_args h1).1
            have := t2 i (memN_iff.mp h2)
            omega
          have v : Inv S ⟨M, [], st.length, K, K⟩ (us.map some ++ List.replicate (ns - np) none) H (ds.map some ++ List.replicate (ns - np) none) st X Oc φ := {
            len := by simp only [List.length_append, List.length_map, List.length_replicate, hl, hld]
            val := fun i u h1 _ => by
              obtain ⟨h2, h3⟩ := get_args h1
              obtain ⟨d, h4, h5⟩ := r.get h3
              refine ⟨d, ?_, h5⟩
              rw [List.getElem?_append_left (by rw [List.length_map, ← r.len]; exact h2), List.getElem?_map, h4]; rfl
            own := fun i u h1 h2 _ => (noown i u h1 h2).elim
            inj := fun i j m h1 _ => by
              obtain ⟨k1, ⟨u, k2, _⟩, _⟩ := h1
              exact (noown i u k2 k1).elim
            obj := oi.1
            ox := oi.2.1
            xl := oi.2.2
            kx := hK
            kf := fun m h => ⟨h, oi.2.2 m (hK m h)⟩
            bl := Nat.le_refl _ }
          have h := xus_sound (callU_sound hT hO n) W body t3 v
          dsimp only at h
          cases hu : xus (callU O cn TU W n) cn W M [] body (us.map some ++ List.replicate (ns - np) none) H with
          | bad => exact trivial
          | cont _ _ => exact trivial
          | brk _ _ => exact trivial
          | next ρ' H' =>
            rw [hu] at h
            cases hd : excs (callD TD W n) W body (ds.map some ++ List.replicate (ns - np) none) st <;> rw [hd] at h <;> first | exact False.elim h | skip
            obtain ⟨X1, O1, φ1, f1, v1, l1⟩ := h
            exact ⟨X1, O1, φ1, f1, v1.oi, .non⟩
          | ret u' H' =>
            rw [hu] at h
            cases hd : excs (callD TD W n) W body (ds.map some ++ List.replicate (ns - np) none) st <;> rw [hd] at h <;> first | exact False.elim h | exact h
          | exc x ρ' H' =>
            rw [hu] at h
            cases hd : excs (callD TD W n) W body (ds.map some ++ List.replicate (ns - np) none) st <;> rw [hd] at h <;> first | exact False.elim h | exact h
        · rw [if_neg hl]; exact trivial
end
end IP.Q

/-! UaH: the ways of the U layer: calls, walks; from content to the store at the top. -/
namespace IP.Q
open PySem
section
variable {Ob : Type} {O : Nat → Str → List U → List Ob → Option (RC Ob)} {cn : Str} {T : TabU} {W n : Nat} {H : List Ob}
theorem call_def {f : Str} {us : List U} {np ns : Nat} {M : List Nat} {body : Sts} (hT : T f = some (.fn np ns M body)) (hO : O n f us H = none) (hl : us.length = np) :
    callU O cn T W (n + 1) f us H = (xus (callU O cn T W n) cn W M [] body (us.map some ++ List.replicate (ns - np) none) H).fin := by
  simp only [callU, hO, hT, hl, if_true]
theorem call_ora {f : Str} {us : List U} {r : RC Ob} (hO : O n f us H = some r) : callU O cn T W (n + 1) f us H = r := by
  simp only [callU, hO]
end
/-! ### walks -/
section
variable {Ob : Type} {H : List Ob}
/-- a turn's end -/
def turnOf (tm : List Nat) : SU Ob → SU Ob
  | .next ρ H => .next (wipeU ρ tm) H
  | .cont ρ H => .next (wipeU ρ tm) H
  | r => r
theorem turn_next {tm : List Nat} {ρ : EnvU} : turnOf tm (.next ρ H) = .next (wipeU ρ tm) H := rfl
theorem turn_cont {tm : List Nat} {ρ : EnvU} : turnOf tm (.cont ρ H) = .next (wipeU ρ tm) H := rfl
theorem turn_ret {tm : List Nat} {u : U} : turnOf tm (.ret u H) = .ret u H := rfl
/-- a walk with a state: on, or back with an answer -/
def foldG {α σ β : Type} (g : σ → α → σ ⊕ β) : σ → List α → σ ⊕ β
  | s, [] => .inl s
  | s, x :: xs => match g s x with
    | .inl s' => foldG g s' xs
    | .inr b => .inr b
def endG {σ : Type} (E : σ → EnvU) (h : σ → List Ob) : σ ⊕ (U × List Ob) → SU Ob
  | .inl s => .next (E s) (h s)
  | .inr (u, H) => .ret u H
theorem forU_gen {α σ : Type} {f : U → EnvU → List Ob → SU Ob} {tm : List Nat} (enc : α → U) (E : σ → EnvU) (h : σ → List Ob) (g : σ → α → σ ⊕ (U × List Ob)) (I : σ → List α → Prop) : ∀ (xs : List α) (s : σ), I s xs →
    (∀ s x r, I s (x :: r) → turnOf tm (f (enc x) (E s) (h s)) = endG E h (g s x) ∧ ∀ s', g s x = .inl s' → I s' r) → forU f tm (xs.map enc) (E s) (h s) = endG E h (foldG g s xs)
  | [], s, _, _ => rfl
  | x :: xs, s, hi, hh => by
    obtain ⟨h1, h2⟩ := hh s x xs hi
    rw [List.map_cons]
    unfold forU foldG
    cases hg : g s x with
    | inl s' =>
      rw [hg] at h1
      have ih := forU_gen enc E h g I xs s' (h2 s' hg) hh
      cases hf : f (enc x) (E s) (h s) with
      | next ρ' H' =>
        rw [hf] at h1
        have h1 : SU.next (wipeU ρ' tm) H' = .next (E s') (h s') := h1
        injection h1 with a1 a2
        dsimp only
        rw [a1, a2]
        exact ih
      | cont ρ' H' =>
        rw [hf] at h1
        have h1 : SU.next (wipeU ρ' tm) H' = .next (E s') (h s') := h1
        injection h1 with a1 a2
        dsimp only
        rw [a1, a2]
        exact ih
      | bad => rw [hf] at h1; cases h1
      | ret _ _ => rw [hf] at h1; cases h1
      | brk _ _ => rw [hf] at h1; cases h1
      | exc _ _ _ => rw [hf] at h1; cases h1
    | inr b =>
      obtain ⟨u, H'⟩ := b
      rw [hg] at h1
      cases hf : f (enc x) (E s) (h s) with
      | next ρ' H' => rw [hf] at h1; cases h1
      | cont ρ' H' => rw [hf] at h1; cases h1
      | bad => rw [hf] at h1; cases h1
      | ret _ _ => rw [hf] at h1; exact h1
      | brk _ _ => rw [hf] at h1; cases h1
      | exc _ _ _ => rw [hf] at h1; cases h1
/-- each turn goes from E s to E (g s x) -/
theorem forU_fold {α σ : Type} {f : U → EnvU → List Ob → SU Ob} {tm : List Nat} {ρ0 : EnvU} (enc : α → U) (E : σ → EnvU) (g : σ → α → σ) (I : σ → List α → Prop) (xs : List α) (s : σ) (h0 : ρ0 = E s) (hi : I s xs)
    (h : ∀ s x r, I s (x :: r) → turnOf tm (f (enc x) (E s) H) = .next (E (g s x)) H ∧ I (g s x) r) : forU f tm (xs.map enc) ρ0 H = .next (E (xs.foldl g s)) H := by
  subst h0
  have := forU_gen (Ob := Ob) (f := f) (tm := tm) enc E (fun _ => H) (fun s x => .inl (g s x)) I xs s hi fun s x r hi => by
    obtain ⟨h1, h2⟩ := h s x r hi
    exact ⟨h1, fun s' e => by cases e; exact h2⟩
  rw [this]
  have e : ∀ (xs : List α) (s : σ), foldG (β := U × List Ob) (fun s x => .inl (g s x)) s xs = .inl (xs.foldl g s) := by
    intro xs
    induction xs with
    | nil => intro s; rfl
    | cons x xs ih => intro s; exact ih _
  rw [e]; rfl
/-- a turn returns, or goes on with nothing changed -/
theorem forU_find {α : Type} {f : U → EnvU → List Ob → SU Ob} {tm : List Nat} {ρ0 : EnvU} (enc : α → U) (ρ : EnvU) (g : α → Option U) (xs : List α) (h0 : ρ0 = ρ)
    (h : ∀ x ∈ xs, turnOf tm (f (enc x) ρ H) = match g x with
      | some u => .ret u H
      | none => .next ρ H) : forU f tm (xs.map enc) ρ0 H = match xs.findSome? g with
      | some u => .ret u H
      | none => .next ρ H := by
  subst h0
  have := forU_gen (Ob := Ob) (f := f) (tm := tm) enc (fun _ : Unit => ρ0) (fun _ => H) (fun _ x => match g x with
    | some u => .inr (u, H)
    | none => .inl ()) (fun _ r => ∀ x ∈ r, x ∈ xs) xs () (fun _ hx => hx) fun s x r hi => by
      refine ⟨?_, fun _ _ y hy => hi y (List.mem_cons_of_mem _ hy)⟩
      rw [h x (hi x List.mem_cons_self)]
      cases g x <;> rfl
  rw [this]
  clear this h
  induction xs with
  | nil => rfl
  | cons x xs ih =>
    rw [List.findSome?_cons]
    unfold foldG
    cases g x with
    | none => exact ih
    | some u => rfl
/-- all turns go on, nothing stays -/
theorem forU_all {α : Type} {f : U → EnvU → List Ob → SU Ob} {tm : List Nat} {ρ0 : EnvU} (enc : α → U) (ρ : EnvU) (xs : List α) (h0 : ρ0 = ρ) (h : ∀ x ∈ xs, turnOf tm (f (enc x) ρ H) = .next ρ H) : forU f tm (xs.map enc) ρ0 H = .next ρ H := by
  have := forU_find (H := H) (f := f) (tm := tm) enc ρ (fun _ => none) xs h0 fun x hx => h x hx
  rw [this]
  have e : xs.findSome? (fun _ => (none : Option U)) = none := by
    rw [List.findSome?_eq_none_iff]; exact fun _ _ => rfl
  rw [e]
theorem compU_fm {α : Type} {f : U → List Ob → Option (Option U × List Ob)} (enc : α → U) (g : α → Option U) : ∀ (xs : List α) (acc : List U), acc.length + xs.length ≤ LIM → (∀ x ∈ xs, f (enc x) H = some (g x, H)) → compU f (xs.map enc) acc H = some (acc ++ xs.filterMap g, H)
  | [], acc, _, _ => by simp [compU]
  | x :: xs, acc, hl, h => by
    rw [List.length_cons] at hl
    rw [List.map_cons, List.filterMap_cons]
    simp only [compU, h x List.mem_cons_self]
    cases hg : g x with
    | none =>
      dsimp only
      exact compU_fm enc g xs acc (by omega) fun y hy => h y (List.mem_cons_of_mem _ hy)
    | some y =>
      dsimp only
      rw [if_pos (by omega), compU_fm enc g xs (acc ++ [y]) (by rw [List.length_append, List.length_singleton]; omega) fun y hy => h y (List.mem_cons_of_mem _ hy)]
      simp
theorem compU_map {α : Type} {f : U → List Ob → Option (Option U × List Ob)} (enc : α → U) (g : α → U) (xs : List α) (hl : xs.length ≤ LIM) (h : ∀ x ∈ xs, f (enc x) H = some (some (g x), H)) : compU f (xs.map enc) [] H = some (xs.map g, H) := by
  rw [compU_fm enc (fun x => some (g x)) xs [] (by simpa using hl) h]
  simp
theorem compU_filt {α : Type} {f : U → List Ob → Option (Option U × List Ob)} (enc : α → U) (p : α → Bool) (g : α → U) (xs : List α) (hl : xs.length ≤ LIM) (h : ∀ x ∈ xs, f (enc x) H = some (if p x then some (g x) else none, H)) : compU f (xs.map enc) [] H = some ((xs.filter p).map g, H) := by
  rw [compU_fm enc (fun x => if p x then some (g x) else none) xs [] (by simpa using hl) h, List.nil_append]
  congr 2
  rw [← List.filterMap_eq_map, List.filterMap_filter]; rfl
theorem zipUI_map {α : Type} (enc : α → U) : ∀ (xs : List α) (i : Nat), zipUI i (xs.map enc) = (xs.zipIdx i).map fun p => .tup [.int p.2, enc p.1]
  | [], i => rfl
  | x :: xs, i => by
    rw [List.map_cons, List.zipIdx_cons, List.map_cons, zipUI, zipUI_map enc xs (i + 1)]
theorem rngU_map : ∀ (n : Nat) (lo : Int), rngU lo n = (List.range n).map fun i : Nat => U.int (lo + (i : Int))
  | 0, _ => rfl
  | n + 1, lo => by
    rw [rngU, rngU_map n, List.range_succ_eq_map, List.map_cons, List.map_map]
    congr 1
    · simp
    · refine List.map_congr_left fun i _ => ?_
      show U.int _ = U.int _
      congr 1
      omega
theorem rng0_map (n : Nat) : rngU 0 n = (List.range n).map fun i : Nat => U.int (i : Int) := by
  rw [rngU_map]; simp
/-- a while by its state: p: it goes on; g: a turn -/
def whG {σ : Type} (p : σ → Bool) (g : σ → σ) : Nat → σ → σ
  | 0, s => s
  | n + 1, s => if p s then whG p g n (g s) else s
theorem whlU_gen {σ : Type} {c : EnvU → List Ob → RU Ob U} {b : EnvU → List Ob → SU Ob} {tm : List Nat} {ρ0 : EnvU} {H0 : List Ob} (E : σ → EnvU) (h : σ → List Ob) (p : σ → Bool) (g : σ → σ) (μ : σ → Nat) (I : σ → Prop)
    (hc : ∀ s, I s → c (E s) (h s) = .ok (.bl (p s)) (E s) (h s)) (hb : ∀ s, I s → p s = true → turnOf tm (b (E s) (h s)) = .next (E (g s)) (h (g s)) ∧ I (g s) ∧ μ (g s) < μ s) :
    ∀ (n : Nat) (s : σ), ρ0 = E s → H0 = h s → I s → μ s < n → whlU c b tm n ρ0 H0 = .next (E (whG p g (μ s) s)) (h (whG p g (μ s) s)) ∧ I (whG p g (μ s) s) ∧ p (whG p g (μ s) s) = false := by
  have key : ∀ (m n : Nat) (s : σ), I s → μ s ≤ m → m < n → whlU c b tm n (E s) (h s) = .next (E (whG p g m s)) (h (whG p g m s)) ∧ I (whG p g m s) ∧ p (whG p g m s) = false := by
    intro m
    induction m with
    | zero =>
      intro n s hi h1 h2
      obtain ⟨n, rfl⟩ : ∃ k, n = k + 1 := ⟨n - 1, by omega⟩
      have hp : p s = false := by
        cases hp : p s with
        | false => rfl
        | true =>
          have := (hb s hi hp).2.2
          omega
      unfold whlU whG
      rw [hc s hi, hp]
      exact ⟨rfl, hi, by first | rfl | exact hp | simpa using hp⟩
    | succ m ih =>
      intro n s hi h1 h2
      obtain ⟨n, rfl⟩ : ∃ k, n = k + 1 := ⟨n - 1, by omega⟩
      unfold whlU whG
      rw [hc s hi]
      cases hp : p s with
      | false => exact ⟨rfl, hi, by first | rfl | exact hp | simpa using hp⟩
      | true =>
        obtain ⟨k1, k2, k3⟩ := hb s hi hp
        dsimp only
        rw [if_pos rfl]
        have ih := ih n (g s) k2 (by omega) (by omega)
        cases hf : b (E s) (h s) with
        | next ρ' H' =>
          rw [hf] at k1
          have k1 : SU.next (wipeU ρ' tm) H' = .next (E (g s)) (h (g s)) := k1
          injection k1 with a1 a2
          dsimp only
          rw [a1, a2]
          exact ih
        | cont ρ' H' =>
          rw [hf] at k1
          have k1 : SU.next (wipeU ρ' tm) H' = .next (E (g s)) (h (g s)) := k1
          injection k1 with a1 a2
          dsimp only
          rw [a1, a2]
          exact ih
        | bad => rw [hf] at k1; cases k1
        | ret _ _ => rw [hf] at k1; cases k1
        | brk _ _ => rw [hf] at k1; cases k1
        | exc _ _ _ => rw [hf] at k1; cases k1
  intro n s e1 e2 hi hn
  subst e1 e2
  exact key (μ s) n s hi (Nat.le_refl _) hn
theorem whlU_use {σ : Type} {c : EnvU → List Ob → RU Ob U} {b : EnvU → List Ob → SU Ob} {tm : List Nat} {ρ0 : EnvU} {H0 : List Ob} {n : Nat} {P : SU Ob → Prop} (E : σ → EnvU) (h : σ → List Ob) (p : σ → Bool) (g : σ → σ) (μ : σ → Nat) (I : σ → Prop) (s : σ)
    (h0 : ρ0 = E s) (h1 : H0 = h s) (hi : I s) (hn : μ s < n)
    (hc : ∀ s, I s → c (E s) (h s) = .ok (.bl (p s)) (E s) (h s)) (hb : ∀ s, I s → p s = true → turnOf tm (b (E s) (h s)) = .next (E (g s)) (h (g s)) ∧ I (g s) ∧ μ (g s) < μ s)
    (hp : ∀ s, I s → p s = false → P (.next (E s) (h s))) : P (whlU c b tm n ρ0 H0) := by
  obtain ⟨k1, k2, k3⟩ := whlU_gen (c := c) (b := b) (tm := tm) (ρ0 := ρ0) (H0 := H0) E h p g μ I hc hb n s h0 h1 hi hn
  rw [k1]
  exact hp _ k2 k3
end
/-! ### plain values -/
mutual
def plainU : Nat → U → Bool
  | _, .non => true
  | _, .int _ => true
  | _, .str _ => true
  | n + 1, .tup us => plainsU n us
  | n + 1, .lst us => plainsU n us
  | _, _ => false
def plainsU : Nat → List U → Bool
  | _, [] => true
  | n, d :: ds => plainU n d && plainsU n ds
end
mutual
def toPU : U → PyData
  | .non => .none
  | .int i => .int i
  | .str x => .str x
  | .tup us => .tuple (toPsU us)
  | .lst us => .list (toPsU us)
  | _ => .none
def toPsU : List U → List PyData
  | [] => []
  | d :: ds => toPU d :: toPsU ds
end
mutual
theorem plainU_data : ∀ (n m : Nat) (d : U), n ≤ m → plainU n d = true → toDataU m d = some (toPU d)
  | n, m, .non, _, _ => by unfold toDataU toPU; rfl
  | n, m, .int i, _, _ => by unfold toDataU toPU; rfl
  | n, m, .str x, _, h => by unfold toDataU toPU; rfl
  | n + 1, m, .tup ds, hm, h => by
    unfold plainU at h
    cases m with
    | zero => omega
    | succ m =>
      unfold toDataU toPU
      rw [plainsU_data n m ds (by omega) h]; rfl
  | n + 1, m, .lst ds, hm, h => by
    unfold plainU at h
    cases m with
    | zero => omega
    | succ m =>
      unfold toDataU toPU
      rw [plainsU_data n m ds (by omega) h]; rfl
  | 0, m, .tup ds, _, h => by unfold plainU at h; cases h
  | 0, m, .lst ds, _, h => by unfold plainU at h; cases h
  | n, m, .bl _, _, h => by unfold plainU at h; cases h
  | n, m, .dic _ _, _, h => by unfold plainU at h; cases h
  | n, m, .obj _, _, h => by unfold plainU at h; cases h
  | n, m, .ro _, _, h => by unfold plainU at h; cases h
  | n, m, .fn _, _, h => by unfold plainU at h; cases h
  | n, m, .exn _ _, _, h => by unfold plainU at h; cases h
theorem plainsU_data : ∀ (n m : Nat) (ds : List U), n ≤ m → plainsU n ds = true → toDatasU m ds = some (toPsU ds)
  | n, m, [], _, _ => by unfold toDatasU toPsU; rfl
  | n, m, d :: ds, hm, h => by
    unfold plainsU at h
    rw [Bool.and_eq_true] at h
    unfold toDatasU toPsU
    rw [plainU_data n m d hm h.1, plainsU_data n m ds hm h.2]
end
mutual
theorem plainU_eqv : ∀ (n m : Nat) (a b : U), plainU n a = true → plainU m b = true → PyData.eqv (toPU a) (toPU b) = decide (a = b)
  | n, m, .non, b, h1, h2 => by cases b <;> first | (simp [toPU, PyData.eqv, Bool.beq_eq_decide_eq]; done) | (unfold plainU at h2; cases h2; done)
  | n, m, .int i, b, h1, h2 => by cases b <;> first | (simp [toPU, PyData.eqv, Bool.beq_eq_decide_eq]; done) | (unfold plainU at h2; cases h2; done)
  | n, m, .str i, b, h1, h2 => by cases b <;> first | (simp [toPU, PyData.eqv, Bool.beq_eq_decide_eq]; done) | (unfold plainU at h2; cases h2; done)
  | 0, m, .tup ds, b, h1, h2 => by unfold plainU at h1; cases h1
  | n + 1, m, .tup ds, b, h1, h2 => by
    cases b with
    | tup es =>
      cases m with
      | zero => unfold plainU at h2; cases h2
      | succ m =>
        unfold plainU at h1 h2
        simp only [toPU, PyData.eqv, plainsU_eqv n m ds es h1 h2]
        simp
    | _ => first | (simp [toPU, PyData.eqv]; done) | (unfold plainU at h2; cases h2; done)
  | 0, m, .lst ds, b, h1, h2 => by unfold plainU at h1; cases h1
  | n + 1, m, .lst ds, b, h1, h2 => by
    cases b with
    | lst es =>
      cases m with
      | zero => unfold plainU at h2; cases h2
      | succ m =>
        unfold plainU at h1 h2
        simp only [toPU, PyData.eqv, plainsU_eqv n m ds es h1 h2]
        simp
    | _ => first | (simp [toPU, PyData.eqv]; done) | (unfold plainU at h2; cases h2; done)
  | n, m, .bl _, b, h1, h2 => by unfold plainU at h1; cases h1
  | n, m, .dic _ _, b, h1, h2 => by unfold plainU at h1; cases h1
  | n, m, .obj _, b, h1, h2 => by unfold plainU at h1; cases h1
  | n, m, .ro _, b, h1, h2 => by unfold plainU at h1; cases h1
  | n, m, .fn _, b, h1, h2 => by unfold plainU at h1; cases h1
  | n, m, .exn _ _, b, h1, h2 => by unfold plainU at h1; cases h1
theorem plainsU_eqv : ∀ (n m : Nat) (as bs : List U), plainsU n as = true → plainsU m bs = true → PyData.eqvAll (toPsU as) (toPsU bs) = decide (as = bs)
  | n, m, [], [], _, _ => by simp [toPsU, PyData.eqvAll]
  | n, m, [], b :: bs, _, _ => by simp [toPsU, PyData.eqvAll]
  | n, m, a :: as, [], _, _ => by simp [toPsU, PyData.eqvAll]
  | n, m, a :: as, b :: bs, h1, h2 => by
    unfold plainsU at h1 h2
    rw [Bool.and_eq_true] at h1 h2
    simp only [toPsU, PyData.eqvAll]
    rw [plainU_eqv n m a b h1.1 h2.1, plainsU_eqv n m as bs h1.2 h2.2]
    simp
end
theorem plainU_le : ∀ {n m : Nat} {a : U}, n ≤ m → plainU n a = true → plainU m a = true := by
  have key : ∀ (n m : Nat), n ≤ m → (∀ a : U, plainU n a = true → plainU m a = true) ∧ ∀ as : List U, plainsU n as = true → plainsU m as = true := by
    intro n
    induction n with
    | zero =>
      intro m _
      have h1 : ∀ a : U, plainU 0 a = true → plainU m a = true := fun a h => by
        cases a <;> first | (simp [plainU] at h; done) | (simp [plainU]; done)
      refine ⟨h1, fun as => ?_⟩
      induction as with
      | nil => intro _; simp [plainsU]
      | cons a as ih =>
        intro h
        simp only [plainsU, Bool.and_eq_true] at h ⊢
        exact ⟨h1 a h.1, ih h.2⟩
    | succ n ih =>
      intro m hm
      obtain ⟨m, rfl⟩ : ∃ k, m = k + 1 := ⟨m - 1, by omega⟩
      have h1 : ∀ a : U, plainU (n + 1) a = true → plainU (m + 1) a = true := fun a h => by
        cases a <;> first | (simp [plainU] at h; done) | (simp only [plainU] at h ⊢; exact (ih m (by omega)).2 _ h) | (simp [plainU]; done)
      refine ⟨h1, fun as => ?_⟩
      induction as with
      | nil => intro _; simp [plainsU]
      | cons a as ih2 =>
        intro h
        simp only [plainsU, Bool.and_eq_true] at h ⊢
        exact ⟨h1 a h.1, ih2 h.2⟩
  exact fun {n m a} h k => (key n m h).1 a k
theorem plainsU_all {n : Nat} : ∀ {ds : List U}, plainsU n ds = ds.all (plainU n)
  | [] => by rw [plainsU]; rfl
  | d :: ds => by rw [plainsU, plainsU_all]; rfl
theorem eqU_plain {a b : U} (h1 : plainU 60 a = true) (h2 : plainU 60 b = true) : eqU a b = some (decide (a = b)) := by
  unfold eqU
  rw [plainU_data 60 64 a (by decide) h1, plainU_data 60 64 b (by decide) h2]
  dsimp only
  rw [plainU_eqv 60 60 a b h1 h2]
theorem inU_plain {a : U} {ds : List U} (h1 : plainU 60 a = true) (h2 : plainsU 60 ds = true) : inU a ds = some (decide (a ∈ ds)) := by
  unfold inU
  rw [plainU_data 60 64 a (by decide) h1, plainsU_data 60 63 ds (by decide) h2]
  dsimp only
  congr 1
  induction ds with
  | nil => simp [toPsU]
  | cons d ds ih =>
    unfold plainsU at h2
    rw [Bool.and_eq_true] at h2
    simp only [toPsU, List.any_cons, ih h2.2]
    rw [plainU_eqv 60 60 d a h2.1 h1]
    by_cases e : d = a
    · subst e; simp
    · have e' : ¬ a = d := fun z => e z.symm
      simp [e, e']
theorem idxU_plain {a : U} {ds : List U} (h1 : plainU 60 a = true) (h2 : plainsU 60 ds = true) : idxU a ds = ds.findIdx? fun d => decide (d = a) := by
  unfold idxU
  rw [plainU_data 60 64 a (by decide) h1, plainsU_data 60 63 ds (by decide) h2]
  dsimp only
  induction ds with
  | nil => simp [toPsU]
  | cons d ds ih =>
    unfold plainsU at h2
    rw [Bool.and_eq_true] at h2
    simp only [toPsU, List.findIdx?_cons, ih h2.2]
    rw [plainU_eqv 60 60 d a h2.1 h1]
/-! ### the top -/
def nob : ObS Unit "" where
  OR := fun H φ _ O => φ = [] ∧ ∀ n, ¬ O n
  loc := fun h _ => h
  lt := fun h k => (h.2 _ k).elim
  cls := fun h k => by rw [h.1] at k; simp at k
theorem top_ok {Ob : Type} {cn : Str} {S : ObS Ob cn} {O : Nat → Str → List U → List Ob → Option (RC Ob)} {TU : TabU} {TD : Tab} {W n : Nat} (hT : TabS TU TD) (hO : OraS S O TD W) (h0 : S.OR [] [] [] fun _ => False) {f : Str} {ns : List Int} {H : List Ob}
    (h : callU O cn TU W n f [.ro ns] [] = .ok (.bl true) H) : ∃ st, callD TD W n f [.ro ns] [] = .ok (.bl true) st := by
  have := callU_sound hT hO n f [.ro ns] [] [.ro ns] [] (fun _ => False) (fun _ => False) [] (fun _ => False) (.one (.ro ns)) ⟨h0, fun _ z => z.elim, fun _ z => z.elim⟩ fun _ z => z
  rw [h] at this
  cases hd : callD TD W n f [.ro ns] [] with
  | ok d st =>
    rw [hd] at this
    obtain ⟨X, O', φ, _, _, r⟩ := this
    rw [RepB.bl (.val r)]
    exact ⟨st, rfl⟩
  | bad => rw [hd] at this; exact this.elim
  | exc _ _ => rw [hd] at this; exact this.elim
end IP.Q

/-! UaI: the tables of the U layer: which names own their lists. -/
namespace IP.Q
open PySem
mutual
def mtE : Ex → List Nat
  | .k _ => []
  | .lc _ => []
  | .bin _ a b => mtE a ++ mtE b
  | .neg a => mtE a
  | .not a => mtE a
  | .and a b => mtE a ++ mtE b
  | .or a b => mtE a ++ mtE b
  | .cmp _ a b => mtE a ++ mtE b
  | .chn _ _ a b c => mtE a ++ mtE b ++ mtE c
  | .isN a => mtE a
  | .notN a => mtE a
  | .ite c a b => mtE c ++ mtE a ++ mtE b
  | .call _ es => mtEs es
  | .cal _ es => mtEs es
  | .mth o _ _ _ es => mtE o ++ mtEs es
  | .bi _ e => mtE e
  | .lset e => mtE e
  | .bm m o es => (match m with
    | .append => lockE o
    | .extend => lockE o
    | .pop => lockE o
    | .popi => lockE o
    | _ => []) ++ mtE o ++ mtEs es
  | .isT e _ => mtE e
  | .isX e _ => mtE e
  | .fld o _ => mtE o
  | .ix a b => mtE a ++ mtE b
  | .sl a l h => mtE a ++ mtO l ++ mtO h
  | .lst es => mtEs es
  | .tup es => mtEs es
  | .dct ps => mtPs ps
  | .comp e _ it c _ => mtE e ++ mtI it ++ mtO c
def mtEs : Exs → List Nat
  | .nil => []
  | .cons e es => mtE e ++ mtEs es
def mtPs : Exps → List Nat
  | .nil => []
  | .cons k v ps => mtE k ++ mtE v ++ mtPs ps
def mtO : Exo → List Nat
  | .none => []
  | .some e => mtE e
def mtI : Itr → List Nat
  | .val e => mtE e
  | .rng a => mtE a
  | .rng2 a b => mtE a ++ mtE b
  | .enm e => mtE e
  | .zip a b => mtE a ++ mtE b
end
mutual
def mtS : St → List Nat
  | .asg _ e => mtE e
  | .aset o i e => lockE o ++ mtE i ++ mtE e
  | .afld o _ e => mtE o ++ mtE e
  | .ife c a b => mtE c ++ mtSs a ++ mtSs b
  | .fr _ it b => mtI it ++ mtSs b
  | .whl c b => mtE c ++ mtSs b
  | .ret e => mtE e
  | .exp e => mtE e
  | .rsw _ e => mtE e
  | .trya b _ _ e => mtSs b ++ mtE e
  | _ => []
def mtSs : Sts → List Nat
  | .nil => []
  | .cons s ss => mtS s ++ mtSs ss
end
def ownM (np : Nat) (b : Sts) : List Nat := (dedupN (mtSs b)).filter fun i => decide (np ≤ i)
/-- a def in the table, none of the answers given ahead -/
structure Has {Ob : Type} (T : TabU) (O : Nat → Str → List U → List Ob → Option (RC Ob)) (f : Str) (np ns : Nat) (b : Sts) : Prop where
  tab : T f = some (.fn np ns (ownM np b) b)
  ora : ∀ n us H, O n f us H = none
theorem Has.run {Ob : Type} {T : TabU} {O : Nat → Str → List U → List Ob → Option (RC Ob)} {f : Str} {np ns : Nat} {b : Sts} (h : Has T O f np ns b) (M : List Nat) (hM : ownM np b = M) {cn : Str} {W n : Nat} {H : List Ob} {us : List U} (hl : us.length = np) :
    callU O cn T W (n + 1) f us H = (xus (callU O cn T W n) cn W M [] b (us.map some ++ List.replicate (ns - np) none) H).fin := by
  subst hM
  exact call_def h.tab (h.ora _ _ _) hl
/-! ### the rules of a step -/
section
variable {Ob α : Type}
def negR (x : U) (ρ : EnvU) (H : List Ob) : RU Ob U := match x with
  | .int i => .ok (.int (-i)) ρ H
  | _ => .bad
def notR (x : U) (ρ : EnvU) (H : List Ob) : RU Ob U := match x with
  | .bl c => .ok (.bl (!c)) ρ H
  | _ => .bad
def iteR (x : U) (a b : RU Ob U) : RU Ob U := match x with
  | .bl true => a
  | .bl false => b
  | _ => .bad
def chnR (x : Option Bool) (a : RU Ob U) (ρ : EnvU) (H : List Ob) : RU Ob U := match x with
  | some true => a
  | some false => .ok (.bl false) ρ H
  | none => .bad
def mthR (x : U) (f : Nat → RU Ob U) : RU Ob U := match x with
  | .obj k => f k
  | _ => .bad
def lstR (x : Option (Option U)) (f : List U → RU Ob U) : RU Ob U := match x with
  | some (some (.lst us)) => f us
  | _ => .bad
def mutR (x : Option (U × List U)) (i : Nat) (ρ : EnvU) (H : List Ob) : RU Ob U := match x with
  | some (v, us') => .ok v (ρ.set i (some (.lst us'))) H
  | none => .bad
def dicR (x : Option (List U × List U)) (ρ : EnvU) (H : List Ob) : RU Ob U := match x with
  | some (ks, us) => .ok (.dic ks us) ρ H
  | none => .bad
def comR (x : Option (List U × List Ob)) (ρ : EnvU) : RU Ob U := match x with
  | some (ys, H2) => .ok (.lst ys) ρ H2
  | none => .bad
def intR (x : U) (ρ : EnvU) (H : List Ob) : RU Ob (Option Int) := match x with
  | .int i => .ok (some i) ρ H
  | _ => .bad
def boolR (x : U) (ρ : EnvU) (H : List Ob) : RU Ob Bool := match x with
  | .bl b => .ok b ρ H
  | _ => .bad
def rngR (x : U) (ρ : EnvU) (H : List Ob) : RU Ob (List U) := match x with
  | .int j => if small62 j then .ok (rngU 0 j.toNat) ρ H else .bad
  | _ => .bad
def rng2R (x y : U) (ρ : EnvU) (H : List Ob) : RU Ob (List U) := match x, y with
  | .int i, .int j => if small62 i && small62 j then .ok (rngU i (j - i).toNat) ρ H else .bad
  | _, _ => .bad
def zipR (x y : Option (List U)) (b : Bool) (ρ : EnvU) (H : List Ob) : RU Ob (List U) := match x, y with
  | some p, some q => if b then .ok (zipUU p q) ρ H else .bad
  | _, _ => .bad
def nxtR (x : Option EnvU) (H : List Ob) : SU Ob := match x with
  | some ρ' => .next ρ' H
  | none => .bad
def hasR (x : Option (Option U)) (r : SU Ob) : SU Ob := match x with
  | some (some _) => r
  | _ => .bad
def setR (x : Option (Option U)) (j : Nat) (y u : U) (ρ : EnvU) (H : List Ob) : SU Ob := match x with
  | some (some (.lst us)) => (match y with
    | .int z => (match L2.ixN us.length z with
      | some k => .next (ρ.set j (some (.lst (us.set k u)))) H
      | none => .bad)
    | _ => .bad)
  | some (some (.dic ks us)) => if alikeU ks y && decide (ks.length < LIM) then .next (ρ.set j (some (dputU ks us y u))) H else .bad
  | _ => .bad
def ifeR (x : U) (a b : SU Ob) : SU Ob := match x with
  | .bl true => a
  | .bl false => b
  | _ => .bad
def seqS (r : SU Ob) (k : EnvU → List Ob → SU Ob) : SU Ob := match r with
  | .next ρ H => k ρ H
  | r => r
def outU (x : Option (Option U)) (ρ : EnvU) (H : List Ob) : RU Ob U := match x with
  | some (some u) => .ok u ρ H
  | _ => .bad
section
variable (C : Str → List U → List Ob → RC Ob) (cn : Str) (W : Nat)
def borE (M L : List Nat) (a : Ex) (ρ : EnvU) (H : List Ob) : RU Ob U := bor a (eu C cn M L a ρ H) ρ H
def cturn (M : List Nat) (e : Ex) (t : Tg) (c : Exo) (own : List Nat) (ρ : EnvU) (u : U) (H2 : List Ob) : Option (Option U × List Ob) := match asgU M t u (wipeU ρ own) with
  | some ρ' => (match euc C cn M M c ρ' H2 with
    | .ok true ρ2 H3 => (match eu C cn M M e ρ2 H3 with
      | .ok y _ H4 => some (some y, H4)
      | _ => none)
    | .ok false _ H3 => some (none, H3)
    | _ => none)
  | none => none
def fturn (M L : List Nat) (t : Tg) (b : Sts) (u : U) (ρ' : EnvU) (H' : List Ob) : SU Ob := match asgU M t u ρ' with
  | some ρ'' => xus C cn W M L b ρ'' H'
  | none => .bad
end
variable {C : Str → List U → List Ob → RC Ob} {cn : Str} {W : Nat} {M L : List Nat} {ρ ρ' : EnvU} {H : List Ob}
theorem e_k {d : D} : eu C cn M L (.k d) ρ H = ofO (ofD d) ρ H := by first | rfl | simp only [eu, eus, euo, euc, eud, eui, xu, xus, bor, same] | (simp only [eu, eus, euo, euc, eud, eui, xu, xus, bor, same]; rfl)
theorem e_lc {i : Nat} : eu C cn M L (.lc i) ρ H = if memN i M then .bad else lookU i ρ H := by first | rfl | simp only [eu, eus, euo, euc, eud, eui, xu, xus, bor, same] | (simp only [eu, eus, euo, euc, eud, eui, xu, xus, bor, same]; rfl)
theorem e_bin {o : Bop} {a b : Ex} : eu C cn M L (.bin o a b) ρ H = (borE C cn M L a ρ H).bind fun x ρ1 H1 => (borE C cn M L b ρ1 H1).bind fun y ρ2 H2 => if same a ρ1 ρ2 then ofO (binU o x y) ρ2 H2 else .bad := by first | rfl | simp only [eu, eus, euo, euc, eud, eui, xu, xus, bor, same] | (simp only [eu, eus, euo, euc, eud, eui, xu, xus, bor, same]; rfl)
theorem e_neg {a : Ex} : eu C cn M L (.neg a) ρ H = (eu C cn M L a ρ H).bind fun x ρ1 H1 => negR x ρ1 H1 := by first | rfl | simp only [eu, eus, euo, euc, eud, eui, xu, xus, bor, same] | (simp only [eu, eus, euo, euc, eud, eui, xu, xus, bor, same]; rfl)
theorem e_not {a : Ex} : eu C cn M L (.not a) ρ H = (eu C cn M L a ρ H).bind fun x ρ1 H1 => notR x ρ1 H1 := by first | rfl | simp only [eu, eus, euo, euc, eud, eui, xu, xus, bor, same] | (simp only [eu, eus, euo, euc, eud, eui, xu, xus, bor, same]; rfl)
theorem e_and {a b : Ex} : eu C cn M L (.and a b) ρ H = (eu C cn M L a ρ H).bind fun x ρ1 H1 => iteR x (eu C cn M L b ρ1 H1) (.ok (.bl false) ρ1 H1) := by first | rfl | simp only [eu, eus, euo, euc, eud, eui, xu, xus, bor, same] | (simp only [eu, eus, euo, euc, eud, eui, xu, xus, bor, same]; rfl)
theorem e_or {a b : Ex} : eu C cn M L (.or a b) ρ H = (eu C cn M L a ρ H).bind fun x ρ1 H1 => iteR x (.ok (.bl true) ρ1 H1) (eu C cn M L b ρ1 H1) := by first | rfl | simp only [eu, eus, euo, euc, eud, eui, xu, xus, bor, same] | (simp only [eu, eus, euo, euc, eud, eui, xu, xus, bor, same]; rfl)
theorem e_cmp {o : Cop} {a b : Ex} : eu C cn M L (.cmp o a b) ρ H = (borE C cn M L a ρ H).bind fun x ρ1 H1 => (borE C cn M L b ρ1 H1).bind fun y ρ2 H2 => if same a ρ1 ρ2 then ofB (cmpU o x y) ρ2 H2 else .bad := by first | rfl | simp only [eu, eus, euo, euc, eud, eui, xu, xus, bor, same] | (simp only [eu, eus, euo, euc, eud, eui, xu, xus, bor, same]; rfl)
theorem e_chn {o p : Cop} {a b c : Ex} : eu C cn M L (.chn o p a b c) ρ H = (eu C cn M L a ρ H).bind fun x ρ1 H1 => (eu C cn M L b ρ1 H1).bind fun y ρ2 H2 => chnR (cmpU o x y) ((eu C cn M L c ρ2 H2).bind fun z ρ3 H3 => ofB (cmpU p y z) ρ3 H3) ρ2 H2 := by first | rfl | simp only [eu, eus, euo, euc, eud, eui, xu, xus, bor, same] | (simp only [eu, eus, euo, euc, eud, eui, xu, xus, bor, same]; rfl)
theorem e_isN {a : Ex} : eu C cn M L (.isN a) ρ H = (borE C cn M L a ρ H).bind fun x ρ1 H1 => .ok (.bl (isNonU x)) ρ1 H1 := by first | rfl | simp only [eu, eus, euo, euc, eud, eui, xu, xus, bor, same] | (simp only [eu, eus, euo, euc, eud, eui, xu, xus, bor, same]; rfl)
theorem e_notN {a : Ex} : eu C cn M L (.notN a) ρ H = (borE C cn M L a ρ H).bind fun x ρ1 H1 => .ok (.bl (!isNonU x)) ρ1 H1 := by first | rfl | simp only [eu, eus, euo, euc, eud, eui, xu, xus, bor, same] | (simp only [eu, eus, euo, euc, eud, eui, xu, xus, bor, same]; rfl)
theorem e_ite {c a b : Ex} : eu C cn M L (.ite c a b) ρ H = (eu C cn M L c ρ H).bind fun x ρ1 H1 => iteR x (eu C cn M L a ρ1 H1) (eu C cn M L b ρ1 H1) := by first | rfl | simp only [eu, eus, euo, euc, eud, eui, xu, xus, bor, same] | (simp only [eu, eus, euo, euc, eud, eui, xu, xus, bor, same]; rfl)
theorem e_call {f : Str} {es : Exs} : eu C cn M L (.call f es) ρ H = (eus C cn M L es ρ H).bind fun us ρ1 H1 => ofC (C f us H1) ρ1 := by first | rfl | simp only [eu, eus, euo, euc, eud, eui, xu, xus, bor, same] | (simp only [eu, eus, euo, euc, eud, eui, xu, xus, bor, same]; rfl)
theorem e_mth {o : Ex} {Cn m f : Str} {es : Exs} : eu C cn M L (.mth o Cn m f es) ρ H = (eu C cn M L o ρ H).bind fun x ρ1 H1 => mthR x (fun k => if cn = Cn then (eus C cn M L es ρ1 H1).bind fun us ρ2 H2 => ofC (C f (.obj k :: us) H2) ρ2 else .bad) := by first | rfl | simp only [eu, eus, euo, euc, eud, eui, xu, xus, bor, same] | (simp only [eu, eus, euo, euc, eud, eui, xu, xus, bor, same]; rfl)
theorem e_bi {b : Bi} {a : Ex} : eu C cn M L (.bi b a) ρ H = (borE C cn M L a ρ H).bind fun x ρ1 H1 => ofO (biU b x) ρ1 H1 := by first | rfl | simp only [eu, eus, euo, euc, eud, eui, xu, xus, bor, same] | (simp only [eu, eus, euo, euc, eud, eui, xu, xus, bor, same]; rfl)
theorem e_lset {a : Ex} : eu C cn M L (.lset a) ρ H = (borE C cn M L a ρ H).bind fun x ρ1 H1 => ofO (lsetU x) ρ1 H1 := by first | rfl | simp only [eu, eus, euo, euc, eud, eui, xu, xus, bor, same] | (simp only [eu, eus, euo, euc, eud, eui, xu, xus, bor, same]; rfl)
theorem e_isT {a : Ex} {T : Ty} : eu C cn M L (.isT a T) ρ H = (borE C cn M L a ρ H).bind fun x ρ1 H1 => ofB (isTU x T) ρ1 H1 := by first | rfl | simp only [eu, eus, euo, euc, eud, eui, xu, xus, bor, same] | (simp only [eu, eus, euo, euc, eud, eui, xu, xus, bor, same]; rfl)
theorem e_get {o : Ex} {es : Exs} : eu C cn M L (.bm .get o es) ρ H = (borE C cn M L o ρ H).bind fun x ρ1 H1 => if isDicU x then (eus C cn M L es ρ1 H1).bind fun vs ρ2 H2 => if same o ρ1 ρ2 then ofO (getU x vs) ρ2 H2 else .bad else .bad := by first | rfl | simp only [eu, eus, euo, euc, eud, eui, xu, xus, bor, same] | (simp only [eu, eus, euo, euc, eud, eui, xu, xus, bor, same]; rfl)
theorem e_index {o : Ex} {es : Exs} : eu C cn M L (.bm .index o es) ρ H = (borE C cn M L o ρ H).bind fun x ρ1 H1 => if isLstU x then (eus C cn M L es ρ1 H1).bind fun vs ρ2 H2 => if same o ρ1 ρ2 then ofO (indexU x vs) ρ2 H2 else .bad else .bad := by first | rfl | simp only [eu, eus, euo, euc, eud, eui, xu, xus, bor, same] | (simp only [eu, eus, euo, euc, eud, eui, xu, xus, bor, same]; rfl)
theorem e_append {i : Nat} {es : Exs} : eu C cn M L (.bm .append (.lc i) es) ρ H = if memN i M && !memN i L then lstR ρ[i]? (fun _ => (eus C cn M L es ρ H).bind fun vs ρ1 H1 => lstR ρ1[i]? (fun us => mutR (mutU .append us vs) i ρ1 H1)) else .bad := by first | rfl | simp only [eu, eus, euo, euc, eud, eui, xu, xus, bor, same] | (simp only [eu, eus, euo, euc, eud, eui, xu, xus, bor, same]; rfl)
theorem e_extend {i : Nat} {es : Exs} : eu C cn M L (.bm .extend (.lc i) es) ρ H = if memN i M && !memN i L then lstR ρ[i]? (fun _ => (eus C cn M L es ρ H).bind fun vs ρ1 H1 => lstR ρ1[i]? (fun us => mutR (mutU .extend us vs) i ρ1 H1)) else .bad := by first | rfl | simp only [eu, eus, euo, euc, eud, eui, xu, xus, bor, same] | (simp only [eu, eus, euo, euc, eud, eui, xu, xus, bor, same]; rfl)
theorem e_pop {i : Nat} {es : Exs} : eu C cn M L (.bm .pop (.lc i) es) ρ H = if memN i M && !memN i L then lstR ρ[i]? (fun _ => (eus C cn M L es ρ H).bind fun vs ρ1 H1 => lstR ρ1[i]? (fun us => mutR (mutU .pop us vs) i ρ1 H1)) else .bad := by first | rfl | simp only [eu, eus, euo, euc, eud, eui, xu, xus, bor, same] | (simp only [eu, eus, euo, euc, eud, eui, xu, xus, bor, same]; rfl)
theorem e_popi {i : Nat} {es : Exs} : eu C cn M L (.bm .popi (.lc i) es) ρ H = if memN i M && !memN i L then lstR ρ[i]? (fun _ => (eus C cn M L es ρ H).bind fun vs ρ1 H1 => lstR ρ1[i]? (fun us => mutR (mutU .popi us vs) i ρ1 H1)) else .bad := by first | rfl | simp only [eu, eus, euo, euc, eud, eui, xu, xus, bor, same] | (simp only [eu, eus, euo, euc, eud, eui, xu, xus, bor, same]; rfl)
theorem e_ix {a i : Ex} : eu C cn M L (.ix a i) ρ H = (borE C cn M L a ρ H).bind fun x ρ1 H1 => (eu C cn M L i ρ1 H1).bind fun y ρ2 H2 => if same a ρ1 ρ2 then ofO (ixU x y) ρ2 H2 else .bad := by first | rfl | simp only [eu, eus, euo, euc, eud, eui, xu, xus, bor, same] | (simp only [eu, eus, euo, euc, eud, eui, xu, xus, bor, same]; rfl)
theorem e_sl {a : Ex} {lo hi : Exo} : eu C cn M L (.sl a lo hi) ρ H = (borE C cn M L a ρ H).bind fun x ρ1 H1 => (euo C cn M L lo ρ1 H1).bind fun l ρ2 H2 => (euo C cn M L hi ρ2 H2).bind fun h ρ3 H3 => if same a ρ1 ρ3 then ofO (slU x l h) ρ3 H3 else .bad := by first | rfl | simp only [eu, eus, euo, euc, eud, eui, xu, xus, bor, same] | (simp only [eu, eus, euo, euc, eud, eui, xu, xus, bor, same]; rfl)
theorem e_lst {es : Exs} : eu C cn M L (.lst es) ρ H = (eus C cn M L es ρ H).bind fun us ρ1 H1 => if us.length ≤ LIM then .ok (.lst us) ρ1 H1 else .bad := by first | rfl | simp only [eu, eus, euo, euc, eud, eui, xu, xus, bor, same] | (simp only [eu, eus, euo, euc, eud, eui, xu, xus, bor, same]; rfl)
theorem e_tup {es : Exs} : eu C cn M L (.tup es) ρ H = (eus C cn M L es ρ H).bind fun us ρ1 H1 => if us.length ≤ LIM then .ok (.tup us) ρ1 H1 else .bad := by first | rfl | simp only [eu, eus, euo, euc, eud, eui, xu, xus, bor, same] | (simp only [eu, eus, euo, euc, eud, eui, xu, xus, bor, same]; rfl)
theorem e_dct {ps : Exps} : eu C cn M L (.dct ps) ρ H = (eud C cn M L ps ρ H).bind fun a ρ1 H1 => if a.1.length ≤ 15 then dicR (putAllU ([], []) a.1 a.2) ρ1 H1 else .bad := by first | rfl | simp only [eu, eus, euo, euc, eud, eui, xu, xus, bor, same] | (simp only [eu, eus, euo, euc, eud, eui, xu, xus, bor, same]; rfl)
theorem e_comp {e : Ex} {t : Tg} {it : Itr} {c : Exo} {own : List Nat} : eu C cn M L (.comp e t it c own) ρ H = (eui C cn M L it ρ H).bind fun p ρ1 H1 => comR (compU (cturn C cn M e t c own ρ1) p [] H1) ρ1 := by first | rfl | simp only [eu, eus, euo, euc, eud, eui, xu, xus, bor, same] | (simp only [eu, eus, euo, euc, eud, eui, xu, xus, bor, same]; rfl)
theorem es_nil : eus C cn M L .nil ρ H = .ok [] ρ H := by first | rfl | simp only [eu, eus, euo, euc, eud, eui, xu, xus, bor, same] | (simp only [eu, eus, euo, euc, eud, eui, xu, xus, bor, same]; rfl)
theorem es_cons {e : Ex} {es : Exs} : eus C cn M L (.cons e es) ρ H = (eu C cn M L e ρ H).bind fun u ρ1 H1 => (eus C cn M L es ρ1 H1).bind fun us ρ2 H2 => .ok (u :: us) ρ2 H2 := by first | rfl | simp only [eu, eus, euo, euc, eud, eui, xu, xus, bor, same] | (simp only [eu, eus, euo, euc, eud, eui, xu, xus, bor, same]; rfl)
theorem eo_none : euo C cn M L .none ρ H = .ok none ρ H := by first | rfl | simp only [eu, eus, euo, euc, eud, eui, xu, xus, bor, same] | (simp only [eu, eus, euo, euc, eud, eui, xu, xus, bor, same]; rfl)
theorem eo_some {e : Ex} : euo C cn M L (.some e) ρ H = (eu C cn M L e ρ H).bind fun u ρ1 H1 => intR u ρ1 H1 := by first | rfl | simp only [eu, eus, euo, euc, eud, eui, xu, xus, bor, same] | (simp only [eu, eus, euo, euc, eud, eui, xu, xus, bor, same]; rfl)
theorem ec_none : euc C cn M L .none ρ H = .ok true ρ H := by first | rfl | simp only [eu, eus, euo, euc, eud, eui, xu, xus, bor, same] | (simp only [eu, eus, euo, euc, eud, eui, xu, xus, bor, same]; rfl)
theorem ec_some {e : Ex} : euc C cn M L (.some e) ρ H = (eu C cn M L e ρ H).bind fun u ρ1 H1 => boolR u ρ1 H1 := by first | rfl | simp only [eu, eus, euo, euc, eud, eui, xu, xus, bor, same] | (simp only [eu, eus, euo, euc, eud, eui, xu, xus, bor, same]; rfl)
theorem ed_nil : eud C cn M L .nil ρ H = .ok ([], []) ρ H := by first | rfl | simp only [eu, eus, euo, euc, eud, eui, xu, xus, bor, same] | (simp only [eu, eus, euo, euc, eud, eui, xu, xus, bor, same]; rfl)
theorem ed_cons {k v : Ex} {ps : Exps} : eud C cn M L (.cons k v ps) ρ H = (eu C cn M L k ρ H).bind fun d ρ1 H1 => (eu C cn M L v ρ1 H1).bind fun e ρ2 H2 => (eud C cn M L ps ρ2 H2).bind fun a ρ3 H3 => .ok (d :: a.1, e :: a.2) ρ3 H3 := by first | rfl | simp only [eu, eus, euo, euc, eud, eui, xu, xus, bor, same] | (simp only [eu, eus, euo, euc, eud, eui, xu, xus, bor, same]; rfl)
theorem ei_val {e : Ex} : eui C cn M L (.val e) ρ H = (borE C cn M L e ρ H).bind fun x ρ1 H1 => ofO (walkU x) ρ1 H1 := by first | rfl | simp only [eu, eus, euo, euc, eud, eui, xu, xus, bor, same] | (simp only [eu, eus, euo, euc, eud, eui, xu, xus, bor, same]; rfl)
theorem ei_rng {a : Ex} : eui C cn M L (.rng a) ρ H = (eu C cn M L a ρ H).bind fun x ρ1 H1 => rngR x ρ1 H1 := by first | rfl | simp only [eu, eus, euo, euc, eud, eui, xu, xus, bor, same] | (simp only [eu, eus, euo, euc, eud, eui, xu, xus, bor, same]; rfl)
theorem ei_rng2 {a b : Ex} : eui C cn M L (.rng2 a b) ρ H = (eu C cn M L a ρ H).bind fun x ρ1 H1 => (eu C cn M L b ρ1 H1).bind fun y ρ2 H2 => rng2R x y ρ2 H2 := by first | rfl | simp only [eu, eus, euo, euc, eud, eui, xu, xus, bor, same] | (simp only [eu, eus, euo, euc, eud, eui, xu, xus, bor, same]; rfl)
theorem ei_enm {e : Ex} : eui C cn M L (.enm e) ρ H = (borE C cn M L e ρ H).bind fun x ρ1 H1 => ofO ((seqU x).map (zipUI 0)) ρ1 H1 := by first | rfl | simp only [eu, eus, euo, euc, eud, eui, xu, xus, bor, same] | (simp only [eu, eus, euo, euc, eud, eui, xu, xus, bor, same]; rfl)
theorem ei_zip {a b : Ex} : eui C cn M L (.zip a b) ρ H = (borE C cn M L a ρ H).bind fun x ρ1 H1 => (borE C cn M L b ρ1 H1).bind fun y ρ2 H2 => zipR (seqU x) (seqU y) (same a ρ1 ρ2 && sameKU x y) ρ2 H2 := by first | rfl | simp only [eu, eus, euo, euc, eud, eui, xu, xus, bor, same] | (simp only [eu, eus, euo, euc, eud, eui, xu, xus, bor, same]; rfl)
theorem x_asg {i : Nat} {e : Ex} : xu C cn W M L (.asg (.nm i) e) ρ H = (eu C cn M L e ρ H).to fun u ρ1 H1 => if memN i M then (if (freshE e || noRef u) && !memN i L && decide (i < ρ1.length) then .next (ρ1.set i (some u)) H1 else .bad) else (if i < ρ1.length then .next (ρ1.set i (some u)) H1 else .bad) := by first | rfl | simp only [eu, eus, euo, euc, eud, eui, xu, xus, bor, same] | (simp only [eu, eus, euo, euc, eud, eui, xu, xus, bor, same]; rfl)
theorem x_asgT {ts : Tgs} {e : Ex} : xu C cn W M L (.asg (.tp ts) e) ρ H = (eu C cn M L e ρ H).to fun u ρ1 H1 => nxtR (asgU M (.tp ts) u ρ1) H1 := by first | rfl | simp only [eu, eus, euo, euc, eud, eui, xu, xus, bor, same] | (simp only [eu, eus, euo, euc, eud, eui, xu, xus, bor, same]; rfl)
theorem x_aset {j : Nat} {i e : Ex} : xu C cn W M L (.aset (.lc j) i e) ρ H = (eu C cn M L e ρ H).to fun u ρ1 H1 => hasR ρ1[j]? ((eu C cn M L i ρ1 H1).to fun y ρ2 H2 => if memN j M && !memN j L then setR ρ2[j]? j y u ρ2 H2 else .bad) := by first | rfl | simp only [eu, eus, euo, euc, eud, eui, xu, xus, bor, same] | (simp only [eu, eus, euo, euc, eud, eui, xu, xus, bor, same]; rfl)
theorem x_ife {c : Ex} {a b : Sts} : xu C cn W M L (.ife c a b) ρ H = (eu C cn M L c ρ H).to fun u ρ1 H1 => ifeR u (xus C cn W M L a ρ1 H1) (xus C cn W M L b ρ1 H1) := by first | rfl | simp only [eu, eus, euo, euc, eud, eui, xu, xus, bor, same] | (simp only [eu, eus, euo, euc, eud, eui, xu, xus, bor, same]; rfl)
theorem x_fr {t : Tg} {it : Itr} {b : Sts} : xu C cn W M L (.fr t it b) ρ H = (eui C cn M L it ρ H).to fun p ρ1 H1 => forU (fturn C cn W M (lockI it ++ L) t b) (tmpF t b) p (wipeU ρ1 (tmpF t b)) H1 := by first | rfl | simp only [eu, eus, euo, euc, eud, eui, xu, xus, bor, same] | (simp only [eu, eus, euo, euc, eud, eui, xu, xus, bor, same]; rfl)
theorem x_whl {c : Ex} {b : Sts} : xu C cn W M L (.whl c b) ρ H = whlU (eu C cn M L c) (xus C cn W M L b) (tmpW c b) W (wipeU ρ (tmpW c b)) H := by first | rfl | simp only [eu, eus, euo, euc, eud, eui, xu, xus, bor, same] | (simp only [eu, eus, euo, euc, eud, eui, xu, xus, bor, same]; rfl)
theorem x_ret {e : Ex} : xu C cn W M L (.ret e) ρ H = (eu C cn [] [] e ρ H).to fun u _ H1 => .ret u H1 := by first | rfl | simp only [eu, eus, euo, euc, eud, eui, xu, xus, bor, same] | (simp only [eu, eus, euo, euc, eud, eui, xu, xus, bor, same]; rfl)
theorem x_exp {e : Ex} : xu C cn W M L (.exp e) ρ H = (eu C cn M L e ρ H).to fun _ ρ1 H1 => .next ρ1 H1 := by first | rfl | simp only [eu, eus, euo, euc, eud, eui, xu, xus, bor, same] | (simp only [eu, eus, euo, euc, eud, eui, xu, xus, bor, same]; rfl)
theorem x_pass : xu C cn W M L .pass ρ H = .next ρ H := by first | rfl | simp only [eu, eus, euo, euc, eud, eui, xu, xus, bor, same] | (simp only [eu, eus, euo, euc, eud, eui, xu, xus, bor, same]; rfl)
theorem x_cont : xu C cn W M L .cont ρ H = .cont ρ H := by first | rfl | simp only [eu, eus, euo, euc, eud, eui, xu, xus, bor, same] | (simp only [eu, eus, euo, euc, eud, eui, xu, xus, bor, same]; rfl)
theorem x_rse {c : Str} : xu C cn W M L (.rse c) ρ H = .exc ⟨c, none⟩ ρ H := by first | rfl | simp only [eu, eus, euo, euc, eud, eui, xu, xus, bor, same] | (simp only [eu, eus, euo, euc, eud, eui, xu, xus, bor, same]; rfl)
theorem x_rsw {c : Str} {e : Ex} : xu C cn W M L (.rsw c e) ρ H = (eu C cn M L e ρ H).to fun u ρ1 H1 => .exc ⟨c, some u⟩ ρ1 H1 := by first | rfl | simp only [eu, eus, euo, euc, eud, eui, xu, xus, bor, same] | (simp only [eu, eus, euo, euc, eud, eui, xu, xus, bor, same]; rfl)
theorem xs_nil : xus C cn W M L .nil ρ H = .next ρ H := by first | rfl | simp only [eu, eus, euo, euc, eud, eui, xu, xus, bor, same] | (simp only [eu, eus, euo, euc, eud, eui, xu, xus, bor, same]; rfl)
theorem xs_cons {s : St} {ss : Sts} : xus C cn W M L (.cons s ss) ρ H = seqS (xu C cn W M L s ρ H) (xus C cn W M L ss) := by first | rfl | simp only [eu, eus, euo, euc, eud, eui, xu, xus, bor, same] | (simp only [eu, eus, euo, euc, eud, eui, xu, xus, bor, same]; rfl)
theorem b_lc {i : Nat} : borE C cn M L (.lc i) ρ H = lookU i ρ H := rfl
theorem b_k {d : D} : borE C cn M L (.k d) ρ H = eu C cn M L (.k d) ρ H := rfl
theorem s_k {d : D} : same (.k d) ρ ρ' = true := rfl
theorem b_bin {o : Bop} {a b : Ex} : borE C cn M L (.bin o a b) ρ H = eu C cn M L (.bin o a b) ρ H := rfl
theorem s_bin {o : Bop} {a b : Ex} : same (.bin o a b) ρ ρ' = true := rfl
theorem b_neg {a : Ex} : borE C cn M L (.neg a) ρ H = eu C cn M L (.neg a) ρ H := rfl
theorem s_neg {a : Ex} : same (.neg a) ρ ρ' = true := rfl
theorem b_not {a : Ex} : borE C cn M L (.not a) ρ H = eu C cn M L (.not a) ρ H := rfl
theorem s_not {a : Ex} : same (.not a) ρ ρ' = true := rfl
theorem b_and {a b : Ex} : borE C cn M L (.and a b) ρ H = eu C cn M L (.and a b) ρ H := rfl
theorem s_and {a b : Ex} : same (.and a b) ρ ρ' = true := rfl
theorem b_or {a b : Ex} : borE C cn M L (.or a b) ρ H = eu C cn M L (.or a b) ρ H := rfl
theorem s_or {a b : Ex} : same (.or a b) ρ ρ' = true := rfl
theorem b_cmp {o : Cop} {a b : Ex} : borE C cn M L (.cmp o a b) ρ H = eu C cn M L (.cmp o a b) ρ H := rfl
theorem s_cmp {o : Cop} {a b : Ex} : same (.cmp o a b) ρ ρ' = true := rfl
theorem b_chn {o p : Cop} {a b c : Ex} : borE C cn M L (.chn o p a b c) ρ H = eu C cn M L (.chn o p a b c) ρ H := rfl
theorem s_chn {o p : Cop} {a b c : Ex} : same (.chn o p a b c) ρ ρ' = true := rfl
theorem b_isN {a : Ex} : borE C cn M L (.isN a) ρ H = eu C cn M L (.isN a) ρ H := rfl
theorem s_isN {a : Ex} : same (.isN a) ρ ρ' = true := rfl
theorem b_notN {a : Ex} : borE C cn M L (.notN a) ρ H = eu C cn M L (.notN a) ρ H := rfl
theorem s_notN {a : Ex} : same (.notN a) ρ ρ' = true := rfl
theorem b_ite {c a b : Ex} : borE C cn M L (.ite c a b) ρ H = eu C cn M L (.ite c a b) ρ H := rfl
theorem s_ite {c a b : Ex} : same (.ite c a b) ρ ρ' = true := rfl
theorem b_call {f : Str} {es : Exs} : borE C cn M L (.call f es) ρ H = eu C cn M L (.call f es) ρ H := rfl
theorem s_call {f : Str} {es : Exs} : same (.call f es) ρ ρ' = true := rfl
theorem b_cal {i : Nat} {es : Exs} : borE C cn M L (.cal i es) ρ H = eu C cn M L (.cal i es) ρ H := rfl
theorem s_cal {i : Nat} {es : Exs} : same (.cal i es) ρ ρ' = true := rfl
theorem b_mth {o : Ex} {x y z : Str} {es : Exs} : borE C cn M L (.mth o x y z es) ρ H = eu C cn M L (.mth o x y z es) ρ H := rfl
theorem s_mth {o : Ex} {x y z : Str} {es : Exs} : same (.mth o x y z es) ρ ρ' = true := rfl
theorem b_bi {b : Bi} {e : Ex} : borE C cn M L (.bi b e) ρ H = eu C cn M L (.bi b e) ρ H := rfl
theorem s_bi {b : Bi} {e : Ex} : same (.bi b e) ρ ρ' = true := rfl
theorem b_lset {e : Ex} : borE C cn M L (.lset e) ρ H = eu C cn M L (.lset e) ρ H := rfl
theorem s_lset {e : Ex} : same (.lset e) ρ ρ' = true := rfl
theorem b_bm {m : Bm} {o : Ex} {es : Exs} : borE C cn M L (.bm m o es) ρ H = eu C cn M L (.bm m o es) ρ H := rfl
theorem s_bm {m : Bm} {o : Ex} {es : Exs} : same (.bm m o es) ρ ρ' = true := rfl
theorem b_isT {e : Ex} {T : Ty} : borE C cn M L (.isT e T) ρ H = eu C cn M L (.isT e T) ρ H := rfl
theorem s_isT {e : Ex} {T : Ty} : same (.isT e T) ρ ρ' = true := rfl
theorem b_isX {e : Ex} {T : Str} : borE C cn M L (.isX e T) ρ H = eu C cn M L (.isX e T) ρ H := rfl
theorem s_isX {e : Ex} {T : Str} : same (.isX e T) ρ ρ' = true := rfl
theorem b_fld {e : Ex} {T : Str} : borE C cn M L (.fld e T) ρ H = eu C cn M L (.fld e T) ρ H := rfl
theorem s_fld {e : Ex} {T : Str} : same (.fld e T) ρ ρ' = true := rfl
theorem b_ix {a b : Ex} : borE C cn M L (.ix a b) ρ H = eu C cn M L (.ix a b) ρ H := rfl
theorem s_ix {a b : Ex} : same (.ix a b) ρ ρ' = true := rfl
theorem b_sl {a : Ex} {l h : Exo} : borE C cn M L (.sl a l h) ρ H = eu C cn M L (.sl a l h) ρ H := rfl
theorem s_sl {a : Ex} {l h : Exo} : same (.sl a l h) ρ ρ' = true := rfl
theorem b_lst {es : Exs} : borE C cn M L (.lst es) ρ H = eu C cn M L (.lst es) ρ H := rfl
theorem s_lst {es : Exs} : same (.lst es) ρ ρ' = true := rfl
theorem b_tup {es : Exs} : borE C cn M L (.tup es) ρ H = eu C cn M L (.tup es) ρ H := rfl
theorem s_tup {es : Exs} : same (.tup es) ρ ρ' = true := rfl
theorem b_dct {ps : Exps} : borE C cn M L (.dct ps) ρ H = eu C cn M L (.dct ps) ρ H := rfl
theorem s_dct {ps : Exps} : same (.dct ps) ρ ρ' = true := rfl
theorem b_comp {e : Ex} {t : Tg} {it : Itr} {c : Exo} {own : List Nat} : borE C cn M L (.comp e t it c own) ρ H = eu C cn M L (.comp e t it c own) ρ H := rfl
theorem s_comp {e : Ex} {t : Tg} {it : Itr} {c : Exo} {own : List Nat} : same (.comp e t it c own) ρ ρ' = true := rfl
theorem s_lc {i : Nat} : same (.lc i) ρ ρ' = decide (ρ[i]? = ρ'[i]?) := rfl
theorem asg_nm {i : Nat} {u : U} : asgU M (.nm i) u ρ = if memN i M then none else if i < ρ.length then some (ρ.set i (some u)) else none := by simp only [asgU]
theorem asg_tup {ts : Tgs} {us : List U} : asgU M (.tp ts) (.tup us) ρ = asgsU M ts us ρ := by simp only [asgU]
theorem asg_lst {ts : Tgs} {us : List U} : asgU M (.tp ts) (.lst us) ρ = asgsU M ts us ρ := by simp only [asgU]
theorem same_self {a : Ex} : same a ρ ρ = true := by
  cases a <;> simp [same]
theorem look_at {i : Nat} : lookU i ρ H = outU ρ[i]? ρ H := rfl
theorem out_some {u : U} : outU (some (some u)) ρ H = .ok u ρ H := rfl
theorem bind_congr {β : Type} {r r' : RU Ob α} {f : α → EnvU → List Ob → RU Ob β} (h : r = r') : r.bind f = r'.bind f := by rw [h]
theorem to_congr {r r' : RU Ob α} {f : α → EnvU → List Ob → SU Ob} (h : r = r') : r.to f = r'.to f := by rw [h]
theorem seqS_congr {r r' : SU Ob} {f : EnvU → List Ob → SU Ob} (h : r = r') : seqS r f = seqS r' f := by rw [h]
theorem iteR_congr {x x' : U} {a b : RU Ob U} (h : x = x') : iteR x a b = iteR x' a b := by rw [h]
theorem ifeR_congr {x x' : U} {a b : SU Ob} (h : x = x') : ifeR x a b = ifeR x' a b := by rw [h]
theorem chnR_congr {x x' : Option Bool} {a : RU Ob U} (h : x = x') : chnR x a ρ H = chnR x' a ρ H := by rw [h]
theorem lstR_congr {x x' : Option (Option U)} {f : List U → RU Ob U} (h : x = x') : lstR x f = lstR x' f := by rw [h]
theorem mthR_congr {x x' : U} {f : Nat → RU Ob U} (h : x = x') : mthR x f = mthR x' f := by rw [h]
theorem hasR_congr {x x' : Option (Option U)} {f : SU Ob} (h : x = x') : hasR x f = hasR x' f := by rw [h]
theorem bind_ok {β : Type} {a : α} {f : α → EnvU → List Ob → RU Ob β} : (RU.ok a ρ H).bind f = f a ρ H := rfl
theorem bind_exc {β : Type} {x : ExnU} {f : α → EnvU → List Ob → RU Ob β} : (RU.exc x ρ H).bind f = .exc x ρ H := rfl
theorem to_ok {a : α} {f : α → EnvU → List Ob → SU Ob} : (RU.ok a ρ H).to f = f a ρ H := rfl
theorem to_exc {x : ExnU} {f : α → EnvU → List Ob → SU Ob} : (RU.exc x ρ H).to f = .exc x ρ H := rfl
theorem seq_next {f : EnvU → List Ob → SU Ob} : seqS (.next ρ H) f = f ρ H := rfl
theorem seq_ret {u : U} {f : EnvU → List Ob → SU Ob} : seqS (.ret u H) f = .ret u H := rfl
theorem seq_cont {f : EnvU → List Ob → SU Ob} : seqS (.cont ρ H) f = .cont ρ H := rfl
theorem seq_exc {x : ExnU} {f : EnvU → List Ob → SU Ob} : seqS (.exc x ρ H) f = .exc x ρ H := rfl
theorem ofO_some {a : α} : ofO (some a) ρ H = .ok a ρ H := rfl
theorem ofB_some {a : Bool} : ofB (some a) ρ H = .ok (.bl a) ρ H := rfl
theorem ofC_ok {u : U} : ofC (.ok u H) ρ = .ok u ρ H := rfl
theorem ofC_exc {x : ExnU} : ofC (.exc x H) ρ = .exc x ρ H := rfl
theorem fin_ret {u : U} : SU.fin (.ret u H) = .ok u H := rfl
theorem fin_next : SU.fin (.next ρ H) = .ok .non H := rfl
theorem fin_exc {x : ExnU} : SU.fin (.exc x ρ H) = .exc x H := rfl
theorem iteR_t {a b : RU Ob U} : iteR (.bl true) a b = a := rfl
theorem iteR_f {a b : RU Ob U} : iteR (.bl false) a b = b := rfl
theorem iteR_b {p : Bool} {a b : RU Ob U} : iteR (.bl p) a b = if p then a else b := by cases p <;> rfl
theorem ifeR_t {a b : SU Ob} : ifeR (.bl true) a b = a := rfl
theorem ifeR_f {a b : SU Ob} : ifeR (.bl false) a b = b := rfl
theorem ifeR_b {p : Bool} {a b : SU Ob} : ifeR (.bl p) a b = if p then a else b := by cases p <;> rfl
theorem chnR_t {a : RU Ob U} : chnR (some true) a ρ H = a := rfl
theorem chnR_b {p : Bool} {a : RU Ob U} : chnR (some p) a ρ H = if p then a else .ok (.bl false) ρ H := by cases p <;> rfl
theorem lstR_some {us : List U} {f : List U → RU Ob U} : lstR (some (some (.lst us))) f = f us := rfl
theorem hasR_some {u : U} {r : SU Ob} : hasR (some (some u)) r = r := rfl
theorem negR_i {i : Int} : negR (.int i) ρ H = .ok (.int (-i)) ρ H := rfl
theorem notR_b {b : Bool} : notR (.bl b) ρ H = .ok (.bl (!b)) ρ H := rfl
theorem mutR_s {v : U} {us : List U} {i : Nat} : mutR (some (v, us)) i ρ H = .ok v (ρ.set i (some (.lst us))) H := rfl
theorem dicR_s {ks us : List U} : dicR (some (ks, us)) ρ H = .ok (.dic ks us) ρ H := rfl
theorem comR_s {ys : List U} {H2 : List Ob} : comR (some (ys, H2)) ρ = .ok (.lst ys) ρ H2 := rfl
theorem intR_i {i : Int} : intR (.int i) ρ H = .ok (some i) ρ H := rfl
theorem boolR_b {b : Bool} : boolR (.bl b) ρ H = .ok b ρ H := rfl
theorem nxtR_s : nxtR (some ρ') H = .next ρ' H := rfl
theorem rngR_i {j : Int} : rngR (.int j) ρ H = if small62 j then .ok (rngU 0 j.toNat) ρ H else .bad := rfl
theorem rng2R_i {i j : Int} : rng2R (.int i) (.int j) ρ H = if small62 i && small62 j then .ok (rngU i (j - i).toNat) ρ H else .bad := rfl
theorem zipR_s {p q : List U} {b : Bool} : zipR (some p) (some q) b ρ H = if b then .ok (zipUU p q) ρ H else .bad := rfl
theorem setR_d {ks us : List U} {j : Nat} {y u : U} : setR (some (some (.dic ks us))) j y u ρ H = if alikeU ks y && decide (ks.length < LIM) then .next (ρ.set j (some (dputU ks us y u))) H else .bad := rfl
theorem mthR_obj {k : Nat} {f : Nat → RU Ob U} : mthR (.obj k) f = f k := rfl
end
end IP.Q

/-! PrE: expressions that only add to the store: their values by rules. -/
namespace IP.Q
open PySem
/-! ### plain values: None, ints, texts, tuples of them -/
mutual
def plainT : Nat → D → Bool
  | _, .non => true
  | _, .int _ => true
  | _, .str x => PyData.strOk x
  | n + 1, .tup ds => plainTs n ds
  | _, _ => false
def plainTs : Nat → List D → Bool
  | _, [] => true
  | n, d :: ds => plainT n d && plainTs n ds
end
mutual
def toP : D → PyData
  | .non => .none
  | .int i => .int i
  | .str x => .str x
  | .tup ds => .tuple (toPs ds)
  | _ => .none
def toPs : List D → List PyData
  | [] => []
  | d :: ds => toP d :: toPs ds
end
theorem plainTs_all {n : Nat} : ∀ {ds : List D}, plainTs n ds = ds.all (plainT n)
  | [] => by rw [plainTs]; rfl
  | d :: ds => by rw [plainTs, plainTs_all]; rfl
theorem toPs_map : ∀ {ds : List D}, toPs ds = ds.map toP
  | [] => by rw [toPs]; rfl
  | d :: ds => by rw [toPs, toPs_map]; rfl
theorem plain_int {n : Nat} {i : Int} : plainT n (.int i) = true := by unfold plainT; rfl
theorem plain_non {n : Nat} : plainT n .non = true := by unfold plainT; rfl
theorem plain_str {n : Nat} {x : Str} (h : PyData.strOk x = true) : plainT n (.str x) = true := by unfold plainT; exact h
mutual
theorem plain_data (st : Sto) : ∀ (n m : Nat) (d : D), n ≤ m → plainT n d = true → toData st m d = some (toP d)
  | n, m, .non, _, _ => by unfold toData toP; rfl
  | n, m, .int i, _, _ => by unfold toData toP; rfl
  | n, m, .str x, _, h => by
    have h : PyData.strOk x = true := by unfold plainT at h; exact h
    unfold toData toP
    rw [if_pos h]
  | n + 1, m, .tup ds, hm, h => by
    unfold plainT at h
    cases m with
    | zero => omega
    | succ m =>
      unfold toData toP
      rw [plain_datas st n m ds (by omega) h]; rfl
  | 0, m, .tup ds, _, h => by unfold plainT at h; cases h
  | n, m, .bl _, _, h => by unfold plainT at h; cases h
  | n, m, .ref _, _, h => by unfold plainT at h; cases h
  | n, m, .ro _, _, h => by unfold plainT at h; cases h
  | n, m, .fn _, _, h => by unfold plainT at h; cases h
  | n, m, .exn _ _, _, h => by unfold plainT at h; cases h
theorem plain_datas (st : Sto) : ∀ (n m : Nat) (ds : List D), n ≤ m → plainTs n ds = true → toDatas st m ds = some (toPs ds)
  | n, m, [], _, _ => by unfold toDatas toPs; rfl
  | n, m, d :: ds, hm, h => by
    unfold plainTs at h
    rw [Bool.and_eq_true] at h
    unfold toDatas toPs
    rw [plain_data st n m d hm h.1, plain_datas st n m ds hm h.2]
end
mutual
theorem plain_eqv : ∀ (n m : Nat) (a b : D), plainT n a = true → plainT m b = true → PyData.eqv (toP a) (toP b) = decide (a = b)
  | n, m, a, b, h1, h2 => by
    cases a with
    | non => cases b <;> first | (simp [toP, PyData.eqv, Bool.beq_eq_decide_eq]; done) | (unfold plainT at h2; cases h2; done)
    | int i => cases b <;> first | (simp [toP, PyData.eqv, Bool.beq_eq_decide_eq]; done) | (unfold plainT at h2; cases h2; done)
    | str x => cases b <;> first | (simp [toP, PyData.eqv, Bool.beq_eq_decide_eq]; done) | (unfold plainT at h2; cases h2; done)
    | tup ds =>
      cases b with
      | tup es =>
        cases n with
        | zero => unfold plainT at h1; cases h1
        | succ n =>
          cases m with
          | zero => unfold plainT at h2; cases h2
          | succ m =>
            unfold plainT at h1 h2
            have := plain_eqvs n m ds es h1 h2
            simp only [toP, PyData.eqv, this]
            simp
      | non => simp [toP, PyData.eqv]
      | int i => simp [toP, PyData.eqv]
      | str x => simp [toP, PyData.eqv]
      | bl _ => unfold plainT at h2; cases h2
      | ref _ => unfold plainT at h2; cases h2
      | ro _ => unfold plainT at h2; cases h2
      | fn _ => unfold plainT at h2; cases h2
      | exn _ _ => unfold plainT at h2; cases h2
    | bl _ => unfold plainT at h1; cases h1
    | ref _ => unfold plainT at h1; cases h1
    | ro _ => unfold plainT at h1; cases h1
    | fn _ => unfold plainT at h1; cases h1
    | exn _ _ => unfold plainT at h1; cases h1
theorem plain_eqvs : ∀ (n m : Nat) (as bs : List D), plainTs n as = true → plainTs m bs = true → PyData.eqvAll (toPs as) (toPs bs) = decide (as = bs)
  | n, m, [], [], _, _ => by simp [toPs, PyData.eqvAll]
  | n, m, [], b :: bs, _, _ => by simp [toPs, PyData.eqvAll]
  | n, m, a :: as, [], _, _ => by simp [toPs, PyData.eqvAll]
  | n, m, a :: as, b :: bs, h1, h2 => by
    unfold plainTs at h1 h2
    rw [Bool.and_eq_true] at h1 h2
    simp only [toPs, PyData.eqvAll]
    rw [plain_eqv n m a b h1.1 h2.1, plain_eqvs n m as bs h1.2 h2.2]
    simp
end

theorem eqD_plain {st : Sto} {a b : D} {n m : Nat} (hn : n ≤ 64) (hm : m ≤ 64) (h1 : plainT n a = true) (h2 : plainT m b = true) : eqD st a b = some (decide (a = b)) := by
  unfold eqD
  rw [plain_data st n 64 a hn h1, plain_data st m 64 b hm h2]
  dsimp only
  rw [plain_eqv n m a b h1 h2]
theorem inD_plain {st : Sto} {a : D} {ds : List D} {n m : Nat} (hn : n ≤ 64) (hm : m ≤ 63) (h1 : plainT n a = true) (h2 : plainTs m ds = true) : inD st a ds = some (decide (a ∈ ds)) := by
  unfold inD
  rw [plain_data st n 64 a hn h1, plain_datas st m 63 ds hm h2]
  dsimp only
  congr 1
  induction ds with
  | nil => simp [toPs]
  | cons d ds ih =>
    unfold plainTs at h2
    rw [Bool.and_eq_true] at h2
    simp only [toPs, List.any_cons, ih h2.2]
    rw [plain_eqv m n d a h2.1 h1]
    by_cases e : d = a
    · subst e; simp
    · have e' : ¬ a = d := fun z => e z.symm
      simp [e, e']
/-- lists of plain values -/
theorem eqD_lists {st : Sto} {a b : Nat} {ds es : List D} {n m : Nat} (hn : n ≤ 63) (hm : m ≤ 63) (h1 : st[a]? = some (.lst ds)) (h2 : st[b]? = some (.lst es)) (p1 : plainTs n ds = true) (p2 : plainTs m es = true) : eqD st (.ref a) (.ref b) = some (decide (ds = es)) := by
  unfold eqD
  have e1 : toData st 64 (.ref a) = some (.list (toPs ds)) := by
    unfold toData
    simp only [h1, plain_datas st n 63 ds hn p1]; rfl
  have e2 : toData st 64 (.ref b) = some (.list (toPs es)) := by
    unfold toData
    simp only [h2, plain_datas st m 63 es hm p2]; rfl
  rw [e1, e2]
  simp only [PyData.eqv, plain_eqvs n m ds es p1 p2]
/-! ### values by rules -/
/-- e's value is d, from st on -/
def Ev (C : Str → List D → Sto → R D) (ρ : Env) (st : Sto) (e : Ex) (d : D) : Prop := ∀ s, Ext st s → ok (ev C e ρ s) fun x s' => Ext s s' ∧ x = d
/-- e's value is a list of ds -/
def EvL (C : Str → List D → Sto → R D) (ρ : Env) (st : Sto) (e : Ex) (ds : List D) : Prop := ∀ s, Ext st s → ok (ev C e ρ s) fun x s' => Ext s s' ∧ ∃ n, x = .ref n ∧ st.length ≤ n ∧ s'[n]? = some (.lst ds)
def Evs (C : Str → List D → Sto → R D) (ρ : Env) (st : Sto) (es : Exs) (ds : List D) : Prop := ∀ s, Ext st s → ok (evs C es ρ s) fun x s' => Ext s s' ∧ x = ds
/-- what is walked -/
def Evi (C : Str → List D → Sto → R D) (ρ : Env) (st : Sto) (it : Itr) (ds : List D) : Prop := ∀ s, Ext st s → ok (evi C it ρ s) fun p s' => Ext s s' ∧ p.1 = ds ∧ okW p.2 s' = true
/-- a call's answer -/
def Fn (C : Str → List D → Sto → R D) (st : Sto) (f : Str) (ds : List D) (d : D) : Prop := ∀ s, Ext st s → ok (C f ds s) fun x s' => Ext s s' ∧ x = d
/-- a suite's answer -/
def Bd (C : Str → List D → Sto → R D) (W : Nat) (ρ : Env) (st : Sto) (ss : Sts) (d : D) : Prop := ∀ s, Ext st s → okS (excs C W ss ρ s) (fun _ s' => Ext s s' ∧ d = .non) (fun x s' => Ext s s' ∧ x = d) fun _ _ => False
section
variable {C : Str → List D → Sto → R D} {W : Nat} {ρ ρ' : Env} {st st' : Sto} {a b c e : Ex} {x y d d' : D} {p q : Bool}
theorem Ev.ext (h : Ev C ρ st e d) (k : Ext st st') : Ev C ρ st' e d := fun s hs => h s (k.trans hs)
theorem Ev.to (h : Ev C ρ st e d) (hd : d = d') : Ev C ρ st e d' := hd ▸ h
theorem Bd.to {ss : Sts} (h : Bd C W ρ st ss d) (hd : d = d') : Bd C W ρ st ss d' := hd ▸ h
theorem Ev.run {Q : D → Sto → Prop} (h : Ev C ρ st e d) (k : ∀ s, Ext st s → Q d s) : ok (ev C e ρ st) Q := ok_mono (h st (Ext.refl _)) fun x s ⟨h1, h2⟩ => by rw [h2]; exact k s h1
theorem Ev.k : Ev C ρ st (.k d) d := fun s hs => by rw [w_k]; exact ⟨Ext.refl _, rfl⟩
theorem Ev.lc {i : Nat} (h : ρ[i]? = some (some d)) : Ev C ρ st (.lc i) d := fun s hs => by rw [w_lc h]; exact ⟨Ext.refl _, rfl⟩
/-- two operands -/
theorem Ev.two {o : D → D → Sto → R D} {f : Ex} (hf : ∀ s (Q : D → Sto → Prop), ok (ev C f ρ s) Q = ok (ev C a ρ s) fun x s1 => ok (ev C b ρ s1) fun y s2 => ok (o x y s2) Q) (ha : Ev C ρ st a x) (hb : Ev C ρ st b y) (ho : ∀ s, Ext st s → o x y s = .ok d s) : Ev C ρ st f d := fun s hs => by
  rw [hf]
  refine ok_mono (ha s hs) fun u s1 ⟨e1, hu⟩ => ?_
  subst hu
  refine ok_mono (hb s1 (hs.trans e1)) fun v s2 ⟨e2, hv⟩ => ?_
  subst hv
  rw [ho s2 ((hs.trans e1).trans e2)]
  exact ⟨e1.trans e2, rfl⟩
theorem Ev.bin {o : Bop} (ha : Ev C ρ st a x) (hb : Ev C ρ st b y) (ho : ∀ s, binD o x y s = .ok d s) : Ev C ρ st (.bin o a b) d := Ev.two (fun s Q => w_bin) ha hb fun s _ => ho s
theorem Ev.cmp {o : Cop} (ha : Ev C ρ st a x) (hb : Ev C ρ st b y) (ho : ∀ s, Ext st s → cmpD o x y s = some p) : Ev C ρ st (.cmp o a b) (.bl p) := Ev.two (fun s Q => w_cmp) ha hb fun s hs => by rw [ho s hs]; rfl
theorem Ev.eq {n m : Nat} (ha : Ev C ρ st a x) (hb : Ev C ρ st b y) (h1 : plainT n x = true) (h2 : plainT m y = true) (hn : n ≤ 64 := by decide) (hm : m ≤ 64 := by decide) : Ev C ρ st (.cmp .eq a b) (.bl (decide (x = y))) := Ev.cmp ha hb fun s _ => eqD_plain hn hm h1 h2
theorem Ev.ne {n m : Nat} (ha : Ev C ρ st a x) (hb : Ev C ρ st b y) (h1 : plainT n x = true) (h2 : plainT m y = true) (hn : n ≤ 64 := by decide) (hm : m ≤ 64 := by decide) : Ev C ρ st (.cmp .ne a b) (.bl (!decide (x = y))) := Ev.cmp ha hb fun s _ => by
  show (eqD s x y).map (!·) = _
  rw [eqD_plain hn hm h1 h2]; rfl
theorem Ev.ix (ha : Ev C ρ st a x) (hb : Ev C ρ st b y) (ho : ∀ s, Ext st s → ixD x y s = .ok d s) : Ev C ρ st (.ix a b) d := Ev.two (fun s Q => w_ix) ha hb ho
theorem Ev.ixT {ds : List D} {i : Int} (ha : Ev C ρ st a (.tup ds)) (hb : Ev C ρ st b (.int i)) (h : L2.atI ds i = some d) : Ev C ρ st (.ix a b) d := Ev.ix ha hb fun s _ => by simp only [ixD, h]
theorem Ev.not (ha : Ev C ρ st a (.bl p)) : Ev C ρ st (.not a) (.bl (!p)) := fun s hs => by
  rw [w_not]
  exact ok_mono (ha s hs) fun u s1 ⟨e1, hu⟩ => ⟨p, hu, e1, rfl⟩
theorem Ev.and (ha : Ev C ρ st a (.bl p)) (hb : p = true → Ev C ρ st b (.bl q)) : Ev C ρ st (.and a b) (.bl (p && q)) := fun s hs => by
  rw [w_and]
  refine ok_mono (ha s hs) fun u s1 ⟨e1, hu⟩ => ?_
  cases p with
  | false => exact .inr ⟨hu, e1, rfl⟩
  | true => exact .inl ⟨hu, ok_mono (hb rfl s1 (hs.trans e1)) fun v s2 ⟨e2, hv⟩ => ⟨e1.trans e2, hv⟩⟩
theorem Ev.or (ha : Ev C ρ st a (.bl p)) (hb : p = false → Ev C ρ st b (.bl q)) : Ev C ρ st (.or a b) (.bl (p || q)) := fun s hs => by
  rw [w_or]
  refine ok_mono (ha s hs) fun u s1 ⟨e1, hu⟩ => ?_
  cases p with
  | true => exact .inl ⟨hu, e1, rfl⟩
  | false => exact .inr ⟨hu, ok_mono (hb rfl s1 (hs.trans e1)) fun v s2 ⟨e2, hv⟩ => ⟨e1.trans e2, hv⟩⟩
theorem Ev.isN (ha : Ev C ρ st a x) : Ev C ρ st (.isN a) (.bl (decide (x = .non))) := fun s hs => by
  rw [w_isN]
  exact ok_mono (ha s hs) fun u s1 ⟨e1, hu⟩ => ⟨e1, by rw [hu]⟩
theorem Ev.notN (ha : Ev C ρ st a x) : Ev C ρ st (.notN a) (.bl (!decide (x = .non))) := fun s hs => by
  rw [w_notN]
  exact ok_mono (ha s hs) fun u s1 ⟨e1, hu⟩ => ⟨e1, by rw [hu]⟩
theorem Ev.neg {i : Int} (ha : Ev C ρ st a (.int i)) : Ev C ρ st (.neg a) (.int (-i)) := fun s hs => by
  rw [w_neg]
  exact ok_mono (ha s hs) fun u s1 ⟨e1, hu⟩ => ⟨i, hu, e1, rfl⟩
theorem Ev.chn {o o' : Cop} {z : D} (ha : Ev C ρ st a x) (hb : Ev C ρ st b y) (h1 : ∀ s, cmpD o x y s = some p) (hc : p = true → Ev C ρ st c z) (h2 : ∀ s, cmpD o' y z s = some q) : Ev C ρ st (.chn o o' a b c) (.bl (p && q)) := fun s hs => by
  rw [w_chn]
  refine ok_mono (ha s hs) fun u s1 ⟨e1, hu⟩ => ?_
  subst hu
  refine ok_mono (hb s1 (hs.trans e1)) fun v s2 ⟨e2, hv⟩ => ?_
  subst hv
  cases p with
  | false => exact .inr ⟨h1 s2, e1.trans e2, rfl⟩
  | true =>
    refine .inl ⟨h1 s2, ok_mono (hc rfl s2 ((hs.trans e1).trans e2)) fun w s3 ⟨e3, hw⟩ => ?_⟩
    subst hw
    rw [h2 s3]
    exact ⟨(e1.trans e2).trans e3, rfl⟩
theorem Ev.one {o : D → Sto → R D} {f : Ex} (hf : ∀ s (Q : D → Sto → Prop), ok (ev C f ρ s) Q = ok (ev C a ρ s) fun x s1 => ok (o x s1) Q) (ha : Ev C ρ st a x) (ho : ∀ s, Ext st s → o x s = .ok d s) : Ev C ρ st f d := fun s hs => by
  rw [hf]
  refine ok_mono (ha s hs) fun u s1 ⟨e1, hu⟩ => ?_
  subst hu
  rw [ho s1 (hs.trans e1)]
  exact ⟨e1, rfl⟩
theorem Ev.bi {o : Bi} (ha : Ev C ρ st a x) (ho : ∀ s, Ext st s → biD o x s = .ok d s) : Ev C ρ st (.bi o a) d := Ev.one (fun s Q => w_bi) ha ho
theorem Ev.lenT {ds : List D} (ha : Ev C ρ st a (.tup ds)) : Ev C ρ st (.bi .len a) (.int ds.length) := Ev.bi ha fun s _ => rfl
theorem Ev.lenS {z : Str} (ha : Ev C ρ st a (.str z)) (h : z.length ≤ LIM) : Ev C ρ st (.bi .len a) (.int z.length) := Ev.bi ha fun s _ => by simp only [biD, h, if_true]
theorem Ev.isT {T : Ty} (ha : Ev C ρ st a x) (ho : ∀ s, isTD x T s = some p) : Ev C ρ st (.isT a T) (.bl p) := Ev.one (o := fun x s => okB (isTD x T s) s) (fun s Q => w_isT) ha fun s _ => by rw [ho s]; rfl
/-- of a new list -/
theorem Ev.ofL {o : D → Sto → R D} {f : Ex} {ds : List D} (hf : ∀ s (Q : D → Sto → Prop), ok (ev C f ρ s) Q = ok (ev C a ρ s) fun x s1 => ok (o x s1) Q) (ha : EvL C ρ st a ds) (ho : ∀ s n, s[n]? = some (.lst ds) → o (.ref n) s = .ok d s) : Ev C ρ st f d := fun s hs => by
  rw [hf]
  refine ok_mono (ha s hs) fun u s1 ⟨e1, n, hu, hn, hc⟩ => ?_
  subst hu
  rw [ho s1 n hc]
  exact ⟨e1, rfl⟩
theorem boolsOf_map : ∀ {bs : List Bool}, boolsOf (bs.map D.bl) = some bs
  | [] => rfl
  | b :: bs => by rw [List.map_cons, boolsOf, boolsOf_map]; rfl
theorem Ev.all {bs : List Bool} (ha : EvL C ρ st a (bs.map D.bl)) : Ev C ρ st (.bi .all a) (.bl (bs.all id)) := Ev.ofL (fun s Q => w_bi) ha fun s n h => by simp only [biD, h, boolsOf_map]
theorem Ev.any {bs : List Bool} (ha : EvL C ρ st a (bs.map D.bl)) : Ev C ρ st (.bi .any a) (.bl (bs.any id)) := Ev.ofL (fun s Q => w_bi) ha fun s n h => by simp only [biD, h, boolsOf_map]
theorem Ev.tupL {ds : List D} (ha : EvL C ρ st a ds) : Ev C ρ st (.bi .tuple a) (.tup ds) := Ev.ofL (fun s Q => w_bi) ha fun s n h => by simp only [biD, h]
theorem Ev.lenL {ds : List D} (ha : EvL C ρ st a ds) : Ev C ρ st (.bi .len a) (.int ds.length) := Ev.ofL (fun s Q => w_bi) ha fun s n h => by simp only [biD, h]
theorem strsOf_map : ∀ {bs : List Str}, strsOf (bs.map D.str) = some bs
  | [] => rfl
  | b :: bs => by rw [List.map_cons, strsOf, strsOf_map]; rfl
theorem Ev.lsetL {xs : List Str} (ha : EvL C ρ st a (xs.map D.str)) (h : xs.length ≤ 100) : Ev C ρ st (.lset a) (.int (distinct xs).length) := Ev.ofL (fun s Q => w_lset) ha fun s n hc => by simp only [lsetD, hc, strsOf_map, h, if_true]
theorem Ev.lsetT {xs : List Str} (ha : Ev C ρ st a (.tup (xs.map D.str))) (h : xs.length ≤ 100) : Ev C ρ st (.lset a) (.int (distinct xs).length) := Ev.one (fun s Q => w_lset) ha fun s _ => by simp only [lsetD, strsOf_map, h, if_true]
theorem Evs.nil : Evs C ρ st .nil [] := fun s hs => by rw [w_nil]; exact ⟨Ext.refl _, rfl⟩
theorem Evs.cons {es : Exs} {ds : List D} (ha : Ev C ρ st a x) (hs : Evs C ρ st es ds) : Evs C ρ st (.cons a es) (x :: ds) := fun s hx => by
  rw [w_cons]
  refine ok_mono (ha s hx) fun u s1 ⟨e1, hu⟩ => ok_mono (hs s1 (hx.trans e1)) fun us s2 ⟨e2, hv⟩ => ⟨e1.trans e2, by rw [hu, hv]⟩
theorem Ev.tup {es : Exs} {ds : List D} (h : Evs C ρ st es ds) (hl : ds.length ≤ LIM) : Ev C ρ st (.tup es) (.tup ds) := fun s hs => by
  rw [w_tup]
  exact ok_mono (h s hs) fun us s1 ⟨e1, hu⟩ => by subst hu; exact ⟨hl, e1, rfl⟩
theorem EvL.lst {es : Exs} {ds : List D} (h : Evs C ρ st es ds) (hl : ds.length ≤ LIM) : EvL C ρ st (.lst es) ds := fun s hs => by
  rw [w_lst]
  refine ok_mono (h s hs) fun us s1 ⟨e1, hu⟩ => ?_
  subst hu
  exact ⟨hl, e1.trans (Ext.more _), _, rfl, Nat.le_trans hs.len e1.len, by rw [List.getElem?_append_right (Nat.le_refl _)]; simp⟩
theorem Ev.call {f : Str} {es : Exs} {ds : List D} (h : Evs C ρ st es ds) (hf : Fn C st f ds d) : Ev C ρ st (.call f es) d := fun s hs => by
  rw [w_call]
  refine ok_mono (h s hs) fun us s1 ⟨e1, hu⟩ => ?_
  subst hu
  exact ok_mono (hf s1 (hs.trans e1)) fun u s2 ⟨e2, hv⟩ => ⟨e1.trans e2, hv⟩
theorem Ev.slT {ds : List D} {l h : Option Int} {el eh : Exo} (ha : Ev C ρ st a (.tup ds)) (hl : ∀ s (Q : Option Int → Sto → Prop), Ext st s → (∀ s', Ext s s' → Q l s') → ok (evo C el ρ s) Q) (hh : ∀ s (Q : Option Int → Sto → Prop), Ext st s → (∀ s', Ext s s' → Q h s') → ok (evo C eh ρ s) Q) : Ev C ρ st (.sl a el eh) (.tup (cutL ds l h)) := fun s hs => by
  rw [w_sl]
  refine ok_mono (ha s hs) fun u s1 ⟨e1, hu⟩ => ?_
  subst hu
  exact hl s1 _ (hs.trans e1) fun s2 e2 => hh s2 _ ((hs.trans e1).trans e2) fun s3 e3 => ⟨(e1.trans e2).trans e3, rfl⟩
theorem evo_none {s : Sto} {Q : Option Int → Sto → Prop} (h : ∀ s', Ext s s' → Q none s') : ok (evo C .none ρ s) Q := by rw [w_none]; exact h s (Ext.refl _)
theorem evo_some {s : Sto} {i : Int} {Q : Option Int → Sto → Prop} (hs : Ext st s) (ha : Ev C ρ st a (.int i)) (h : ∀ s', Ext s s' → Q (some i) s') : ok (evo C (.some a) ρ s) Q := by
  rw [w_some]
  exact ok_mono (ha s hs) fun u s1 ⟨e1, hu⟩ => ⟨i, hu, h s1 e1⟩
/-! what is walked -/
theorem Evi.tup {ds : List D} (h : Ev C ρ st a (.tup ds)) : Evi C ρ st (.val a) ds := fun s hs => by
  rw [w_val]
  exact ok_mono (h s hs) fun u s1 ⟨e1, hu⟩ => by subst hu; exact ⟨_, rfl, e1, rfl, rfl⟩
theorem Evi.str {z : Str} (h : Ev C ρ st a (.str z)) : Evi C ρ st (.val a) (z.cps.toList.map fun c => .str ⟨#[c]⟩) := fun s hs => by
  rw [w_val]
  exact ok_mono (h s hs) fun u s1 ⟨e1, hu⟩ => by subst hu; exact ⟨_, rfl, e1, rfl, rfl⟩
theorem Evi.lst {ds : List D} (h : EvL C ρ st a ds) : Evi C ρ st (.val a) ds := fun s hs => by
  rw [w_val]
  refine ok_mono (h s hs) fun u s1 ⟨e1, n, hu, hn, hc⟩ => ?_
  subst hu
  exact ⟨(ds, [(n, .lst ds)]), by simp only [walkOf, hc], e1, rfl, by simp [okW, hc]⟩
theorem Evi.enm {ds : List D} (h : Ev C ρ st a (.tup ds)) : Evi C ρ st (.enm a) (zipI 0 ds) := fun s hs => by
  rw [w_enm]
  exact ok_mono (h s hs) fun u s1 ⟨e1, hu⟩ => by subst hu; exact ⟨_, rfl, e1, rfl, rfl⟩
theorem Evi.rng {i : Int} (h : Ev C ρ st a (.int i)) (hi : small62 i = true) : Evi C ρ st (.rng a) (rngD 0 i.toNat) := fun s hs => by
  rw [w_rng]
  exact ok_mono (h s hs) fun u s1 ⟨e1, hu⟩ => ⟨i, hu, hi, e1, rfl, rfl⟩
/-- a comprehension: each item's place, its test, its value -/
theorem EvL.comp {t : Tg} {it : Itr} {xc : Exo} {own : List Nat} {ds : List D} (g : D → Option D) (hi : Evi C ρ st it ds) (hl : ds.length ≤ LIM)
    (hs : ∀ x ∈ ds, ∀ s, Ext st s → ∃ ρ', asg t x (wipe ρ own) s = some ρ' ∧ ok (evc C xc ρ' s) fun k s1 => Ext s s1 ∧ if k = true then ok (ev C e ρ' s1) fun y s2 => Ext s1 s2 ∧ g x = some y else g x = none) :
    EvL C ρ st (.comp e t it xc own) (ds.filterMap g) := fun s h0 => by
  rw [w_comp]
  refine ok_mono (hi s h0) fun p s1 ⟨e1, h1, h2⟩ => ⟨h2, ?_⟩
  subst h1
  refine ok_mono (comp_rule (st0 := s1) g h2 p.1 [] s1 (Ext.refl _) (by simpa using hl) fun x hx s2 e2 => ?_) fun ys s2 ⟨e2, hy⟩ => ?_
  · obtain ⟨ρ', ha, hk⟩ := hs x hx s2 ((h0.trans e1).trans e2)
    simp only [ha, ok_bind]
    refine ok_mono hk fun k s3 ⟨e3, hq⟩ => ?_
    cases k with
    | false =>
      rw [if_neg (by simp)] at hq
      exact ⟨e3, hq.symm⟩
    | true =>
      rw [if_pos rfl] at hq
      rw [if_pos rfl, ok_bind]
      exact ok_mono hq fun y s4 ⟨e4, hy⟩ => ⟨e3.trans e4, hy.symm⟩
  · subst hy
    exact ⟨(e1.trans e2).trans (Ext.more _), _, rfl, Nat.le_trans h0.len (e1.trans e2).len, by rw [List.getElem?_append_right (Nat.le_refl _)]; simp⟩
/-- .. without a test -/
theorem EvL.map {t : Tg} {it : Itr} {own : List Nat} {ds : List D} (g : D → D) (hi : Evi C ρ st it ds) (hl : ds.length ≤ LIM) (hs : ∀ x ∈ ds, ∀ s, Ext st s → ∃ ρ', asg t x (wipe ρ own) s = some ρ' ∧ Ev C ρ' s e (g x)) :
    EvL C ρ st (.comp e t it .none own) (ds.map g) := by
  have := EvL.comp (e := e) (xc := .none) (own := own) (t := t) (fun d => some (g d)) hi hl fun x hx s h => by
    obtain ⟨ρ', ha, hv⟩ := hs x hx s h
    refine ⟨ρ', ha, ?_⟩
    rw [w_cno]
    exact ⟨Ext.refl _, by rw [if_pos rfl]; exact ok_mono (hv s (Ext.refl _)) fun y s2 ⟨e2, hy⟩ => ⟨e2, by rw [hy]⟩⟩
  have e2 : ds.filterMap (fun d => some (g d)) = ds.map g := by rw [← List.filterMap_eq_map]; rfl
  rw [e2] at this
  exact this
/-- .. with a test -/
theorem EvL.filt {t : Tg} {it : Itr} {own : List Nat} {ds : List D} (r : D → Bool) (g : D → D) (hi : Evi C ρ st it ds) (hl : ds.length ≤ LIM) (hs : ∀ x ∈ ds, ∀ s, Ext st s → ∃ ρ', asg t x (wipe ρ own) s = some ρ' ∧ Ev C ρ' s c (.bl (r x)) ∧ (r x = true → Ev C ρ' s e (g x))) :
    EvL C ρ st (.comp e t it (.some c) own) ((ds.filter r).map g) := by
  have := EvL.comp (e := e) (xc := .some c) (own := own) (t := t) (fun d => if r d = true then some (g d) else none) hi hl fun x hx s h => by
    obtain ⟨ρ', ha, hc, hv⟩ := hs x hx s h
    refine ⟨ρ', ha, ?_⟩
    rw [w_csome]
    refine ok_mono (hc s (Ext.refl _)) fun u s1 ⟨e1, hu⟩ => ⟨r x, hu, e1, ?_⟩
    by_cases hr : r x = true
    · rw [if_pos hr]
      exact ok_mono (hv hr s1 e1) fun y s2 ⟨e2, hy⟩ => ⟨e2, by rw [if_pos hr, hy]⟩
    · rw [if_neg hr, if_neg hr]
  have e1 : ds.filterMap (fun d => if r d = true then some (g d) else none) = (ds.filter r).map g := by
    rw [← List.filterMap_eq_map, List.filterMap_filter]; rfl
  rw [e1] at this
  exact this
/-! suites -/
theorem Bd.ret {ss : Sts} (h : Ev C ρ st e d) : Bd C W ρ st (.cons (.ret e) ss) d := fun s hs => by
  rw [s_cons, s_ret]
  exact h s hs
theorem Bd.nil : Bd C W ρ st .nil .non := fun s hs => by
  rw [s_nil]
  exact ⟨Ext.refl _, rfl⟩
theorem okS_le {r : SR} {N N' : Env → Sto → Prop} {Rt Rt' : D → Sto → Prop} {Ct : Env → Sto → Prop} (h : okS r N Rt fun _ _ => False) (h1 : ∀ ρ st, N ρ st → N' ρ st) (h2 : ∀ d st, Rt d st → Rt' d st) : okS r N' Rt' Ct := okS_mono h h1 h2 fun _ _ z => z.elim
/-- if: return ..; the rest -/
theorem Bd.ife {ss ta : Sts} (hc : Ev C ρ st c (.bl p)) (h1 : p = true → Bd C W ρ st ta x ∧ x ≠ .non) (h2 : p = false → Bd C W ρ st ss y) : Bd C W ρ st (.cons (.ife c ta .nil) ss) (if p = true then x else y) := fun s hs => by
  rw [s_cons, s_ife]
  refine ok_mono (hc s hs) fun u s1 ⟨e1, hu⟩ => ?_
  cases p with
  | true =>
    refine .inl ⟨hu, ?_⟩
    rw [if_pos rfl]
    obtain ⟨h3, h4⟩ := h1 rfl
    exact okS_le (h3 s1 (hs.trans e1)) (fun _ _ z => absurd z.2 h4) fun _ _ z => ⟨e1.trans z.1, z.2⟩
  | false =>
    refine .inr ⟨hu, ?_⟩
    rw [s_nil, if_neg (by simp)]
    exact okS_le (h2 rfl s1 (hs.trans e1)) (fun _ _ z => ⟨e1.trans z.1, z.2⟩) fun _ _ z => ⟨e1.trans z.1, z.2⟩
theorem Bd.asg {ss : Sts} {t : Tg} (h : Ev C ρ st e x) (ha : ∀ s, asg t x ρ s = some ρ') (hs : Bd C W ρ' st ss d) : Bd C W ρ st (.cons (.asg t e) ss) d := fun s h0 => by
  rw [s_cons, s_asg]
  refine ok_mono (h s h0) fun u s1 ⟨e1, hu⟩ => ?_
  subst hu
  exact ⟨ρ', ha s1, okS_le (hs s1 (h0.trans e1)) (fun _ _ z => ⟨e1.trans z.1, z.2⟩) fun _ _ z => ⟨e1.trans z.1, z.2⟩⟩
/-- a def's answer by its body's -/
theorem Fn.of {T : Tab} {W n : Nat} {f : Str} {np ns : Nat} {body : Sts} {ds : List D} (hT : T f = some (.fn np ns body)) (hl : ds.length = np) (h : Bd (callD T W n) W (ds.map some ++ List.replicate (ns - np) none) st body d) : Fn (callD T W (n + 1)) st f ds d := fun s hs =>
  call_ok hT hl (okS_mono (h s hs) (fun _ s' z => ⟨z.1, z.2.symm⟩) (fun _ _ z => z) fun _ _ z => z)
theorem Fn.to {f : Str} {ds : List D} (h : Fn C st f ds d) (hd : d = d') : Fn C st f ds d' := hd ▸ h
theorem Fn.ext {f : Str} {ds : List D} (h : Fn C st f ds d) (k : Ext st st') : Fn C st' f ds d := fun s hs => h s (k.trans hs)
theorem Evi.ext {it : Itr} {ds : List D} (h : Evi C ρ st it ds) (k : Ext st st') : Evi C ρ st' it ds := fun s hs => h s (k.trans hs)
theorem EvL.ext {ds : List D} (h : EvL C ρ st' a ds) (k : Ext st st') : EvL C ρ st' a ds := h
/-! statements from a store on -/
section
variable {s : Sto} {N : Env → Sto → Prop} {Rt : D → Sto → Prop} {Ct : Env → Sto → Prop}
theorem S_fr {t : Tg} {it : Itr} {b : Sts} {ds : List D} (hs : Ext st s) (hi : Evi C ρ st it ds) (k : ∀ s1 w, Ext s s1 → okW w s1 = true → okS (forL (fun d ρ' st' => match asg t d ρ' st' with
      | some ρ'' => excs C W b ρ'' st'
      | none => .bad) w ds ρ s1) N Rt Ct) : okS (exc C W (.fr t it b) ρ s) N Rt Ct := by
  rw [s_fr]
  refine ok_mono (hi s hs) fun p s1 ⟨e1, h1, h2⟩ => ⟨h2, ?_⟩
  rw [h1]
  exact k s1 p.2 e1 h2
theorem S_asg {t : Tg} (hs : Ext st s) (h : Ev C ρ st e x) (k : ∀ s1, Ext s s1 → ∃ ρ', asg t x ρ s1 = some ρ' ∧ N ρ' s1) : okS (exc C W (.asg t e) ρ s) N Rt Ct := by
  rw [s_asg]
  refine ok_mono (h s hs) fun u s1 ⟨e1, hu⟩ => ?_
  subst hu
  exact k s1 e1
theorem S_asgL {i : Nat} {ds : List D} (h : EvL C ρ s e ds) (hi : i < ρ.length) (k : ∀ s1 n, Ext s s1 → s.length ≤ n → s1[n]? = some (.lst ds) → N (ρ.set i (some (.ref n))) s1) : okS (exc C W (.asg (.nm i) e) ρ s) N Rt Ct := by
  rw [s_asg]
  refine ok_mono (h s (Ext.refl _)) fun u s1 ⟨e1, n, hu, hn, hc⟩ => ?_
  subst hu
  exact ⟨_, by simp only [asg, hi, if_true], k s1 n e1 hn hc⟩
theorem S_ife {ta tb : Sts} (hs : Ext st s) (h : Ev C ρ st c (.bl p)) (h1 : p = true → ∀ s1, Ext s s1 → okS (excs C W ta ρ s1) N Rt Ct) (h2 : p = false → ∀ s1, Ext s s1 → okS (excs C W tb ρ s1) N Rt Ct) : okS (exc C W (.ife c ta tb) ρ s) N Rt Ct := by
  rw [s_ife]
  refine ok_mono (h s hs) fun u s1 ⟨e1, hu⟩ => ?_
  cases p with
  | true => exact .inl ⟨hu, h1 rfl s1 e1⟩
  | false => exact .inr ⟨hu, h2 rfl s1 e1⟩
theorem S_ifeP {ta tb : Sts} (J : Env → Sto → Prop) (hs : Ext st s) (h : Ev C ρ st c (.bl p)) (h1 : p = true → ∀ s1, Ext s s1 → okS (excs C W ta ρ s1) J Rt Ct) (h2 : p = false → ∀ s1, Ext s s1 → okS (excs C W tb ρ s1) J Rt Ct) (k : ∀ ρ' s', J ρ' s' → N ρ' s') : okS (exc C W (.ife c ta tb) ρ s) N Rt Ct :=
  S_ife hs h (fun hp s1 e1 => okS_mono (h1 hp s1 e1) k (fun _ _ z => z) fun _ _ z => z) fun hp s1 e1 => okS_mono (h2 hp s1 e1) k (fun _ _ z => z) fun _ _ z => z
theorem S_ret (hs : Ext st s) (h : Ev C ρ st e x) (k : ∀ s1, Ext s s1 → Rt x s1) : okS (exc C W (.ret e) ρ s) N Rt Ct := by
  rw [s_ret]
  refine ok_mono (h s hs) fun u s1 ⟨e1, hu⟩ => ?_
  subst hu
  exact k s1 e1
/-- l.append(e) -/
theorem S_app {m : Nat} {ds : List D} {j : Nat} (hl : ρ[j]? = some (some (.ref m))) (hm : s[m]? = some (.lst ds)) (h : Ev C ρ s e x) (hz : ds.length < LIM) (k : ∀ s1, Ext s s1 → N ρ (s1.set m (.lst (ds ++ [x])))) : okS (exc C W (.exp (.bm .append (.lc j) (.cons e .nil))) ρ s) N Rt Ct := by
  rw [s_exp, w_bm, w_lc hl]
  refine ⟨by show isLst (.ref m) s = true; simp only [isLst, hm], ?_⟩
  rw [w_cons]
  refine ok_mono (h s (Ext.refl _)) fun u s1 ⟨e1, hu⟩ => ?_
  subst hu
  rw [w_nil]
  show ok (appD (.ref m) [u] s1) _
  simp only [appD, e1.at_ hm, hz, if_true]
  exact k s1 e1
end
def EviW (C : Str → List D → Sto → R D) (ρ : Env) (st : Sto) (it : Itr) (ds : List D) (w : Watch) : Prop := ∀ s, Ext st s → ok (evi C it ρ s) fun p s' => Ext s s' ∧ p = (ds, w)
theorem EviW.tup {ds : List D} (h : Ev C ρ st a (.tup ds)) : EviW C ρ st (.val a) ds [] := fun s hs => by
  rw [w_val]
  exact ok_mono (h s hs) fun u s1 ⟨e1, hu⟩ => by subst hu; exact ⟨_, rfl, e1, rfl⟩
theorem EviW.enm {ds : List D} (h : Ev C ρ st a (.tup ds)) : EviW C ρ st (.enm a) (zipI 0 ds) [] := fun s hs => by
  rw [w_enm]
  exact ok_mono (h s hs) fun u s1 ⟨e1, hu⟩ => by subst hu; exact ⟨_, rfl, e1, rfl⟩
theorem EviW.rng {i : Int} (h : Ev C ρ st a (.int i)) (hi : small62 i = true) : EviW C ρ st (.rng a) (rngD 0 i.toNat) [] := fun s hs => by
  rw [w_rng]
  exact ok_mono (h s hs) fun u s1 ⟨e1, hu⟩ => ⟨i, hu, hi, e1, rfl⟩
theorem EviW.lstV {m : Nat} {ds : List D} (h : Ev C ρ st a (.ref m)) (hm : st[m]? = some (.lst ds)) : EviW C ρ st (.val a) ds [(m, .lst ds)] := fun s hs => by
  rw [w_val]
  exact ok_mono (h s hs) fun u s1 ⟨e1, hu⟩ => by subst hu; exact ⟨(ds, [(m, .lst ds)]), by simp only [walkOf, (hs.trans e1).at_ hm], e1, rfl⟩
theorem EviW.enmV {m : Nat} {ds : List D} (h : Ev C ρ st a (.ref m)) (hm : st[m]? = some (.lst ds)) : EviW C ρ st (.enm a) (zipI 0 ds) [(m, .lst ds)] := fun s hs => by
  rw [w_enm]
  exact ok_mono (h s hs) fun u s1 ⟨e1, hu⟩ => by subst hu; exact ⟨(ds, [(m, .lst ds)]), by simp only [seqOf, (hs.trans e1).at_ hm], e1, rfl⟩
section
variable {s : Sto} {N : Env → Sto → Prop} {Rt : D → Sto → Prop} {Ct : Env → Sto → Prop}
theorem S_frW {t : Tg} {it : Itr} {b : Sts} {ds : List D} {w : Watch} (hs : Ext st s) (hi : EviW C ρ st it ds w) (hw : okW w st = true) (k : ∀ s1, Ext s s1 → okW w s1 = true → okS (forL (fun d ρ' st' => match asg t d ρ' st' with
      | some ρ'' => excs C W b ρ'' st'
      | none => .bad) w ds ρ s1) N Rt Ct) : okS (exc C W (.fr t it b) ρ s) N Rt Ct := by
  rw [s_fr]
  refine ok_mono (hi s hs) fun p s1 ⟨e1, h1⟩ => ?_
  subst h1
  have := (hs.trans e1).okW hw
  exact ⟨this, k s1 e1 this⟩
end
theorem rng_len : ∀ (n : Nat) (lo : Int), (rngD lo n).length = n
  | 0, _ => rfl
  | n + 1, lo => by rw [rngD, List.length_cons, rng_len n]
theorem rng_at : ∀ (n : Nat) (lo : Int) (i : Nat) (d : D), (rngD lo n)[i]? = some d → i < n ∧ d = .int (lo + i)
  | 0, _, i, d, h => by simp [rngD] at h
  | n + 1, lo, 0, d, h => by simp [rngD] at h; exact ⟨by omega, by rw [← h]; simp⟩
  | n + 1, lo, i + 1, d, h => by
    rw [rngD, List.getElem?_cons_succ] at h
    obtain ⟨h1, h2⟩ := rng_at n (lo + 1) i d h
    exact ⟨by omega, by rw [h2]; congr 1; omega⟩
theorem zip_at : ∀ (ds : List D) (k i : Nat) (d : D), (zipI k ds)[i]? = some d → ∃ e, ds[i]? = some e ∧ d = .tup [.int ((k + i : Nat) : Int), e]
  | [], _, _, _, h => by simp [zipI] at h
  | d :: ds, k, 0, e, h => by
    simp [zipI] at h
    exact ⟨d, rfl, by rw [← h]; simp⟩
  | d :: ds, k, i + 1, e, h => by
    rw [zipI, List.getElem?_cons_succ] at h
    obtain ⟨f, h1, h2⟩ := zip_at ds (k + 1) i e h
    exact ⟨f, by simpa using h1, by rw [h2]; congr 3; omega⟩
theorem zip_len : ∀ (ds : List D) (k : Nat), (zipI k ds).length = ds.length
  | [], _ => rfl
  | d :: ds, k => by rw [zipI, List.length_cons, List.length_cons, zip_len ds]
end
end IP.Q

namespace IP.Q
open PySem
def p_is_word : Sts :=
  (.cons (.ret (.and (.isT (.lc 0) .str) (.and (.chn .le .le (.k (.int 1)) (.bi .len (.lc 0)) (.k (.int 6))) (.bi .all (.comp (.cmp .isin (.lc 1) (.k (.str "abcdefghijklmnopqrstuvwxyz"))) (.nm 1) (.val (.lc 0)) .none [1]))))) .nil)
def p_is_whole : Sts :=
  (.cons (.ret (.and (.isT (.lc 0) .int) (.and (.not (.isT (.lc 0) .bool)) (.chn .le .le (.lc 1) (.lc 0) (.lc 2))))) .nil)
def p_is_row : Sts :=
  (.cons (.ife (.or (.not (.isT (.lc 0) .tuple)) (.or (.cmp .eq (.bi .len (.lc 0)) (.k (.int 0))) (.not (.isT (.ix (.lc 0) (.k (.int 0))) .str)))) 
    (.cons (.ret (.k (.bl false))) .nil) .nil)
  (.cons (.ife (.cmp .eq (.ix (.lc 0) (.k (.int 0))) (.k (.str "put"))) 
    (.cons (.ret (.and (.cmp .eq (.bi .len (.lc 0)) (.k (.int 3))) (.and (.call "is_word" (.cons (.ix (.lc 0) (.k (.int 1))) .nil)) (.call "is_whole" (.cons (.ix (.lc 0) (.k (.int 2))) (.cons (.k (.int 0)) (.cons (.k (.int 99)) .nil))))))) .nil) .nil)
  (.cons (.ife (.cmp .eq (.ix (.lc 0) (.k (.int 0))) (.k (.str "read"))) 
    (.cons (.ret (.and (.cmp .eq (.bi .len (.lc 0)) (.k (.int 4))) (.bi .all (.comp (.call "is_word" (.cons (.lc 1) .nil)) (.nm 1) (.val (.sl (.lc 0) (.some (.k (.int 1))) .none)) .none [1])))) .nil) .nil)
  (.cons (.ret (.and (.cmp .isin (.ix (.lc 0) (.k (.int 0))) (.tup (.cons (.k (.str "need")) (.cons (.k (.str "note")) (.cons (.k (.str "fail")) .nil))))) (.and (.cmp .eq (.bi .len (.lc 0)) (.k (.int 2))) (.call "is_word" (.cons (.ix (.lc 0) (.k (.int 1))) .nil))))) .nil))))
def p_is_file : Sts :=
  (.cons (.ife (.or (.not (.isT (.lc 0) .tuple)) (.or (.cmp .ne (.bi .len (.lc 0)) (.k (.int 5))) (.not (.isT (.ix (.lc 0) (.k (.int 0))) .str)))) 
    (.cons (.ret (.k (.bl false))) .nil) .nil)
  (.cons (.ife (.or (.cmp .notin (.ix (.lc 0) (.k (.int 0))) (.tup (.cons (.k (.str "class")) (.cons (.k (.str "face")) .nil)))) (.not (.call "is_word" (.cons (.ix (.lc 0) (.k (.int 1))) .nil)))) 
    (.cons (.ret (.k (.bl false))) .nil) .nil)
  (.cons (.ife (.and (.notN (.ix (.lc 0) (.k (.int 2)))) (.or (.cmp .eq (.ix (.lc 0) (.k (.int 0))) (.k (.str "face"))) (.not (.call "is_word" (.cons (.ix (.lc 0) (.k (.int 2))) .nil))))) 
    (.cons (.ret (.k (.bl false))) .nil) .nil)
  (.cons (.ife (.or (.not (.isT (.ix (.lc 0) (.k (.int 3))) .tuple)) (.or (.cmp .gt (.bi .len (.ix (.lc 0) (.k (.int 3)))) (.k (.int 2))) (.not (.bi .all (.comp (.call "is_word" (.cons (.lc 1) .nil)) (.nm 1) (.val (.ix (.lc 0) (.k (.int 3)))) .none [1]))))) 
    (.cons (.ret (.k (.bl false))) .nil) .nil)
  (.cons (.ife (.or (.cmp .ne (.lset (.ix (.lc 0) (.k (.int 3)))) (.bi .len (.ix (.lc 0) (.k (.int 3))))) (.or (.not (.isT (.ix (.lc 0) (.k (.int 4))) .tuple)) (.cmp .gt (.bi .len (.ix (.lc 0) (.k (.int 4)))) (.k (.int 5))))) 
    (.cons (.ret (.k (.bl false))) .nil) .nil)
  (.cons (.ret (.bi .all (.comp (.call "is_row" (.cons (.lc 2) .nil)) (.nm 2) (.val (.ix (.lc 0) (.k (.int 4)))) .none [2]))) .nil))))))
def p_is_shelf : Sts :=
  (.cons (.ife (.or (.not (.isT (.lc 0) .tuple)) (.or (.cmp .gt (.bi .len (.lc 0)) (.k (.int 4))) (.not (.bi .all (.comp (.call "is_file" (.cons (.lc 1) .nil)) (.nm 1) (.val (.lc 0)) .none [1]))))) 
    (.cons (.ret (.k (.bl false))) .nil) .nil)
  (.cons (.ret (.cmp .eq (.lset (.comp (.ix (.lc 1) (.k (.int 1))) (.nm 1) (.val (.lc 0)) .none [1])) (.bi .len (.lc 0)))) .nil))
def p_is_world : Sts :=
  (.cons (.ife (.or (.not (.isT (.lc 0) .tuple)) (.not (.chn .le .le (.k (.int 1)) (.bi .len (.lc 0)) (.k (.int 4))))) 
    (.cons (.ret (.k (.bl false))) .nil) .nil)
  (.cons (.fr (.tp (.cons (.nm 1) (.cons (.nm 2) .nil))) (.enm (.lc 0)) 
    (.cons (.ife (.or (.not (.isT (.lc 2) .tuple)) (.or (.cmp .ne (.bi .len (.lc 2)) (.k (.int 2))) (.not (.call "is_shelf" (.cons (.ix (.lc 2) (.k (.int 1))) .nil))))) 
      (.cons (.ret (.k (.bl false))) .nil) .nil)
    (.cons (.ife (.and (.notN (.ix (.lc 2) (.k (.int 0)))) (.not (.call "is_whole" (.cons (.ix (.lc 2) (.k (.int 0))) (.cons (.k (.int 0)) (.cons (.bin .sub (.lc 1) (.k (.int 1))) .nil)))))) 
      (.cons (.ret (.k (.bl false))) .nil) .nil) .nil)))
  (.cons (.ret (.k (.bl true))) .nil)))
def p_need_world : Sts :=
  (.cons (.ife (.not (.call "is_world" (.cons (.lc 0) .nil))) 
    (.cons (.rse "NoWorld") .nil) .nil) .nil)
def l_cell_at : Sts :=
  (.cons (.ife (.cmp .lt (.lc 1) (.bi .len (.lc 0))) 
    (.cons (.ret (.ix (.lc 0) (.lc 1))) .nil) .nil)
  (.cons (.ife (.cmp .eq (.lc 0) (.lst .nil)) 
    (.cons (.ret (.k (.int 0))) .nil) .nil)
  (.cons (.ret (.bin .add (.bin .mul (.ix (.lc 0) (.bin .mod (.lc 1) (.bi .len (.lc 0)))) (.k (.int 31))) (.lc 1))) .nil)))
def l_mixed : Sts :=
  (.cons (.asg (.nm 3) (.bin .mod (.bin .mul (.bin .add (.bin .add (.call "_law_cell_at" (.cons (.lc 0) (.cons (.lc 1) .nil))) (.bin .mul (.k (.int 7919)) (.lc 1))) (.k (.int 1))) (.k (.int 48271))) (.k (.int 2147483647))))
  (.cons (.ret (.bin .mod (.bin .mod (.bin .add (.bin .add (.bin .mul (.lc 3) (.lc 3)) (.bin .mul (.k (.int 7)) (.lc 3))) (.lc 1)) (.k (.int 2147483629))) (.lc 2))) .nil))
def l_word : Sts :=
  (.cons (.asg (.nm 2) (.k (.str "")))
  (.cons (.fr (.nm 3) (.rng (.ix (.lst (.cons (.k (.int 1)) (.cons (.k (.int 2)) (.cons (.k (.int 3)) (.cons (.k (.int 6)) (.cons (.k (.int 1)) (.cons (.k (.int 4)) .nil))))))) (.call "_law_mixed" (.cons (.lc 0) (.cons (.lc 1) (.cons (.k (.int 6)) .nil)))))) 
    (.cons (.asg (.nm 2) (.bin .add (.lc 2) (.ix (.k (.str "abcdefghijklmnopqrstuvwxyz")) (.call "_law_mixed" (.cons (.lc 0) (.cons (.bin .add (.bin .add (.lc 1) (.k (.int 1))) (.lc 3)) (.cons (.k (.int 26)) .nil))))))) .nil))
  (.cons (.ret (.lc 2)) .nil)))
def l_names : Sts :=
  (.cons (.asg (.nm 2) (.dct .nil))
  (.cons (.fr (.nm 3) (.rng (.k (.int 4))) 
    (.cons (.aset (.lc 2) (.call "_law_word" (.cons (.lc 0) (.cons (.bin .add (.lc 1) (.bin .mul (.k (.int 8)) (.lc 3))) .nil))) (.k (.bl true))) .nil))
  (.cons (.ret (.bi .list (.lc 2))) .nil)))
def l_row : Sts :=
  (.cons (.asg (.nm 3) (.call "_law_mixed" (.cons (.lc 0) (.cons (.lc 1) (.cons (.k (.int 12)) .nil)))))
  (.cons (.asg (.nm 4) (.ix (.lc 2) (.call "_law_mixed" (.cons (.lc 0) (.cons (.bin .add (.lc 1) (.k (.int 1))) (.cons (.bi .len (.lc 2)) .nil))))))
  (.cons (.asg (.nm 5) (.ix (.lst (.cons (.k (.str "f")) (.cons (.k (.str "g")) .nil))) (.call "_law_mixed" (.cons (.lc 0) (.cons (.bin .add (.lc 1) (.k (.int 2))) (.cons (.k (.int 2)) .nil))))))
  (.cons (.ife (.cmp .lt (.lc 3) (.k (.int 4))) 
    (.cons (.ret (.tup (.cons (.k (.str "put")) (.cons (.lc 5) (.cons (.call "_law_mixed" (.cons (.lc 0) (.cons (.bin .add (.lc 1) (.k (.int 3))) (.cons (.k (.int 100)) .nil)))) .nil))))) .nil) .nil)
  (.cons (.ife (.cmp .lt (.lc 3) (.k (.int 7))) 
    (.cons (.ret (.tup (.cons (.k (.str "read")) (.cons (.lc 5) (.cons (.lc 4) (.cons (.ix (.lst (.cons (.k (.str "f")) (.cons (.k (.str "g")) .nil))) (.call "_law_mixed" (.cons (.lc 0) (.cons (.bin .add (.lc 1) (.k (.int 3))) (.cons (.k (.int 2)) .nil))))) .nil)))))) .nil) .nil)
  (.cons (.ife (.cmp .lt (.lc 3) (.k (.int 10))) 
    (.cons (.ret (.tup (.cons (.k (.str "need")) (.cons (.lc 4) .nil)))) .nil) .nil)
  (.cons (.ret (.tup (.cons (.ix (.lst (.cons (.k (.str "note")) (.cons (.k (.str "note")) (.cons (.k (.str "fail")) .nil)))) (.call "_law_mixed" (.cons (.lc 0) (.cons (.bin .add (.lc 1) (.k (.int 3))) (.cons (.k (.int 3)) .nil))))) (.cons (.ix (.lst (.cons (.k (.str "x")) (.cons (.k (.str "y")) .nil))) (.call "_law_mixed" (.cons (.lc 0) (.cons (.bin .add (.lc 1) (.k (.int 2))) (.cons (.k (.int 2)) .nil))))) .nil)))) .nil)))))))
def l_file : Sts :=
  (.cons (.asg (.nm 5) (.k (.str "class")))
  (.cons (.ife (.ix (.lst (.cons (.cmp .eq (.lc 3) (.ix (.lc 2) (.neg (.k (.int 1))))) (.cons (.cmp .eq (.call "_law_mixed" (.cons (.lc 0) (.cons (.lc 1) (.cons (.k (.int 2)) .nil)))) (.k (.int 0))) .nil))) (.bi .int (.cmp .eq (.call "_law_mixed" (.cons (.lc 0) (.cons (.bin .add (.lc 1) (.k (.int 1))) (.cons (.k (.int 8)) .nil)))) (.k (.int 0))))) 
    (.cons (.asg (.nm 5) (.k (.str "face"))) .nil) .nil)
  (.cons (.asg (.nm 6) (.k .non))
  (.cons (.ife (.and (.cmp .eq (.lc 5) (.k (.str "class"))) (.cmp .eq (.call "_law_mixed" (.cons (.lc 0) (.cons (.bin .add (.lc 1) (.k (.int 1))) (.cons (.k (.int 3)) .nil)))) (.k (.int 0)))) 
    (.cons (.asg (.nm 6) (.ix (.lc 2) (.call "_law_mixed" (.cons (.lc 0) (.cons (.bin .add (.lc 1) (.k (.int 2))) (.cons (.bi .len (.lc 2)) .nil)))))) .nil) .nil)
  (.cons (.asg (.nm 7) (.lst .nil))
  (.cons (.ife (.cmp .eq (.call "_law_mixed" (.cons (.lc 0) (.cons (.bin .add (.lc 1) (.k (.int 3))) (.cons (.k (.int 3)) .nil)))) (.k (.int 0))) 
    (.cons (.exp (.bm .append (.lc 7) (.cons (.ix (.lc 2) (.neg (.k (.int 1)))) .nil))) .nil) .nil)
  (.cons (.ife (.cmp .eq (.call "_law_mixed" (.cons (.lc 0) (.cons (.bin .add (.lc 1) (.k (.int 3))) (.cons (.k (.int 5)) .nil)))) (.k (.int 1))) 
    (.cons (.exp (.bm .append (.lc 7) (.cons (.ix (.lc 2) (.call "_law_mixed" (.cons (.lc 0) (.cons (.bin .add (.lc 1) (.k (.int 4))) (.cons (.bi .len (.lc 2)) .nil))))) .nil))) .nil) .nil)
  (.cons (.asg (.nm 7) (.sl (.lc 7) .none (.some (.lset (.lc 7)))))
  (.cons (.asg (.nm 8) (.bi .tuple (.comp (.call "_law_row" (.cons (.lc 0) (.cons (.bin .add (.bin .add (.lc 1) (.k (.int 10))) (.bin .mul (.k (.int 5)) (.lc 9))) (.cons (.lc 2) .nil)))) (.nm 9) (.rng (.call "_law_mixed" (.cons (.lc 0) (.cons (.bin .add (.lc 1) (.k (.int 5))) (.cons (.bin .add (.lc 4) (.k (.int 1))) .nil))))) .none [9])))
  (.cons (.ret (.tup (.cons (.lc 5) (.cons (.lc 3) (.cons (.lc 6) (.cons (.bi .tuple (.lc 7)) (.cons (.lc 8) .nil))))))) .nil))))))))))
def l_world : Sts :=
  (.cons (.asg (.nm 5) (.lst .nil))
  (.cons (.asg (.nm 6) (.and (.cmp .eq (.call "_law_mixed" (.cons (.lc 0) (.cons (.k (.int 95)) (.cons (.k (.int 4)) .nil)))) (.k (.int 0))) (.cmp .gt (.lc 4) (.k (.int 0)))))
  (.cons (.fr (.nm 7) (.rng (.bin .add (.k (.int 1)) (.call "_law_mixed" (.cons (.lc 0) (.cons (.lc 1) (.cons (.lc 3) .nil)))))) 
    (.cons (.asg (.nm 8) (.bin .add (.lc 1) (.bin .mul (.k (.int 200)) (.bin .add (.lc 7) (.k (.int 1))))))
    (.cons (.asg (.nm 9) (.k .non))
    (.cons (.ife (.and (.cmp .gt (.lc 7) (.k (.int 0))) (.cmp .gt (.call "_law_mixed" (.cons (.lc 0) (.cons (.lc 8) (.cons (.k (.int 4)) .nil)))) (.k (.int 0)))) 
      (.cons (.asg (.nm 9) (.call "_law_mixed" (.cons (.lc 0) (.cons (.bin .add (.lc 8) (.k (.int 1))) (.cons (.lc 7) .nil))))) .nil) .nil)
    (.cons (.asg (.nm 10) (.lst .nil))
    (.cons (.fr (.tp (.cons (.nm 11) (.cons (.nm 12) .nil))) (.enm (.lc 2)) 
      (.cons (.ife (.and (.lc 6) (.and (.cmp .eq (.lc 7) (.k (.int 0))) (.and (.cmp .lt (.lc 11) (.k (.int 2))) (.cmp .gt (.bi .len (.lc 2)) (.k (.int 1)))))) 
        (.cons (.asg (.nm 13) (.call "_law_row" (.cons (.lc 0) (.cons (.bin .add (.bin .add (.lc 8) (.k (.int 10))) (.bin .mul (.k (.int 45)) (.lc 11))) (.cons (.lc 2) .nil)))))
        (.cons (.exp (.bm .append (.lc 10) (.cons (.tup (.cons (.k (.str "class")) (.cons (.lc 12) (.cons (.k .non) (.cons (.tup .nil) (.cons (.sl (.tup (.cons (.lc 13) (.cons (.tup (.cons (.k (.str "need")) (.cons (.ix (.lc 2) (.bin .sub (.k (.int 1)) (.lc 11))) .nil))) .nil))) (.some (.call "_law_mixed" (.cons (.lc 0) (.cons (.bin .add (.lc 8) (.k (.int 5))) (.cons (.k (.int 2)) .nil))))) .none) .nil)))))) .nil))) .nil)) 
        (.cons (.ife (.cmp .gt (.call "_law_mixed" (.cons (.lc 0) (.cons (.bin .add (.bin .add (.lc 8) (.k (.int 2))) (.lc 11)) (.cons (.k (.int 3)) .nil)))) (.k (.int 0))) 
          (.cons (.exp (.bm .append (.lc 10) (.cons (.call "_law_file" (.cons (.lc 0) (.cons (.bin .add (.bin .add (.lc 8) (.k (.int 10))) (.bin .mul (.k (.int 45)) (.lc 11))) (.cons (.lc 2) (.cons (.lc 12) (.cons (.lc 4) .nil)))))) .nil))) .nil) .nil) .nil)) .nil))
    (.cons (.asg (.nm 14) (.call "_law_mixed" (.cons (.lc 0) (.cons (.bin .add (.lc 8) (.k (.int 8))) (.cons (.k (.int 4)) .nil)))))
    (.cons (.exp (.bm .append (.lc 5) (.cons (.tup (.cons (.lc 9) (.cons (.bi .tuple (.bin .add (.sl (.lc 10) (.some (.lc 14)) .none) (.sl (.lc 10) .none (.some (.lc 14))))) .nil))) .nil))) .nil))))))))
  (.cons (.ret (.bi .tuple (.lc 5))) .nil))))
def p_file_on : Sts :=
  (.cons (.fr (.nm 2) (.val (.lc 0)) 
    (.cons (.ife (.cmp .eq (.ix (.lc 2) (.k (.int 1))) (.lc 1)) 
      (.cons (.ret (.lc 2)) .nil) .nil) .nil))
  (.cons (.ret (.k .non)) .nil))
def p_line_of : Sts :=
  (.cons (.asg (.nm 2) (.lst .nil))
  (.cons (.whl (.notN (.lc 1)) 
    (.cons (.asg (.nm 2) (.bin .add (.lst (.cons (.lc 1) .nil)) (.lc 2)))
    (.cons (.asg (.nm 1) (.ix (.ix (.lc 0) (.lc 1)) (.k (.int 0)))) .nil)))
  (.cons (.ret (.lc 2)) .nil)))
def p_found_by : Sts :=
  (.cons (.fr (.nm 3) (.val (.call "line_of" (.cons (.lc 0) (.cons (.lc 1) .nil)))) 
    (.cons (.ife (.notN (.call "file_on" (.cons (.ix (.ix (.lc 0) (.lc 3)) (.k (.int 1))) (.cons (.lc 2) .nil)))) 
      (.cons (.ret (.tup (.cons (.lc 3) (.cons (.lc 2) .nil)))) .nil) .nil) .nil))
  (.cons (.ret (.k .non)) .nil))
def l_line : Sts :=
  (.cons (.asg (.nm 2) (.lst (.cons (.lc 1) .nil)))
  (.cons (.whl (.notN (.ix (.ix (.lc 0) (.ix (.lc 2) (.k (.int 0)))) (.k (.int 0)))) 
    (.cons (.asg (.nm 2) (.bin .add (.lst (.cons (.ix (.ix (.lc 0) (.ix (.lc 2) (.k (.int 0)))) (.k (.int 0))) .nil)) (.lc 2))) .nil))
  (.cons (.ret (.lc 2)) .nil)))
def l_on : Sts :=
  (.cons (.ret (.comp (.lc 2) (.nm 2) (.val (.lc 0)) (.some (.cmp .eq (.ix (.lc 2) (.k (.int 1))) (.lc 1))) [2])) .nil)
def l_find : Sts :=
  (.cons (.asg (.nm 3) (.comp (.lc 4) (.nm 4) (.val (.call "_law_line" (.cons (.lc 0) (.cons (.lc 1) .nil)))) (.some (.cmp .ne (.call "_law_on" (.cons (.ix (.ix (.lc 0) (.lc 4)) (.k (.int 1))) (.cons (.lc 2) .nil))) (.lst .nil))) [4]))
  (.cons (.ife (.cmp .eq (.lc 3) (.lst .nil)) 
    (.cons (.ret (.k .non)) .nil) .nil)
  (.cons (.ret (.tup (.cons (.ix (.lc 3) (.k (.int 0))) (.cons (.lc 2) .nil)))) .nil)))
def p_classes : Sts :=
  (.cons (.exp (.call "need_world" (.cons (.lc 0) .nil)))
  (.cons (.asg (.nm 1) (.lst .nil))
  (.cons (.fr (.tp (.cons (.nm 2) (.cons (.nm 3) .nil))) (.enm (.lc 0)) 
    (.cons (.exp (.bm .extend (.lc 1) (.cons (.comp (.tup (.cons (.lc 2) (.cons (.ix (.lc 4) (.k (.int 1))) .nil))) (.nm 4) (.val (.ix (.lc 3) (.k (.int 1)))) (.some (.cmp .eq (.call "found_by" (.cons (.lc 0) (.cons (.lc 2) (.cons (.ix (.lc 4) (.k (.int 1))) .nil)))) (.tup (.cons (.lc 2) (.cons (.ix (.lc 4) (.k (.int 1))) .nil))))) [4]) .nil))) .nil))
  (.cons (.ret (.bi .sorted (.lc 1))) .nil))))
def p_shadowed : Sts :=
  (.cons (.exp (.call "need_world" (.cons (.lc 0) .nil)))
  (.cons (.asg (.nm 1) (.lst .nil))
  (.cons (.fr (.tp (.cons (.nm 2) (.cons (.nm 3) .nil))) (.enm (.lc 0)) 
    (.cons (.exp (.bm .extend (.lc 1) (.cons (.comp (.tup (.cons (.lc 2) (.cons (.ix (.lc 4) (.k (.int 1))) .nil))) (.nm 4) (.val (.ix (.lc 3) (.k (.int 1)))) (.some (.cmp .ne (.call "found_by" (.cons (.lc 0) (.cons (.lc 2) (.cons (.ix (.lc 4) (.k (.int 1))) .nil)))) (.tup (.cons (.lc 2) (.cons (.ix (.lc 4) (.k (.int 1))) .nil))))) [4]) .nil))) .nil))
  (.cons (.ret (.bi .sorted (.lc 1))) .nil))))
def l_classes : Sts :=
  (.cons (.asg (.nm 1) (.lst .nil))
  (.cons (.fr (.tp (.cons (.nm 2) (.cons (.nm 3) .nil))) (.enm (.lc 0)) 
    (.cons (.exp (.bm .extend (.lc 1) (.cons (.comp (.tup (.cons (.lc 2) (.cons (.ix (.lc 4) (.k (.int 1))) .nil))) (.nm 4) (.val (.ix (.lc 3) (.k (.int 1)))) (.some (.cmp .eq (.call "_law_find" (.cons (.lc 0) (.cons (.lc 2) (.cons (.ix (.lc 4) (.k (.int 1))) .nil)))) (.tup (.cons (.lc 2) (.cons (.ix (.lc 4) (.k (.int 1))) .nil))))) [4]) .nil))) .nil))
  (.cons (.ret (.bi .sorted (.lc 1))) .nil)))
def p_is_class : Sts :=
  (.cons (.ife (.or (.not (.isT (.lc 1) .tuple)) (.or (.cmp .ne (.bi .len (.lc 1)) (.k (.int 2))) (.not (.isT (.ix (.lc 1) (.k (.int 1))) .str)))) 
    (.cons (.ret (.k (.bl false))) .nil) .nil)
  (.cons (.ife (.or (.isT (.ix (.lc 1) (.k (.int 0))) .bool) (.or (.not (.isT (.ix (.lc 1) (.k (.int 0))) .int)) (.not (.chn .le .lt (.k (.int 0)) (.ix (.lc 1) (.k (.int 0))) (.bi .len (.lc 0)))))) 
    (.cons (.ret (.k (.bl false))) .nil) .nil)
  (.cons (.ret (.cmp .eq (.call "found_by" (.cons (.lc 0) (.cons (.ix (.lc 1) (.k (.int 0))) (.cons (.ix (.lc 1) (.k (.int 1))) .nil)))) (.lc 1))) .nil)))
def p_need_class : Sts :=
  (.cons (.exp (.call "need_world" (.cons (.lc 0) .nil)))
  (.cons (.ife (.not (.call "is_class" (.cons (.lc 0) (.cons (.lc 1) .nil)))) 
    (.cons (.rse "NoClass") .nil) .nil) .nil))
def p_file_of : Sts :=
  (.cons (.ret (.call "file_on" (.cons (.ix (.ix (.lc 0) (.ix (.lc 1) (.k (.int 0)))) (.k (.int 1))) (.cons (.ix (.lc 1) (.k (.int 1))) .nil)))) .nil)
def p_above_all : Sts :=
  (.cons (.asg (.tp (.cons (.nm 2) (.cons (.nm 3) (.cons (.nm 4) (.cons (.nm 5) (.cons (.nm 6) .nil)))))) (.call "file_of" (.cons (.lc 0) (.cons (.lc 1) .nil))))
  (.cons (.asg (.nm 7) (.comp (.tup (.cons (.lc 8) (.cons (.k (.str "face")) .nil))) (.nm 8) (.val (.lc 5)) .none [8]))
  (.cons (.ife (.notN (.lc 4)) 
    (.cons (.asg (.nm 7) (.bin .add (.lst (.cons (.tup (.cons (.lc 4) (.cons (.k (.str "class")) .nil))) .nil)) (.lc 7))) .nil) .nil)
  (.cons (.ret (.lc 7)) .nil))))
def p_flaw : Sts :=
  (.cons (.ife (.cmp .isin (.lc 1) (.lc 2)) 
    (.cons (.ret (.tup (.cons (.k (.str "ring")) (.cons (.ix (.lc 1) (.k (.int 1))) .nil)))) .nil) .nil)
  (.cons (.fr (.tp (.cons (.nm 3) (.cons (.nm 4) .nil))) (.val (.call "above_all" (.cons (.lc 0) (.cons (.lc 1) .nil)))) 
    (.cons (.asg (.nm 5) (.call "found_by" (.cons (.lc 0) (.cons (.ix (.lc 1) (.k (.int 0))) (.cons (.lc 3) .nil)))))
    (.cons (.ife (.isN (.lc 5)) 
      (.cons (.ret (.tup (.cons (.k (.str "lacks")) (.cons (.lc 3) .nil)))) .nil) .nil)
    (.cons (.ife (.cmp .ne (.ix (.call "file_of" (.cons (.lc 0) (.cons (.lc 5) .nil))) (.k (.int 0))) (.lc 4)) 
      (.cons (.ret (.tup (.cons (.k (.str "kind")) (.cons (.lc 3) .nil)))) .nil) .nil)
    (.cons (.asg (.nm 6) (.call "flaw" (.cons (.lc 0) (.cons (.lc 5) (.cons (.bin .add (.lc 2) (.lst (.cons (.lc 1) .nil))) .nil)))))
    (.cons (.ife (.notN (.lc 6)) 
      (.cons (.ret (.lc 6)) .nil) .nil) .nil))))))
  (.cons (.ret (.k .non)) .nil)))
def p_why_not : Sts :=
  (.cons (.exp (.call "need_class" (.cons (.lc 0) (.cons (.lc 1) .nil))))
  (.cons (.ret (.call "flaw" (.cons (.lc 0) (.cons (.lc 1) (.cons (.lst .nil) .nil))))) .nil))
def p_need_linked : Sts :=
  (.cons (.exp (.call "need_class" (.cons (.lc 0) (.cons (.lc 1) .nil))))
  (.cons (.asg (.nm 2) (.call "flaw" (.cons (.lc 0) (.cons (.lc 1) (.cons (.lst .nil) .nil)))))
  (.cons (.ife (.notN (.lc 2)) 
    (.cons .never .nil) .nil) .nil)))
def p_supers : Sts :=
  (.cons (.exp (.call "need_linked" (.cons (.lc 0) (.cons (.lc 1) .nil))))
  (.cons (.asg (.nm 2) (.lst (.cons (.lc 1) .nil)))
  (.cons (.whl (.notN (.ix (.call "file_of" (.cons (.lc 0) (.cons (.ix (.lc 2) (.neg (.k (.int 1)))) .nil))) (.k (.int 2)))) 
    (.cons (.exp (.bm .append (.lc 2) (.cons (.call "found_by" (.cons (.lc 0) (.cons (.ix (.ix (.lc 2) (.neg (.k (.int 1)))) (.k (.int 0))) (.cons (.ix (.call "file_of" (.cons (.lc 0) (.cons (.ix (.lc 2) (.neg (.k (.int 1)))) .nil))) (.k (.int 2))) .nil)))) .nil))) .nil))
  (.cons (.ret (.lc 2)) .nil))))
def l_file_of : Sts :=
  (.cons (.ret (.ix (.call "_law_on" (.cons (.ix (.ix (.lc 0) (.ix (.lc 1) (.k (.int 0)))) (.k (.int 1))) (.cons (.ix (.lc 1) (.k (.int 1))) .nil))) (.k (.int 0)))) .nil)
def l_above : Sts :=
  (.cons (.asg (.nm 2) (.call "_law_file_of" (.cons (.lc 0) (.cons (.lc 1) .nil))))
  (.cons (.asg (.nm 3) (.comp (.tup (.cons (.lc 4) (.cons (.k (.str "face")) .nil))) (.nm 4) (.val (.ix (.lc 2) (.k (.int 3)))) .none [4]))
  (.cons (.ret (.bin .add (.sl (.lst (.cons (.tup (.cons (.ix (.lc 2) (.k (.int 2))) (.cons (.k (.str "class")) .nil))) .nil)) .none (.some (.bi .int (.notN (.ix (.lc 2) (.k (.int 2))))))) (.lc 3))) .nil)))
def l_flaw : Sts :=
  (.cons (.fr (.tp (.cons (.nm 3) (.cons (.nm 4) .nil))) (.val (.call "_law_above" (.cons (.lc 0) (.cons (.lc 1) .nil)))) 
    (.cons (.asg (.nm 5) (.call "_law_find" (.cons (.lc 0) (.cons (.ix (.lc 1) (.k (.int 0))) (.cons (.lc 3) .nil)))))
    (.cons (.ife (.isN (.lc 5)) 
      (.cons (.ret (.tup (.cons (.k (.str "lacks")) (.cons (.lc 3) .nil)))) .nil) .nil)
    (.cons (.ife (.cmp .ne (.ix (.call "_law_file_of" (.cons (.lc 0) (.cons (.lc 5) .nil))) (.k (.int 0))) (.lc 4)) 
      (.cons (.ret (.tup (.cons (.k (.str "kind")) (.cons (.lc 3) .nil)))) .nil) .nil)
    (.cons (.ife (.cmp .isin (.lc 5) (.bin .add (.lc 2) (.lst (.cons (.lc 1) .nil)))) 
      (.cons (.ret (.tup (.cons (.k (.str "ring")) (.cons (.lc 3) .nil)))) .nil) .nil)
    (.cons (.asg (.nm 6) (.call "_law_flaw" (.cons (.lc 0) (.cons (.lc 5) (.cons (.bin .add (.lc 2) (.lst (.cons (.lc 1) .nil))) .nil)))))
    (.cons (.ife (.notN (.lc 6)) 
      (.cons (.ret (.lc 6)) .nil) .nil) .nil)))))))
  (.cons (.ret (.k .non)) .nil))
def p_common : Sts :=
  (.cons (.exp (.call "need_linked" (.cons (.lc 0) (.cons (.lc 1) .nil))))
  (.cons (.exp (.call "need_linked" (.cons (.lc 0) (.cons (.lc 2) .nil))))
  (.cons (.asg (.nm 3) (.call "supers" (.cons (.lc 0) (.cons (.lc 1) .nil))))
  (.cons (.asg (.nm 4) (.call "supers" (.cons (.lc 0) (.cons (.lc 2) .nil))))
  (.cons (.asg (.nm 5) (.comp (.lc 6) (.nm 6) (.val (.lc 3)) (.some (.cmp .isin (.lc 6) (.lc 4))) [6]))
  (.cons (.ret (.ix (.bin .add (.lc 5) (.lst (.cons (.k .non) .nil))) (.k (.int 0)))) .nil))))))
def l_supers : Sts :=
  (.cons (.asg (.nm 2) (.lst (.cons (.lc 1) .nil)))
  (.cons (.whl (.notN (.ix (.call "_law_file_of" (.cons (.lc 0) (.cons (.ix (.lc 2) (.neg (.k (.int 1)))) .nil))) (.k (.int 2)))) 
    (.cons (.exp (.bm .append (.lc 2) (.cons (.call "_law_find" (.cons (.lc 0) (.cons (.ix (.ix (.lc 2) (.neg (.k (.int 1)))) (.k (.int 0))) (.cons (.ix (.call "_law_file_of" (.cons (.lc 0) (.cons (.ix (.lc 2) (.neg (.k (.int 1)))) .nil))) (.k (.int 2))) .nil)))) .nil))) .nil))
  (.cons (.ret (.lc 2)) .nil)))
def law_k36 : Sts :=
  (.cons (.asg (.nm 1) (.call "_law_names" (.cons (.lc 0) (.cons (.k (.int 20)) .nil))))
  (.cons (.asg (.nm 2) (.call "_law_world" (.cons (.lc 0) (.cons (.k (.int 100)) (.cons (.lc 1) (.cons (.k (.int 3)) (.cons (.k (.int 1)) .nil)))))))
  (.cons (.asg (.nm 3) (.comp (.lc 4) (.nm 4) (.val (.call "classes" (.cons (.lc 2) .nil))) (.some (.isN (.call "why_not" (.cons (.lc 2) (.cons (.lc 4) .nil))))) [4]))
  (.cons (.asg (.nm 5) (.call "_law_mixed" (.cons (.lc 0) (.cons (.k (.int 0)) (.cons (.bin .add (.bi .len (.lc 3)) (.k (.int 1))) .nil)))))
  (.cons (.fr (.nm 6) (.val (.sl (.lc 3) (.some (.lc 5)) (.some (.bin .add (.lc 5) (.k (.int 3)))))) 
    (.cons (.fr (.nm 7) (.val (.bin .add (.sl (.lc 3) .none (.some (.k (.int 5)))) (.call "supers" (.cons (.lc 2) (.cons (.lc 6) .nil))))) 
      (.cons (.asg (.nm 8) (.call "common" (.cons (.lc 2) (.cons (.lc 6) (.cons (.lc 7) .nil)))))
      (.cons (.ife (.cmp .ne (.call "common" (.cons (.lc 2) (.cons (.lc 7) (.cons (.lc 6) .nil)))) (.lc 8)) 
        (.cons (.ret (.k (.bl false))) .nil) .nil)
      (.cons (.asg (.nm 9) (.call "supers" (.cons (.lc 2) (.cons (.lc 6) .nil))))
      (.cons (.asg (.nm 10) (.call "supers" (.cons (.lc 2) (.cons (.lc 7) .nil))))
      (.cons (.ife (.isN (.lc 8)) 
        (.cons (.ife (.bi .any (.comp (.cmp .isin (.lc 4) (.lc 10)) (.nm 4) (.val (.lc 9)) .none [4])) 
          (.cons (.ret (.k (.bl false))) .nil) .nil) .nil) 
        (.cons (.asg (.nm 11) (.bm .index (.lc 9) (.cons (.lc 8) .nil)))
        (.cons (.asg (.nm 12) (.bm .index (.lc 10) (.cons (.lc 8) .nil)))
        (.cons (.ife (.or (.cmp .ne (.sl (.lc 9) (.some (.lc 11)) .none) (.sl (.lc 10) (.some (.lc 12)) .none)) (.cmp .ne (.sl (.lc 9) (.some (.lc 11)) .none) (.call "supers" (.cons (.lc 2) (.cons (.lc 8) .nil))))) 
          (.cons (.ret (.k (.bl false))) .nil) .nil)
        (.cons (.ife (.bi .any (.comp (.cmp .isin (.lc 4) (.lc 10)) (.nm 4) (.val (.sl (.lc 9) .none (.some (.lc 11)))) .none [4])) 
          (.cons (.ret (.k (.bl false))) .nil) .nil) .nil)))))
      (.cons (.ife (.and (.cmp .isin (.lc 7) (.lc 9)) (.cmp .ne (.lc 8) (.lc 7))) 
        (.cons (.ret (.k (.bl false))) .nil) .nil) .nil))))))) .nil))
  (.cons (.ret (.k (.bl true))) .nil))))))
end IP.Q

/-! PrH: the laws' helpers: drawing numbers, words. -/
namespace IP.Q
open PySem
structure TDraw (T : Tab) : Prop where
  cell : T "_law_cell_at" = some (.fn 2 2 l_cell_at)
  mixed : T "_law_mixed" = some (.fn 3 4 l_mixed)
  word : T "_law_word" = some (.fn 2 4 l_word)
  names : T "_law_names" = some (.fn 2 4 l_names)
def cellV (ns : List Int) (k : Int) : Int := if k < ns.length then ns.getD k.toNat 0 else if ns = [] then 0 else ns.getD (k.fmod ns.length).toNat 0 * 31 + k
def drawnV (ns : List Int) (k : Int) : Int := ((cellV ns k + 7919 * k + 1) * 48271).fmod 2147483647
def mixV (ns : List Int) (k m : Int) : Int := ((drawnV ns k * drawnV ns k + 7 * drawnV ns k + k).fmod 2147483629).fmod m
theorem mixV_nn (ns : List Int) (k : Int) {m : Int} (h : 0 < m) : 0 ≤ mixV ns k m := Int.fmod_nonneg_of_pos _ h
theorem mixV_lt (ns : List Int) (k : Int) {m : Int} (h : 0 < m) : mixV ns k m < m := Int.fmod_lt_of_pos _ h
theorem atI_get {α : Type} {xs : List α} {i : Int} {d : α} (h0 : 0 ≤ i) (h1 : i < xs.length) : L2.atI xs i = some (xs.getD i.toNat d) := by
  unfold L2.atI L2.ixN
  rw [if_pos h0, if_pos h1]
  show xs[i.toNat]? = _
  have hl : i.toNat < xs.length := by omega
  rw [List.getElem?_eq_getElem hl, List.getD_eq_getElem?_getD, List.getElem?_eq_getElem hl]; rfl
section
variable {T : Tab} {W n : Nat} {C : Str → List D → Sto → R D} {ρ : Env} {st : Sto} {a b : Ex}
theorem Ev.ltI {i j : Int} (ha : Ev C ρ st a (.int i)) (hb : Ev C ρ st b (.int j)) : Ev C ρ st (.cmp .lt a b) (.bl (decide (i < j))) := Ev.cmp ha hb fun s _ => rfl
theorem Ev.gtI {i j : Int} (ha : Ev C ρ st a (.int i)) (hb : Ev C ρ st b (.int j)) : Ev C ρ st (.cmp .gt a b) (.bl (decide (j < i))) := Ev.cmp ha hb fun s _ => rfl
theorem Ev.addI {i j : Int} (ha : Ev C ρ st a (.int i)) (hb : Ev C ρ st b (.int j)) : Ev C ρ st (.bin .add a b) (.int (i + j)) := Ev.bin ha hb fun s => rfl
theorem Ev.subI {i j : Int} (ha : Ev C ρ st a (.int i)) (hb : Ev C ρ st b (.int j)) : Ev C ρ st (.bin .sub a b) (.int (i - j)) := Ev.bin ha hb fun s => rfl
theorem Ev.mulI {i j : Int} (ha : Ev C ρ st a (.int i)) (hb : Ev C ρ st b (.int j)) (h : mulOk i j = true) : Ev C ρ st (.bin .mul a b) (.int (i * j)) := Ev.bin ha hb fun s => by simp only [binD, h, if_true]
theorem Ev.modI {i j : Int} (ha : Ev C ρ st a (.int i)) (hb : Ev C ρ st b (.int j)) (h : j ≠ 0) : Ev C ρ st (.bin .mod a b) (.int (i.fmod j)) := Ev.bin ha hb fun s => by simp only [binD, h, ne_eq, not_false_eq_true, if_true]
theorem Ev.lenR {ns : List Int} (ha : Ev C ρ st a (.ro ns)) : Ev C ρ st (.bi .len a) (.int ns.length) := Ev.bi ha fun s _ => rfl
theorem Ev.ixR {ns : List Int} {i : Int} (ha : Ev C ρ st a (.ro ns)) (hb : Ev C ρ st b (.int i)) (h0 : 0 ≤ i) (h1 : i < ns.length) : Ev C ρ st (.ix a b) (.int (ns.getD i.toNat 0)) := Ev.ix ha hb fun s _ => by
  simp only [ixD, atI_get (d := 0) h0 h1]
theorem mulOk_l {i j : Int} (h : -(2 ^ 64) < i) (h2 : i < 2 ^ 64) : mulOk i j = true := by
  unfold mulOk
  rw [decide_eq_true (⟨h, h2⟩ : -(2 ^ 64) < i ∧ i < 2 ^ 64)]; rfl
theorem mulOk_r {i j : Int} (h : -(2 ^ 64) < j) (h2 : j < 2 ^ 64) : mulOk i j = true := by
  unfold mulOk
  rw [decide_eq_true (⟨h, h2⟩ : -(2 ^ 64) < j ∧ j < 2 ^ 64), Bool.or_true]
theorem ro_nil (ns : List Int) {s : Sto} {m : Nat} (h : s[m]? = some (.lst [])) : eqD s (.ro ns) (.ref m) = some (decide (ns = [])) := by
  unfold eqD toData
  simp only [h, toDatas, Option.map]
  cases ns with
  | nil => simp [PyData.eqv, PyData.eqvAll]
  | cons x xs => simp [PyData.eqv, PyData.eqvAll]
/-- a comparison with a new list -/
theorem Ev.cmpL {o : Cop} {x : D} {ds : List D} {p : Bool} (ha : Ev C ρ st a x) (hb : EvL C ρ st b ds) (ho : ∀ s m, Ext st s → s[m]? = some (.lst ds) → cmpD o x (.ref m) s = some p) : Ev C ρ st (.cmp o a b) (.bl p) := fun s hs => by
  rw [w_cmp]
  refine ok_mono (ha s hs) fun u s1 ⟨e1, hu⟩ => ?_
  subst hu
  refine ok_mono (hb s1 (hs.trans e1)) fun v s2 ⟨e2, m, hv, hn, hc⟩ => ?_
  subst hv
  rw [ho s2 m ((hs.trans e1).trans e2) hc]
  exact ⟨e1.trans e2, rfl⟩
theorem cell_says (hT : TDraw T) (ns : List Int) (k : Int) (hk : 0 ≤ k) : Fn (callD T W (n + 1)) st "_law_cell_at" [.ro ns, .int k] (.int (cellV ns k)) := by
  refine Fn.of hT.cell rfl ?_
  show Bd _ _ [some (.ro ns), some (.int k)] _ _ _
  unfold l_cell_at
  refine Bd.to (Bd.ife (Ev.ltI (Ev.lc rfl) (Ev.lenR (Ev.lc rfl))) (fun h => ⟨Bd.ret (Ev.ixR (Ev.lc rfl) (Ev.lc rfl) hk (of_decide_eq_true h)), fun z => nomatch z⟩)
    fun h => Bd.ife (Ev.cmpL (o := .eq) (Ev.lc rfl) (EvL.lst Evs.nil (Nat.zero_le _)) fun s m _ hc => ro_nil ns hc) (fun _ => ⟨Bd.ret Ev.k, fun z => nomatch z⟩)
      fun h2 => Bd.ret (Ev.addI (Ev.mulI (Ev.ixR (Ev.lc rfl) (Ev.modI (Ev.lc rfl) (Ev.lenR (Ev.lc rfl)) ?_) ?_ ?_) Ev.k (mulOk_r (by decide) (by decide))) (Ev.lc rfl))) ?_
  · have h3 : ns ≠ [] := of_decide_eq_false h2
    have : 0 < ns.length := List.length_pos_iff.mpr h3
    omega
  · have h3 : ns ≠ [] := of_decide_eq_false h2
    have : 0 < ns.length := List.length_pos_iff.mpr h3
    exact Int.fmod_nonneg_of_pos _ (by omega)
  · have h3 : ns ≠ [] := of_decide_eq_false h2
    have : 0 < ns.length := List.length_pos_iff.mpr h3
    exact Int.fmod_lt_of_pos _ (by omega)
  · unfold cellV
    simp only [decide_eq_true_eq]
    split
    · rfl
    · split <;> rfl
theorem mixed_says (hT : TDraw T) (ns : List Int) (k m : Int) (hk : 0 ≤ k) (hm : 0 < m) : Fn (callD T W (n + 2)) st "_law_mixed" [.ro ns, .int k, .int m] (.int (mixV ns k m)) := by
  refine Fn.of hT.mixed rfl ?_
  show Bd _ _ [some (.ro ns), some (.int k), some (.int m), none] _ _ _
  unfold l_mixed
  have d1 : 0 ≤ drawnV ns k := Int.fmod_nonneg_of_pos _ (by decide)
  have d2 : drawnV ns k < 2147483647 := Int.fmod_lt_of_pos _ (by decide)
  have hc : Fn (callD T W (n + 1)) st "_law_cell_at" [.ro ns, .int k] (.int (cellV ns k)) := cell_says hT ns k hk
  refine Bd.asg (x := .int (drawnV ns k)) (ρ' := [some (.ro ns), some (.int k), some (.int m), some (.int (drawnV ns k))])
    (Ev.modI (Ev.mulI (Ev.addI (Ev.addI (Ev.call (Evs.cons (Ev.lc rfl) (Evs.cons (Ev.lc rfl) Evs.nil)) hc) (Ev.mulI Ev.k (Ev.lc rfl) (mulOk_l (by decide) (by decide)))) Ev.k) Ev.k (mulOk_r (by decide) (by decide))) Ev.k (by decide)) (fun s => rfl) ?_
  exact Bd.ret (Ev.modI (Ev.modI (Ev.addI (Ev.addI (Ev.mulI (Ev.lc rfl) (Ev.lc rfl) (mulOk_l (by omega) (by omega))) (Ev.mulI Ev.k (Ev.lc rfl) (mulOk_l (by decide) (by decide)))) (Ev.lc rfl)) Ev.k (by decide)) (Ev.lc rfl) (by omega))
/-! ### words -/
def abc : Str := "abcdefghijklmnopqrstuvwxyz"
theorem abc_list : abc.cps.toList = (List.range 26).map (97 + ·) := by decide +kernel
theorem abc_len : abc.length = 26 := by decide +kernel
def letV (i : Int) : Nat := 97 + i.toNat
def lensV : List Int := [1, 2, 3, 6, 1, 4]
def wlenV (ns : List Int) (at_ : Int) : Nat := (lensV.getD (mixV ns at_ 6).toNat 0).toNat
def wordCs (ns : List Int) (at_ : Int) (j : Nat) : List Nat := (List.range j).map fun k : Nat => letV (mixV ns (at_ + 1 + (k : Int)) 26)
def wordV (ns : List Int) (at_ : Int) : Str := ⟨(wordCs ns at_ (wlenV ns at_)).toArray⟩
theorem str_add (xs : List Nat) (c : Nat) : (⟨xs.toArray⟩ : Str) ++ (⟨#[c]⟩ : Str) = ⟨(xs ++ [c]).toArray⟩ := by
  show (⟨xs.toArray ++ #[c]⟩ : Str) = _
  congr 1
  simp
theorem Ev.ixL {es : Exs} {ds : List D} {i : Int} {d : D} (h : EvL C ρ st a ds) (hb : Ev C ρ st b (.int i)) (hd : L2.atI ds i = some d) : Ev C ρ st (.ix a b) d := fun s hs => by
  rw [w_ix]
  refine ok_mono (h s hs) fun u s1 ⟨e1, m, hu, hn, hc⟩ => ?_
  subst hu
  refine ok_mono (hb s1 (hs.trans e1)) fun v s2 ⟨e2, hv⟩ => ?_
  subst hv
  simp only [ixD, e2.at_ hc, hd]
  exact ⟨e1.trans e2, rfl⟩
theorem Ev.ixS {z : Str} {i : Int} {c : Nat} (ha : Ev C ρ st a (.str z)) (hb : Ev C ρ st b (.int i)) (hl : z.length ≤ LIM) (h : L2.atI z.cps.toList i = some c) : Ev C ρ st (.ix a b) (.str ⟨#[c]⟩) := Ev.ix ha hb fun s _ => by
  simp only [ixD, hl, if_true, h]
theorem abc_at {i : Int} (h0 : 0 ≤ i) (h1 : i < 26) : L2.atI abc.cps.toList i = some (letV i) := by
  rw [atI_get (d := 0) h0 (by rw [abc_list]; simpa using h1), abc_list]
  congr 1
  have : i.toNat < 26 := by omega
  simp [letV, List.getD_eq_getElem?_getD, List.getElem?_map, List.getElem?_range this]
theorem lens_at {i : Int} (h0 : 0 ≤ i) (h1 : i < 6) : L2.atI [D.int 1, .int 2, .int 3, .int 6, .int 1, .int 4] i = some (.int (lensV.getD i.toNat 0)) ∧ 1 ≤ lensV.getD i.toNat 0 ∧ lensV.getD i.toNat 0 ≤ 6 := by
  have h : i = 0 ∨ i = 1 ∨ i = 2 ∨ i = 3 ∨ i = 4 ∨ i = 5 := by omega
  rcases h with rfl | rfl | rfl | rfl | rfl | rfl <;> exact ⟨by rfl, by decide, by decide⟩
theorem word_says (hT : TDraw T) (ns : List Int) (k : Int) (hk : 0 ≤ k) : Fn (callD T W (n + 3)) st "_law_word" [.ro ns, .int k] (.str (wordV ns k)) := by
  refine Fn.of hT.word rfl ?_
  show Bd _ _ [some (.ro ns), some (.int k), none, none] _ _ _
  unfold l_word
  refine Bd.asg (ρ' := [some (.ro ns), some (.int k), some (.str ⟨#[]⟩), none]) Ev.k (fun s => rfl) ?_
  have m0 := mixV_nn ns k (m := 6) (by decide)
  have m1 := mixV_lt ns k (m := 6) (by decide)
  obtain ⟨l1, l2, l3⟩ := lens_at m0 m1
  intro s hs
  rw [s_cons]
  have hm : Fn (callD T W (n + 2)) st "_law_mixed" [.ro ns, .int k, .int 6] (.int (mixV ns k 6)) := mixed_says hT ns k 6 hk (by decide)
  refine S_fr hs (Evi.rng (Ev.ixL (es := .nil) (EvL.lst (Evs.cons Ev.k (Evs.cons Ev.k (Evs.cons Ev.k (Evs.cons Ev.k (Evs.cons Ev.k (Evs.cons Ev.k Evs.nil)))))) (by decide))
    (Ev.call (Evs.cons (Ev.lc rfl) (Evs.cons (Ev.lc rfl) (Evs.cons Ev.k Evs.nil))) hm) l1) (decide_eq_true (by omega))) fun s1 w e1 hw => ?_
  refine for_rule (fun i ρ s2 => Ext s1 s2 ∧ ∃ x, ρ = [some (.ro ns), some (.int k), some (.str ⟨(wordCs ns k i).toArray⟩), x]) _ 0 _ s1 ⟨Ext.refl _, none, rfl⟩ (fun i d ρ s2 hd hI => ?_) fun ρ s2 hI => ?_
  · obtain ⟨e2, x, rfl⟩ := hI
    rw [Nat.zero_add] at *
    obtain ⟨hlt, rfl⟩ := rng_at _ _ _ _ hd
    rw [Int.zero_add]
    show okS (excs _ _ _ [some (.ro ns), some (.int k), some (.str ⟨(wordCs ns k i).toArray⟩), some (.int (i : Int))] s2) _ _ _
    rw [s_cons]
    have hm2 : Fn (callD T W (n + 2)) s2 "_law_mixed" [.ro ns, .int (k + 1 + (i : Int)), .int 26] (.int (mixV ns (k + 1 + (i : Int)) 26)) := mixed_says hT ns _ 26 (by omega) (by decide)
    have q0 := mixV_nn ns (k + 1 + (i : Int)) (m := 26) (by decide)
    have q1 := mixV_lt ns (k + 1 + (i : Int)) (m := 26) (by decide)
    refine S_asg (Ext.refl _) (Ev.bin (d := .str ⟨(wordCs ns k (i + 1)).toArray⟩) (Ev.lc rfl) (Ev.ixS (z := abc) Ev.k (Ev.call (Evs.cons (Ev.lc rfl) (Evs.cons (Ev.addI (Ev.addI (Ev.lc rfl) Ev.k) (Ev.lc rfl)) (Evs.cons Ev.k Evs.nil))) hm2) (by rw [abc_len]; decide) (abc_at q0 q1)) fun s => ?_) fun s3 e3 => ⟨_, rfl, ?_⟩
    · have h26 : (⟨(wordCs ns k i).toArray⟩ : Str).length + (⟨#[letV (mixV ns (k + 1 + (i : Int)) 26)]⟩ : Str).length ≤ LIM := by
        have z1 : (⟨(wordCs ns k i).toArray⟩ : Str).length = i := by simp [Str.length, wordCs]
        have z2 : (⟨#[letV (mixV ns (k + 1 + (i : Int)) 26)]⟩ : Str).length = 1 := rfl
        rw [z1, z2]
        unfold LIM
        omega
      simp only [binD, h26, if_true, str_add]
      rw [show wordCs ns k i ++ [letV (mixV ns (k + 1 + (i : Int)) 26)] = wordCs ns k (i + 1) from by unfold wordCs; rw [List.range_succ, List.map_append]; rfl]
    · rw [s_nil]
      exact ⟨⟨e2.trans e3, _, rfl⟩, ((e2.trans e3)).okW hw⟩
  · obtain ⟨e2, x, rfl⟩ := hI
    rw [Nat.zero_add, rng_len] at *
    rw [s_cons]
    refine S_ret (Ext.refl _) (Ev.lc rfl) fun s3 e3 => ⟨(e1.trans e2).trans e3, rfl⟩
end
end IP.Q

/-! PrI: the laws' helpers: names, rows, files, worlds. -/
namespace IP.Q
open PySem
/-! ### worlds -/
inductive Row where
  | put (f : Str) (i : Int)
  | read (f w g : Str)
  | need (w : Str)
  | note (x : Str)
  | fail (x : Str)
def Row.d : Row → D
  | .put f i => .tup [.str "put", .str f, .int i]
  | .read f w g => .tup [.str "read", .str f, .str w, .str g]
  | .need w => .tup [.str "need", .str w]
  | .note x => .tup [.str "note", .str x]
  | .fail x => .tup [.str "fail", .str x]
structure File where
  face : Bool
  name : Str
  above : Option Str
  faces : List Str
  rows : List Row
def kindV (b : Bool) : Str := if b then "face" else "class"
def optS : Option Str → D
  | none => .non
  | some x => .str x
def optI : Option Int → D
  | none => .non
  | some x => .int x
def File.d (f : File) : D := .tup [.str (kindV f.face), .str f.name, optS f.above, .tup (f.faces.map .str), .tup (f.rows.map Row.d)]
structure Ldr where
  par : Option Int
  shelf : List File
def Ldr.d (l : Ldr) : D := .tup [optI l.par, .tup (l.shelf.map File.d)]
abbrev Wld := List Ldr
def wd (w : Wld) : D := .tup (w.map Ldr.d)

def FnL (C : Str → List D → Sto → R D) (st : Sto) (f : Str) (ds : List D) (out : List D) : Prop := ∀ s, Ext st s → ok (C f ds s) fun x s' => Ext s s' ∧ ∃ n, x = .ref n ∧ s.length ≤ n ∧ s'[n]? = some (.lst out)
section
variable {T : Tab} {W n : Nat} {C : Str → List D → Sto → R D} {ρ : Env} {st s : Sto} {a b e : Ex} {x y d : D} {N : Env → Sto → Prop} {Rt : D → Sto → Prop} {Ct : Env → Sto → Prop}
theorem EvL.call {f : Str} {es : Exs} {ds out : List D} (h : Evs C ρ st es ds) (hf : FnL C st f ds out) : EvL C ρ st (.call f es) out := fun s hs => by
  rw [w_call]
  refine ok_mono (h s hs) fun us s1 ⟨e1, hu⟩ => ?_
  subst hu
  exact ok_mono (hf s1 (hs.trans e1)) fun u s2 ⟨e2, m, hv, hn, hc⟩ => ⟨e1.trans e2, m, hv, Nat.le_trans (hs.trans e1).len hn, hc⟩
theorem Ev.ixV {m : Nat} {ds : List D} {i : Int} (ha : Ev C ρ st a (.ref m)) (hm : st[m]? = some (.lst ds)) (hb : Ev C ρ st b (.int i)) (h : L2.atI ds i = some d) : Ev C ρ st (.ix a b) d := Ev.ix ha hb fun s hs => by simp only [ixD, hs.at_ hm, h]
theorem Ev.lenV {m : Nat} {ds : List D} (ha : Ev C ρ st a (.ref m)) (hm : st[m]? = some (.lst ds)) : Ev C ρ st (.bi .len a) (.int ds.length) := Ev.bi ha fun s hs => by simp only [biD, hs.at_ hm]
theorem Ev.tupV {m : Nat} {ds : List D} (ha : Ev C ρ st a (.ref m)) (hm : st[m]? = some (.lst ds)) : Ev C ρ st (.bi .tuple a) (.tup ds) := Ev.bi ha fun s hs => by simp only [biD, hs.at_ hm]
theorem Ev.lsetV {m : Nat} {xs : List Str} (ha : Ev C ρ st a (.ref m)) (hm : st[m]? = some (.lst (xs.map D.str))) (h : xs.length ≤ 100) : Ev C ρ st (.lset a) (.int (distinct xs).length) := Ev.one (fun s Q => w_lset) ha fun s hs => by simp only [lsetD, hs.at_ hm, strsOf_map, h, if_true]
theorem Ev.intB {p : Bool} (ha : Ev C ρ st a (.bl p)) : Ev C ρ st (.bi .int a) (.int (if p then 1 else 0)) := Ev.bi ha fun s hs => rfl
theorem EvL.slV {m : Nat} {ds : List D} {l h : Option Int} {el eh : Exo} (ha : Ev C ρ st a (.ref m)) (hm : st[m]? = some (.lst ds)) (hl : ∀ s (Q : Option Int → Sto → Prop), Ext st s → (∀ s', Ext s s' → Q l s') → ok (evo C el ρ s) Q) (hh : ∀ s (Q : Option Int → Sto → Prop), Ext st s → (∀ s', Ext s s' → Q h s') → ok (evo C eh ρ s) Q) :
    EvL C ρ st (.sl a el eh) (cutL ds l h) := fun s hs => by
  rw [w_sl]
  refine ok_mono (ha s hs) fun u s1 ⟨e1, hu⟩ => ?_
  subst hu
  refine hl s1 _ (hs.trans e1) fun s2 e2 => hh s2 _ ((hs.trans e1).trans e2) fun s3 e3 => ?_
  have e13 := (hs.trans e1).trans (e2.trans e3)
  simp only [slD, e13.at_ hm, ok_ok]
  exact ⟨(e1.trans (e2.trans e3)).trans (Ext.more _), _, rfl, e13.len, by rw [List.getElem?_append_right (Nat.le_refl _)]; simp⟩
theorem EvL.add {ds es : List D} (ha : EvL C ρ st a ds) (hb : EvL C ρ st b es) (h : ds.length + es.length ≤ LIM) : EvL C ρ st (.bin .add a b) (ds ++ es) := fun s hs => by
  rw [w_bin]
  refine ok_mono (ha s hs) fun u s1 ⟨e1, m, hu, hn, hc⟩ => ?_
  subst hu
  refine ok_mono (hb s1 (hs.trans e1)) fun v s2 ⟨e2, k, hv, hn2, hc2⟩ => ?_
  subst hv
  simp only [binD, e2.at_ hc, hc2, h, if_true, ok_ok]
  exact ⟨(e1.trans e2).trans (Ext.more _), _, rfl, ((hs.trans e1).trans e2).len, by rw [List.getElem?_append_right (Nat.le_refl _)]; simp⟩
/-- d[i] = e -/
theorem S_put {i : Ex} {m : Nat} {kvs : List (D × D)} {j : Nat} (hl : ρ[j]? = some (some (.ref m))) (hm : s[m]? = some (.dic kvs)) (h : Ev C ρ s e x) (hi : Ev C ρ s i y) (ha : alikeK kvs y = true) (hz : kvs.length < LIM) (k : ∀ s1, Ext s s1 → N ρ (s1.set m (.dic (dput kvs y x)))) : okS (exc C W (.aset (.lc j) i e) ρ s) N Rt Ct := by
  rw [exc, okS_ofR]
  refine ok_mono (h s (Ext.refl _)) fun u s1 ⟨e1, hu⟩ => ?_
  subst hu
  rw [okS_ofR, w_lc hl, okS_ofR]
  refine ok_mono (hi s1 e1) fun v s2 ⟨e2, hv⟩ => ?_
  subst hv
  simp only [(e1.trans e2).at_ hm, ha, hz, decide_true, Bool.and_self, if_true]
  exact k s2 (e1.trans e2)
end
/-! ### names -/
def namesV (ns : List Int) (k : Int) : List Str := dedup [] [wordV ns k, wordV ns (k + 8), wordV ns (k + 16), wordV ns (k + 24)]
def keysOf (xs : List Str) : List (D × D) := xs.map fun x => (.str x, .bl true)
theorem dput_keys1 (xs : List Str) (x : Str) : dput (keysOf xs) (.str x) (.bl true) = keysOf (dedup xs [x]) := by
  unfold dput keysOf
  have e1 : ((xs.map fun x => ((D.str x, D.bl true) : D × D)).any fun p => decide (p.1 = D.str x)) = decide (x ∈ xs) := by
    induction xs with
    | nil => rfl
    | cons y ys ih =>
      rw [List.map_cons, List.any_cons, ih]
      by_cases e : y = x
      · subst e; simp
      · have : ¬ x = y := fun z => e z.symm
        simp [e, this]
  rw [e1]
  by_cases h : x ∈ xs
  · rw [if_pos (decide_eq_true h)]
    unfold dedup
    rw [if_pos h]
    unfold dedup
    rw [List.map_map]
    refine List.map_congr_left fun y _ => ?_
    show (if D.str y = D.str x then (D.str y, D.bl true) else (D.str y, D.bl true)) = _
    split <;> rfl
  · rw [if_neg (by simpa using h)]
    unfold dedup
    rw [if_neg h]
    unfold dedup
    rw [List.map_append]; rfl
theorem alike_keys (xs : List Str) (x : Str) : alikeK (keysOf xs) (.str x) = true := by
  unfold alikeK keyKind keysOf
  simp [keyKind]
theorem dedup_le (xs : List Str) : ∀ acc : List Str, (dedup acc xs).length ≤ acc.length + xs.length := by
  induction xs with
  | nil => intro acc; simp [dedup]
  | cons y ys ih =>
    intro acc
    simp only [dedup]
    split
    · have := ih acc; simp only [List.length_cons]; omega
    · have := ih (acc ++ [y]); simp only [List.length_append, List.length_cons, List.length_nil] at this ⊢; omega
theorem dedup_app (xs : List Str) : ∀ (acc : List Str) (ys : List Str), dedup acc (xs ++ ys) = dedup (dedup acc xs) ys := by
  induction xs with
  | nil => intro acc ys; rfl
  | cons x xs ih =>
    intro acc ys
    simp only [List.cons_append, dedup]
    split <;> exact ih _ _
def wordsV (ns : List Int) (k : Int) (j : Nat) : List Str := (List.range j).map fun i : Nat => wordV ns (k + 8 * (i : Int))
theorem wordsV_4 (ns : List Int) (k : Int) : dedup [] (wordsV ns k 4) = namesV ns k := by
  unfold wordsV namesV
  simp [List.range, List.range.loop]
section
variable {T : Tab} {W n : Nat} {st : Sto}
theorem names_says (hT : TDraw T) (ns : List Int) (k : Int) (hk : 0 ≤ k) : FnL (callD T W (n + 4)) st "_law_names" [.ro ns, .int k] ((namesV ns k).map .str) := by
  intro s hs
  refine call_ok hT.names rfl ?_
  show okS (excs _ _ _ [some (.ro ns), some (.int k), none, none] _) _ _ _
  unfold l_names
  rw [s_cons, s_asg, w_dnew]
  refine ⟨_, rfl, ?_⟩
  show okS (excs _ _ _ [some (.ro ns), some (.int k), some (.ref s.length), none] _) _ _ _
  rw [s_cons]
  have hn : ((s ++ [Cell.dic []])[s.length]?) = some (.dic []) := by rw [List.getElem?_append_right (Nat.le_refl _)]; simp
  refine S_frW (Ext.refl _) (EviW.rng Ev.k (by decide)) rfl fun s1 e1 _ => ?_
  refine for_rule (fun i ρ s2 => Ext s s2 ∧ s2[s.length]? = some (.dic (keysOf (dedup [] (wordsV ns k i)))) ∧ ∃ x, ρ = [some (.ro ns), some (.int k), some (.ref s.length), x]) _ 0 _ s1 ?_ (fun i d ρ s2 hd hI => ?_) fun ρ s2 hI => ?_
  · exact ⟨(Ext.more _).trans e1, e1.at_ hn, none, rfl⟩
  · obtain ⟨e2, hc, x, rfl⟩ := hI
    rw [Nat.zero_add] at *
    obtain ⟨hlt, rfl⟩ := rng_at _ _ _ _ hd
    rw [Int.zero_add]
    show okS (excs _ _ _ [some (.ro ns), some (.int k), some (.ref s.length), some (.int (i : Int))] s2) _ _ _
    rw [s_cons]
    have hw2 : Fn (callD T W (n + 3)) s2 "_law_word" [.ro ns, .int (k + 8 * (i : Int))] (.str (wordV ns (k + 8 * (i : Int)))) := word_says hT ns _ (by omega)
    refine S_put rfl hc Ev.k (Ev.call (Evs.cons (Ev.lc rfl) (Evs.cons (Ev.addI (Ev.lc rfl) (Ev.mulI Ev.k (Ev.lc rfl) (mulOk_l (by decide) (by decide)))) Evs.nil)) hw2) (alike_keys _ _) ?_ fun s3 e3 => ?_
    · have := dedup_le (wordsV ns k i) []
      simp only [keysOf, List.length_map, wordsV, List.length_range, List.length_nil] at this ⊢
      have h4 : i < 4 := hlt
      unfold LIM
      omega
    · rw [s_nil]
      have hlen : s.length < s3.length := (List.getElem?_eq_some_iff.mp (e3.at_ hc)).1
      refine ⟨⟨(e2.trans e3).set (Nat.le_refl _), ?_, _, rfl⟩, rfl⟩
      rw [List.getElem?_set_self hlen, dput_keys1]
      rw [show dedup (dedup [] (wordsV ns k i)) [wordV ns (k + 8 * (i : Int))] = dedup [] (wordsV ns k (i + 1)) from by
        rw [← dedup_app]; unfold wordsV; rw [List.range_succ, List.map_append]; rfl]
  · obtain ⟨e2, hc, x, rfl⟩ := hI
    rw [Nat.zero_add] at *
    have h4 : (rngD 0 (4 : Int).toNat).length = 4 := by rw [rng_len]; rfl
    rw [h4, wordsV_4] at hc
    rw [s_cons, s_ret, w_bi, w_lc (d := .ref s.length) rfl]
    simp only [biD, hc, ok_ok]
    refine ⟨e2.trans (Ext.more _), _, rfl, e2.len, ?_⟩
    rw [List.getElem?_append_right (Nat.le_refl _)]
    simp [keysOf]
end
end IP.Q

/-! PrL: the program's files: a valid world is a world. -/
namespace IP.Q
open PySem
def letters : Str := "abcdefghijklmnopqrstuvwxyz"
def wordB (x : Str) : Bool := (decide (1 ≤ (x.length : Int)) && decide ((x.length : Int) ≤ 6)) && (x.cps.toList.map fun c => decide (c ∈ letters.cps.toList)).all id
def Row.ok : Row → Prop
  | .put f i => wordB f = true ∧ 0 ≤ i ∧ i ≤ 99
  | .read f w g => wordB f = true ∧ wordB w = true ∧ wordB g = true
  | .need w => wordB w = true
  | .note x => wordB x = true
  | .fail x => wordB x = true
structure File.ok (f : File) : Prop where
  name : wordB f.name = true
  above : ∀ a, f.above = some a → f.face = false ∧ wordB a = true
  faces : ∀ x ∈ f.faces, wordB x = true
  faces2 : f.faces.length ≤ 2
  fnd : (distinct f.faces).length = f.faces.length
  rows : ∀ r ∈ f.rows, r.ok
  rows5 : f.rows.length ≤ 5
structure ShelfOk (s : List File) : Prop where
  len : s.length ≤ 4
  files : ∀ f ∈ s, f.ok
  nd : (s.map (·.name)).Nodup
structure WOk (w : Wld) : Prop where
  pos : 1 ≤ w.length
  len : w.length ≤ 4
  shelf : ∀ l ∈ w, ShelfOk l.shelf
  par : ∀ (i : Nat) (l : Ldr) (p : Int), w[i]? = some l → l.par = some p → 0 ≤ p ∧ p < (i : Int)
structure TFiles (T : Tab) : Prop where
  is_word : T "is_word" = some (.fn 1 2 p_is_word)
  is_whole : T "is_whole" = some (.fn 3 3 p_is_whole)
  is_row : T "is_row" = some (.fn 1 2 p_is_row)
  is_file : T "is_file" = some (.fn 1 3 p_is_file)
  is_shelf : T "is_shelf" = some (.fn 1 2 p_is_shelf)
  is_world : T "is_world" = some (.fn 1 3 p_is_world)
  need_world : T "need_world" = some (.fn 1 1 p_need_world)
  file_on : T "file_on" = some (.fn 2 3 p_file_on)
theorem word_len {x : Str} (h : wordB x = true) : 1 ≤ x.length ∧ x.length ≤ 6 := by
  unfold wordB at h
  simp only [Bool.and_eq_true, decide_eq_true_eq] at h
  omega
theorem word_ok {x : Str} (h : wordB x = true) : PyData.strOk x = true := by
  unfold wordB at h
  simp only [Bool.and_eq_true, decide_eq_true_eq, List.all_eq_true, List.mem_map] at h
  unfold PyData.strOk
  rw [← Array.all_toList, List.all_eq_true]
  intro c hc
  have h2 := h.2 (decide (c ∈ letters.cps.toList)) ⟨c, hc, rfl⟩
  have h3 : c ∈ letters.cps.toList := by simpa using h2
  have h4 : ∀ c ∈ letters.cps.toList, decide (c < 0x110000) = true := by decide +kernel
  exact h4 c h3
theorem dedup_nd (xs : List Str) : ∀ acc : List Str, (acc ++ xs).Nodup → dedup acc xs = acc ++ xs := by
  induction xs with
  | nil => intro acc _; simp [dedup]
  | cons x xs ih =>
    intro acc h
    have hx : x ∉ acc := fun z => by
      rw [List.nodup_append] at h
      exact h.2.2 x z x List.mem_cons_self rfl
    unfold dedup
    rw [if_neg hx, ih (acc ++ [x]) (by simpa using h)]
    simp
theorem distinct_nd {xs : List Str} (h : xs.Nodup) : distinct xs = xs := by
  unfold distinct
  rw [dedup_nd xs [] (by simpa using h)]; rfl
section
variable {T : Tab} {W n : Nat} {C : Str → List D → Sto → R D} {ρ : Env} {st : Sto} {a b e : Ex} {x y d : D}
theorem at0 {α : Type} {d : α} {ds : List α} : L2.atI (d :: ds) 0 = some d := by
  rw [atI_get (d := d) (by decide) (by rw [List.length_cons]; omega)]; rfl
theorem Ev.inS {c : Nat} {y : Str} (ha : Ev C ρ st a (.str ⟨#[c]⟩)) (hb : Ev C ρ st b (.str y)) : Ev C ρ st (.cmp .isin a b) (.bl (decide (c ∈ y.cps.toList))) := Ev.cmp ha hb fun s _ => rfl
theorem Ev.leI {i j : Int} (ha : Ev C ρ st a (.int i)) (hb : Ev C ρ st b (.int j)) : Ev C ρ st (.cmp .le a b) (.bl (decide (i ≤ j))) := Ev.cmp ha hb fun s _ => rfl
theorem Ev.lele {i j k : Int} {c : Ex} (ha : Ev C ρ st a (.int i)) (hb : Ev C ρ st b (.int j)) (hc : Ev C ρ st c (.int k)) : Ev C ρ st (.chn .le .le a b c) (.bl (decide (i ≤ j) && decide (j ≤ k))) := Ev.chn ha hb (fun s => rfl) (fun _ => hc) fun s => rfl
theorem Ev.inT {x : D} {ds : List D} {n m : Nat} (ha : Ev C ρ st a x) (hb : Ev C ρ st b (.tup ds)) (f1 : flatD x = true) (f2 : ds.all flatD = true) (h1 : plainT n x = true) (h2 : plainTs m ds = true) (hn : n ≤ 64 := by decide) (hm : m ≤ 63 := by decide) : Ev C ρ st (.cmp .isin a b) (.bl (decide (x ∈ ds))) :=
  Ev.cmp ha hb fun s _ => by
    show memD x (.tup ds) s = _
    simp only [memD, f1, f2, Bool.and_self, if_true]
    exact inD_plain hn hm h1 h2
theorem Ev.ninT {x : D} {ds : List D} {n m : Nat} (ha : Ev C ρ st a x) (hb : Ev C ρ st b (.tup ds)) (f1 : flatD x = true) (f2 : ds.all flatD = true) (h1 : plainT n x = true) (h2 : plainTs m ds = true) (hn : n ≤ 64 := by decide) (hm : m ≤ 63 := by decide) : Ev C ρ st (.cmp .notin a b) (.bl (!decide (x ∈ ds))) :=
  Ev.cmp ha hb fun s _ => by
    show (memD x (.tup ds) s).map (!·) = _
    simp only [memD, f1, f2, Bool.and_self, if_true]
    rw [inD_plain hn hm h1 h2]; rfl
theorem word_of (hT : TFiles T) (x : Str) (hx : x.length ≤ LIM) : Fn (callD T W (n + 1)) st "is_word" [.str x] (.bl (wordB x)) := by
  refine Fn.of hT.is_word rfl ?_
  show Bd _ _ [some (.str x), none] _ _ _
  unfold p_is_word
  refine Bd.ret (Ev.to (Ev.and (p := true) (Ev.isT (Ev.lc rfl) fun s => rfl) fun _ => Ev.and (Ev.lele Ev.k (Ev.lenS (Ev.lc rfl) hx) Ev.k) fun _ => Ev.all (bs := x.cps.toList.map fun c => decide (c ∈ letters.cps.toList))
    (by
      have h := EvL.map (C := callD T W n) (ρ := [some (.str x), none]) (st := st) (e := .cmp .isin (.lc 1) (.k (.str letters))) (t := .nm 1) (it := .val (.lc 0)) (own := [1]) (fun d => match d with | .str ⟨cs⟩ => .bl (decide (cs.getD 0 0 ∈ letters.cps.toList)) | _ => .non) (Evi.str (Ev.lc rfl))
        (by rw [List.length_map]; simpa [Str.length] using hx) fun d hd s hs => by
          obtain ⟨c, _, rfl⟩ := List.mem_map.mp hd
          exact ⟨[some (.str x), some (.str ⟨#[c]⟩)], rfl, Ev.inS (Ev.lc rfl) Ev.k⟩
      rw [List.map_map] at h ⊢
      exact h)) (by unfold wordB; rfl))
theorem word_yes (hT : TFiles T) {x : Str} (h : wordB x = true) : Fn (callD T W (n + 1)) st "is_word" [.str x] (.bl true) := Fn.to (word_of hT x (by have := word_len h; unfold LIM; omega)) (by rw [h])
theorem whole_of (hT : TFiles T) (i lo hi : Int) : Fn (callD T W (n + 1)) st "is_whole" [.int i, .int lo, .int hi] (.bl (decide (lo ≤ i) && decide (i ≤ hi))) := by
  refine Fn.of hT.is_whole rfl ?_
  show Bd _ _ [some (.int i), some (.int lo), some (.int hi)] _ _ _
  unfold p_is_whole
  exact Bd.ret (Ev.to (Ev.and (p := true) (Ev.isT (Ev.lc rfl) fun s => rfl) fun _ => Ev.and (p := true) (Ev.to (Ev.not (p := false) (Ev.isT (Ev.lc rfl) fun s => rfl)) rfl) fun _ => Ev.lele (Ev.lc rfl) (Ev.lc rfl) (Ev.lc rfl)) (by simp))
/-- a call with one argument -/
theorem Ev.call1 {f : Str} (ha : Ev C ρ st a x) (h : Fn C st f [x] d) : Ev C ρ st (.call f (.cons a .nil)) d := Ev.call (Evs.cons ha Evs.nil) h
theorem str_ne {x y : Str} (h : x ≠ y) : decide (D.str x = .str y) = false := decide_eq_false fun z => h (D.str.inj z)
theorem Ev.eqS {x y : Str} (ha : Ev C ρ st a (.str x)) (hb : Ev C ρ st b (.str y)) (h1 : PyData.strOk x = true) (h2 : PyData.strOk y = true) : Ev C ρ st (.cmp .eq a b) (.bl (decide (x = y))) := Ev.to (Ev.eq (n := 0) (m := 0) ha hb (plain_str h1) (plain_str h2)) (by simp)
theorem Ev.eqI {x y : Int} (ha : Ev C ρ st a (.int x)) (hb : Ev C ρ st b (.int y)) : Ev C ρ st (.cmp .eq a b) (.bl (decide (x = y))) := Ev.to (Ev.eq (n := 0) (m := 0) ha hb plain_int plain_int) (by simp)
theorem Ev.neI {x y : Int} (ha : Ev C ρ st a (.int x)) (hb : Ev C ρ st b (.int y)) : Ev C ρ st (.cmp .ne a b) (.bl (!decide (x = y))) := Ev.to (Ev.ne (n := 0) (m := 0) ha hb plain_int plain_int) (by simp)
/-- if that is not taken -/
theorem Bd.no {ss ta : Sts} {c : Ex} (hc : Ev C ρ st c (.bl false)) (h : Bd C W ρ st ss y) : Bd C W ρ st (.cons (.ife c ta .nil) ss) y := Bd.to (Bd.ife (x := .int 0) hc (fun h => nomatch h) fun _ => h) rfl
theorem Bd.yes {ss ta : Sts} {c : Ex} (hc : Ev C ρ st c (.bl true)) (h : Bd C W ρ st ta y) (hn : y ≠ .non) : Bd C W ρ st (.cons (.ife c ta .nil) ss) y := Bd.to (Bd.ife (y := .int 0) hc (fun _ => ⟨h, hn⟩) fun h => nomatch h) rfl
/-- a tuple of its length, the first a text: the test ahead -/
theorem row_of (hT : TFiles T) {r : Row} (h : r.ok) : Fn (callD T W (n + 2)) st "is_row" [r.d] (.bl true) := by
  refine Fn.of hT.is_row rfl ?_
  show Bd _ _ [some r.d, none] _ _ _
  unfold p_is_row
  have tst : ∀ (z : Str) (ds : List D), r.d = .tup (.str z :: ds) → Ev (callD T W (n + 1)) [some r.d, none] st (.or (.not (.isT (.lc 0) .tuple)) (.or (.cmp .eq (.bi .len (.lc 0)) (.k (.int 0))) (.not (.isT (.ix (.lc 0) (.k (.int 0))) .str)))) (.bl false) := fun z ds e => by
    rw [e]
    exact Ev.to (Ev.or (p := false) (Ev.to (Ev.not (p := true) (Ev.isT (Ev.lc rfl) fun s => rfl)) rfl) fun _ => Ev.or (p := false) (Ev.to (Ev.eqI (Ev.lenT (Ev.lc rfl)) Ev.k) (by simp; omega)) fun _ => Ev.to (Ev.not (p := true) (Ev.isT (Ev.ixT (d := .str z) (Ev.lc rfl) Ev.k at0) fun s => rfl)) rfl) rfl
  have hd : ∀ (z w : Str) (ds : List D), PyData.strOk z = true → PyData.strOk w = true → r.d = .tup (.str z :: ds) → Ev (callD T W (n + 1)) [some r.d, none] st (.cmp .eq (.ix (.lc 0) (.k (.int 0))) (.k (.str w))) (.bl (decide (z = w))) := fun z w ds h1 h2 e => by
    rw [e]
    exact Ev.eqS (Ev.ixT (d := .str z) (Ev.lc rfl) Ev.k at0) Ev.k h1 h2
  have sN : ∀ {z : Str} {w : Str} {ds : List D}, r.d = .tup (.str z :: ds) → PyData.strOk z = true → z ∈ [("need" : Str), "note", "fail"] → ds = [.str w] → wordB w = true → z ≠ "put" → z ≠ "read" → Bd (callD T W (n + 1)) W [some r.d, none] st p_is_row (.bl true) := fun {z w ds} e hz hm hds hw h1 h2 => by
    unfold p_is_row
    refine Bd.no (tst z ds e) (Bd.no (Ev.to (hd z "put" ds hz (by decide +kernel) e) (by rw [decide_eq_false h1])) (Bd.no (Ev.to (hd z "read" ds hz (by decide +kernel) e) (by rw [decide_eq_false h2])) (Bd.ret ?_)))
    rw [e, hds]
    refine Ev.to (Ev.and (p := true) (Ev.to (Ev.inT (n := 0) (m := 0) (Ev.ixT (d := .str z) (Ev.lc rfl) Ev.k at0) (Ev.tup (Evs.cons Ev.k (Evs.cons Ev.k (Evs.cons Ev.k Evs.nil))) (by show 3 ≤ LIM; decide)) rfl rfl (plain_str hz) (by decide +kernel)) (by
      congr 1
      refine decide_eq_true ?_
      simp only [List.mem_cons, List.not_mem_nil, or_false, D.str.injEq] at hm ⊢
      exact hm)) fun _ => Ev.and (p := true) (Ev.to (Ev.eqI (Ev.lenT (Ev.lc rfl)) Ev.k) rfl) fun _ => Ev.call1 (Ev.ixT (Ev.lc rfl) Ev.k rfl) (word_yes hT hw)) rfl
  cases r with
  | put f i =>
    obtain ⟨h1, h2, h3⟩ := h
    refine Bd.no (tst _ _ rfl) (Bd.yes (Ev.to (hd _ _ _ (by decide +kernel) (by decide +kernel) rfl) (by rw [decide_eq_true rfl])) (Bd.ret (Ev.to (Ev.and (p := true) (Ev.to (Ev.eqI (Ev.lenT (Ev.lc rfl)) Ev.k) rfl) fun _ => Ev.and (p := true) (Ev.call1 (Ev.ixT (Ev.lc rfl) Ev.k rfl) (word_yes hT h1)) fun _ =>
      Ev.call (Evs.cons (Ev.ixT (Ev.lc rfl) Ev.k rfl) (Evs.cons Ev.k (Evs.cons Ev.k Evs.nil))) (whole_of hT i 0 99)) (by rw [decide_eq_true h2, decide_eq_true h3]; rfl))) (fun z => nomatch z))
  | read f w g =>
    obtain ⟨h1, h2, h3⟩ := h
    refine Bd.no (tst _ _ rfl) (Bd.no (Ev.to (hd _ _ _ (by decide +kernel) (by decide +kernel) rfl) (by rw [decide_eq_false (by decide +kernel)])) (Bd.yes (Ev.to (hd _ _ _ (by decide +kernel) (by decide +kernel) rfl) (by rw [decide_eq_true rfl])) (Bd.ret (Ev.to (Ev.and (p := true) (Ev.to (Ev.eqI (Ev.lenT (Ev.lc rfl)) Ev.k) rfl) fun _ =>
      Ev.all (bs := [true, true, true]) (EvL.map (fun _ => .bl true) (Evi.tup (Ev.to (Ev.slT (l := some 1) (h := none) (Ev.lc rfl) (fun s Q g1 g2 => evo_some g1 Ev.k g2) fun s Q g1 g2 => evo_none g2) (d' := .tup [.str f, .str w, .str g]) rfl)) (by show 3 ≤ LIM; decide) fun d hd s hs => ?_)) rfl)) (fun z => nomatch z)))
    refine ⟨[some (Row.read f w g).d, some d], rfl, Ev.call1 (Ev.lc rfl) ?_⟩
    simp only [List.mem_cons, List.not_mem_nil, or_false] at hd
    rcases hd with rfl | rfl | rfl
    · exact word_yes hT h1
    · exact word_yes hT h2
    · exact word_yes hT h3
  | need w => exact sN (z := "need") rfl (by decide +kernel) (by simp) rfl h (by decide +kernel) (by decide +kernel)
  | note w => exact sN (z := "note") rfl (by decide +kernel) (by simp) rfl h (by decide +kernel) (by decide +kernel)
  | fail w => exact sN (z := "fail") rfl (by decide +kernel) (by simp) rfl h (by decide +kernel) (by decide +kernel)
end
end IP.Q

/-! PrM: the program's files: files, shelves, worlds are such; the file of a name. -/
namespace IP.Q
open PySem
section
variable {T : Tab} {W n : Nat} {C : Str → List D → Sto → R D} {ρ : Env} {st : Sto} {a b e : Ex} {x y d : D}
theorem S_no {s : Sto} {N : Env → Sto → Prop} {Rt : D → Sto → Prop} {Ct : Env → Sto → Prop} {c : Ex} {ta : Sts} (hs : Ext st s) (h : Ev C ρ st c (.bl false)) (k : ∀ s1, Ext s s1 → N ρ s1) : okS (exc C W (.ife c ta .nil) ρ s) N Rt Ct :=
  S_ife hs h (fun z => nomatch z) fun _ s1 e1 => by rw [s_nil]; exact k s1 e1
theorem Ev.nT {c : Ex} (h : Ev C ρ st c (.bl true)) : Ev C ρ st (.not c) (.bl false) := Ev.to (Ev.not h) rfl
theorem Ev.or0 {b : Ex} {q : Bool} (ha : Ev C ρ st a (.bl false)) (hb : Ev C ρ st b (.bl q)) : Ev C ρ st (.or a b) (.bl q) := Ev.to (Ev.or ha fun _ => hb) (by simp)
theorem Ev.isTup {ds : List D} (ha : Ev C ρ st a (.tup ds)) : Ev C ρ st (.isT a .tuple) (.bl true) := Ev.isT ha fun s => rfl
theorem Ev.isStr {z : Str} (ha : Ev C ρ st a (.str z)) : Ev C ρ st (.isT a .str) (.bl true) := Ev.isT ha fun s => rfl
theorem all_true (m : Nat) : (List.replicate m true).all id = true := by
  rw [List.all_eq_true]; intro x hx; rw [List.eq_of_mem_replicate hx]; rfl
/-- all([f(x) for x in xs]), each answer True -/
theorem Ev.allF {f : Str} {ds : List D} {i : Nat} {it : Ex} (hi : Ev C ρ st it (.tup ds)) (hl : ds.length ≤ LIM) (hn : i < ρ.length) (hf : ∀ x ∈ ds, ∀ s, Ext st s → Fn C s f [x] (.bl true)) : Ev C ρ st (.bi .all (.comp (.call f (.cons (.lc i) .nil)) (.nm i) (.val it) .none [i])) (.bl true) := by
  refine Ev.to (Ev.all (bs := List.replicate ds.length true) ?_) (by rw [all_true])
  have h := EvL.map (C := C) (ρ := ρ) (st := st) (e := .call f (.cons (.lc i) .nil)) (t := .nm i) (it := .val it) (own := [i]) (fun _ => .bl true) (Evi.tup hi) hl fun x hx s hs => by
    refine ⟨(ρ.set i none).set i (some x), ?_, Ev.call1 (Ev.lc ?_) (hf x hx s hs)⟩
    · simp only [asg, wipe, List.length_set, hn, if_true]
    · rw [List.getElem?_set_self (by rw [List.length_set]; exact hn)]
  rw [List.map_const'] at h
  rw [List.map_replicate]
  exact h
theorem kind_ok (b : Bool) : PyData.strOk (kindV b) = true := by cases b <;> decide +kernel
theorem file_of (hT : TFiles T) {f : File} (h : f.ok) : Fn (callD T W (n + 3)) st "is_file" [f.d] (.bl true) := by
  refine Fn.of hT.is_file rfl ?_
  show Bd _ _ [some f.d, none, none] _ _ _
  unfold p_is_file
  have c0 : Ev (callD T W (n + 2)) [some f.d, none, none] st (.ix (.lc 0) (.k (.int 0))) (.str (kindV f.face)) := Ev.ixT (ds := [_, _, _, _, _]) (Ev.lc rfl) Ev.k rfl
  have c1 : Ev (callD T W (n + 2)) [some f.d, none, none] st (.ix (.lc 0) (.k (.int 1))) (.str f.name) := Ev.ixT (ds := [_, _, _, _, _]) (Ev.lc rfl) Ev.k rfl
  have c2 : Ev (callD T W (n + 2)) [some f.d, none, none] st (.ix (.lc 0) (.k (.int 2))) (optS f.above) := Ev.ixT (ds := [_, _, _, _, _]) (Ev.lc rfl) Ev.k rfl
  have c3 : Ev (callD T W (n + 2)) [some f.d, none, none] st (.ix (.lc 0) (.k (.int 3))) (.tup (f.faces.map .str)) := Ev.ixT (ds := [_, _, _, _, _]) (Ev.lc rfl) Ev.k rfl
  have c4 : Ev (callD T W (n + 2)) [some f.d, none, none] st (.ix (.lc 0) (.k (.int 4))) (.tup (f.rows.map Row.d)) := Ev.ixT (ds := [_, _, _, _, _]) (Ev.lc rfl) Ev.k rfl
  have h5 : Ev (callD T W (n + 2)) [some f.d, none, none] st (.bi .len (.lc 0)) (.int 5) := Ev.lenT (ds := [_, _, _, _, _]) (Ev.lc rfl)
  have hf2 := h.faces2
  have hr5 := h.rows5
  refine Bd.no (Ev.or0 (Ev.nT (Ev.isTup (Ev.lc rfl))) (Ev.or0 (Ev.to (Ev.neI h5 Ev.k) rfl) (Ev.nT (Ev.isStr c0)))) ?_
  refine Bd.no (Ev.or0 (Ev.to (Ev.ninT (n := 0) (m := 0) c0 (Ev.tup (Evs.cons Ev.k (Evs.cons Ev.k Evs.nil)) (by show 2 ≤ LIM; decide)) rfl rfl (plain_str (kind_ok _)) (by decide +kernel)) (by cases f.face <;> rfl)) (Ev.nT (Ev.call1 c1 (word_yes hT h.name)))) ?_
  refine Bd.no ?_ (Bd.no (Ev.or0 (Ev.nT (Ev.isTup c3)) (Ev.or0 (Ev.to (Ev.gtI (Ev.lenT c3) Ev.k) (by rw [List.length_map]; congr 1; exact decide_eq_false (by omega))) (Ev.nT (Ev.allF c3 (by rw [List.length_map]; unfold LIM; omega) (by simp) fun x hx s hs => ?_))))
    (Bd.no (Ev.or0 (Ev.to (Ev.neI (Ev.lsetT c3 (by omega)) (Ev.lenT c3)) (by rw [List.length_map, h.fnd]; simp)) (Ev.or0 (Ev.nT (Ev.isTup c4)) (Ev.to (Ev.gtI (Ev.lenT c4) Ev.k) (by rw [List.length_map]; congr 1; exact decide_eq_false (by omega)))))
      (Bd.ret (Ev.allF c4 (by rw [List.length_map]; unfold LIM; omega) (by simp) fun x hx s hs => ?_))))
  · cases ha : f.above with
    | none =>
      rw [ha] at c2
      exact Ev.to (Ev.and (p := false) (q := false) (Ev.to (Ev.notN c2) rfl) fun z => nomatch z) rfl
    | some z =>
      rw [ha] at c2
      obtain ⟨k1, k2⟩ := h.above z ha
      refine Ev.to (Ev.and (p := true) (Ev.to (Ev.notN c2) rfl) fun _ => Ev.or0 (Ev.to (Ev.eqS c0 Ev.k (kind_ok _) (by decide +kernel)) (by rw [k1]; rfl)) (Ev.nT (Ev.call1 c2 (word_yes hT k2)))) rfl
  · obtain ⟨z, hz, rfl⟩ := List.mem_map.mp hx
    exact word_yes hT (h.faces z hz)
  · obtain ⟨r, hr, rfl⟩ := List.mem_map.mp hx
    exact row_of hT (h.rows r hr)
theorem name_at {f : File} : L2.atI [D.str (kindV f.face), .str f.name, optS f.above, .tup (f.faces.map .str), .tup (f.rows.map Row.d)] 1 = some (.str f.name) := rfl
theorem shelf_of (hT : TFiles T) {s : List File} (h : ShelfOk s) : Fn (callD T W (n + 4)) st "is_shelf" [.tup (s.map File.d)] (.bl true) := by
  have hl := h.len
  refine Fn.of hT.is_shelf rfl ?_
  show Bd _ _ [some (.tup (s.map File.d)), none] _ _ _
  unfold p_is_shelf
  refine Bd.no (Ev.or0 (Ev.nT (Ev.isTup (Ev.lc rfl))) (Ev.or0 (Ev.to (Ev.gtI (Ev.lenT (Ev.lc rfl)) Ev.k) (by rw [List.length_map]; congr 1; exact decide_eq_false (by omega))) (Ev.nT (Ev.allF (Ev.lc rfl) (by rw [List.length_map]; unfold LIM; omega) (by simp) fun x hx s hs => ?_)))) (Bd.ret ?_)
  · obtain ⟨f, hf, rfl⟩ := List.mem_map.mp hx
    exact file_of hT (h.files f hf)
  · have hm := EvL.map (C := callD T W (n + 3)) (ρ := [some (.tup (s.map File.d)), none]) (st := st) (e := .ix (.lc 1) (.k (.int 1))) (t := .nm 1) (it := .val (.lc 0)) (own := [1]) (fun d => match d with | .tup (_ :: z :: _) => z | _ => .non) (Evi.tup (Ev.lc rfl))
      (by rw [List.length_map]; unfold LIM; omega) fun d hd s' hs => by
        obtain ⟨f, _, rfl⟩ := List.mem_map.mp hd
        exact ⟨[some (.tup (s.map File.d)), some f.d], rfl, Ev.ixT (ds := [_, _, _, _, _]) (Ev.lc rfl) Ev.k rfl⟩
    have e1 : (s.map File.d).map (fun d => match d with | .tup (_ :: z :: _) => z | _ => .non) = (s.map (·.name)).map D.str := by
      rw [List.map_map, List.map_map]; rfl
    rw [e1] at hm
    refine Ev.to (Ev.eqI (Ev.lsetL hm (by rw [List.length_map]; omega)) (Ev.lenT (Ev.lc rfl))) ?_
    rw [distinct_nd h.nd, List.length_map, List.length_map]
    simp
theorem world_of (hT : TFiles T) {w : Wld} (h : WOk w) : Fn (callD T W (n + 5)) st "is_world" [wd w] (.bl true) := by
  have hl := h.len
  have hp := h.pos
  refine Fn.of hT.is_world rfl ?_
  show Bd _ _ [some (wd w), none, none] _ _ _
  unfold p_is_world
  refine Bd.no (Ev.or0 (Ev.nT (Ev.isTup (Ev.lc rfl))) (Ev.nT (Ev.to (Ev.lele Ev.k (Ev.lenT (Ev.lc rfl)) Ev.k) (by rw [List.length_map]; congr 1; rw [decide_eq_true (by omega), decide_eq_true (by omega)]; rfl)))) ?_
  intro s hs
  rw [s_cons]
  refine S_frW hs (EviW.enm (Ev.lc rfl)) rfl fun s1 e1 _ => ?_
  refine for_rule (fun i ρ s2 => Ext s s2 ∧ ∃ y z, ρ = [some (wd w), y, z]) _ 0 _ s1 ⟨e1, none, none, rfl⟩ (fun i d ρ s2 hd hI => ?_) fun ρ s2 hI => ?_
  · obtain ⟨e2, y, z, rfl⟩ := hI
    obtain ⟨l0, hl0, rfl⟩ := zip_at _ _ _ _ hd
    rw [Nat.zero_add]
    rw [List.getElem?_map] at hl0
    obtain ⟨l, hli, rfl⟩ := Option.map_eq_some_iff.mp hl0
    show okS (excs _ _ _ [some (wd w), some (.int (i : Int)), some l.d] s2) _ _ _
    have hsh := h.shelf l (List.mem_of_getElem? hli)
    have c0 : Ev (callD T W (n + 4)) [some (wd w), some (.int (i : Int)), some l.d] s2 (.ix (.lc 2) (.k (.int 0))) (optI l.par) := Ev.ixT (ds := [_, _]) (Ev.lc rfl) Ev.k rfl
    have c1 : Ev (callD T W (n + 4)) [some (wd w), some (.int (i : Int)), some l.d] s2 (.ix (.lc 2) (.k (.int 1))) (.tup (l.shelf.map File.d)) := Ev.ixT (ds := [_, _]) (Ev.lc rfl) Ev.k rfl
    have h2 : Ev (callD T W (n + 4)) [some (wd w), some (.int (i : Int)), some l.d] s2 (.bi .len (.lc 2)) (.int 2) := Ev.lenT (ds := [_, _]) (Ev.lc rfl)
    rw [s_cons]
    refine S_no (Ext.refl _) (Ev.or0 (Ev.nT (Ev.isTup (Ev.lc rfl))) (Ev.or0 (Ev.to (Ev.neI h2 Ev.k) rfl) (Ev.nT (Ev.call1 c1 (shelf_of hT hsh))))) fun s3 e3 => ?_
    rw [s_cons]
    refine S_no (st := s2) e3 ?_ fun s4 e4 => ?_
    · cases hp2 : l.par with
      | none =>
        rw [hp2] at c0
        exact Ev.to (Ev.and (p := false) (q := false) (Ev.to (Ev.notN c0) rfl) fun z => nomatch z) rfl
      | some p =>
        rw [hp2] at c0
        obtain ⟨k1, k2⟩ := h.par i l p hli hp2
        refine Ev.to (Ev.and (p := true) (Ev.to (Ev.notN c0) rfl) fun _ => Ev.nT (Ev.to (Ev.call (Evs.cons c0 (Evs.cons Ev.k (Evs.cons (Ev.subI (Ev.lc rfl) Ev.k) Evs.nil))) (whole_of hT p 0 ((i : Int) - 1))) (by rw [decide_eq_true k1, decide_eq_true (by omega)]; rfl))) rfl
    · rw [s_nil]
      exact ⟨⟨(e2.trans e3).trans e4, _, _, rfl⟩, rfl⟩
  · obtain ⟨e2, y, z, rfl⟩ := hI
    rw [s_cons]
    exact S_ret (Ext.refl _) Ev.k fun s3 e3 => ⟨e2.trans e3, rfl⟩
theorem need_of (hT : TFiles T) {w : Wld} (h : WOk w) : Fn (callD T W (n + 6)) st "need_world" [wd w] .non := by
  refine Fn.of hT.need_world rfl ?_
  show Bd _ _ [some (wd w)] _ _ _
  unfold p_need_world
  exact Bd.no (Ev.nT (Ev.call1 (Ev.lc rfl) (world_of hT h))) Bd.nil
/-! ### the file of a name -/
def fileOn (s : List File) (x : Str) : Option File := s.find? fun f => decide (f.name = x)
def optF : Option File → D
  | none => .non
  | some f => f.d
theorem file_on_of (hT : TFiles T) {s : List File} (hs : ∀ f ∈ s, PyData.strOk f.name = true) {x : Str} (hx : PyData.strOk x = true) : Fn (callD T W (n + 1)) st "file_on" [.tup (s.map File.d), .str x] (optF (fileOn s x)) := by
  intro s0 h0
  refine call_ok hT.file_on rfl ?_
  show okS (excs _ _ _ [some (.tup (s.map File.d)), some (.str x), none] _) _ _ _
  unfold p_file_on
  rw [s_cons]
  refine S_frW (Ext.refl _) (EviW.tup (Ev.lc rfl)) rfl fun s1 e1 _ => ?_
  refine for_rule (fun i ρ s2 => Ext s0 s2 ∧ (∃ z, ρ = [some (.tup (s.map File.d)), some (.str x), z]) ∧ ∀ f ∈ s.take i, f.name ≠ x) _ 0 _ s1 ⟨e1, ⟨none, rfl⟩, by simp⟩ (fun i d ρ s2 hd hI => ?_) fun ρ s2 hI => ?_
  · obtain ⟨e2, ⟨z, rfl⟩, hno⟩ := hI
    rw [Nat.zero_add] at *
    rw [List.getElem?_map] at hd
    obtain ⟨f, hf, rfl⟩ := Option.map_eq_some_iff.mp hd
    have hl : i < s.length := (List.getElem?_eq_some_iff.mp hf).1
    show okS (excs _ _ _ [some (.tup (s.map File.d)), some (.str x), some f.d] s2) _ _ _
    rw [s_cons]
    refine S_ife (p := decide (f.name = x)) (Ext.refl _) (Ev.eqS (Ev.ixT (ds := [_, _, _, _, _]) (Ev.lc rfl) Ev.k rfl) (Ev.lc rfl) (hs f (List.mem_of_getElem? hf)) hx) (fun hp s3 e3 => ?_) fun hp s3 e3 => ?_
    · rw [s_cons]
      refine S_ret (Ext.refl _) (Ev.lc rfl) fun s4 e4 => ⟨(e2.trans e3).trans e4, ?_⟩
      have hfi : fileOn s x = some f := by
        unfold fileOn
        rw [List.find?_eq_some_iff_getElem]
        refine ⟨hp, i, hl, (List.getElem?_eq_some_iff.mp hf).2, fun j hj => ?_⟩
        have := hno s[j] (by rw [List.mem_take_iff_getElem]; exact ⟨j, by omega, rfl⟩)
        simpa using this
      rw [hfi]; rfl
    · rw [s_nil, s_nil]
      refine ⟨⟨e2.trans e3, ⟨_, rfl⟩, fun g hg => ?_⟩, rfl⟩
      rw [List.take_succ, List.mem_append] at hg
      rcases hg with hg | hg
      · exact hno g hg
      · rw [hf] at hg
        simp only [Option.toList_some, List.mem_singleton] at hg
        rw [hg]
        exact of_decide_eq_false hp
  · obtain ⟨e2, ⟨z, rfl⟩, hno⟩ := hI
    rw [Nat.zero_add, List.length_map, List.take_length] at hno
    rw [s_cons]
    refine S_ret (Ext.refl _) Ev.k fun s3 e3 => ⟨e2.trans e3, ?_⟩
    have : fileOn s x = none := by
      unfold fileOn
      rw [List.find?_eq_none]
      intro f hf
      simpa using hno f hf
    rw [this]; rfl
end
end IP.Q

/-! PrO: where classes are found: the program's way and the laws'. -/
namespace IP.Q
open PySem
theorem s_whl {C : Str → List D → Sto → R D} {W : Nat} {ρ : Env} {st : Sto} {N : Env → Sto → Prop} {Rt : D → Sto → Prop} {Ct : Env → Sto → Prop} {c : Ex} {b : Sts} : okS (exc C W (.whl c b) ρ st) N Rt Ct = okS (whlL (fun ρ' st' => ev C c ρ' st') (fun ρ' st' => excs C W b ρ' st') W ρ st) N Rt Ct := by rw [exc]
theorem whl_step {c : Env → Sto → R D} {b : Env → Sto → SR} {k : Nat} {ρ : Env} {st : Sto} {N : Env → Sto → Prop} {Rt : D → Sto → Prop} {Ct : Env → Sto → Prop}
    (h : ok (c ρ st) fun x s1 => (x = .bl true ∧ okS (b ρ s1) (fun ρ' s' => okS (whlL c b k ρ' s') N Rt Ct) Rt (fun ρ' s' => okS (whlL c b k ρ' s') N Rt Ct)) ∨ (x = .bl false ∧ N ρ s1)) : okS (whlL c b (k + 1) ρ st) N Rt Ct := by
  unfold whlL
  cases e : c ρ st with
  | ok x s1 =>
    rw [e] at h
    rcases h with ⟨rfl, h⟩ | ⟨rfl, h⟩
    · dsimp only
      cases e2 : b ρ s1 with
      | next ρ' s' => rw [e2] at h; exact h
      | cont ρ' s' => rw [e2] at h; exact h
      | ret d s' => rw [e2] at h; exact h
      | brk ρ' s' => rw [e2] at h; exact h.elim
      | bad => rw [e2] at h; exact h
      | exc _ _ _ => rw [e2] at h; exact h
    · exact h
  | bad => rw [e] at h; exact h.elim
  | exc _ _ => rw [e] at h; exact h.elim
/-- the loaders that are asked by l, the topmost one first -/
def lineF (w : Wld) : Nat → Nat → List Nat
  | 0, _ => []
  | f + 1, l => match (w[l]?).bind (·.par) with
    | none => [l]
    | some p => lineF w f p.toNat ++ [l]
def line (w : Wld) (l : Nat) : List Nat := lineF w (l + 1) l
theorem lineF_more {w : Wld} (h : WOk w) : ∀ (f l : Nat), l < f → l < w.length → lineF w f l = line w l := by
  intro f
  induction f using Nat.strongRecOn with
  | ind f ih =>
    intro l h1 h2
    cases f with
    | zero => omega
    | succ f =>
      unfold line
      have hw : w[l]? = some w[l] := List.getElem?_eq_getElem h2
      unfold lineF
      rw [hw]
      show (match w[l].par with | none => [l] | some p => lineF w f p.toNat ++ [l]) = (match w[l].par with | none => [l] | some p => lineF w l p.toNat ++ [l])
      cases hp : w[l].par with
      | none => rfl
      | some p =>
        obtain ⟨k1, k2⟩ := h.par l w[l] p hw hp
        dsimp only
        rw [ih f (by omega) p.toNat (by omega) (by omega)]
        by_cases hf : l = f
        · subst hf
          rw [ih l (by omega) p.toNat (by omega) (by omega)]
        · rw [ih l (by omega) p.toNat (by omega) (by omega)]
theorem line_eq {w : Wld} (h : WOk w) {l : Nat} (h2 : l < w.length) : line w l = match w[l].par with
    | none => [l]
    | some p => line w p.toNat ++ [l] := by
  conv => lhs; unfold line lineF
  have hw : w[l]? = some w[l] := List.getElem?_eq_getElem h2
  rw [hw]
  show (match w[l].par with | none => [l] | some p => lineF w l p.toNat ++ [l]) = _
  cases hp : w[l].par with
  | none => rfl
  | some p =>
    obtain ⟨k1, k2⟩ := h.par l w[l] p hw hp
    dsimp only
    rw [lineF_more h l p.toNat (by omega) (by omega)]
theorem line_lt {w : Wld} (h : WOk w) : ∀ l, l < w.length → ∀ o ∈ line w l, o ≤ l := by
  intro l
  induction l using Nat.strongRecOn with
  | ind l ih =>
    intro hl o ho
    rw [line_eq h hl] at ho
    have hw : w[l]? = some w[l] := List.getElem?_eq_getElem hl
    cases hp : w[l].par with
    | none => rw [hp] at ho; simp at ho; omega
    | some p =>
      obtain ⟨k1, k2⟩ := h.par l w[l] p hw hp
      rw [hp] at ho
      rcases List.mem_append.mp ho with ho | ho
      · have := ih p.toNat (by omega) (by omega) o ho
        omega
      · simp at ho; omega
theorem line_len {w : Wld} (h : WOk w) : ∀ l, l < w.length → (line w l).length ≤ l + 1 := by
  intro l
  induction l using Nat.strongRecOn with
  | ind l ih =>
    intro hl
    rw [line_eq h hl]
    have hw : w[l]? = some w[l] := List.getElem?_eq_getElem hl
    cases hp : w[l].par with
    | none => simp
    | some p =>
      obtain ⟨k1, k2⟩ := h.par l w[l] p hw hp
      have := ih p.toNat (by omega) (by omega)
      dsimp only
      rw [List.length_append, List.length_singleton]
      omega
def natsD (ls : List Nat) : List D := ls.map fun l : Nat => D.int (l : Int)
theorem world_at {w : Wld} {l : Nat} (h : l < w.length) : L2.atI (w.map Ldr.d) (l : Int) = some w[l].d := by
  rw [atI_get (d := D.non) (by omega) (by rw [List.length_map]; omega)]
  rw [List.getD_eq_getElem?_getD, List.getElem?_map, Int.toNat_natCast, List.getElem?_eq_getElem h]; rfl
structure TFind (T : Tab) : Prop extends TFiles T where
  line_of : T "line_of" = some (.fn 2 3 p_line_of)
  found_by : T "found_by" = some (.fn 3 4 p_found_by)
structure TLine (T : Tab) : Prop where
  line : T "_law_line" = some (.fn 2 3 l_line)
  on : T "_law_on" = some (.fn 2 3 l_on)
  find : T "_law_find" = some (.fn 3 5 l_find)
section
variable {T : Tab} {W n : Nat} {C : Str → List D → Sto → R D} {ρ : Env} {st : Sto} {a b e : Ex} {x y d : D}
theorem par_at {l : Ldr} : L2.atI [optI l.par, .tup (l.shelf.map File.d)] 0 = some (optI l.par) := rfl
theorem optI_some {i : Option Int} {j : Int} (h : i = some j) : optI i = .int j := by rw [h]; rfl
theorem line_of_says (hT : TFind T) (hW : 100 ≤ W) {w : Wld} (h : WOk w) {l : Nat} (hl : l < w.length) : FnL (callD T W (n + 1)) st "line_of" [wd w, .int (l : Int)] (natsD (line w l)) := by
  intro s hs
  refine call_ok hT.line_of rfl ?_
  show okS (excs _ _ _ [some (wd w), some (.int (l : Int)), none] _) _ _ _
  unfold p_line_of
  rw [s_cons]
  refine S_asgL (EvL.lst Evs.nil (Nat.zero_le _)) (by simp) fun s1 q e1 hq hc => ?_
  show okS (excs _ _ _ [some (wd w), some (.int (l : Int)), some (.ref q)] _) _ _ _
  rw [s_cons, s_whl]
  have hw4 := h.len
  -- the walk up
  have key : ∀ (l : Nat), l < w.length → ∀ (k : Nat), l + 2 ≤ k → ∀ (acc : List Nat) (s1 : Sto) (q : Nat), Ext s s1 → s.length ≤ q → acc.length + l ≤ 50 → s1[q]? = some (.lst (natsD acc)) →
      okS (whlL (fun ρ' st' => ev (callD T W n) (.notN (.lc 1)) ρ' st') (fun ρ' st' => excs (callD T W n) W (.cons (.asg (.nm 2) (.bin .add (.lst (.cons (.lc 1) .nil)) (.lc 2))) (.cons (.asg (.nm 1) (.ix (.ix (.lc 0) (.lc 1)) (.k (.int 0)))) .nil)) ρ' st') k [some (wd w), some (.int (l : Int)), some (.ref q)] s1)
        (fun ρ s2 => ∃ y q2, ρ = [some (wd w), y, some (.ref q2)] ∧ Ext s s2 ∧ s.length ≤ q2 ∧ s2[q2]? = some (.lst (natsD (line w l ++ acc)))) (fun x s' => False) fun _ _ => False := by
    intro l
    induction l using Nat.strongRecOn with
    | ind l ih =>
      intro hl k hk acc s1 q e1 hq ha hc
      obtain ⟨k, rfl⟩ : ∃ k', k = k' + 1 := ⟨k - 1, by omega⟩
      refine whl_step (Ev.run (Ev.to (Ev.notN (Ev.lc rfl)) (by rfl)) fun s2 e2 => .inl ⟨rfl, ?_⟩)
      rw [s_cons]
      have hc2 := e2.at_ hc
      have hcut : EvL (callD T W n) [some (wd w), some (.int (l : Int)), some (.ref q)] s2 (.bin .add (.lst (.cons (.lc 1) .nil)) (.lc 2)) (natsD (l :: acc)) := fun s3 h3 => by
        rw [w_bin]
        refine ok_mono (EvL.lst (st := s2) (Evs.cons (Ev.lc rfl) Evs.nil) (by show 1 ≤ LIM; decide) s3 h3) fun u s4 ⟨e4, m, hu, hn, hm⟩ => ?_
        subst hu
        rw [w_lc (d := .ref q) rfl]
        simp only [binD, hm, (h3.trans e4).at_ hc2]
        rw [if_pos (by rw [natsD, List.length_map]; unfold LIM; simp only [List.length_cons, List.length_nil]; omega), ok_ok]
        exact ⟨e4.trans (Ext.more _), _, rfl, (h3.trans e4).len, by rw [List.getElem?_append_right (Nat.le_refl _)]; simp [natsD]⟩
      refine S_asgL hcut (by simp) fun s3 q3 e3 hq3 hc3 => ?_
      show okS (excs _ _ _ [some (wd w), some (.int (l : Int)), some (.ref q3)] _) _ _ _
      rw [s_cons]
      refine S_asg (Ext.refl _) (Ev.ixT (ds := [_, _]) (Ev.ixT (Ev.lc rfl) (Ev.lc rfl) (world_at hl)) Ev.k par_at) fun s4 e4 => ⟨_, rfl, ?_⟩
      rw [s_nil]
      show okS (whlL _ _ _ [some (wd w), some (optI w[l].par), some (.ref q3)] _) _ _ _
      have e14 := e1.trans (e2.trans (e3.trans e4))
      have hq3' : s.length ≤ q3 := Nat.le_trans (e1.trans e2).len hq3
      have hw : w[l]? = some w[l] := List.getElem?_eq_getElem hl
      cases hp : w[l].par with
      | none =>
        obtain ⟨k, rfl⟩ : ∃ k', k = k' + 1 := ⟨k - 1, by omega⟩
        refine whl_step (Ev.run (Ev.to (Ev.notN (Ev.lc rfl)) (by rfl)) fun s5 e5 => .inr ⟨rfl, _, q3, rfl, e14.trans e5, hq3', ?_⟩)
        rw [line_eq h hl, hp]
        exact (e4.trans e5).at_ hc3
      | some p =>
        obtain ⟨k1, k2⟩ := h.par l w[l] p hw hp
        have ep : optI (some p) = .int ((p.toNat : Nat) : Int) := by show D.int p = _; rw [Int.toNat_of_nonneg k1]
        rw [ep]
        refine okS_mono (ih p.toNat (by omega) (by omega) k (by omega) (l :: acc) s4 q3 e14 hq3' ?_ (e4.at_ hc3)) (fun ρ s5 ⟨y, q2, h1, h2, h3, h4⟩ => ⟨y, q2, h1, h2, h3, ?_⟩) (fun _ _ z => z) fun _ _ z => z
        · rw [List.length_cons]; omega
        · rw [line_eq h hl, hp]
          simpa using h4
  refine okS_mono (key l hl W (by omega) [] s1 q e1 hq (by simp; omega) (show s1[q]? = some (.lst (natsD [])) from hc)) (fun ρ s2 ⟨y, q2, h1, h2, h3, h4⟩ => ?_) (fun _ _ z => z.elim) fun _ _ z => z.elim
  subst h1
  rw [s_cons, s_ret, w_lc (d := .ref q2) rfl]
  rw [List.append_nil] at h4
  exact ⟨h2, q2, rfl, h3, h4⟩
end
end IP.Q

/-! PrP: the class that is found, by the program and by the laws. -/
namespace IP.Q
open PySem
def shelfAt (w : Wld) (o : Nat) : List File := match w[o]? with
  | some l => l.shelf
  | none => []
def foundV (w : Wld) (l : Nat) (x : Str) : Option Nat := (line w l).find? fun o => (fileOn (shelfAt w o) x).isSome
def fdD (x : Str) : Option Nat → D
  | none => .non
  | some o => .tup [.int (o : Int), .str x]
theorem shelf_get {w : Wld} {o : Nat} (h : o < w.length) : shelfAt w o = w[o].shelf := by
  unfold shelfAt
  rw [List.getElem?_eq_getElem h]
theorem names_ok {w : Wld} (h : WOk w) {o : Nat} (ho : o < w.length) : ∀ f ∈ shelfAt w o, PyData.strOk f.name = true := fun f hf => by
  rw [shelf_get ho] at hf
  exact word_ok ((h.shelf _ (List.getElem_mem ho)).files f hf).name
/-! ### plain files -/
theorem plain_tup {n : Nat} {ds : List D} (h : ∀ d ∈ ds, plainT n d = true) : plainT (n + 1) (.tup ds) = true := by
  unfold plainT
  rw [plainTs_all, List.all_eq_true]
  exact h
theorem row_plain {r : Row} (h : r.ok) : plainT 1 r.d = true := by
  cases r with
  | put f i =>
    refine plain_tup fun d hd => ?_
    simp only [List.mem_cons, List.not_mem_nil, or_false] at hd
    rcases hd with rfl | rfl | rfl
    · exact plain_str (by decide +kernel)
    · exact plain_str (word_ok h.1)
    · exact plain_int
  | read f w g =>
    refine plain_tup fun d hd => ?_
    simp only [List.mem_cons, List.not_mem_nil, or_false] at hd
    rcases hd with rfl | rfl | rfl | rfl
    · exact plain_str (by decide +kernel)
    · exact plain_str (word_ok h.1)
    · exact plain_str (word_ok h.2.1)
    · exact plain_str (word_ok h.2.2)
  | need w =>
    refine plain_tup fun d hd => ?_
    simp only [List.mem_cons, List.not_mem_nil, or_false] at hd
    rcases hd with rfl | rfl
    · exact plain_str (by decide +kernel)
    · exact plain_str (word_ok h)
  | note w =>
    refine plain_tup fun d hd => ?_
    simp only [List.mem_cons, List.not_mem_nil, or_false] at hd
    rcases hd with rfl | rfl
    · exact plain_str (by decide +kernel)
    · exact plain_str (word_ok h)
  | fail w =>
    refine plain_tup fun d hd => ?_
    simp only [List.mem_cons, List.not_mem_nil, or_false] at hd
    rcases hd with rfl | rfl
    · exact plain_str (by decide +kernel)
    · exact plain_str (word_ok h)
theorem file_plain {f : File} (h : f.ok) : plainT 3 f.d = true := by
  refine plain_tup fun d hd => ?_
  simp only [List.mem_cons, List.not_mem_nil, or_false] at hd
  rcases hd with rfl | rfl | rfl | rfl | rfl
  · exact plain_str (kind_ok _)
  · exact plain_str (word_ok h.name)
  · cases ha : f.above with
    | none => exact plain_non
    | some a => exact plain_str (word_ok (h.above a ha).2)
  · refine plain_tup fun d hd => ?_
    obtain ⟨x, hx, rfl⟩ := List.mem_map.mp hd
    exact plain_str (word_ok (h.faces x hx))
  · refine plain_tup fun d hd => ?_
    obtain ⟨r, hr, rfl⟩ := List.mem_map.mp hd
    exact row_plain (h.rows r hr)
section
variable {T : Tab} {W n : Nat} {C : Str → List D → Sto → R D} {ρ : Env} {st : Sto} {a b e : Ex} {x y d : D}
/-- two new lists -/
theorem Ev.eqLL {ds es : List D} {n m : Nat} (ha : EvL C ρ st a ds) (hb : EvL C ρ st b es) (h1 : plainTs n ds = true) (h2 : plainTs m es = true) (hn : n ≤ 63 := by decide) (hm : m ≤ 63 := by decide) : Ev C ρ st (.cmp .eq a b) (.bl (decide (ds = es))) := fun s hs => by
  rw [w_cmp]
  refine ok_mono (ha s hs) fun u s1 ⟨e1, i, hu, hi, hc⟩ => ?_
  subst hu
  refine ok_mono (hb s1 (hs.trans e1)) fun v s2 ⟨e2, j, hv, hj, hc2⟩ => ?_
  subst hv
  simp only [cmpD, eqD_lists hn hm (e2.at_ hc) hc2 h1 h2, okB, ok_ok]
  exact ⟨e1.trans e2, trivial⟩
theorem Ev.neLL {ds es : List D} {n m : Nat} (ha : EvL C ρ st a ds) (hb : EvL C ρ st b es) (h1 : plainTs n ds = true) (h2 : plainTs m es = true) (hn : n ≤ 63 := by decide) (hm : m ≤ 63 := by decide) : Ev C ρ st (.cmp .ne a b) (.bl (!decide (ds = es))) := fun s hs => by
  rw [w_cmp]
  refine ok_mono (ha s hs) fun u s1 ⟨e1, i, hu, hi, hc⟩ => ?_
  subst hu
  refine ok_mono (hb s1 (hs.trans e1)) fun v s2 ⟨e2, j, hv, hj, hc2⟩ => ?_
  subst hv
  simp only [cmpD, eqD_lists hn hm (e2.at_ hc) hc2 h1 h2, okB, ok_ok, Option.map]
  exact ⟨e1.trans e2, trivial⟩
/-- a list in a variable and a new one -/
theorem Ev.eqVL {ds es : List D} {n m i : Nat} (ha : Ev C ρ st a (.ref i)) (hi : st[i]? = some (.lst ds)) (hb : EvL C ρ st b es) (h1 : plainTs n ds = true) (h2 : plainTs m es = true) (hn : n ≤ 63 := by decide) (hm : m ≤ 63 := by decide) : Ev C ρ st (.cmp .eq a b) (.bl (decide (ds = es))) := fun s hs => by
  rw [w_cmp]
  refine ok_mono (ha s hs) fun u s1 ⟨e1, hu⟩ => ?_
  subst hu
  refine ok_mono (hb s1 (hs.trans e1)) fun v s2 ⟨e2, j, hv, hj, hc2⟩ => ?_
  subst hv
  simp only [cmpD, eqD_lists hn hm ((hs.trans e1).trans e2 |>.at_ hi) hc2 h1 h2, okB, ok_ok]
  exact ⟨e1.trans e2, trivial⟩
theorem plain_nats {ls : List Nat} : plainTs 0 (natsD ls) = true := by
  rw [plainTs_all, List.all_eq_true]
  intro d hd
  obtain ⟨l, _, rfl⟩ := List.mem_map.mp hd
  exact plain_int
theorem shelf_at {l : Ldr} : L2.atI [optI l.par, .tup (l.shelf.map File.d)] 1 = some (.tup (l.shelf.map File.d)) := rfl
theorem found_says (hT : TFind T) (hW : 100 ≤ W) {w : Wld} (h : WOk w) {l : Nat} (hl : l < w.length) {x : Str} (hx : PyData.strOk x = true) : Fn (callD T W (n + 2)) st "found_by" [wd w, .int (l : Int), .str x] (fdD x (foundV w l x)) := by
  intro s0 h0
  refine call_ok hT.found_by rfl ?_
  show okS (excs _ _ _ [some (wd w), some (.int (l : Int)), some (.str x), none] _) _ _ _
  unfold p_found_by
  rw [s_cons]
  refine S_fr (Ext.refl _) (Evi.lst (EvL.call (Evs.cons (Ev.lc rfl) (Evs.cons (Ev.lc rfl) Evs.nil)) (line_of_says hT hW h hl))) fun s1 wt e1 hwt => ?_
  refine for_rule (fun i ρ s2 => Ext s1 s2 ∧ (∃ z, ρ = [some (wd w), some (.int (l : Int)), some (.str x), z]) ∧ ∀ o ∈ (line w l).take i, (fileOn (shelfAt w o) x).isSome = false) _ 0 _ s1 ⟨Ext.refl _, ⟨none, rfl⟩, by simp⟩ (fun i d ρ s2 hd hI => ?_) fun ρ s2 hI => ?_
  · obtain ⟨e2, ⟨z, rfl⟩, hno⟩ := hI
    rw [Nat.zero_add] at *
    unfold natsD at hd
    rw [List.getElem?_map] at hd
    obtain ⟨o, ho, rfl⟩ := Option.map_eq_some_iff.mp hd
    have hi : i < (line w l).length := (List.getElem?_eq_some_iff.mp ho).1
    have hol : o < w.length := by have := line_lt h l hl o (List.mem_of_getElem? ho); omega
    show okS (excs _ _ _ [some (wd w), some (.int (l : Int)), some (.str x), some (.int (o : Int))] s2) _ _ _
    have hf : Fn (callD T W (n + 1)) s2 "file_on" [.tup (w[o].shelf.map File.d), .str x] (optF (fileOn w[o].shelf x)) := file_on_of hT.toTFiles (by rw [← shelf_get hol]; exact names_ok h hol) hx
    rw [s_cons]
    refine S_ife (p := (fileOn (shelfAt w o) x).isSome) (Ext.refl _) (Ev.to (Ev.notN (Ev.call (Evs.cons (Ev.ixT (ds := [_, _]) (Ev.ixT (Ev.lc rfl) (Ev.lc rfl) (world_at hol)) Ev.k shelf_at) (Evs.cons (Ev.lc rfl) Evs.nil)) hf)) ?_) (fun hp s3 e3 => ?_) fun hp s3 e3 => ?_
    · rw [shelf_get hol]
      cases fileOn w[o].shelf x <;> rfl
    · rw [s_cons]
      refine S_ret (Ext.refl _) (Ev.tup (Evs.cons (Ev.lc rfl) (Evs.cons (Ev.lc rfl) Evs.nil)) (by show 2 ≤ LIM; decide)) fun s4 e4 => ⟨e1.trans ((e2.trans e3).trans e4), ?_⟩
      have hfi : foundV w l x = some o := by
        unfold foundV
        rw [List.find?_eq_some_iff_getElem]
        refine ⟨hp, i, hi, (List.getElem?_eq_some_iff.mp ho).2, fun j hj => ?_⟩
        have := hno (line w l)[j] (by rw [List.mem_take_iff_getElem]; exact ⟨j, by omega, rfl⟩)
        simpa using this
      rw [hfi]; rfl
    · rw [s_nil, s_nil]
      refine ⟨⟨e2.trans e3, ⟨_, rfl⟩, fun g hg => ?_⟩, (e2.trans e3).okW hwt⟩
      rw [List.take_succ, List.mem_append] at hg
      rcases hg with hg | hg
      · exact hno g hg
      · rw [ho] at hg
        simp only [Option.toList_some, List.mem_singleton] at hg
        rw [hg]; exact hp
  · obtain ⟨e2, ⟨z, rfl⟩, hno⟩ := hI
    unfold natsD at hno
    rw [Nat.zero_add, List.length_map, List.take_length] at hno
    rw [s_cons]
    refine S_ret (Ext.refl _) Ev.k fun s3 e3 => ⟨e1.trans (e2.trans e3), ?_⟩
    have : foundV w l x = none := by
      unfold foundV
      rw [List.find?_eq_none]
      intro o ho
      rw [hno o ho]; simp
    rw [this]; rfl
/-! ### the laws' way -/
theorem lline_says (hT : TLine T) (hW : 100 ≤ W) {w : Wld} (h : WOk w) {l : Nat} (hl : l < w.length) : FnL (callD T W (n + 1)) st "_law_line" [wd w, .int (l : Int)] (natsD (line w l)) := by
  intro s hs
  refine call_ok hT.line rfl ?_
  show okS (excs _ _ _ [some (wd w), some (.int (l : Int)), none] _) _ _ _
  unfold l_line
  rw [s_cons]
  refine S_asgL (EvL.lst (Evs.cons (Ev.lc rfl) Evs.nil) (by show 1 ≤ LIM; decide)) (by simp) fun s1 q e1 hq hc => ?_
  show okS (excs _ _ _ [some (wd w), some (.int (l : Int)), some (.ref q)] _) _ _ _
  rw [s_cons, s_whl]
  have hw4 := h.len
  have key : ∀ (o : Nat), o < w.length → ∀ (k : Nat), o + 2 ≤ k → ∀ (acc : List Nat) (s1 : Sto) (q : Nat), Ext s s1 → s.length ≤ q → acc.length + o ≤ 50 → s1[q]? = some (.lst (natsD (o :: acc))) →
      okS (whlL (fun ρ' st' => ev (callD T W n) (.notN (.ix (.ix (.lc 0) (.ix (.lc 2) (.k (.int 0)))) (.k (.int 0)))) ρ' st') (fun ρ' st' => excs (callD T W n) W (.cons (.asg (.nm 2) (.bin .add (.lst (.cons (.ix (.ix (.lc 0) (.ix (.lc 2) (.k (.int 0)))) (.k (.int 0))) .nil)) (.lc 2))) .nil) ρ' st') k [some (wd w), some (.int (l : Int)), some (.ref q)] s1)
        (fun ρ s2 => ∃ q2, ρ = [some (wd w), some (.int (l : Int)), some (.ref q2)] ∧ Ext s s2 ∧ s.length ≤ q2 ∧ s2[q2]? = some (.lst (natsD (line w o ++ acc)))) (fun x s' => False) fun _ _ => False := by
    intro o
    induction o using Nat.strongRecOn with
    | ind o ih =>
      intro hol k hk acc s1 q e1 hq ha hc
      obtain ⟨k, rfl⟩ : ∃ k', k = k' + 1 := ⟨k - 1, by omega⟩
      have par : ∀ s2, Ext s1 s2 → Ev (callD T W n) [some (wd w), some (.int (l : Int)), some (.ref q)] s2 (.ix (.ix (.lc 0) (.ix (.lc 2) (.k (.int 0)))) (.k (.int 0))) (optI w[o].par) := fun s2 e2 =>
        Ev.ixT (ds := [_, _]) (Ev.ixT (Ev.lc rfl) (Ev.ixV (Ev.lc rfl) (e2.at_ hc) Ev.k at0) (world_at hol)) Ev.k par_at
      have hw : w[o]? = some w[o] := List.getElem?_eq_getElem hol
      cases hp : w[o].par with
      | none =>
        have par0 := par s1 (Ext.refl _)
        rw [hp] at par0
        refine whl_step (Ev.run (Ev.to (Ev.notN par0) (by rfl)) fun s5 e5 => .inr ⟨rfl, q, rfl, e1.trans e5, hq, ?_⟩)
        rw [line_eq h hol, hp]
        exact e5.at_ hc
      | some p =>
        obtain ⟨k1, k2⟩ := h.par o w[o] p hw hp
        have ep : optI w[o].par = .int ((p.toNat : Nat) : Int) := by rw [hp]; show D.int p = _; rw [Int.toNat_of_nonneg k1]
        rw [ep] at par
        refine whl_step (Ev.run (Ev.to (Ev.notN (par s1 (Ext.refl _))) (by rfl)) fun s2 e2 => .inl ⟨rfl, ?_⟩)
        rw [s_cons]
        have hc2 := e2.at_ hc
        have hcut : EvL (callD T W n) [some (wd w), some (.int (l : Int)), some (.ref q)] s2 (.bin .add (.lst (.cons (.ix (.ix (.lc 0) (.ix (.lc 2) (.k (.int 0)))) (.k (.int 0))) .nil)) (.lc 2)) (natsD (p.toNat :: o :: acc)) := fun s3 h3 => by
          rw [w_bin]
          refine ok_mono (EvL.lst (st := s2) (Evs.cons (par s2 e2) Evs.nil) (by show 1 ≤ LIM; decide) s3 h3) fun u s4 ⟨e4, m, hu, hn, hm⟩ => ?_
          subst hu
          rw [w_lc (d := .ref q) rfl]
          simp only [binD, hm, (h3.trans e4).at_ hc2]
          rw [if_pos (by rw [natsD, List.length_map]; unfold LIM; simp only [List.length_cons, List.length_nil]; omega), ok_ok]
          exact ⟨e4.trans (Ext.more _), _, rfl, (h3.trans e4).len, by rw [List.getElem?_append_right (Nat.le_refl _)]; simp [natsD]⟩
        refine S_asgL hcut (by simp) fun s3 q3 e3 hq3 hc3 => ?_
        rw [s_nil]
        show okS (whlL _ _ _ [some (wd w), some (.int (l : Int)), some (.ref q3)] _) _ _ _
        refine okS_mono (ih p.toNat (by omega) (by omega) k (by omega) (o :: acc) s3 q3 (e1.trans (e2.trans e3)) (Nat.le_trans (e1.trans e2).len hq3) (by rw [List.length_cons]; omega) hc3) (fun ρ s5 ⟨q2, h1, h2, h3, h4⟩ => ⟨q2, h1, h2, h3, ?_⟩) (fun _ _ z => z) fun _ _ z => z
        rw [line_eq h hol, hp]
        simpa using h4
  refine okS_mono (key l hl W (by omega) [] s1 q e1 hq (by simp; omega) (show s1[q]? = some (.lst (natsD [l])) from hc)) (fun ρ s2 ⟨q2, h1, h2, h3, h4⟩ => ?_) (fun _ _ z => z.elim) fun _ _ z => z.elim
  subst h1
  rw [s_cons, s_ret, w_lc (d := .ref q2) rfl]
  rw [List.append_nil] at h4
  exact ⟨h2, q2, rfl, h3, h4⟩
theorem on_says (hT : TLine T) {s : List File} (hs : ∀ f ∈ s, PyData.strOk f.name = true) (hl : s.length ≤ 100) {x : Str} (hx : PyData.strOk x = true) : FnL (callD T W (n + 1)) st "_law_on" [.tup (s.map File.d), .str x] ((s.filter fun f => decide (f.name = x)).map File.d) := by
  intro s0 h0
  refine call_ok hT.on rfl ?_
  show okS (excs _ _ _ [some (.tup (s.map File.d)), some (.str x), none] _) _ _ _
  unfold l_on
  rw [s_cons, s_ret]
  have hm := EvL.filt (C := callD T W n) (ρ := [some (.tup (s.map File.d)), some (.str x), none]) (st := s0) (e := .lc 2) (c := .cmp .eq (.ix (.lc 2) (.k (.int 1))) (.lc 1)) (t := .nm 2) (it := .val (.lc 0)) (own := [2]) (fun d => match d with | .tup (_ :: z :: _) => decide (z = .str x) | _ => false) id (Evi.tup (Ev.lc rfl))
    (by rw [List.length_map]; unfold LIM; omega) fun d hd s1 e1 => by
      obtain ⟨f, hf, rfl⟩ := List.mem_map.mp hd
      refine ⟨[some (.tup (s.map File.d)), some (.str x), some f.d], rfl, Ev.to (Ev.eqS (Ev.ixT (ds := [_, _, _, _, _]) (Ev.lc rfl) Ev.k name_at) (Ev.lc rfl) (hs f hf) hx) ?_, fun _ => Ev.lc rfl⟩
      show D.bl (decide (f.name = x)) = .bl (decide (D.str f.name = .str x))
      simp
  refine ok_mono (hm s0 (Ext.refl _)) fun u s1 ⟨e1, m, hu, hn, hc⟩ => ⟨e1, m, hu, hn, ?_⟩
  rw [hc, List.map_id, List.filter_map]
  congr 3
  refine congrFun (congrArg List.filter (funext fun f => ?_)) s
  show decide (D.str f.name = .str x) = decide (f.name = x)
  simp
theorem on_nil {s : List File} {x : Str} : (s.filter fun f => decide (f.name = x)) = [] ↔ (fileOn s x).isSome = false := by
  unfold fileOn
  rw [List.filter_eq_nil_iff]
  cases h : s.find? fun f => decide (f.name = x) with
  | none =>
    rw [List.find?_eq_none] at h
    exact ⟨fun _ => rfl, fun _ f hf => h f hf⟩
  | some f =>
    refine ⟨fun z => ?_, fun z => nomatch z⟩
    have h1 := List.mem_of_find?_eq_some h
    have h2 := List.find?_some h
    exact absurd h2 (z f h1)
theorem lfind_says (hT : TLine T) (hW : 100 ≤ W) {w : Wld} (h : WOk w) {l : Nat} (hl : l < w.length) {x : Str} (hx : PyData.strOk x = true) : Fn (callD T W (n + 2)) st "_law_find" [wd w, .int (l : Int), .str x] (fdD x (foundV w l x)) := by
  intro s0 h0
  refine call_ok hT.find rfl ?_
  show okS (excs _ _ _ [some (wd w), some (.int (l : Int)), some (.str x), none, none] _) _ _ _
  unfold l_find
  rw [s_cons]
  have ll := line_len h l hl
  have hw4 := h.len
  have hm : EvL (callD T W (n + 1)) [some (wd w), some (.int (l : Int)), some (.str x), none, none] s0 (.comp (.lc 4) (.nm 4) (.val (.call "_law_line" (.cons (.lc 0) (.cons (.lc 1) .nil)))) (.some (.cmp .ne (.call "_law_on" (.cons (.ix (.ix (.lc 0) (.lc 4)) (.k (.int 1))) (.cons (.lc 2) .nil))) (.lst .nil))) [4])
      (natsD ((line w l).filter fun o => (fileOn (shelfAt w o) x).isSome)) := by
    have := EvL.filt (C := callD T W (n + 1)) (ρ := [some (wd w), some (.int (l : Int)), some (.str x), none, none]) (st := s0) (e := .lc 4) (c := .cmp .ne (.call "_law_on" (.cons (.ix (.ix (.lc 0) (.lc 4)) (.k (.int 1))) (.cons (.lc 2) .nil))) (.lst .nil)) (t := .nm 4) (it := .val (.call "_law_line" (.cons (.lc 0) (.cons (.lc 1) .nil)))) (own := [4])
      (fun d => match d with | .int o => (fileOn (shelfAt w o.toNat) x).isSome | _ => false) id (Evi.lst (EvL.call (Evs.cons (Ev.lc rfl) (Evs.cons (Ev.lc rfl) Evs.nil)) (lline_says hT hW h hl))) (by rw [natsD, List.length_map]; unfold LIM; omega) fun d hd s1 e1 => by
        obtain ⟨o, ho, rfl⟩ := List.mem_map.mp hd
        have hol : o < w.length := by have := line_lt h l hl o ho; omega
        have hsh := h.shelf _ (List.getElem_mem hol)
        refine ⟨[some (wd w), some (.int (l : Int)), some (.str x), none, some (.int (o : Int))], rfl, Ev.to (Ev.neLL (n := 3) (m := 0) (EvL.call (Evs.cons (Ev.ixT (ds := [_, _]) (Ev.ixT (Ev.lc rfl) (Ev.lc rfl) (world_at hol)) Ev.k shelf_at) (Evs.cons (Ev.lc rfl) Evs.nil))
          (on_says hT (by rw [← shelf_get hol]; exact names_ok h hol) (by have := hsh.len; omega) hx)) (EvL.lst Evs.nil (Nat.zero_le _)) ?_ (by decide +kernel)) ?_, fun _ => Ev.lc rfl⟩
        · rw [plainTs_all, List.all_eq_true]
          intro d hd
          obtain ⟨f, hf, rfl⟩ := List.mem_map.mp hd
          exact file_plain (hsh.files f ((List.mem_filter.mp hf).1))
        · show D.bl _ = D.bl (fileOn (shelfAt w (o : Int).toNat) x).isSome
          rw [Int.toNat_natCast, shelf_get hol]
          congr 1
          cases hc : (fileOn w[o].shelf x).isSome with
          | false => rw [on_nil.mpr hc]; rfl
          | true =>
            rw [decide_eq_false fun z => ?_]; rfl
            have := on_nil.mp (List.map_eq_nil_iff.mp z)
            rw [hc] at this; cases this
    rw [List.map_id] at this
    unfold natsD at this ⊢
    rw [List.filter_map] at this
    exact this
  refine S_asgL hm (by simp) fun s1 q e1 hq hc => ?_
  show okS (excs _ _ _ [some (wd w), some (.int (l : Int)), some (.str x), some (.ref q), none] _) _ _ _
  have hfi : foundV w l x = ((line w l).filter fun o => (fileOn (shelfAt w o) x).isSome).head? := by
    unfold foundV
    rw [List.head?_filter]
  rw [s_cons]
  refine S_ife (p := decide ((line w l).filter (fun o => (fileOn (shelfAt w o) x).isSome) = [])) (Ext.refl _) (Ev.to (Ev.eqVL (n := 0) (m := 0) (Ev.lc rfl) hc (EvL.lst Evs.nil (Nat.zero_le _)) plain_nats (by decide +kernel)) (by unfold natsD; simp)) (fun hp s2 e2 => ?_) fun hp s2 e2 => ?_
  · rw [s_cons]
    refine S_ret (Ext.refl _) Ev.k fun s3 e3 => ⟨e1.trans (e2.trans e3), ?_⟩
    rw [hfi, of_decide_eq_true hp]; rfl
  · rw [s_nil, s_cons]
    cases hf : (line w l).filter fun o => (fileOn (shelfAt w o) x).isSome with
    | nil => rw [hf] at hp; cases hp
    | cons o os =>
      rw [hf] at hc
      refine S_ret (Ext.refl _) (Ev.tup (Evs.cons (Ev.ixV (Ev.lc rfl) (e2.at_ hc) Ev.k at0) (Evs.cons (Ev.lc rfl) Evs.nil)) (by show 2 ≤ LIM; decide)) fun s3 e3 => ⟨e1.trans (e2.trans e3), ?_⟩
      rw [hfi, hf]; rfl
end
end IP.Q

/-! PrQ: sorted lists of classes; lists gathered over a world. -/
namespace IP.Q
open PySem
def pairD (p : Nat × Str) : D := .tup [.int (p.1 : Int), .str p.2]
def srt (ds : List D) : List D := ((ds.map fun d => (d, toP d)).mergeSort (PySem.W.dataLe false (·.2))).map (·.1)
theorem mem_srt {ds : List D} {d : D} : d ∈ srt ds ↔ d ∈ ds := by
  unfold srt
  rw [List.mem_map]
  constructor
  · rintro ⟨p, hp, rfl⟩
    rw [List.mem_mergeSort, List.mem_map] at hp
    obtain ⟨e, he, rfl⟩ := hp
    exact he
  · intro h
    exact ⟨(d, toP d), by rw [List.mem_mergeSort]; exact List.mem_map_of_mem h, rfl⟩
theorem srt_len (ds : List D) : (srt ds).length = ds.length := by
  unfold srt
  rw [List.length_map, List.length_mergeSort, List.length_map]
theorem pair_plain {p : Nat × Str} (h : PyData.strOk p.2 = true) : plainT 1 (pairD p) = true := plain_tup fun d hd => by
  simp only [List.mem_cons, List.not_mem_nil, or_false] at hd
  rcases hd with rfl | rfl
  · exact plain_int
  · exact plain_str h
theorem datas_plain {st : Sto} {n : Nat} (hn : n ≤ 64) : ∀ {ds : List D}, (∀ d ∈ ds, plainT n d = true) → datasOf st ds = some (ds.map fun d => (d, toP d))
  | [], _ => rfl
  | d :: ds, h => by
    unfold datasOf
    rw [plain_data st n 64 d hn (h d List.mem_cons_self), datas_plain hn fun e he => h e (List.mem_cons_of_mem _ he)]; rfl
theorem sort_pairs {st : Sto} {ps : List (Nat × Str)} (h : ∀ p ∈ ps, PyData.strOk p.2 = true) (hl : ps.length ≤ LIM) : sortD (ps.map pairD) st = some (srt (ps.map pairD)) := by
  unfold sortD
  rw [datas_plain (n := 1) (by decide) fun d hd => by
    obtain ⟨p, hp, rfl⟩ := List.mem_map.mp hd
    exact pair_plain (h p hp)]
  have e1 : ((ps.map pairD).map fun d => (d, toP d)).map (·.2) = ps.map fun p => PyData.tuple [.int (p.1 : Int), .str p.2] := by
    rw [List.map_map, List.map_map]
    refine List.map_congr_left fun p _ => ?_
    simp [pairD, toP, toPs]
  dsimp only
  rw [e1]
  have e2 : alikeB (ps.map fun p => PyData.tuple [.int (p.1 : Int), .str p.2]) = true := by
    unfold alikeB
    rw [List.all_eq_true]
    intro a ha
    obtain ⟨p, _, rfl⟩ := List.mem_map.mp ha
    rw [List.all_eq_true]
    intro b hb
    obtain ⟨q, _, rfl⟩ := List.mem_map.mp hb
    simp [PySem.W.alike, PySem.W.alikeAll]
  have e3 : (ps.map fun p => PyData.tuple [.int (p.1 : Int), .str p.2]).all tupleB = true := by
    rw [List.all_eq_true]
    intro a ha
    obtain ⟨p, _, rfl⟩ := List.mem_map.mp ha
    rfl
  rw [e2, e3, decide_eq_true (by rw [List.length_map]; exact hl)]
  rfl
theorem srt_plain {ps : List (Nat × Str)} (h : ∀ p ∈ ps, PyData.strOk p.2 = true) : plainTs 1 (srt (ps.map pairD)) = true := by
  rw [plainTs_all, List.all_eq_true]
  intro d hd
  rw [mem_srt] at hd
  obtain ⟨p, hp, rfl⟩ := List.mem_map.mp hd
  exact pair_plain (h p hp)
def gatherV (g : Nat → Ldr → List (Nat × Str)) (w : Wld) (j : Nat) : List (Nat × Str) := (List.range j).flatMap fun i => match w[i]? with
  | some l => g i l
  | none => []
theorem gather_succ (g : Nat → Ldr → List (Nat × Str)) (w : Wld) (j : Nat) : gatherV g w (j + 1) = gatherV g w j ++ match w[j]? with
  | some l => g j l
  | none => [] := by
  unfold gatherV
  rw [List.range_succ, List.flatMap_append]
  simp
theorem gather_mem {g : Nat → Ldr → List (Nat × Str)} {w : Wld} {j : Nat} {p : Nat × Str} (h : p ∈ gatherV g w j) : ∃ i l, w[i]? = some l ∧ p ∈ g i l := by
  unfold gatherV at h
  obtain ⟨i, _, hi⟩ := List.mem_flatMap.mp h
  cases hw : w[i]? with
  | none => rw [hw] at hi; cases hi
  | some l => rw [hw] at hi; exact ⟨i, l, hw, hi⟩
theorem gather_len {g : Nat → Ldr → List (Nat × Str)} {w : Wld} (h : ∀ i l, w[i]? = some l → (g i l).length ≤ 4) : ∀ j, (gatherV g w j).length ≤ 4 * j
  | 0 => by simp [gatherV]
  | j + 1 => by
    rw [gather_succ, List.length_append]
    have := gather_len h j
    cases hw : w[j]? with
    | none => simp; omega
    | some l => have := h j l hw; simp; omega
section
variable {T : Tab} {W n : Nat} {C : Str → List D → Sto → R D} {ρ : Env} {st s : Sto} {a b e : Ex} {x y d : D} {N : Env → Sto → Prop} {Rt : D → Sto → Prop} {Ct : Env → Sto → Prop}
/-- l.extend(e) -/
theorem S_ext {m : Nat} {ds es : List D} {j : Nat} (hl : ρ[j]? = some (some (.ref m))) (hm : s[m]? = some (.lst ds)) (h : EvL C ρ s e es) (hz : ds.length + es.length ≤ LIM) (k : ∀ s1, Ext s s1 → N ρ (s1.set m (.lst (ds ++ es)))) : okS (exc C W (.exp (.bm .extend (.lc j) (.cons e .nil))) ρ s) N Rt Ct := by
  rw [s_exp, w_bm, w_lc hl]
  refine ⟨by show isLst (.ref m) s = true; simp only [isLst, hm], ?_⟩
  rw [w_cons]
  refine ok_mono (h s (Ext.refl _)) fun u s1 ⟨e1, q, hu, hq, hc⟩ => ?_
  subst hu
  rw [w_nil]
  show ok (extD (.ref m) [.ref q] s1) _
  simp only [extD, e1.at_ hm, hc, hz, if_true]
  exact k s1 e1
theorem EvL.sortV {m : Nat} {ds es : List D} (ha : Ev C ρ st a (.ref m)) (hm : st[m]? = some (.lst ds)) (hs : ∀ s, sortD ds s = some es) : EvL C ρ st (.bi .sorted a) es := fun s h => by
  rw [w_bi]
  refine ok_mono (ha s h) fun u s1 ⟨e1, hu⟩ => ?_
  subst hu
  simp only [biD, (h.trans e1).at_ hm, hs s1, ok_ok]
  exact ⟨e1.trans (Ext.more _), _, rfl, (h.trans e1).len, by rw [List.getElem?_append_right (Nat.le_refl _)]; simp⟩
theorem Ev.eqLV {ds es : List D} {n m i : Nat} (ha : EvL C ρ st a ds) (hb : Ev C ρ st b (.ref i)) (hi : st[i]? = some (.lst es)) (h1 : plainTs n ds = true) (h2 : plainTs m es = true) (hn : n ≤ 63 := by decide) (hm : m ≤ 63 := by decide) : Ev C ρ st (.cmp .eq a b) (.bl (decide (ds = es))) := fun s hs => by
  rw [w_cmp]
  refine ok_mono (ha s hs) fun u s1 ⟨e1, j, hu, hj, hc⟩ => ?_
  subst hu
  refine ok_mono (hb s1 (hs.trans e1)) fun v s2 ⟨e2, hv⟩ => ?_
  subst hv
  simp only [cmpD, eqD_lists hn hm (e2.at_ hc) (((hs.trans e1).trans e2).at_ hi) h1 h2, okB, ok_ok]
  exact ⟨e1.trans e2, trivial⟩
theorem Ev.ninV {x : D} {ds : List D} {n m i : Nat} (ha : Ev C ρ st a x) (hb : Ev C ρ st b (.ref i)) (hi : st[i]? = some (.lst ds)) (h1 : plainT n x = true) (h2 : plainTs m ds = true) (hn : n ≤ 64 := by decide) (hm : m ≤ 63 := by decide) : Ev C ρ st (.cmp .notin a b) (.bl (!decide (x ∈ ds))) :=
  Ev.cmp ha hb fun s hs => by
    show (memD x (.ref i) s).map (!·) = _
    simp only [memD, hs.at_ hi]
    rw [inD_plain hn hm h1 h2]; rfl
/-- made = []; for number, loader in enumerate(world): made.extend(comp); return sorted(made) -/
def tailG (comp : Ex) : Sts := .cons (.asg (.nm 1) (.lst .nil)) (.cons (.fr (.tp (.cons (.nm 2) (.cons (.nm 3) .nil))) (.enm (.lc 0)) (.cons (.exp (.bm .extend (.lc 1) (.cons comp .nil))) .nil)) (.cons (.ret (.bi .sorted (.lc 1))) .nil))
theorem tail_says {comp : Ex} {w : Wld} (hw : w.length ≤ 4) (g : Nat → Ldr → List (Nat × Str)) (hl : ∀ i l, w[i]? = some l → (g i l).length ≤ 4) (hs : ∀ i l, w[i]? = some l → ∀ p ∈ g i l, PyData.strOk p.2 = true)
    (hg : ∀ (i : Nat) (l : Ldr), w[i]? = some l → ∀ (q : Nat) (s : Sto), EvL C [some (wd w), some (.ref q), some (.int (i : Int)), some l.d, none] s comp ((g i l).map pairD)) {z2 z3 : Option D} :
    okS (excs C W (tailG comp) [some (wd w), none, z2, z3, none] s) (fun _ _ => False) (fun x s' => Ext s s' ∧ ∃ n, x = .ref n ∧ s.length ≤ n ∧ s'[n]? = some (.lst (srt ((gatherV g w w.length).map pairD)))) fun _ _ => False := by
  unfold tailG
  rw [s_cons]
  refine S_asgL (EvL.lst Evs.nil (Nat.zero_le _)) (by simp) fun s1 q e1 hq hc => ?_
  show okS (excs _ _ _ [some (wd w), some (.ref q), z2, z3, none] _) _ _ _
  rw [s_cons]
  refine S_frW (Ext.refl _) (EviW.enm (Ev.lc rfl)) rfl fun s2 e2 _ => ?_
  refine for_rule (fun i ρ s3 => Ext s s3 ∧ s3[q]? = some (.lst ((gatherV g w i).map pairD)) ∧ ∃ y z, ρ = [some (wd w), some (.ref q), y, z, none]) _ 0 _ s2 ⟨e1.trans e2, e2.at_ hc, _, _, rfl⟩ (fun i d ρ s3 hd hI => ?_) fun ρ s3 hI => ?_
  · obtain ⟨e3, hc3, y, z, rfl⟩ := hI
    rw [Nat.zero_add] at *
    obtain ⟨l0, hl0, rfl⟩ := zip_at _ _ _ _ hd
    rw [Nat.zero_add]
    rw [List.getElem?_map] at hl0
    obtain ⟨l, hli, rfl⟩ := Option.map_eq_some_iff.mp hl0
    have hi : i < w.length := (List.getElem?_eq_some_iff.mp hli).1
    show okS (excs _ _ _ [some (wd w), some (.ref q), some (.int (i : Int)), some l.d, none] s3) _ _ _
    rw [s_cons]
    refine S_ext rfl hc3 (hg i l hli q s3) ?_ fun s4 e4 => ?_
    · have := gather_len hl i
      have := hl i l hli
      rw [List.length_map, List.length_map]
      unfold LIM; omega
    · rw [s_nil]
      refine ⟨⟨(e3.trans e4).set hq, ?_, _, _, rfl⟩, rfl⟩
      rw [List.getElem?_set_self (List.getElem?_eq_some_iff.mp (e4.at_ hc3)).1, gather_succ, hli, List.map_append]
  · obtain ⟨e3, hc3, y, z, rfl⟩ := hI
    rw [Nat.zero_add, zip_len, List.length_map] at hc3
    rw [s_cons, s_ret]
    have hso : ∀ s, sortD ((gatherV g w w.length).map pairD) s = some (srt ((gatherV g w w.length).map pairD)) := fun s => sort_pairs (fun p hp => by
      obtain ⟨i, l, h1, h2⟩ := gather_mem hp
      exact hs i l h1 p h2) (by have := gather_len hl w.length; unfold LIM; omega)
    refine ok_mono (EvL.sortV (Ev.lc rfl) hc3 hso s3 (Ext.refl _)) fun u s4 ⟨e4, m, hu, hm, hc4⟩ => ⟨e3.trans e4, m, hu, Nat.le_trans e3.len hm, hc4⟩
end
/-! ### the classes of a world -/
def clsV (w : Wld) (i : Nat) (l : Ldr) : List (Nat × Str) := (l.shelf.filter fun f => decide (foundV w i f.name = some i)).map fun f => (i, f.name)
def shdV (w : Wld) (i : Nat) (l : Ldr) : List (Nat × Str) := (l.shelf.filter fun f => !decide (foundV w i f.name = some i)).map fun f => (i, f.name)
def classesV (w : Wld) : List (Nat × Str) := gatherV (clsV w) w w.length
def shadowV (w : Wld) : List (Nat × Str) := gatherV (shdV w) w w.length
structure TCls (T : Tab) : Prop extends TFind T where
  classes : T "classes" = some (.fn 1 5 p_classes)
  shadowed : T "shadowed" = some (.fn 1 5 p_shadowed)
theorem fd_eq {x : Str} {o : Option Nat} {i : Nat} : decide (fdD x o = pairD (i, x)) = decide (o = some i) := by
  cases o with
  | none => simp [fdD, pairD]
  | some j =>
    simp [fdD, pairD]
    omega
theorem fd_plain {x : Str} {o : Option Nat} (h : PyData.strOk x = true) : plainT 1 (fdD x o) = true := by
  cases o with
  | none => exact plain_non
  | some j => exact pair_plain (p := (j, x)) h
section
variable {T : Tab} {W n : Nat} {C : Str → List D → Sto → R D} {st : Sto} {w : Wld} {i : Nat} {l : Ldr}
theorem shelf_names (h : WOk w) (hl : w[i]? = some l) : ∀ f ∈ l.shelf, PyData.strOk f.name = true := fun f hf => word_ok ((h.shelf l (List.mem_of_getElem? hl)).files f hf).name
/-- [(number, one[1]) for one in loader[1] if F(world, number, one[1]) == (number, one[1])] -/
theorem comp_eq (h : WOk w) (hl : w[i]? = some l) {F : Str} (hF : ∀ (x : Str) (s : Sto), PyData.strOk x = true → Fn C s F [wd w, .int (i : Int), .str x] (fdD x (foundV w i x))) (q : Nat) (s : Sto) :
    EvL C [some (wd w), some (.ref q), some (.int (i : Int)), some l.d, none] s (.comp (.tup (.cons (.lc 2) (.cons (.ix (.lc 4) (.k (.int 1))) .nil))) (.nm 4) (.val (.ix (.lc 3) (.k (.int 1)))) (.some (.cmp .eq (.call F (.cons (.lc 0) (.cons (.lc 2) (.cons (.ix (.lc 4) (.k (.int 1))) .nil)))) (.tup (.cons (.lc 2) (.cons (.ix (.lc 4) (.k (.int 1))) .nil))))) [4]) ((clsV w i l).map pairD) := by
  have hn := shelf_names h hl
  have hsl := (h.shelf l (List.mem_of_getElem? hl)).len
  have := EvL.filt (C := C) (ρ := [some (wd w), some (.ref q), some (.int (i : Int)), some l.d, none]) (st := s) (e := .tup (.cons (.lc 2) (.cons (.ix (.lc 4) (.k (.int 1))) .nil))) (c := .cmp .eq (.call F (.cons (.lc 0) (.cons (.lc 2) (.cons (.ix (.lc 4) (.k (.int 1))) .nil)))) (.tup (.cons (.lc 2) (.cons (.ix (.lc 4) (.k (.int 1))) .nil)))) (t := .nm 4) (it := .val (.ix (.lc 3) (.k (.int 1)))) (own := [4])
    (fun d => match d with | .tup (_ :: .str z :: _) => decide (foundV w i z = some i) | _ => false) (fun d => match d with | .tup (_ :: .str z :: _) => pairD (i, z) | _ => .non) (Evi.tup (Ev.ixT (ds := [_, _]) (Ev.lc rfl) Ev.k shelf_at)) (by rw [List.length_map]; unfold LIM; omega) fun d hd s1 e1 => by
      obtain ⟨f, hf, rfl⟩ := List.mem_map.mp hd
      refine ⟨[some (wd w), some (.ref q), some (.int (i : Int)), some l.d, some f.d], rfl, Ev.to (Ev.eq (n := 1) (m := 1) (Ev.call (Evs.cons (Ev.lc rfl) (Evs.cons (Ev.lc rfl) (Evs.cons (Ev.ixT (ds := [_, _, _, _, _]) (Ev.lc rfl) Ev.k name_at) Evs.nil))) (hF f.name s1 (hn f hf)))
        (Ev.tup (Evs.cons (Ev.lc rfl) (Evs.cons (Ev.ixT (ds := [_, _, _, _, _]) (Ev.lc rfl) Ev.k name_at) Evs.nil)) (by show 2 ≤ LIM; decide)) (fd_plain (hn f hf)) (pair_plain (p := (i, f.name)) (hn f hf))) ?_, fun _ => Ev.tup (Evs.cons (Ev.lc rfl) (Evs.cons (Ev.ixT (ds := [_, _, _, _, _]) (Ev.lc rfl) Ev.k name_at) Evs.nil)) (by show 2 ≤ LIM; decide)⟩
      exact congrArg D.bl fd_eq
  rw [List.filter_map, List.map_map] at this
  unfold clsV
  rw [List.map_map]
  exact this
theorem comp_ne (h : WOk w) (hl : w[i]? = some l) {F : Str} (hF : ∀ (x : Str) (s : Sto), PyData.strOk x = true → Fn C s F [wd w, .int (i : Int), .str x] (fdD x (foundV w i x))) (q : Nat) (s : Sto) :
    EvL C [some (wd w), some (.ref q), some (.int (i : Int)), some l.d, none] s (.comp (.tup (.cons (.lc 2) (.cons (.ix (.lc 4) (.k (.int 1))) .nil))) (.nm 4) (.val (.ix (.lc 3) (.k (.int 1)))) (.some (.cmp .ne (.call F (.cons (.lc 0) (.cons (.lc 2) (.cons (.ix (.lc 4) (.k (.int 1))) .nil)))) (.tup (.cons (.lc 2) (.cons (.ix (.lc 4) (.k (.int 1))) .nil))))) [4]) ((shdV w i l).map pairD) := by
  have hn := shelf_names h hl
  have hsl := (h.shelf l (List.mem_of_getElem? hl)).len
  have := EvL.filt (C := C) (ρ := [some (wd w), some (.ref q), some (.int (i : Int)), some l.d, none]) (st := s) (e := .tup (.cons (.lc 2) (.cons (.ix (.lc 4) (.k (.int 1))) .nil))) (c := .cmp .ne (.call F (.cons (.lc 0) (.cons (.lc 2) (.cons (.ix (.lc 4) (.k (.int 1))) .nil)))) (.tup (.cons (.lc 2) (.cons (.ix (.lc 4) (.k (.int 1))) .nil)))) (t := .nm 4) (it := .val (.ix (.lc 3) (.k (.int 1)))) (own := [4])
    (fun d => match d with | .tup (_ :: .str z :: _) => !decide (foundV w i z = some i) | _ => false) (fun d => match d with | .tup (_ :: .str z :: _) => pairD (i, z) | _ => .non) (Evi.tup (Ev.ixT (ds := [_, _]) (Ev.lc rfl) Ev.k shelf_at)) (by rw [List.length_map]; unfold LIM; omega) fun d hd s1 e1 => by
      obtain ⟨f, hf, rfl⟩ := List.mem_map.mp hd
      refine ⟨[some (wd w), some (.ref q), some (.int (i : Int)), some l.d, some f.d], rfl, Ev.to (Ev.ne (n := 1) (m := 1) (Ev.call (Evs.cons (Ev.lc rfl) (Evs.cons (Ev.lc rfl) (Evs.cons (Ev.ixT (ds := [_, _, _, _, _]) (Ev.lc rfl) Ev.k name_at) Evs.nil))) (hF f.name s1 (hn f hf)))
        (Ev.tup (Evs.cons (Ev.lc rfl) (Evs.cons (Ev.ixT (ds := [_, _, _, _, _]) (Ev.lc rfl) Ev.k name_at) Evs.nil)) (by show 2 ≤ LIM; decide)) (fd_plain (hn f hf)) (pair_plain (p := (i, f.name)) (hn f hf))) ?_, fun _ => Ev.tup (Evs.cons (Ev.lc rfl) (Evs.cons (Ev.ixT (ds := [_, _, _, _, _]) (Ev.lc rfl) Ev.k name_at) Evs.nil)) (by show 2 ≤ LIM; decide)⟩
      exact congrArg (fun z => D.bl (!z)) fd_eq
  rw [List.filter_map, List.map_map] at this
  unfold shdV
  rw [List.map_map]
  exact this
theorem cls_len (h : WOk w) : ∀ i l, w[i]? = some l → (clsV w i l).length ≤ 4 := fun i l hl => by
  have := (h.shelf l (List.mem_of_getElem? hl)).len
  unfold clsV
  rw [List.length_map]
  exact Nat.le_trans (List.length_filter_le _ _) this
theorem shd_len (h : WOk w) : ∀ i l, w[i]? = some l → (shdV w i l).length ≤ 4 := fun i l hl => by
  have := (h.shelf l (List.mem_of_getElem? hl)).len
  unfold shdV
  rw [List.length_map]
  exact Nat.le_trans (List.length_filter_le _ _) this
theorem cls_str (h : WOk w) : ∀ i l, w[i]? = some l → ∀ p ∈ clsV w i l, PyData.strOk p.2 = true := fun i l hl p hp => by
  obtain ⟨f, hf, rfl⟩ := List.mem_map.mp hp
  exact shelf_names h hl f (List.mem_filter.mp hf).1
theorem shd_str (h : WOk w) : ∀ i l, w[i]? = some l → ∀ p ∈ shdV w i l, PyData.strOk p.2 = true := fun i l hl p hp => by
  obtain ⟨f, hf, rfl⟩ := List.mem_map.mp hp
  exact shelf_names h hl f (List.mem_filter.mp hf).1
theorem S_call0 {C : Str → List D → Sto → R D} {ρ : Env} {s : Sto} {e : Ex} {x : D} {N : Env → Sto → Prop} {Rt : D → Sto → Prop} {Ct : Env → Sto → Prop} (h : Ev C ρ s e x) (k : ∀ s1, Ext s s1 → N ρ s1) : okS (exc C W (.exp e) ρ s) N Rt Ct := by
  rw [s_exp]
  exact ok_mono (h s (Ext.refl _)) fun u s1 ⟨e1, _⟩ => k s1 e1
theorem classes_says (hT : TCls T) (hW : 100 ≤ W) (h : WOk w) : FnL (callD T W (n + 7)) st "classes" [wd w] (srt ((classesV w).map pairD)) := by
  intro s0 h0
  refine call_ok hT.classes rfl ?_
  show okS (excs _ _ _ [some (wd w), none, none, none, none] _) _ _ _
  unfold p_classes
  rw [s_cons]
  refine S_call0 (Ev.call1 (Ev.lc rfl) (need_of hT.toTFiles h)) fun s1 e1 => ?_
  refine okS_mono (tail_says (C := callD T W (n + 6)) h.len (clsV w) (cls_len h) (cls_str h) fun i l hl q s => comp_eq h hl (fun x s hx => found_says hT.toTFind hW h (List.getElem?_eq_some_iff.mp hl).1 hx) q s) (fun _ _ z => z.elim) (fun x s' ⟨e2, m, hx, hm, hc⟩ => ⟨e1.trans e2, m, hx, Nat.le_trans e1.len hm, hc⟩) fun _ _ z => z.elim
theorem shadowed_says (hT : TCls T) (hW : 100 ≤ W) (h : WOk w) : FnL (callD T W (n + 7)) st "shadowed" [wd w] (srt ((shadowV w).map pairD)) := by
  intro s0 h0
  refine call_ok hT.shadowed rfl ?_
  show okS (excs _ _ _ [some (wd w), none, none, none, none] _) _ _ _
  unfold p_shadowed
  rw [s_cons]
  refine S_call0 (Ev.call1 (Ev.lc rfl) (need_of hT.toTFiles h)) fun s1 e1 => ?_
  refine okS_mono (tail_says (C := callD T W (n + 6)) h.len (shdV w) (shd_len h) (shd_str h) fun i l hl q s => comp_ne h hl (fun x s hx => found_says hT.toTFind hW h (List.getElem?_eq_some_iff.mp hl).1 hx) q s) (fun _ _ z => z.elim) (fun x s' ⟨e2, m, hx, hm, hc⟩ => ⟨e1.trans e2, m, hx, Nat.le_trans e1.len hm, hc⟩) fun _ _ z => z.elim
/-- the laws' list of classes -/
theorem lclasses_says (hT : TLine T) (hc : T "_law_classes" = some (.fn 1 5 l_classes)) (hW : 100 ≤ W) (h : WOk w) : FnL (callD T W (n + 3)) st "_law_classes" [wd w] (srt ((classesV w).map pairD)) := by
  intro s0 h0
  refine call_ok hc rfl ?_
  show okS (excs _ _ _ [some (wd w), none, none, none, none] _) _ _ _
  refine okS_mono (tail_says (C := callD T W (n + 2)) h.len (clsV w) (cls_len h) (cls_str h) fun i l hl q s => comp_eq h hl (fun x s hx => lfind_says hT hW h (List.getElem?_eq_some_iff.mp hl).1 hx) q s) (fun _ _ z => z.elim) (fun x s' z => z) fun _ _ z => z.elim
end
end IP.Q

/-! PrJ: the laws' helpers: rows, files, worlds: what they answer. -/
namespace IP.Q
open PySem
def fgV (i : Int) : Str := if i = 0 then "f" else "g"
def xyV (i : Int) : Str := if i = 0 then "x" else "y"
def pickV (ns : List Int) (k : Int) (xs : List Str) : Str := xs.getD (mixV ns k xs.length).toNat Str.empty
def rowV (ns : List Int) (k : Int) (xs : List Str) : Row :=
  if mixV ns k 12 < 4 then .put (fgV (mixV ns (k + 2) 2)) (mixV ns (k + 3) 100)
  else if mixV ns k 12 < 7 then .read (fgV (mixV ns (k + 2) 2)) (pickV ns (k + 1) xs) (fgV (mixV ns (k + 3) 2))
  else if mixV ns k 12 < 10 then .need (pickV ns (k + 1) xs)
  else if mixV ns (k + 3) 3 < 2 then .note (xyV (mixV ns (k + 2) 2)) else .fail (xyV (mixV ns (k + 2) 2))
structure TWorld (T : Tab) (fl : Sts) : Prop extends TDraw T where
  row : T "_law_row" = some (.fn 3 6 l_row)
  file : T "_law_file" = some (.fn 5 10 fl)
  world : T "_law_world" = some (.fn 5 15 l_world)
theorem fg_at {i : Int} (h0 : 0 ≤ i) (h1 : i < 2) : L2.atI [D.str "f", .str "g"] i = some (.str (fgV i)) := by
  have h : i = 0 ∨ i = 1 := by omega
  rcases h with rfl | rfl <;> rfl
theorem xy_at {i : Int} (h0 : 0 ≤ i) (h1 : i < 2) : L2.atI [D.str "x", .str "y"] i = some (.str (xyV i)) := by
  have h : i = 0 ∨ i = 1 := by omega
  rcases h with rfl | rfl <;> rfl
theorem nf_at {i : Int} (h0 : 0 ≤ i) (h1 : i < 3) : L2.atI [D.str "note", .str "note", .str "fail"] i = some (.str (if i < 2 then "note" else "fail")) := by
  have h : i = 0 ∨ i = 1 ∨ i = 2 := by omega
  rcases h with rfl | rfl | rfl <;> rfl
theorem strs_at {xs : List Str} {i : Int} (h0 : 0 ≤ i) (h1 : i < xs.length) : L2.atI (xs.map D.str) i = some (.str (xs.getD i.toNat Str.empty)) := by
  have h : (xs.map D.str).getD i.toNat (D.str Str.empty) = .str (xs.getD i.toNat Str.empty) := by
    simp only [List.getD_eq_getElem?_getD, List.getElem?_map]
    cases xs[i.toNat]? <;> rfl
  rw [atI_get (d := D.str Str.empty) h0 (by rw [List.length_map]; exact h1), h]
section
variable {T : Tab} {W n : Nat} {C : Str → List D → Sto → R D} {ρ : Env} {st : Sto} {a b e : Ex} {fl : Sts}
/-- a drawn number in an expression -/
theorem Ev.mix {ns : List Int} {k m : Int} {j : Nat} (hT : TDraw T) (hj : ρ[j]? = some (some (.ro ns))) (ha : Ev (callD T W (n + 2)) ρ st a (.int k)) (hb : Ev (callD T W (n + 2)) ρ st b (.int m)) (hk : 0 ≤ k) (hm : 0 < m) :
    Ev (callD T W (n + 2)) ρ st (.call "_law_mixed" (.cons (.lc j) (.cons a (.cons b .nil)))) (.int (mixV ns k m)) :=
  Ev.call (Evs.cons (Ev.lc hj) (Evs.cons ha (Evs.cons hb Evs.nil))) (mixed_says hT ns k m hk hm)
theorem row_says (hT : TWorld T fl) (ns : List Int) (k : Int) (hk : 0 ≤ k) {m : Nat} {xs : List Str} (hm : st[m]? = some (.lst (xs.map .str))) (hx : xs ≠ []) : Fn (callD T W (n + 3)) st "_law_row" [.ro ns, .int k, .ref m] (rowV ns k xs).d := by
  have hl : 0 < xs.length := List.length_pos_iff.mpr hx
  have tD := hT.toTDraw
  refine Fn.of hT.row rfl ?_
  show Bd _ _ [some (.ro ns), some (.int k), some (.ref m), none, none, none] _ _ _
  unfold l_row
  refine Bd.asg (Ev.mix tD rfl (Ev.lc rfl) Ev.k hk (by decide)) (fun s => rfl) ?_
  show Bd _ _ [some (.ro ns), some (.int k), some (.ref m), some (.int (mixV ns k 12)), none, none] _ _ _
  have hlen : ((xs.map D.str).length : Int) = xs.length := by rw [List.length_map]
  have p0 := mixV_nn ns (k + 1) (m := xs.length) (by omega)
  have p1 := mixV_lt ns (k + 1) (m := xs.length) (by omega)
  refine Bd.asg (x := .str (pickV ns (k + 1) xs)) (Ev.ixV (i := mixV ns (k + 1) xs.length) (Ev.lc rfl) hm (by rw [← hlen]; exact Ev.mix tD rfl (Ev.addI (Ev.lc rfl) Ev.k) (Ev.lenV (Ev.lc rfl) hm) (by omega) (by omega)) (strs_at p0 p1)) (fun s => rfl) ?_
  show Bd _ _ [some (.ro ns), some (.int k), some (.ref m), some (.int (mixV ns k 12)), some (.str (pickV ns (k + 1) xs)), none] _ _ _
  refine Bd.asg (x := .str (fgV (mixV ns (k + 2) 2))) (Ev.ixL (es := .nil) (EvL.lst (Evs.cons Ev.k (Evs.cons Ev.k Evs.nil)) (by decide)) (Ev.mix tD rfl (Ev.addI (Ev.lc rfl) Ev.k) Ev.k (by omega) (by decide)) (fg_at (mixV_nn _ _ (by decide)) (mixV_lt _ _ (by decide)))) (fun s => rfl) ?_
  show Bd _ _ [some (.ro ns), some (.int k), some (.ref m), some (.int (mixV ns k 12)), some (.str (pickV ns (k + 1) xs)), some (.str (fgV (mixV ns (k + 2) 2)))] _ _ _
  refine Bd.to (Bd.ife (Ev.ltI (Ev.lc rfl) Ev.k) (fun h => ⟨Bd.ret (Ev.tup (Evs.cons Ev.k (Evs.cons (Ev.lc rfl) (Evs.cons (Ev.mix tD rfl (Ev.addI (Ev.lc rfl) Ev.k) Ev.k (by omega) (by decide)) Evs.nil))) (by show 3 ≤ LIM; decide)), fun z => nomatch z⟩)
    fun h => Bd.ife (Ev.ltI (Ev.lc rfl) Ev.k) (fun h => ⟨Bd.ret (Ev.tup (Evs.cons Ev.k (Evs.cons (Ev.lc rfl) (Evs.cons (Ev.lc rfl) (Evs.cons (Ev.ixL (es := .nil) (EvL.lst (Evs.cons Ev.k (Evs.cons Ev.k Evs.nil)) (by decide)) (Ev.mix tD rfl (Ev.addI (Ev.lc rfl) Ev.k) Ev.k (by omega) (by decide)) (fg_at (mixV_nn _ _ (by decide)) (mixV_lt _ _ (by decide)))) Evs.nil)))) (by show 4 ≤ LIM; decide)), fun z => nomatch z⟩)
    fun h => Bd.ife (Ev.ltI (Ev.lc rfl) Ev.k) (fun h => ⟨Bd.ret (Ev.tup (Evs.cons Ev.k (Evs.cons (Ev.lc rfl) Evs.nil)) (by show 2 ≤ LIM; decide)), fun z => nomatch z⟩)
    fun h => Bd.ret (Ev.tup (Evs.cons (Ev.ixL (es := .nil) (EvL.lst (Evs.cons Ev.k (Evs.cons Ev.k (Evs.cons Ev.k Evs.nil))) (by decide)) (Ev.mix tD rfl (Ev.addI (Ev.lc rfl) Ev.k) Ev.k (by omega) (by decide)) (nf_at (mixV_nn _ _ (by decide)) (mixV_lt _ _ (by decide))))
      (Evs.cons (Ev.ixL (es := .nil) (EvL.lst (Evs.cons Ev.k (Evs.cons Ev.k Evs.nil)) (by decide)) (Ev.mix tD rfl (Ev.addI (Ev.lc rfl) Ev.k) Ev.k (by omega) (by decide)) (xy_at (mixV_nn _ _ (by decide)) (mixV_lt _ _ (by decide)))) Evs.nil)) (by show 2 ≤ LIM; decide))) ?_
  unfold rowV
  simp only [decide_eq_true_eq]
  split
  · rfl
  · split
    · rfl
    · split
      · rfl
      · split <;> rfl

/-! ### files -/
def lastV (xs : List Str) : Str := xs.getD (xs.length - 1) Str.empty
def faceV (ns : List Int) (k : Int) (xs : List Str) (x : Str) : Bool := if mixV ns (k + 1) 8 = 0 then decide (mixV ns k 2 = 0) else decide (x = lastV xs)
def aboveV (ns : List Int) (k : Int) (xs : List Str) (x : Str) : Option Str := if faceV ns k xs x = false ∧ mixV ns (k + 1) 3 = 0 then some (pickV ns (k + 2) xs) else none
def faces1 (ns : List Int) (k : Int) (xs : List Str) : List Str := if mixV ns (k + 3) 3 = 0 then [lastV xs] else []
def faces2 (ns : List Int) (k : Int) (xs : List Str) : List Str := faces1 ns k xs ++ if mixV ns (k + 3) 5 = 1 then [pickV ns (k + 4) xs] else []
def facesV (ns : List Int) (k : Int) (xs : List Str) : List Str := (faces2 ns k xs).take (distinct (faces2 ns k xs)).length
def rowsV (ns : List Int) (k : Int) (xs : List Str) (long : Int) : List Row := (List.range (mixV ns (k + 5) (long + 1)).toNat).map fun i : Nat => rowV ns (k + 10 + 5 * (i : Int)) xs
def fileV (ns : List Int) (k : Int) (xs : List Str) (x : Str) (long : Int) : File := ⟨faceV ns k xs x, x, aboveV ns k xs x, facesV ns k xs, rowsV ns k xs long⟩
theorem last_at {xs : List Str} (h : xs ≠ []) : L2.atI (xs.map D.str) (-1) = some (.str (lastV xs)) := by
  have hl : 0 < xs.length := List.length_pos_iff.mpr h
  unfold L2.atI L2.ixN
  rw [if_neg (by omega), if_pos (by rw [List.length_map]; omega)]
  show (xs.map D.str)[_]? = _
  rw [List.getElem?_map]
  have e : ((-1 : Int) + ((xs.map D.str).length : Nat)).toNat = xs.length - 1 := by rw [List.length_map]; omega
  rw [e]
  unfold lastV
  rw [List.getD_eq_getElem?_getD, List.getElem?_eq_getElem (by omega)]; rfl
theorem rngD_map : ∀ (n : Nat) (lo : Int), rngD lo n = (List.range n).map fun i : Nat => D.int (lo + (i : Int))
  | 0, _ => rfl
  | n + 1, lo => by
    rw [rngD, rngD_map n, List.range_succ_eq_map, List.map_cons, List.map_map]
    congr 1
    · simp
    · refine List.map_congr_left fun i _ => ?_
      show D.int _ = D.int _
      congr 1
      omega
theorem cutL_take {α : Type} (xs : List α) (j : Nat) : cutL xs none (some (j : Int)) = xs.take j := by
  unfold cutL
  rw [HT.sIx_nat]
  show (xs.drop 0).take (min j xs.length - 0) = _
  rw [List.drop_zero, Nat.sub_zero]
  by_cases h : j ≤ xs.length
  · rw [Nat.min_eq_left h]
  · rw [Nat.min_eq_right (by omega), List.take_length, List.take_of_length_le (by omega)]
theorem cutL_drop {α : Type} (xs : List α) (j : Nat) : cutL xs (some (j : Int)) none = xs.drop j := by
  unfold cutL
  rw [HT.sIx_nat]
  show (xs.drop (min j xs.length)).take (xs.length - min j xs.length) = _
  rw [List.take_of_length_le (by rw [List.length_drop]; exact Nat.le_refl _)]
  by_cases h : j ≤ xs.length
  · rw [Nat.min_eq_left h]
  · rw [Nat.min_eq_right (by omega), List.drop_length, List.drop_eq_nil_of_le (by omega)]
theorem toNat_cast {i : Int} (h : 0 ≤ i) : ((i.toNat : Nat) : Int) = i := by omega
/-- `_law_file`, whatever its names -/
theorem file_says (hT : TWorld T l_file) (ns : List Int) (k : Int) (hk : 0 ≤ k) {m : Nat} {xs : List Str} (hm : st[m]? = some (.lst (xs.map .str))) (hx : xs ≠ []) (hxs : ∀ x ∈ xs, PyData.strOk x = true) (x : Str) (hxo : PyData.strOk x = true) (long : Int) (h0 : 0 ≤ long) (h1 : long ≤ 100) :
    Fn (callD T W (n + 4)) st "_law_file" [.ro ns, .int k, .ref m, .str x, .int long] (fileV ns k xs x long).d := by
  have hl : 0 < xs.length := List.length_pos_iff.mpr hx
  have tD := hT.toTDraw
  have hlast : PyData.strOk (lastV xs) = true := by
    refine hxs _ ?_
    unfold lastV
    rw [List.getD_eq_getElem?_getD, List.getElem?_eq_getElem (by omega)]
    exact List.getElem_mem _
  intro s hs
  have hm := hs.at_ hm
  refine call_ok hT.file rfl ?_
  show okS (excs _ _ _ [some (.ro ns), some (.int k), some (.ref m), some (.str x), some (.int long), none, none, none, none, none] _) _ _ _
  unfold l_file
  rw [s_cons]
  refine S_asg (Ext.refl _) Ev.k fun s1 e1 => ⟨_, rfl, ?_⟩
  show okS (excs _ _ _ [some (.ro ns), some (.int k), some (.ref m), some (.str x), some (.int long), some (.str (kindV false)), none, none, none, none] _) _ _ _
  rw [s_cons]
  have hlen : ((xs.map D.str).length : Int) = xs.length := by rw [List.length_map]
  have hf : L2.atI [D.bl (decide (D.str x = .str (lastV xs))), .bl (decide (D.int (mixV ns k 2) = .int 0))] (if decide (D.int (mixV ns (k + 1) 8) = .int 0) then 1 else 0) = some (.bl (faceV ns k xs x)) := by
    unfold faceV
    by_cases h : mixV ns (k + 1) 8 = 0 <;> simp [h, L2.atI, L2.ixN]
  have hm1 := e1.at_ hm
  refine S_ifeP (p := faceV ns k xs x) (fun ρ' s2 => ρ' = [some (.ro ns), some (.int k), some (.ref m), some (.str x), some (.int long), some (.str (kindV (faceV ns k xs x))), none, none, none, none] ∧ Ext s1 s2) (Ext.refl _)
    (Ev.ixL (es := .nil) (EvL.lst (Evs.cons (Ev.eq (n := 0) (m := 0) (Ev.lc rfl) (Ev.ixV (Ev.lc rfl) hm1 (Ev.neg Ev.k) (last_at hx)) (by unfold plainT; exact hxo) (by unfold plainT; exact hlast))
      (Evs.cons (Ev.eq (n := 0) (m := 0) (Ev.mix tD rfl (Ev.lc rfl) Ev.k hk (by decide)) Ev.k plain_int plain_int) Evs.nil)) (by show 2 ≤ LIM; decide))
      (Ev.intB (Ev.eq (n := 0) (m := 0) (Ev.mix tD rfl (Ev.addI (Ev.lc rfl) Ev.k) Ev.k (by omega) (by decide)) Ev.k plain_int plain_int)) hf) (fun hp s2 e2 => ?_) (fun hp s2 e2 => ?_) ?_
  · rw [s_cons]
    refine S_asg (Ext.refl _) Ev.k fun s3 e3 => ⟨_, rfl, ?_⟩
    rw [s_nil, hp]
    exact ⟨rfl, e2.trans e3⟩
  · rw [s_nil, hp]
    exact ⟨rfl, e2⟩
  rintro _ s2 ⟨rfl, e2⟩
  rw [s_cons]
  refine S_asg (Ext.refl _) Ev.k fun s3 e3 => ⟨_, rfl, ?_⟩
  show okS (excs _ _ _ [some (.ro ns), some (.int k), some (.ref m), some (.str x), some (.int long), some (.str (kindV (faceV ns k xs x))), some (optS none), none, none, none] _) _ _ _
  rw [s_cons]
  have hm3 := (e2.trans e3).at_ hm1
  have p0 := mixV_nn ns (k + 2) (m := xs.length) (by omega)
  have p1 := mixV_lt ns (k + 2) (m := xs.length) (by omega)
  have ek : decide (D.str (kindV (faceV ns k xs x)) = .str "class") = !faceV ns k xs x := by cases faceV ns k xs x <;> rfl
  refine S_ifeP (p := !faceV ns k xs x && decide (mixV ns (k + 1) 3 = 0)) (fun ρ' s4 => ρ' = [some (.ro ns), some (.int k), some (.ref m), some (.str x), some (.int long), some (.str (kindV (faceV ns k xs x))), some (optS (aboveV ns k xs x)), none, none, none] ∧ Ext s3 s4) (Ext.refl _)
    (Ev.and (Ev.to (Ev.eq (n := 0) (m := 0) (Ev.lc rfl) Ev.k (plain_str (by cases faceV ns k xs x <;> decide +kernel)) (plain_str (by decide +kernel))) (by rw [ek])) fun _ => Ev.to (Ev.eq (n := 0) (m := 0) (Ev.mix tD rfl (Ev.addI (Ev.lc rfl) Ev.k) Ev.k (by omega) (by decide)) Ev.k plain_int plain_int) (by simp)) (fun hp s4 e4 => ?_) (fun hp s4 e4 => ?_) ?_
  · rw [s_cons]
    have hm4 := e4.at_ hm3
    refine S_asg (x := .str (pickV ns (k + 2) xs)) (Ext.refl _) (Ev.ixV (i := mixV ns (k + 2) xs.length) (Ev.lc rfl) hm4 (by rw [← hlen]; exact Ev.mix tD rfl (Ev.addI (Ev.lc rfl) Ev.k) (Ev.lenV (Ev.lc rfl) hm4) (by omega) (by omega)) (strs_at p0 p1)) fun s5 e5 => ⟨_, rfl, ?_⟩
    rw [s_nil]
    refine ⟨?_, e4.trans e5⟩
    unfold aboveV
    simp only [Bool.and_eq_true, Bool.not_eq_true', decide_eq_true_eq] at hp
    rw [if_pos hp]; rfl
  · rw [s_nil]
    refine ⟨?_, e4⟩
    unfold aboveV
    rw [if_neg (by simpa using hp)]
  rintro _ s4 ⟨rfl, e4⟩
  rw [s_cons]
  refine S_asgL (EvL.lst Evs.nil (Nat.zero_le _)) (by simp) fun s5 q e5 hq hc => ?_
  show okS (excs _ _ _ [some (.ro ns), some (.int k), some (.ref m), some (.str x), some (.int long), some (.str (kindV (faceV ns k xs x))), some (optS (aboveV ns k xs x)), some (.ref q), none, none] _) _ _ _
  have e15 := (e2.trans e3).trans (e4.trans e5)
  have hq1 : s1.length ≤ q := Nat.le_trans ((e2.trans e3).trans e4).len hq
  have hmq : m < s1.length := (List.getElem?_eq_some_iff.mp hm1).1
  rw [s_cons]
  refine S_ifeP (p := decide (mixV ns (k + 3) 3 = 0)) (fun ρ' s6 => ρ' = [some (.ro ns), some (.int k), some (.ref m), some (.str x), some (.int long), some (.str (kindV (faceV ns k xs x))), some (optS (aboveV ns k xs x)), some (.ref q), none, none] ∧ Ext s1 s6 ∧ s6[q]? = some (.lst ((faces1 ns k xs).map .str))) (Ext.refl _)
    (Ev.to (Ev.eq (n := 0) (m := 0) (Ev.mix tD rfl (Ev.addI (Ev.lc rfl) Ev.k) Ev.k (by omega) (by decide)) Ev.k plain_int plain_int) (by simp)) (fun hp s6 e6 => ?_) (fun hp s6 e6 => ?_) ?_
  · rw [s_cons]
    refine S_app rfl (e6.at_ hc) (Ev.ixV (Ev.lc rfl) ((e15.trans e6).at_ hm1) (Ev.neg Ev.k) (last_at hx)) (by decide) fun s7 e7 => ?_
    rw [s_nil]
    have e17 := (e15.trans e6).trans e7
    refine ⟨rfl, e17.set hq1, ?_⟩
    rw [List.getElem?_set_self (List.getElem?_eq_some_iff.mp ((e6.trans e7).at_ hc)).1]
    unfold faces1
    rw [if_pos (of_decide_eq_true hp)]; rfl
  · rw [s_nil]
    refine ⟨rfl, e15.trans e6, ?_⟩
    unfold faces1
    rw [if_neg (of_decide_eq_false hp)]
    exact e6.at_ hc
  rintro _ s6 ⟨rfl, e16, hc6⟩
  rw [s_cons]
  have r0 := mixV_nn ns (k + 4) (m := xs.length) (by omega)
  have r1 := mixV_lt ns (k + 4) (m := xs.length) (by omega)
  refine S_ifeP (p := decide (mixV ns (k + 3) 5 = 1)) (fun ρ' s7 => ρ' = [some (.ro ns), some (.int k), some (.ref m), some (.str x), some (.int long), some (.str (kindV (faceV ns k xs x))), some (optS (aboveV ns k xs x)), some (.ref q), none, none] ∧ Ext s1 s7 ∧ s7[q]? = some (.lst ((faces2 ns k xs).map .str))) (Ext.refl _)
    (Ev.to (Ev.eq (n := 0) (m := 0) (Ev.mix tD rfl (Ev.addI (Ev.lc rfl) Ev.k) Ev.k (by omega) (by decide)) Ev.k plain_int plain_int) (by simp)) (fun hp s7 e7 => ?_) (fun hp s7 e7 => ?_) ?_
  · rw [s_cons]
    have hm7 := (e16.trans e7).at_ hm1
    refine S_app (x := .str (pickV ns (k + 4) xs)) rfl (e7.at_ hc6) (Ev.ixV (i := mixV ns (k + 4) xs.length) (Ev.lc rfl) hm7 (by rw [← hlen]; exact Ev.mix tD rfl (Ev.addI (Ev.lc rfl) Ev.k) (Ev.lenV (Ev.lc rfl) hm7) (by omega) (by omega)) (strs_at r0 r1))
      (by rw [List.length_map]; unfold faces1 LIM; split <;> simp) fun s8 e8 => ?_
    rw [s_nil]
    have e18 := (e16.trans e7).trans e8
    refine ⟨rfl, e18.set hq1, ?_⟩
    rw [List.getElem?_set_self (List.getElem?_eq_some_iff.mp ((e7.trans e8).at_ hc6)).1]
    unfold faces2
    rw [if_pos (of_decide_eq_true hp), List.map_append]; rfl
  · rw [s_nil]
    refine ⟨rfl, e16.trans e7, ?_⟩
    unfold faces2
    rw [if_neg (of_decide_eq_false hp), List.append_nil]
    exact e7.at_ hc6
  rintro _ s7 ⟨rfl, e17, hc7⟩
  rw [s_cons]
  have f2 : (faces2 ns k xs).length ≤ 100 := by
    unfold faces2 faces1
    split <;> split <;> simp
  refine S_asgL (EvL.slV (l := none) (h := some ((distinct (faces2 ns k xs)).length : Int)) (Ev.lc rfl) hc7 (fun s Q h1 h2 => evo_none h2) (fun s Q h1 h2 => evo_some h1 (Ev.lsetV (Ev.lc rfl) hc7 f2) h2)) (by simp) fun s8 q2 e8 hq2 hc8 => ?_
  rw [cutL_take, ← List.map_take] at hc8
  show okS (excs _ _ _ [some (.ro ns), some (.int k), some (.ref m), some (.str x), some (.int long), some (.str (kindV (faceV ns k xs x))), some (optS (aboveV ns k xs x)), some (.ref q2), none, none] _) _ _ _
  rw [s_cons]
  have hm8 := (e17.trans e8).at_ hm1
  have t0 := mixV_nn ns (k + 5) (m := long + 1) (by omega)
  have t1 := mixV_lt ns (k + 5) (m := long + 1) (by omega)
  refine S_asg (x := .tup ((rowsV ns k xs long).map Row.d)) (Ext.refl _) (Ev.to (Ev.tupL (EvL.map (fun d => match d with | .int i => (rowV ns (k + 10 + 5 * i) xs).d | _ => .non) (Evi.rng (Ev.mix tD rfl (Ev.addI (Ev.lc rfl) Ev.k) (Ev.addI (Ev.lc rfl) Ev.k) (by omega) (by omega)) (decide_eq_true (by omega))) ?_ ?_)) ?_) fun s9 e9 => ⟨_, rfl, ?_⟩
  · rw [rng_len]; unfold LIM; omega
  · intro d hd s9 e9
    obtain ⟨i, hi, hd⟩ := List.mem_iff_getElem?.mp hd |>.imp fun i h => (⟨(rng_at _ _ _ _ h).1, (rng_at _ _ _ _ h).2⟩ : _ ∧ _)
    subst hd
    rw [Int.zero_add]
    refine ⟨[some (.ro ns), some (.int k), some (.ref m), some (.str x), some (.int long), some (.str (kindV (faceV ns k xs x))), some (optS (aboveV ns k xs x)), some (.ref q2), none, some (.int (i : Int))], rfl, ?_⟩
    exact Ev.call (Evs.cons (Ev.lc rfl) (Evs.cons (Ev.addI (Ev.addI (Ev.lc rfl) Ev.k) (Ev.mulI Ev.k (Ev.lc rfl) (mulOk_l (by decide) (by decide)))) (Evs.cons (Ev.lc rfl) Evs.nil))) (row_says hT ns _ (by omega) (e9.at_ hm8) hx)
  · unfold rowsV
    rw [rngD_map, List.map_map, List.map_map]
    congr 1
    refine List.map_congr_left fun i _ => ?_
    show (rowV ns (k + 10 + 5 * (0 + (i : Int))) xs).d = _
    rw [Int.zero_add]; rfl
  show okS (excs _ _ _ [some (.ro ns), some (.int k), some (.ref m), some (.str x), some (.int long), some (.str (kindV (faceV ns k xs x))), some (optS (aboveV ns k xs x)), some (.ref q2), some (.tup ((rowsV ns k xs long).map Row.d)), none] _) _ _ _
  rw [s_cons]
  refine S_ret (Ext.refl _) (Ev.tup (Evs.cons (Ev.lc rfl) (Evs.cons (Ev.lc rfl) (Evs.cons (Ev.lc rfl) (Evs.cons (Ev.tupV (Ev.lc rfl) (e9.at_ hc8)) (Evs.cons (Ev.lc rfl) Evs.nil))))) (by show 5 ≤ LIM; decide)) fun s10 e10 => ⟨?_, rfl⟩
  exact e1.trans (((e17.trans e8).trans e9).trans e10)
end
end IP.Q

/-! PrS: a class's file, what stands above it. -/
namespace IP.Q
open PySem
abbrev Cls := Nat × Str
/-- c is a class: its loader finds it at itself -/
structure Real (w : Wld) (c : Cls) : Prop where
  lt : c.1 < w.length
  fd : foundV w c.1 c.2 = some c.1
instance : Inhabited File := ⟨⟨false, Str.empty, none, [], []⟩⟩
def fileOf (w : Wld) (c : Cls) : File := (fileOn (shelfAt w c.1) c.2).getD default
theorem find_some {w : Wld} {l o : Nat} {x : Str} (h : foundV w l x = some o) : o ∈ line w l ∧ (fileOn (shelfAt w o) x).isSome = true := ⟨List.mem_of_find?_eq_some h, List.find?_some (p := fun o => (fileOn (shelfAt w o) x).isSome) h⟩
theorem Real.file {w : Wld} {c : Cls} (h : Real w c) : fileOn (shelfAt w c.1) c.2 = some (fileOf w c) := by
  have := (find_some h.fd).2
  unfold fileOf
  cases hf : fileOn (shelfAt w c.1) c.2 with
  | none => rw [hf] at this; cases this
  | some f => rfl
theorem Real.mem {w : Wld} {c : Cls} (h : Real w c) : fileOf w c ∈ (w[c.1]'h.lt).shelf ∧ (fileOf w c).name = c.2 := by
  have hf := h.file
  rw [shelf_get h.lt] at hf
  unfold fileOn at hf
  exact ⟨List.mem_of_find?_eq_some hf, of_decide_eq_true (List.find?_some (p := fun f : File => decide (f.name = c.2)) hf)⟩
theorem Real.ok {w : Wld} {c : Cls} (hw : WOk w) (h : Real w c) : (fileOf w c).ok := (hw.shelf _ (List.getElem_mem h.lt)).files _ h.mem.1
theorem Real.str {w : Wld} {c : Cls} (hw : WOk w) (h : Real w c) : PyData.strOk c.2 = true := by
  rw [← h.mem.2]
  exact word_ok (h.ok hw).name
/-- the line of what is in the line -/
theorem line_pre {w : Wld} (h : WOk w) : ∀ l, l < w.length → ∀ o ∈ line w l, ∃ r, line w l = line w o ++ r := by
  intro l
  induction l using Nat.strongRecOn with
  | ind l ih =>
    intro hl o ho
    have hw : w[l]? = some w[l] := List.getElem?_eq_getElem hl
    have e := line_eq h hl
    cases hp : w[l].par with
    | none =>
      rw [hp] at e
      dsimp only at e
      rw [e] at ho
      have : o = l := by simpa using ho
      subst this
      exact ⟨[], by simp⟩
    | some p =>
      obtain ⟨k1, k2⟩ := h.par l w[l] p hw hp
      rw [hp] at e
      dsimp only at e
      rw [e] at ho
      rcases List.mem_append.mp ho with ho | ho
      · obtain ⟨r, hr⟩ := ih p.toNat (by omega) (by omega) o ho
        exact ⟨r ++ [l], by rw [e, hr, List.append_assoc]⟩
      · have : o = l := by simpa using ho
        subst this
        exact ⟨[], by simp⟩
theorem line_last {w : Wld} (h : WOk w) {l : Nat} (hl : l < w.length) : ∃ r, line w l = r ++ [l] := by
  rw [line_eq h hl]
  cases hp : w[l].par with
  | none => exact ⟨[], rfl⟩
  | some p => exact ⟨_, rfl⟩
/-- what is found is found at its own loader as itself -/
theorem found_real {w : Wld} (h : WOk w) {l o : Nat} (hl : l < w.length) {x : Str} (hf : foundV w l x = some o) : Real w (o, x) := by
  obtain ⟨h1, h2⟩ := find_some hf
  have ho : o < w.length := by have := line_lt h l hl o h1; omega
  refine ⟨ho, ?_⟩
  obtain ⟨r, hr⟩ := line_pre h l hl o h1
  obtain ⟨s, hs⟩ := line_last h ho
  unfold foundV at hf ⊢
  rw [hr, List.find?_append] at hf
  cases hq : (line w o).find? fun o => (fileOn (shelfAt w o) x).isSome with
  | some o2 => rw [hq] at hf; exact hf
  | none =>
    rw [List.find?_eq_none] at hq
    exact absurd h2 (hq o (by rw [hs]; simp))
def abvV (w : Wld) (c : Cls) : List (Str × Str) := (match (fileOf w c).above with
  | some a => [((a, "class") : Str × Str)]
  | none => []) ++ (fileOf w c).faces.map fun x => ((x, "face") : Str × Str)
def ssD (p : Str × Str) : D := .tup [.str p.1, .str p.2]
theorem abv_len {w : Wld} {c : Cls} (hw : WOk w) (h : Real w c) : (abvV w c).length ≤ 3 := by
  have := (h.ok hw).faces2
  unfold abvV
  rw [List.length_append, List.length_map]
  split <;> simp <;> omega
theorem abv_str {w : Wld} {c : Cls} (hw : WOk w) (h : Real w c) : ∀ p ∈ abvV w c, PyData.strOk p.1 = true ∧ PyData.strOk p.2 = true := by
  intro p hp
  have ho := h.ok hw
  unfold abvV at hp
  rcases List.mem_append.mp hp with hp | hp
  · split at hp
    · rename_i a ha
      rw [List.mem_singleton.mp hp]
      exact ⟨word_ok (ho.above a ha).2, show PyData.strOk ("class" : Str) = true by decide +kernel⟩
    · cases hp
  · obtain ⟨x, hx, rfl⟩ := List.mem_map.mp hp
    exact ⟨word_ok (ho.faces x hx), show PyData.strOk ("face" : Str) = true by decide +kernel⟩
structure TAbove (T : Tab) : Prop extends TFind T where
  file_of : T "file_of" = some (.fn 2 2 p_file_of)
  above_all : T "above_all" = some (.fn 2 9 p_above_all)
structure LAbove (T : Tab) : Prop extends TLine T where
  lfile_of : T "_law_file_of" = some (.fn 2 2 l_file_of)
  labove : T "_law_above" = some (.fn 2 5 l_above)
section
variable {T : Tab} {W n : Nat} {C : Str → List D → Sto → R D} {ρ : Env} {st : Sto} {a b e : Ex} {w : Wld} {c : Cls}
theorem pair0 : L2.atI [D.int (c.1 : Int), .str c.2] 0 = some (.int (c.1 : Int)) := rfl
theorem pair1 : L2.atI [D.int (c.1 : Int), .str c.2] 1 = some (.str c.2) := rfl
theorem file_of_says (hT : TAbove T) (hw : WOk w) (h : Real w c) : Fn (callD T W (n + 2)) st "file_of" [wd w, pairD c] (fileOf w c).d := by
  refine Fn.of hT.file_of rfl ?_
  show Bd _ _ [some (wd w), some (pairD c)] _ _ _
  unfold p_file_of
  have hf : Fn (callD T W (n + 1)) st "file_on" [.tup ((w[c.1]'h.lt).shelf.map File.d), .str c.2] (optF (fileOn (w[c.1]'h.lt).shelf c.2)) := file_on_of hT.toTFiles (by rw [← shelf_get h.lt]; exact names_ok hw h.lt) (h.str hw)
  have e1 : optF (fileOn (w[c.1]'h.lt).shelf c.2) = (fileOf w c).d := by rw [← shelf_get h.lt, h.file]; rfl
  rw [e1] at hf
  exact Bd.ret (Ev.call (Evs.cons (Ev.ixT (ds := [_, _]) (Ev.ixT (Ev.lc rfl) (Ev.ixT (ds := [_, _]) (Ev.lc rfl) Ev.k pair0) (world_at h.lt)) Ev.k shelf_at) (Evs.cons (Ev.ixT (ds := [_, _]) (Ev.lc rfl) Ev.k pair1) Evs.nil)) hf)
theorem filter_one {s : List File} (hn : (s.map (·.name)).Nodup) {x : Str} {f : File} (hf : fileOn s x = some f) : ∃ r, (s.filter fun g => decide (g.name = x)) = f :: r := by
  unfold fileOn at hf
  rw [← List.head?_filter] at hf
  cases hq : s.filter fun g => decide (g.name = x) with
  | nil => rw [hq] at hf; cases hf
  | cons g r => rw [hq] at hf; cases hf; exact ⟨r, rfl⟩
theorem lfile_of_says (hT : LAbove T) (hw : WOk w) (h : Real w c) : Fn (callD T W (n + 2)) st "_law_file_of" [wd w, pairD c] (fileOf w c).d := by
  refine Fn.of hT.lfile_of rfl ?_
  show Bd _ _ [some (wd w), some (pairD c)] _ _ _
  unfold l_file_of
  have hs := hw.shelf _ (List.getElem_mem h.lt)
  have hf := h.file
  rw [shelf_get h.lt] at hf
  obtain ⟨r, hr⟩ := filter_one hs.nd hf
  have ho := on_says (T := T) (W := W) (n := n) (st := st) hT.toTLine (s := (w[c.1]'h.lt).shelf) (by rw [← shelf_get h.lt]; exact names_ok hw h.lt) (by have := hs.len; omega) (h.str hw)
  rw [hr] at ho
  exact Bd.ret (Ev.ixL (es := .nil) (EvL.call (Evs.cons (Ev.ixT (ds := [_, _]) (Ev.ixT (Ev.lc rfl) (Ev.ixT (ds := [_, _]) (Ev.lc rfl) Ev.k pair0) (world_at h.lt)) Ev.k shelf_at) (Evs.cons (Ev.ixT (ds := [_, _]) (Ev.lc rfl) Ev.k pair1) Evs.nil)) ho) Ev.k at0)
/-- a list in a variable behind a new one -/
theorem EvL.addV {ds es : List D} {m : Nat} (ha : EvL C ρ st a ds) (hb : Ev C ρ st b (.ref m)) (hm : st[m]? = some (.lst es)) (h : ds.length + es.length ≤ LIM) : EvL C ρ st (.bin .add a b) (ds ++ es) := fun s hs => by
  rw [w_bin]
  refine ok_mono (ha s hs) fun u s1 ⟨e1, i, hu, hn, hc⟩ => ?_
  subst hu
  refine ok_mono (hb s1 (hs.trans e1)) fun v s2 ⟨e2, hv⟩ => ?_
  subst hv
  simp only [binD, e2.at_ hc, ((hs.trans e1).trans e2).at_ hm, h, if_true, ok_ok]
  exact ⟨(e1.trans e2).trans (Ext.more _), _, rfl, ((hs.trans e1).trans e2).len, by rw [List.getElem?_append_right (Nat.le_refl _)]; simp⟩
theorem EvL.vadd {ds es : List D} {m : Nat} (ha : Ev C ρ st a (.ref m)) (hm : st[m]? = some (.lst ds)) (hb : EvL C ρ st b es) (h : ds.length + es.length ≤ LIM) : EvL C ρ st (.bin .add a b) (ds ++ es) := fun s hs => by
  rw [w_bin]
  refine ok_mono (ha s hs) fun u s1 ⟨e1, hu⟩ => ?_
  subst hu
  refine ok_mono (hb s1 (hs.trans e1)) fun v s2 ⟨e2, i, hv, hn, hc⟩ => ?_
  subst hv
  simp only [binD, ((hs.trans e1).trans e2).at_ hm, hc, h, if_true, ok_ok]
  exact ⟨(e1.trans e2).trans (Ext.more _), _, rfl, ((hs.trans e1).trans e2).len, by rw [List.getElem?_append_right (Nat.le_refl _)]; simp⟩
theorem EvL.slL {ds : List D} {l h : Option Int} {el eh : Exo} (ha : EvL C ρ st a ds) (hl : ∀ s (Q : Option Int → Sto → Prop), Ext st s → (∀ s', Ext s s' → Q l s') → ok (evo C el ρ s) Q) (hh : ∀ s (Q : Option Int → Sto → Prop), Ext st s → (∀ s', Ext s s' → Q h s') → ok (evo C eh ρ s) Q) :
    EvL C ρ st (.sl a el eh) (cutL ds l h) := fun s hs => by
  rw [w_sl]
  refine ok_mono (ha s hs) fun u s1 ⟨e1, m, hu, hn, hm⟩ => ?_
  subst hu
  refine hl s1 _ (hs.trans e1) fun s2 e2 => hh s2 _ ((hs.trans e1).trans e2) fun s3 e3 => ?_
  simp only [slD, (e2.trans e3).at_ hm, ok_ok]
  exact ⟨(e1.trans (e2.trans e3)).trans (Ext.more _), _, rfl, ((hs.trans e1).trans (e2.trans e3)).len, by rw [List.getElem?_append_right (Nat.le_refl _)]; simp⟩
theorem above_says (hT : TAbove T) (hw : WOk w) (h : Real w c) : FnL (callD T W (n + 3)) st "above_all" [wd w, pairD c] ((abvV w c).map ssD) := by
  have ho := h.ok hw
  have hf2 := ho.faces2
  intro s hs
  refine call_ok hT.above_all rfl ?_
  show okS (excs _ _ _ [some (wd w), some (pairD c), none, none, none, none, none, none, none] _) _ _ _
  unfold p_above_all
  rw [s_cons]
  refine S_asg (Ext.refl _) (Ev.call (Evs.cons (Ev.lc rfl) (Evs.cons (Ev.lc rfl) Evs.nil)) (file_of_says hT hw h)) fun s1 e1 => ⟨_, rfl, ?_⟩
  generalize hfo : fileOf w c = f at ho hf2
  show okS (excs _ _ _ [some (wd w), some (pairD c), some (.str (kindV f.face)), some (.str f.name), some (optS f.above), some (.tup (f.faces.map .str)), some (.tup (f.rows.map Row.d)), none, none] _) _ _ _
  rw [s_cons]
  have hm := EvL.map (C := callD T W (n + 2)) (ρ := [some (wd w), some (pairD c), some (.str (kindV f.face)), some (.str f.name), some (optS f.above), some (.tup (f.faces.map .str)), some (.tup (f.rows.map Row.d)), none, none]) (st := s1) (e := .tup (.cons (.lc 8) (.cons (.k (.str "face")) .nil))) (t := .nm 8) (it := .val (.lc 5)) (own := [8]) (fun d => .tup [d, .str "face"]) (Evi.tup (Ev.lc rfl))
    (by rw [List.length_map]; unfold LIM; omega) fun d hd s2 e2 => ⟨_, rfl, Ev.tup (Evs.cons (Ev.lc rfl) (Evs.cons Ev.k Evs.nil)) (by show 2 ≤ LIM; decide)⟩
  refine S_asgL hm (by simp) fun s2 q e2 hq hc => ?_
  show okS (excs _ _ _ [some (wd w), some (pairD c), some (.str (kindV f.face)), some (.str f.name), some (optS f.above), some (.tup (f.faces.map .str)), some (.tup (f.rows.map Row.d)), some (.ref q), none] _) _ _ _
  have hc : s2[q]? = some (.lst ((f.faces.map fun x => (x, ("face" : Str))).map ssD)) := by
    rw [hc, List.map_map, List.map_map]; rfl
  rw [s_cons]
  have hab : abvV w c = (match f.above with | some a => [((a, "class") : Str × Str)] | none => []) ++ f.faces.map fun x => ((x, "face") : Str × Str) := by unfold abvV; rw [hfo]
  refine S_ifeP (p := !decide (optS f.above = .non)) (fun ρ' s3 => ∃ q2, ρ' = [some (wd w), some (pairD c), some (.str (kindV f.face)), some (.str f.name), some (optS f.above), some (.tup (f.faces.map .str)), some (.tup (f.rows.map Row.d)), some (.ref q2), none] ∧ Ext s s3 ∧ s.length ≤ q2 ∧ s3[q2]? = some (.lst ((abvV w c).map ssD))) (Ext.refl _)
    (Ev.notN (Ev.lc rfl)) (fun hp s3 e3 => ?_) (fun hp s3 e3 => ?_) ?_
  · rw [s_cons]
    cases ha : f.above with
    | none => rw [ha] at hp; cases hp
    | some z =>
      refine S_asgL (EvL.addV (EvL.lst (Evs.cons (Ev.tup (Evs.cons (Ev.lc rfl) (Evs.cons Ev.k Evs.nil)) (by show 2 ≤ LIM; decide)) Evs.nil) (by show 1 ≤ LIM; decide)) (Ev.lc rfl) (e3.at_ hc) (by simp; unfold LIM; omega)) (by simp) fun s4 q4 e4 hq4 hc4 => ?_
      rw [s_nil]
      refine ⟨q4, rfl, e1.trans (e2.trans (e3.trans e4)), Nat.le_trans (e1.trans (e2.trans e3)).len hq4, ?_⟩
      rw [hc4, hab, ha]; rfl
  · rw [s_nil]
    cases ha : f.above with
    | some z => rw [ha] at hp; cases hp
    | none =>
      refine ⟨q, rfl, e1.trans (e2.trans e3), Nat.le_trans e1.len hq, ?_⟩
      rw [e3.at_ hc, hab, ha]; rfl
  · rintro _ s3 ⟨q2, rfl, e3, hq2, hc3⟩
    rw [s_cons, s_ret, w_lc (d := .ref q2) rfl]
    exact ⟨e3, q2, rfl, hq2, hc3⟩
theorem labove_says (hT : LAbove T) (hw : WOk w) (h : Real w c) : FnL (callD T W (n + 3)) st "_law_above" [wd w, pairD c] ((abvV w c).map ssD) := by
  have ho := h.ok hw
  have hf2 := ho.faces2
  intro s hs
  refine call_ok hT.labove rfl ?_
  show okS (excs _ _ _ [some (wd w), some (pairD c), none, none, none] _) _ _ _
  unfold l_above
  rw [s_cons]
  refine S_asg (Ext.refl _) (Ev.call (Evs.cons (Ev.lc rfl) (Evs.cons (Ev.lc rfl) Evs.nil)) (lfile_of_says hT hw h)) fun s1 e1 => ⟨_, rfl, ?_⟩
  generalize hfo : fileOf w c = f at ho hf2
  show okS (excs _ _ _ [some (wd w), some (pairD c), some f.d, none, none] _) _ _ _
  rw [s_cons]
  have hm := EvL.map (C := callD T W (n + 2)) (ρ := [some (wd w), some (pairD c), some f.d, none, none]) (st := s1) (e := .tup (.cons (.lc 4) (.cons (.k (.str "face")) .nil))) (t := .nm 4) (it := .val (.ix (.lc 2) (.k (.int 3)))) (own := [4]) (fun d => .tup [d, .str "face"]) (Evi.tup (Ev.ixT (ds := [_, _, _, _, _]) (d := .tup (f.faces.map .str)) (Ev.lc rfl) Ev.k rfl))
    (by rw [List.length_map]; unfold LIM; omega) fun d hd s2 e2 => ⟨_, rfl, Ev.tup (Evs.cons (Ev.lc rfl) (Evs.cons Ev.k Evs.nil)) (by show 2 ≤ LIM; decide)⟩
  refine S_asgL hm (by simp) fun s2 q e2 hq hc => ?_
  show okS (excs _ _ _ [some (wd w), some (pairD c), some f.d, some (.ref q), none] _) _ _ _
  have hc : s2[q]? = some (.lst ((f.faces.map fun x => (x, ("face" : Str))).map ssD)) := by
    rw [hc, List.map_map, List.map_map]; rfl
  have hab : abvV w c = (match f.above with | some a => [((a, "class") : Str × Str)] | none => []) ++ f.faces.map fun x => ((x, "face") : Str × Str) := by unfold abvV; rw [hfo]
  have c2 : ∀ s3, Ev (callD T W (n + 2)) [some (wd w), some (pairD c), some f.d, some (.ref q), none] s3 (.ix (.lc 2) (.k (.int 2))) (optS f.above) := fun s3 => Ev.ixT (ds := [_, _, _, _, _]) (Ev.lc rfl) Ev.k rfl
  rw [s_cons, s_ret]
  have hlst := EvL.addV (b := .lc 3) (m := q) (EvL.slL (l := none) (h := some (((if f.above.isSome then 1 else 0) : Nat) : Int)) (EvL.lst (Evs.cons (Ev.tup (Evs.cons (c2 s2) (Evs.cons (Ev.k (d := .str "class")) Evs.nil)) (by show 2 ≤ LIM; decide)) Evs.nil) (by show 1 ≤ LIM; decide)) (fun s Q g1 g2 => evo_none g2) fun s Q g1 g2 => evo_some g1 (Ev.to (Ev.intB (Ev.notN (c2 s2))) (by cases f.above <;> rfl)) g2) (Ev.lc rfl) hc (by rw [cutL_take]; simp; unfold LIM; omega)
  refine ok_mono (hlst s2 (Ext.refl _)) fun u s3 ⟨e3, m, hu, hn, hc3⟩ => ⟨e1.trans (e2.trans e3), m, hu, Nat.le_trans (e1.trans e2).len hn, ?_⟩
  rw [hc3, cutL_take, hab]
  cases f.above <;> rfl
end
end IP.Q

/-! PrK: the laws' worlds: what `_law_world` answers. -/
namespace IP.Q
open PySem
def twinsV (ns : List Int) (long : Int) : Bool := decide (mixV ns 95 4 = 0) && decide (0 < long)
def hereV (k : Int) (i : Nat) : Int := k + 200 * ((i : Int) + 1)
def parV (ns : List Int) (k : Int) (i : Nat) : Option Int := if 0 < i ∧ 0 < mixV ns (hereV k i) 4 then some (mixV ns (hereV k i + 1) i) else none
def oneV (ns : List Int) (k : Int) (i : Nat) (long : Int) (xs : List Str) (j : Nat) : List File :=
  if twinsV ns long = true ∧ i = 0 ∧ j < 2 ∧ 1 < xs.length then
    [⟨false, xs.getD j Str.empty, none, [], [rowV ns (hereV k i + 10 + 45 * (j : Int)) xs, .need (xs.getD (1 - j) Str.empty)].drop (mixV ns (hereV k i + 5) 2).toNat⟩]
  else if 0 < mixV ns (hereV k i + 2 + (j : Int)) 3 then [fileV ns (hereV k i + 10 + 45 * (j : Int)) xs (xs.getD j Str.empty) long] else []
def shelf0V (ns : List Int) (k : Int) (i : Nat) (long : Int) (xs : List Str) (j : Nat) : List File := (List.range j).flatMap (oneV ns k i long xs)
def shelfV (ns : List Int) (k : Int) (i : Nat) (long : Int) (xs : List Str) : List File :=
  (shelf0V ns k i long xs xs.length).drop (mixV ns (hereV k i + 8) 4).toNat ++ (shelf0V ns k i long xs xs.length).take (mixV ns (hereV k i + 8) 4).toNat
def ldrV (ns : List Int) (k : Int) (long : Int) (xs : List Str) (i : Nat) : Ldr := ⟨parV ns k i, shelfV ns k i long xs⟩
def worldV (ns : List Int) (k : Int) (xs : List Str) (many long : Int) : Wld := (List.range (1 + mixV ns k many).toNat).map (ldrV ns k long xs)
theorem oneV_le (ns : List Int) (k : Int) (i : Nat) (long : Int) (xs : List Str) (j : Nat) : (oneV ns k i long xs j).length ≤ 1 := by
  unfold oneV
  split
  · simp
  · split <;> simp
theorem shelf0_succ (ns : List Int) (k : Int) (i : Nat) (long : Int) (xs : List Str) (j : Nat) : shelf0V ns k i long xs (j + 1) = shelf0V ns k i long xs j ++ oneV ns k i long xs j := by
  unfold shelf0V
  rw [List.range_succ, List.flatMap_append]
  simp
theorem shelf0_le (ns : List Int) (k : Int) (i : Nat) (long : Int) (xs : List Str) : ∀ j : Nat, (shelf0V ns k i long xs j).length ≤ j
  | 0 => by simp [shelf0V]
  | j + 1 => by
    rw [shelf0_succ, List.length_append]
    have := shelf0_le ns k i long xs j
    have := oneV_le ns k i long xs j
    omega
section
variable {T : Tab} {W n : Nat} {st : Sto} {fl : Sts}
/-- `_law_file` as it is called -/
def FileSays (T : Tab) (W : Nat) : Prop := ∀ {n : Nat} {st : Sto} (ns : List Int) (k : Int), 0 ≤ k → ∀ {m : Nat} {xs : List Str}, st[m]? = some (.lst (xs.map .str)) → xs ≠ [] → (∀ x ∈ xs, PyData.strOk x = true) → ∀ x : Str, PyData.strOk x = true → ∀ long : Int, 0 ≤ long → long ≤ 100 →
    Fn (callD T W (n + 4)) st "_law_file" [.ro ns, .int k, .ref m, .str x, .int long] (fileV ns k xs x long).d
theorem world_says (hT : TWorld T fl) (hF : FileSays T W) (ns : List Int) (k : Int) (hk : 0 ≤ k) {m : Nat} {xs : List Str} (hm : st[m]? = some (.lst (xs.map .str))) (hx : xs ≠ []) (hx4 : xs.length ≤ 100) (hxs : ∀ x ∈ xs, PyData.strOk x = true) (many long : Int) (hm0 : 0 < many) (hm1 : many ≤ 100) (h0 : 0 ≤ long) (h1 : long ≤ 100) :
    Fn (callD T W (n + 5)) st "_law_world" [.ro ns, .int k, .ref m, .int many, .int long] (wd (worldV ns k xs many long)) := by
  have hl : 0 < xs.length := List.length_pos_iff.mpr hx
  have tD := hT.toTDraw
  have hlen : ((xs.map D.str).length : Int) = xs.length := by rw [List.length_map]
  intro s hs
  have hm := hs.at_ hm
  have hms : m < s.length := (List.getElem?_eq_some_iff.mp hm).1
  refine call_ok hT.world rfl ?_
  show okS (excs _ _ _ [some (.ro ns), some (.int k), some (.ref m), some (.int many), some (.int long), none, none, none, none, none, none, none, none, none, none] _) _ _ _
  unfold l_world
  rw [s_cons]
  refine S_asgL (EvL.lst Evs.nil (Nat.zero_le _)) (by simp) fun s1 q e1 hq hc => ?_
  show okS (excs _ _ _ [some (.ro ns), some (.int k), some (.ref m), some (.int many), some (.int long), some (.ref q), none, none, none, none, none, none, none, none, none] _) _ _ _
  rw [s_cons]
  refine S_asg (x := .bl (twinsV ns long)) (Ext.refl _) (Ev.and (Ev.to (Ev.eq (n := 0) (m := 0) (Ev.mix tD rfl Ev.k Ev.k (by decide) (by decide)) Ev.k plain_int plain_int) (by simp)) fun _ => Ev.gtI (Ev.lc rfl) Ev.k) fun s2 e2 => ⟨_, rfl, ?_⟩
  show okS (excs _ _ _ [some (.ro ns), some (.int k), some (.ref m), some (.int many), some (.int long), some (.ref q), some (.bl (twinsV ns long)), none, none, none, none, none, none, none, none] _) _ _ _
  rw [s_cons]
  have w0 := mixV_nn ns k hm0
  have w1 := mixV_lt ns k hm0
  refine S_frW (Ext.refl _) (EviW.rng (Ev.addI Ev.k (Ev.mix tD rfl (Ev.lc rfl) (Ev.lc rfl) hk hm0)) (decide_eq_true (by omega))) rfl fun s3 e3 _ => ?_
  refine for_rule (fun i ρ s4 => Ext s s4 ∧ s4[q]? = some (.lst (((List.range i).map (ldrV ns k long xs)).map Ldr.d)) ∧
    ∃ x7 x8 x9 x10 x11 x12 x13 x14, ρ = [some (.ro ns), some (.int k), some (.ref m), some (.int many), some (.int long), some (.ref q), some (.bl (twinsV ns long)), x7, x8, x9, x10, x11, x12, x13, x14]) _ 0 _ s3 ?_ (fun i d ρ s4 hd hI => ?_) fun ρ s4 hI => ?_
  · exact ⟨(e1.trans e2).trans e3, (e2.trans e3).at_ hc, _, _, _, _, _, _, _, _, rfl⟩
  · obtain ⟨e4, hc4, x7, x8, x9, x10, x11, x12, x13, x14, rfl⟩ := hI
    rw [Nat.zero_add] at *
    obtain ⟨hlt, rfl⟩ := rng_at _ _ _ _ hd
    rw [Int.zero_add]
    have hq4 : q < s4.length := (List.getElem?_eq_some_iff.mp hc4).1
    have hm4 := e4.at_ hm
    have hh : 0 ≤ hereV k i := by unfold hereV; omega
    show okS (excs _ _ _ [some (.ro ns), some (.int k), some (.ref m), some (.int many), some (.int long), some (.ref q), some (.bl (twinsV ns long)), some (.int (i : Int)), x8, x9, x10, x11, x12, x13, x14] s4) _ _ _
    rw [s_cons]
    refine S_asg (x := .int (hereV k i)) (Ext.refl _) (Ev.addI (Ev.lc rfl) (Ev.mulI Ev.k (Ev.addI (Ev.lc rfl) Ev.k) (mulOk_l (by decide) (by decide)))) fun s5 e5 => ⟨_, rfl, ?_⟩
    rw [s_cons]
    refine S_asg (x := optI none) (Ext.refl _) Ev.k fun s6 e6 => ⟨_, rfl, ?_⟩
    show okS (excs _ _ _ [some (.ro ns), some (.int k), some (.ref m), some (.int many), some (.int long), some (.ref q), some (.bl (twinsV ns long)), some (.int (i : Int)), some (.int (hereV k i)), some (optI none), x10, x11, x12, x13, x14] s6) _ _ _
    rw [s_cons]
    refine S_ifeP (p := decide (0 < (i : Int)) && decide (0 < mixV ns (hereV k i) 4)) (fun ρ' s7 => ρ' = [some (.ro ns), some (.int k), some (.ref m), some (.int many), some (.int long), some (.ref q), some (.bl (twinsV ns long)), some (.int (i : Int)), some (.int (hereV k i)), some (optI (parV ns k i)), x10, x11, x12, x13, x14] ∧ Ext s4 s7) (Ext.refl _)
      (Ev.and (Ev.gtI (Ev.lc rfl) Ev.k) fun _ => Ev.gtI (Ev.mix tD rfl (Ev.lc rfl) Ev.k hh (by decide)) Ev.k) (fun hp s7 e7 => ?_) (fun hp s7 e7 => ?_) ?_
    · rw [Bool.and_eq_true, decide_eq_true_eq, decide_eq_true_eq] at hp
      rw [s_cons]
      refine S_asg (Ext.refl _) (Ev.mix tD rfl (Ev.addI (Ev.lc rfl) Ev.k) (Ev.lc rfl) (by omega) hp.1) fun s8 e8 => ⟨_, rfl, ?_⟩
      rw [s_nil]
      refine ⟨?_, (e5.trans e6).trans (e7.trans e8)⟩
      unfold parV
      rw [if_pos ⟨by omega, hp.2⟩]; rfl
    · rw [s_nil]
      refine ⟨?_, (e5.trans e6).trans e7⟩
      unfold parV
      rw [if_neg fun z => by
        rw [Bool.and_eq_false_iff, decide_eq_false_iff_not, decide_eq_false_iff_not] at hp
        rcases hp with hp | hp
        · exact hp (by omega)
        · exact hp z.2]
    rintro _ s7 ⟨rfl, e7⟩
    rw [s_cons]
    refine S_asgL (EvL.lst Evs.nil (Nat.zero_le _)) (by simp) fun s8 r e8 hr hcr => ?_
    show okS (excs _ _ _ [some (.ro ns), some (.int k), some (.ref m), some (.int many), some (.int long), some (.ref q), some (.bl (twinsV ns long)), some (.int (i : Int)), some (.int (hereV k i)), some (optI (parV ns k i)), some (.ref r), x11, x12, x13, x14] s8) _ _ _
    have hr4 : s4.length ≤ r := Nat.le_trans e7.len hr
    have e48 := e7.trans e8
    rw [s_cons]
    refine S_frW (w := [(m, .lst (xs.map .str))]) (Ext.refl _) (EviW.enmV (Ev.lc rfl) (e48.at_ hm4)) (by simp [okW, e48.at_ hm4]) fun s9 e9 _ => ?_
    refine for_rule (fun j ρ s10 => Ext s4 s10 ∧ s10[r]? = some (.lst ((shelf0V ns k i long xs j).map File.d)) ∧
      ∃ y11 y12 y13, ρ = [some (.ro ns), some (.int k), some (.ref m), some (.int many), some (.int long), some (.ref q), some (.bl (twinsV ns long)), some (.int (i : Int)), some (.int (hereV k i)), some (optI (parV ns k i)), some (.ref r), y11, y12, y13, x14]) _ 0 _ s9 ?_ (fun j d ρ s10 hd2 hI => ?_) fun ρ s10 hI => ?_
    · exact ⟨e48.trans e9, e9.at_ hcr, _, _, _, rfl⟩
    · obtain ⟨e10, hc10, y11, y12, y13, rfl⟩ := hI
      rw [Nat.zero_add] at *
      obtain ⟨x0, hx0, rfl⟩ := zip_at _ _ _ _ hd2
      rw [Nat.zero_add]
      rw [List.getElem?_map] at hx0
      obtain ⟨x, hxj, rfl⟩ := Option.map_eq_some_iff.mp hx0
      have hj : j < xs.length := (List.getElem?_eq_some_iff.mp hxj).1
      have exj : xs.getD j Str.empty = x := by rw [List.getD_eq_getElem?_getD, hxj]; rfl
      have hxo := hxs x (List.mem_of_getElem? hxj)
      show okS (excs _ _ _ [some (.ro ns), some (.int k), some (.ref m), some (.int many), some (.int long), some (.ref q), some (.bl (twinsV ns long)), some (.int (i : Int)), some (.int (hereV k i)), some (optI (parV ns k i)), some (.ref r), some (.int (j : Int)), some (.str x), y13, x14] s10) _ _ _
      have hm10 := e10.at_ hm4
      have sle := shelf0_le ns k i long xs j
      rw [s_cons]
      refine S_ifeP (p := twinsV ns long && (decide ((i : Int) = 0) && (decide ((j : Int) < 2) && decide (1 < (xs.length : Int))))) (fun ρ' s11 => Ext s4 s11 ∧ s11[r]? = some (.lst ((shelf0V ns k i long xs (j + 1)).map File.d)) ∧
        ∃ y11 y12 y13, ρ' = [some (.ro ns), some (.int k), some (.ref m), some (.int many), some (.int long), some (.ref q), some (.bl (twinsV ns long)), some (.int (i : Int)), some (.int (hereV k i)), some (optI (parV ns k i)), some (.ref r), y11, y12, y13, x14]) (Ext.refl _)
        (Ev.and (Ev.lc rfl) fun _ => Ev.and (Ev.to (Ev.eq (n := 0) (m := 0) (Ev.lc rfl) Ev.k plain_int plain_int) (by simp)) fun _ => Ev.and (Ev.ltI (Ev.lc rfl) Ev.k) fun _ => Ev.gtI (by rw [← hlen]; exact Ev.lenV (Ev.lc rfl) hm10) Ev.k) (fun hp s11 e11 => ?_) (fun hp s11 e11 => ?_) ?_
      · simp only [Bool.and_eq_true, decide_eq_true_eq] at hp
        obtain ⟨p1, p2, p3, p4⟩ := hp
        have one : oneV ns k i long xs j = [⟨false, x, none, [], [rowV ns (hereV k i + 10 + 45 * (j : Int)) xs, .need (xs.getD (1 - j) Str.empty)].drop (mixV ns (hereV k i + 5) 2).toNat⟩] := by
          unfold oneV
          rw [if_pos ⟨p1, by omega, by omega, by omega⟩, exj]
        have hm11 := e11.at_ hm10
        rw [s_cons]
        refine S_asg (Ext.refl _) (Ev.call (Evs.cons (Ev.lc rfl) (Evs.cons (Ev.addI (Ev.addI (Ev.lc rfl) Ev.k) (Ev.mulI Ev.k (Ev.lc rfl) (mulOk_l (by decide) (by decide)))) (Evs.cons (Ev.lc rfl) Evs.nil))) (row_says hT ns _ (by omega) hm11 hx)) fun s12 e12 => ⟨_, rfl, ?_⟩
        rw [s_cons]
        have hm12 := e12.at_ hm11
        have hi1 : L2.atI (xs.map D.str) (1 - (j : Int)) = some (.str (xs.getD (1 - j) Str.empty)) := by
          rw [strs_at (by omega) (by omega)]
          congr 3; omega
        have t0 := mixV_nn ns (hereV k i + 5) (m := 2) (by decide)
        refine S_app (x := File.d ⟨false, x, none, [], [rowV ns (hereV k i + 10 + 45 * (j : Int)) xs, .need (xs.getD (1 - j) Str.empty)].drop (mixV ns (hereV k i + 5) 2).toNat⟩) rfl ((e11.trans e12).at_ hc10) (Ev.to (Ev.tup (Evs.cons Ev.k (Evs.cons (Ev.lc rfl) (Evs.cons Ev.k (Evs.cons (Ev.tup Evs.nil (Nat.zero_le _)) (Evs.cons
          (Ev.slT (l := some (((mixV ns (hereV k i + 5) 2).toNat : Nat) : Int)) (h := none) (Ev.tup (Evs.cons (Ev.lc rfl) (Evs.cons (Ev.tup (Evs.cons Ev.k (Evs.cons (Ev.ixV (Ev.lc rfl) hm12 (Ev.subI Ev.k (Ev.lc rfl)) hi1) Evs.nil)) (by show 2 ≤ LIM; decide)) Evs.nil)) (by show 2 ≤ LIM; decide))
            (fun s Q g1 g2 => evo_some g1 (Ev.to (Ev.mix tD rfl (Ev.addI (Ev.lc rfl) Ev.k) Ev.k (by omega) (by decide)) (by rw [toNat_cast t0])) g2) fun s Q g1 g2 => evo_none g2) Evs.nil))))) (by show 5 ≤ LIM; decide)) ?_)
          (by rw [List.length_map]; unfold LIM; omega) fun s13 e13 => ?_
        · rw [cutL_drop]
          unfold File.d
          dsimp only
          rw [List.map_drop]; rfl
        · rw [s_nil]
          refine ⟨(e10.trans (e11.trans (e12.trans e13))).set hr4, ?_, _, _, _, rfl⟩
          rw [List.getElem?_set_self (List.getElem?_eq_some_iff.mp ((e11.trans (e12.trans e13)).at_ hc10)).1, shelf0_succ, one, List.map_append]; rfl
      · have hp' : ¬ (twinsV ns long = true ∧ i = 0 ∧ j < 2 ∧ 1 < xs.length) := fun z => by
          have z2 : (i : Int) = 0 := by omega
          have z3 : (j : Int) < 2 := by omega
          have z4 : 1 < (xs.length : Int) := by omega
          rw [z.1, decide_eq_true z2, decide_eq_true z3, decide_eq_true z4] at hp
          cases hp
        rw [s_cons]
        have hm11 := e11.at_ hm10
        refine S_ifeP (p := decide (0 < mixV ns (hereV k i + 2 + (j : Int)) 3)) (fun ρ' s11 => Ext s4 s11 ∧ s11[r]? = some (.lst ((shelf0V ns k i long xs (j + 1)).map File.d)) ∧
          ∃ y11 y12 y13, ρ' = [some (.ro ns), some (.int k), some (.ref m), some (.int many), some (.int long), some (.ref q), some (.bl (twinsV ns long)), some (.int (i : Int)), some (.int (hereV k i)), some (optI (parV ns k i)), some (.ref r), y11, y12, y13, x14]) (Ext.refl _)
          (Ev.gtI (Ev.mix tD rfl (Ev.addI (Ev.addI (Ev.lc rfl) Ev.k) (Ev.lc rfl)) Ev.k (by omega) (by decide)) Ev.k) (fun hp2 s12 e12 => ?_) (fun hp2 s12 e12 => ?_) (fun ρ' s12 hJ => by rw [s_nil]; exact hJ)
        · rw [s_cons]
          refine S_app (x := (fileV ns (hereV k i + 10 + 45 * (j : Int)) xs x long).d) rfl ((e11.trans e12).at_ hc10) (Ev.call (Evs.cons (Ev.lc rfl) (Evs.cons (Ev.addI (Ev.addI (Ev.lc rfl) Ev.k) (Ev.mulI Ev.k (Ev.lc rfl) (mulOk_l (by decide) (by decide)))) (Evs.cons (Ev.lc rfl) (Evs.cons (Ev.lc rfl) (Evs.cons (Ev.lc rfl) Evs.nil)))))
            (hF ns _ (by omega) (e12.at_ hm11) hx hxs x hxo long h0 h1)) (by rw [List.length_map]; unfold LIM; omega) fun s13 e13 => ?_
          rw [s_nil]
          refine ⟨(e10.trans (e11.trans (e12.trans e13))).set hr4, ?_, _, _, _, rfl⟩
          rw [List.getElem?_set_self (List.getElem?_eq_some_iff.mp ((e11.trans (e12.trans e13)).at_ hc10)).1, shelf0_succ, List.map_append]
          congr 3
          unfold oneV
          rw [if_neg hp', if_pos (of_decide_eq_true hp2), exj]; rfl
        · rw [s_nil]
          refine ⟨e10.trans (e11.trans e12), ?_, _, _, _, rfl⟩
          rw [shelf0_succ, show oneV ns k i long xs j = [] from by unfold oneV; rw [if_neg hp', if_neg (of_decide_eq_false hp2)], List.append_nil]
          exact (e11.trans e12).at_ hc10
      · rintro ρ' s11 ⟨e11, hc11, y⟩
        rw [s_nil]
        exact ⟨⟨e11, hc11, y⟩, by simp [okW, e11.at_ hm4]⟩
    · obtain ⟨e10, hc10, y11, y12, y13, rfl⟩ := hI
      rw [Nat.zero_add, zip_len, List.length_map] at hc10
      rw [s_cons]
      have t0 := mixV_nn ns (hereV k i + 8) (m := 4) (by decide)
      refine S_asg (x := .int (((mixV ns (hereV k i + 8) 4).toNat : Nat) : Int)) (Ext.refl _) (Ev.to (Ev.mix tD rfl (Ev.addI (Ev.lc rfl) Ev.k) Ev.k (by omega) (by decide)) (by rw [toNat_cast t0])) fun s11 e11 => ⟨_, rfl, ?_⟩
      rw [s_cons]
      have hc11 := e11.at_ hc10
      have hq11 := (e10.trans e11).at_ hc4
      refine S_app (x := (ldrV ns k long xs i).d) rfl hq11 (Ev.to (Ev.tup (Evs.cons (Ev.lc rfl) (Evs.cons (Ev.tupL (EvL.add (EvL.slV (l := some (((mixV ns (hereV k i + 8) 4).toNat : Nat) : Int)) (h := none) (Ev.lc rfl) hc11 (fun s Q g1 g2 => evo_some g1 (Ev.lc rfl) g2) fun s Q g1 g2 => evo_none g2)
        (EvL.slV (l := none) (h := some (((mixV ns (hereV k i + 8) 4).toNat : Nat) : Int)) (Ev.lc rfl) hc11 (fun s Q g1 g2 => evo_none g2) fun s Q g1 g2 => evo_some g1 (Ev.lc rfl) g2) ?_)) Evs.nil)) (by show 2 ≤ LIM; decide)) ?_) ?_ fun s12 e12 => ?_
      · rw [cutL_drop, cutL_take, List.length_drop, List.length_take, List.length_map]
        have := shelf0_le ns k i long xs xs.length
        unfold LIM; omega
      · rw [cutL_drop, cutL_take]
        unfold ldrV shelfV Ldr.d
        dsimp only
        rw [List.map_append, List.map_drop, List.map_take]
      · rw [List.length_map, List.length_map, List.length_range]
        unfold LIM
        omega
      · rw [s_nil]
        refine ⟨⟨((e4.trans e10).trans (e11.trans e12)).set hq, ?_, _, _, _, _, _, _, _, _, rfl⟩, rfl⟩
        rw [List.getElem?_set_self (List.getElem?_eq_some_iff.mp (e12.at_ hq11)).1, List.range_succ, List.map_append, List.map_append]; rfl
  · obtain ⟨e4, hc4, x7, x8, x9, x10, x11, x12, x13, x14, rfl⟩ := hI
    rw [Nat.zero_add, rng_len] at hc4
    rw [s_cons]
    exact S_ret (Ext.refl _) (Ev.tupV (Ev.lc rfl) hc4) fun s5 e5 => ⟨e4.trans e5, rfl⟩
end
end IP.Q

/-! PrR: the laws' worlds are valid. -/
namespace IP.Q
open PySem
theorem wordV_B (ns : List Int) (k : Int) : wordB (wordV ns k) = true := by
  have m0 := mixV_nn ns k (m := 6) (by decide)
  have m1 := mixV_lt ns k (m := 6) (by decide)
  obtain ⟨_, l2, l3⟩ := lens_at m0 m1
  have hl : (wordV ns k).length = wlenV ns k := by simp [wordV, Str.length, wordCs]
  have hw : 1 ≤ wlenV ns k ∧ wlenV ns k ≤ 6 := by unfold wlenV; omega
  unfold wordB
  rw [hl, decide_eq_true (by omega), decide_eq_true (by omega), Bool.true_and, Bool.true_and, List.all_eq_true]
  intro b hb
  obtain ⟨c, hc, rfl⟩ := List.mem_map.mp hb
  have hc : c ∈ wordCs ns k (wlenV ns k) := by simpa [wordV] using hc
  unfold wordCs at hc
  obtain ⟨i, _, rfl⟩ := List.mem_map.mp hc
  have q0 := mixV_nn ns (k + 1 + (i : Int)) (m := 26) (by decide)
  have q1 := mixV_lt ns (k + 1 + (i : Int)) (m := 26) (by decide)
  have : letV (mixV ns (k + 1 + (i : Int)) 26) ∈ letters.cps.toList := by
    rw [show letters = abc from rfl, abc_list]
    unfold letV
    exact List.mem_map.mpr ⟨_, List.mem_range.mpr (by omega), rfl⟩
  exact decide_eq_true this
theorem dedup_nodup (xs : List Str) : ∀ acc : List Str, acc.Nodup → (dedup acc xs).Nodup := by
  induction xs with
  | nil => intro acc h; exact h
  | cons x xs ih =>
    intro acc h
    simp only [dedup]
    split
    · exact ih acc h
    · rename_i hx
      refine ih _ ?_
      rw [List.nodup_append]
      exact ⟨h, by simp, fun a ha b hb e => hx (by rw [List.mem_singleton.mp hb] at e; rw [← e]; exact ha)⟩
theorem dedup_in (xs : List Str) : ∀ (acc : List Str) (k : Str), k ∈ dedup acc xs → k ∈ acc ∨ k ∈ xs := by
  induction xs with
  | nil => intro acc k h; exact .inl h
  | cons x xs ih =>
    intro acc k h
    simp only [dedup] at h
    split at h
    · rcases ih _ _ h with h | h
      · exact .inl h
      · exact .inr (List.mem_cons_of_mem _ h)
    · rcases ih _ _ h with h | h
      · rcases List.mem_append.mp h with h | h
        · exact .inl h
        · rw [List.mem_singleton.mp h]; exact .inr List.mem_cons_self
      · exact .inr (List.mem_cons_of_mem _ h)
theorem dedup_sub (xs : List Str) : ∀ (acc : List Str) (k : Str), k ∈ acc → k ∈ dedup acc xs := by
  induction xs with
  | nil => intro acc k h; exact h
  | cons x xs ih =>
    intro acc k h
    simp only [dedup]
    split
    · exact ih _ _ h
    · exact ih _ _ (List.mem_append_left _ h)
/-- names as the laws draw them -/
structure NOk (xs : List Str) : Prop where
  ne : xs ≠ []
  len : xs.length ≤ 4
  nd : xs.Nodup
  word : ∀ x ∈ xs, wordB x = true
theorem namesV_ok (ns : List Int) (k : Int) : NOk (namesV ns k) where
  ne := fun h => by
    have : wordV ns k ∈ namesV ns k := by
      unfold namesV
      unfold dedup
      rw [if_neg (by simp)]
      exact dedup_sub _ _ _ (by simp)
    rw [h] at this; cases this
  len := by
    have := dedup_le [wordV ns k, wordV ns (k + 8), wordV ns (k + 16), wordV ns (k + 24)] []
    unfold namesV
    simpa using this
  nd := dedup_nodup _ _ List.nodup_nil
  word := fun x hx => by
    rcases dedup_in _ _ _ hx with h | h
    · cases h
    · simp only [List.mem_cons, List.not_mem_nil, or_false] at h
      rcases h with rfl | rfl | rfl | rfl <;> exact wordV_B _ _
section
variable {ns : List Int} {k : Int} {xs : List Str}
theorem NOk.str (h : NOk xs) : ∀ x ∈ xs, PyData.strOk x = true := fun x hx => word_ok (h.word x hx)
theorem pos_len (h : NOk xs) : 0 < xs.length := List.length_pos_iff.mpr h.ne
theorem getD_in (h : NOk xs) {i : Nat} (hi : i < xs.length) : xs.getD i Str.empty ∈ xs := by
  rw [List.getD_eq_getElem?_getD, List.getElem?_eq_getElem hi]
  exact List.getElem_mem _
theorem pick_in (h : NOk xs) (k : Int) : pickV ns k xs ∈ xs := by
  have hl := pos_len h
  have p0 := mixV_nn ns k (m := xs.length) (by omega)
  have p1 := mixV_lt ns k (m := xs.length) (by omega)
  exact getD_in h (by omega)
theorem fg_word (i : Int) : wordB (fgV i) = true := by
  unfold fgV
  split <;> decide +kernel
theorem xy_word (i : Int) : wordB (xyV i) = true := by
  unfold xyV
  split <;> decide +kernel
theorem rowV_ok (h : NOk xs) (k : Int) : (rowV ns k xs).ok := by
  unfold rowV
  split
  · have p0 := mixV_nn ns (k + 3) (m := 100) (by decide)
    have p1 := mixV_lt ns (k + 3) (m := 100) (by decide)
    exact ⟨fg_word _, p0, by omega⟩
  · split
    · exact ⟨fg_word _, h.word _ (pick_in h _), fg_word _⟩
    · split
      · exact h.word _ (pick_in h _)
      · split
        · exact xy_word _
        · exact xy_word _
theorem last_in (h : NOk xs) : lastV xs ∈ xs := by
  have hl := pos_len h
  exact getD_in h (by omega)
theorem distinct_take (l : List Str) (hl : l.length ≤ 2) : (distinct (l.take (distinct l).length)).length = (l.take (distinct l).length).length := by
  match l, hl with
  | [], _ => rfl
  | [a], _ => simp [distinct, dedup]
  | [a, b], _ =>
    by_cases e : b = a
    · subst e; simp [distinct, dedup]
    · have e' : ¬ b = a := e
      simp [distinct, dedup, e']
theorem fileV_ok (h : NOk xs) (k : Int) {x : Str} (hx : wordB x = true) {long : Int} (h0 : 0 ≤ long) (h1 : long ≤ 5) : (fileV ns k xs x long).ok where
  name := hx
  above := fun a ha => by
    have ha : aboveV ns k xs x = some a := ha
    unfold aboveV at ha
    split at ha
    · rename_i hc
      cases ha
      exact ⟨hc.1, h.word _ (pick_in h _)⟩
    · cases ha
  faces := fun y hy => by
    have hy : y ∈ facesV ns k xs := hy
    have hy := List.mem_of_mem_take hy
    unfold faces2 faces1 at hy
    rcases List.mem_append.mp hy with hy | hy
    · split at hy
      · rw [List.mem_singleton.mp hy]; exact h.word _ (last_in h)
      · cases hy
    · split at hy
      · rw [List.mem_singleton.mp hy]; exact h.word _ (pick_in h _)
      · cases hy
  faces2 := by
    show (facesV ns k xs).length ≤ 2
    unfold facesV
    rw [List.length_take]
    have : (faces2 ns k xs).length ≤ 2 := by
      unfold faces2 faces1
      split <;> split <;> simp
    omega
  fnd := by
    show (distinct (facesV ns k xs)).length = (facesV ns k xs).length
    refine distinct_take _ ?_
    unfold faces2 faces1
    split <;> split <;> simp
  rows := fun r hr => by
    have hr : r ∈ rowsV ns k xs long := hr
    unfold rowsV at hr
    obtain ⟨i, _, rfl⟩ := List.mem_map.mp hr
    exact rowV_ok h _
  rows5 := by
    show (rowsV ns k xs long).length ≤ 5
    unfold rowsV
    rw [List.length_map, List.length_range]
    have p1 := mixV_lt ns (k + 5) (m := long + 1) (by omega)
    omega
theorem oneV_ok (h : NOk xs) {i : Nat} {long : Int} (h0 : 0 ≤ long) (h1 : long ≤ 5) {j : Nat} (hj : j < xs.length) : ∀ f ∈ oneV ns k i long xs j, f.ok ∧ f.name = xs.getD j Str.empty := by
  intro f hf
  unfold oneV at hf
  split at hf
  · rename_i hc
    rw [List.mem_singleton.mp hf]
    refine ⟨⟨h.word _ (getD_in h hj), (fun a ha => by cases ha), (fun x hx => by cases hx), Nat.zero_le _, rfl, fun r hr => ?_, ?_⟩, rfl⟩
    · have := List.mem_of_mem_drop hr
      simp only [List.mem_cons, List.not_mem_nil, or_false] at this
      rcases this with rfl | rfl
      · exact rowV_ok h _
      · exact h.word _ (getD_in h (by omega))
    · show (List.drop _ _).length ≤ 5
      rw [List.length_drop]
      simp only [List.length_cons, List.length_nil]
      omega
  · split at hf
    · rw [List.mem_singleton.mp hf]
      exact ⟨fileV_ok h _ (h.word _ (getD_in h hj)) h0 h1, rfl⟩
    · cases hf
theorem shelf0_ok (h : NOk xs) {i : Nat} {long : Int} (h0 : 0 ≤ long) (h1 : long ≤ 5) : ∀ j, j ≤ xs.length → (∀ f ∈ shelf0V ns k i long xs j, f.ok ∧ f.name ∈ xs.take j) ∧ ((shelf0V ns k i long xs j).map (·.name)).Nodup
  | 0, _ => ⟨fun f hf => by simp [shelf0V] at hf, by simp [shelf0V]⟩
  | j + 1, hj => by
    obtain ⟨a1, a2⟩ := shelf0_ok h h0 h1 j (by omega)
    have hjl : j < xs.length := by omega
    have hx : xs[j]? = some xs[j] := List.getElem?_eq_getElem hjl
    have ex : xs.getD j Str.empty = xs[j] := by rw [List.getD_eq_getElem?_getD, hx]; rfl
    have one := oneV_ok (ns := ns) (k := k) h (i := i) h0 h1 hjl
    have le := oneV_le ns k i long xs j
    rw [shelf0_succ]
    refine ⟨fun f hf => ?_, ?_⟩
    · rw [List.take_succ, hx]
      rcases List.mem_append.mp hf with hf | hf
      · exact ⟨(a1 f hf).1, List.mem_append_left _ (a1 f hf).2⟩
      · exact ⟨(one f hf).1, List.mem_append_right _ (by rw [(one f hf).2, ex]; simp)⟩
    · rw [List.map_append, List.nodup_append]
      refine ⟨a2, ?_, fun a ha b hb e => ?_⟩
      · match hm : oneV ns k i long xs j, le with
        | [], _ => simp
        | [f], _ => simp
        | _ :: _ :: _, z => simp at z
      · obtain ⟨f, hf, rfl⟩ := List.mem_map.mp ha
        obtain ⟨g, hg, rfl⟩ := List.mem_map.mp hb
        have h2 := (a1 f hf).2
        rw [e, (one g hg).2, ex] at h2
        obtain ⟨m, hm, hm2⟩ := List.mem_take_iff_getElem.mp h2
        have := (List.getElem_inj h.nd).mp hm2
        omega
theorem shelfV_ok (h : NOk xs) {i : Nat} {long : Int} (h0 : 0 ≤ long) (h1 : long ≤ 5) : ShelfOk (shelfV ns k i long xs) := by
  obtain ⟨a1, a2⟩ := shelf0_ok (ns := ns) (k := k) h (i := i) h0 h1 xs.length (Nat.le_refl _)
  have le := shelf0_le ns k i long xs xs.length
  have hl := h.len
  generalize hs : shelf0V ns k i long xs xs.length = s at a1 a2 le
  have e : shelfV ns k i long xs = s.drop (mixV ns (hereV k i + 8) 4).toNat ++ s.take (mixV ns (hereV k i + 8) 4).toNat := by unfold shelfV; rw [hs]
  generalize (mixV ns (hereV k i + 8) 4).toNat = t at e
  have pm : (shelfV ns k i long xs).Perm s := by
    rw [e]
    exact List.perm_append_comm.trans (by rw [List.take_append_drop])
  refine ⟨by rw [pm.length_eq]; omega, fun f hf => (a1 f (pm.mem_iff.mp hf)).1, ?_⟩
  exact (pm.map _).nodup_iff.mpr a2
theorem worldV_ok (h : NOk xs) {many long : Int} (hm0 : 0 < many) (hm1 : many ≤ 4) (h0 : 0 ≤ long) (h1 : long ≤ 5) : WOk (worldV ns k xs many long) := by
  have w0 := mixV_nn ns k hm0
  have w1 := mixV_lt ns k hm0
  have hlen : (worldV ns k xs many long).length = (1 + mixV ns k many).toNat := by unfold worldV; rw [List.length_map, List.length_range]
  refine ⟨by rw [hlen]; omega, by rw [hlen]; omega, fun l hl => ?_, fun i l p hl hp => ?_⟩
  · unfold worldV at hl
    obtain ⟨i, _, rfl⟩ := List.mem_map.mp hl
    exact shelfV_ok h h0 h1
  · unfold worldV at hl
    rw [List.getElem?_map] at hl
    obtain ⟨j, hj, rfl⟩ := Option.map_eq_some_iff.mp hl
    have hji : j = i := by
      have := List.getElem?_eq_some_iff.mp hj
      obtain ⟨h2, h3⟩ := this
      simpa using h3.symm
    subst hji
    have hp : parV ns k j = some p := hp
    unfold parV at hp
    split at hp
    · rename_i hc
      cases hp
      exact ⟨mixV_nn ns _ (by omega), mixV_lt ns _ (by omega)⟩
    · cases hp
end
end IP.Q

/-! UbA: worlds by content; files on shelves. -/
namespace IP.Q
open PySem
def optSU : Option Str → U
  | none => .non
  | some x => .str x
def optIU : Option Int → U
  | none => .non
  | some x => .int x
def Row.u : Row → U
  | .put f i => .tup [.str "put", .str f, .int i]
  | .read f w g => .tup [.str "read", .str f, .str w, .str g]
  | .need w => .tup [.str "need", .str w]
  | .note x => .tup [.str "note", .str x]
  | .fail x => .tup [.str "fail", .str x]
def File.u (f : File) : U := .tup [.str (kindV f.face), .str f.name, optSU f.above, .tup (f.faces.map .str), .tup (f.rows.map Row.u)]
def Ldr.u (l : Ldr) : U := .tup [optIU l.par, .tup (l.shelf.map File.u)]
def wU (w : Wld) : U := .tup (w.map Ldr.u)
def clsU (c : Cls) : U := .tup [.int (c.1 : Int), .str c.2]
def fdU (x : Str) : Option Nat → U
  | none => .non
  | some o => clsU (o, x)
def optFU : Option File → U
  | none => .non
  | some f => f.u
theorem eqU_str (x y : Str) : eqU (.str x) (.str y) = some (decide (x = y)) := by
  rw [eqU_plain (by simp [plainU]) (by simp [plainU])]; simp
theorem eqU_int (x y : Int) : eqU (.int x) (.int y) = some (decide (x = y)) := by
  rw [eqU_plain (by simp [plainU]) (by simp [plainU])]; simp
theorem atI_0 {α : Type} {d : α} {ds : List α} : L2.atI (d :: ds) 0 = some d := at0
theorem atI_n {α : Type} {ds : List α} (i : Nat) : L2.atI ds (i : Int) = ds[i]? := by
  unfold L2.atI L2.ixN
  rw [if_pos (by omega)]
  by_cases h : i < ds.length
  · rw [if_pos (by omega)]; rfl
  · rw [if_neg (by omega), List.getElem?_eq_none (by omega)]; rfl
theorem atI_1 {α : Type} {d e : α} {ds : List α} : L2.atI (d :: e :: ds) 1 = some e := atI_n 1
theorem atI_2 {α : Type} {d e f : α} {ds : List α} : L2.atI (d :: e :: f :: ds) 2 = some f := atI_n 2
theorem atI_3 {α : Type} {d e f g : α} {ds : List α} : L2.atI (d :: e :: f :: g :: ds) 3 = some g := atI_n 3
theorem atI_4 {α : Type} {d e f g h : α} {ds : List α} : L2.atI (d :: e :: f :: g :: h :: ds) 4 = some h := atI_n 4
theorem ix_tup {us : List U} {j : Int} : ixU (.tup us) (.int j) = L2.atI us j := rfl
theorem ix_lst {us : List U} {j : Int} : ixU (.lst us) (.int j) = L2.atI us j := rfl
theorem cmp_eq {a b : U} : cmpU .eq a b = eqU a b := rfl
theorem cmp_ne {a b : U} : cmpU .ne a b = (eqU a b).map (!·) := rfl
theorem cmp_in {a b : U} : cmpU .isin a b = memU a b := rfl
theorem cmp_nin {a b : U} : cmpU .notin a b = (memU a b).map (!·) := rfl
theorem mem_lst {a : U} {us : List U} : memU a (.lst us) = inU a us := rfl
theorem walk_tup {us : List U} : walkU (.tup us) = some us := rfl
theorem walk_lst {us : List U} : walkU (.lst us) = some us := rfl
theorem seq_tup {us : List U} : seqU (.tup us) = some us := rfl
theorem seq_lst {us : List U} : seqU (.lst us) = some us := rfl
theorem non_str {x : Str} : isNonU (.str x) = false := rfl
theorem file_0 {f : File} : ixU f.u (.int 0) = some (.str (kindV f.face)) := atI_0
theorem file_1 {f : File} : ixU f.u (.int 1) = some (.str f.name) := atI_1
theorem file_2 {f : File} : ixU f.u (.int 2) = some (optSU f.above) := atI_2
theorem file_3 {f : File} : ixU f.u (.int 3) = some (.tup (f.faces.map .str)) := atI_3
theorem file_4 {f : File} : ixU f.u (.int 4) = some (.tup (f.rows.map Row.u)) := atI_4
theorem ldr_0 {l : Ldr} : ixU l.u (.int 0) = some (optIU l.par) := atI_0
theorem ldr_1 {l : Ldr} : ixU l.u (.int 1) = some (.tup (l.shelf.map File.u)) := atI_1
theorem cls_0 {c : Cls} : ixU (clsU c) (.int 0) = some (.int (c.1 : Int)) := atI_0
theorem cls_1 {c : Cls} : ixU (clsU c) (.int 1) = some (.str c.2) := atI_1
theorem wU_at {w : Wld} {l : Nat} (h : l < w.length) : ixU (wU w) (.int (l : Int)) = some w[l].u := by
  show L2.atI _ _ = _
  rw [atI_n, List.getElem?_map, List.getElem?_eq_getElem h]; rfl
theorem non_cls {c : Cls} : isNonU (clsU c) = false := rfl
theorem non_file {f : File} : isNonU f.u = false := rfl
theorem non_optS {x : Option Str} : isNonU (optSU x) = x.isNone := by cases x <;> rfl
theorem non_optI {x : Option Int} : isNonU (optIU x) = x.isNone := by cases x <;> rfl
theorem non_fd {x : Str} {o : Option Nat} : isNonU (fdU x o) = o.isNone := by cases o <;> rfl
theorem non_optF {x : Option File} : isNonU (optFU x) = x.isNone := by cases x <;> rfl
theorem non_int {i : Int} : isNonU (.int i) = false := rfl
theorem non_non : isNonU .non = true := rfl
def natsU (ls : List Nat) : List U := ls.map fun l : Nat => U.int (l : Int)
theorem bi_len_tup {us : List U} : biU .len (.tup us) = some (.int us.length) := rfl
theorem bi_len_lst {us : List U} : biU .len (.lst us) = some (.int us.length) := rfl
theorem bi_len_ro {ns : List Int} : biU .len (.ro ns) = some (.int ns.length) := rfl
theorem bi_len_str {x : Str} : biU .len (.str x) = if x.length ≤ LIM then some (.int x.length) else none := rfl
theorem bi_all {us : List U} : biU .all (.lst us) = (boolsU us).map fun bs => .bl (bs.all id) := rfl
theorem bi_any {us : List U} : biU .any (.lst us) = (boolsU us).map fun bs => .bl (bs.any id) := rfl
theorem bi_list_tup {us : List U} : biU .list (.tup us) = some (.lst us) := rfl
theorem bi_list_lst {us : List U} : biU .list (.lst us) = some (.lst us) := rfl
theorem bi_list_dic {ks us : List U} : biU .list (.dic ks us) = some (.lst ks) := rfl
theorem bi_tup_tup {us : List U} : biU .tuple (.tup us) = some (.tup us) := rfl
theorem bi_tup_lst {us : List U} : biU .tuple (.lst us) = some (.tup us) := rfl
theorem bi_int_bl {c : Bool} : biU .int (.bl c) = some (.int (if c then 1 else 0)) := rfl
theorem bi_int_int {c : Int} : biU .int (.int c) = some (.int c) := rfl
theorem bi_sort {us : List U} : biU .sorted (.lst us) = (sortU us).map .lst := rfl
theorem bin_addI {i j : Int} : binU .add (.int i) (.int j) = some (.int (i + j)) := rfl
theorem bin_subI {i j : Int} : binU .sub (.int i) (.int j) = some (.int (i - j)) := rfl
theorem bin_mulI {i j : Int} : binU .mul (.int i) (.int j) = if mulOk i j then some (.int (i * j)) else none := rfl
theorem bin_modI {i j : Int} : binU .mod (.int i) (.int j) = if j ≠ 0 then some (.int (i.fmod j)) else none := rfl
theorem bin_addT {xs ys : List U} : binU .add (.tup xs) (.tup ys) = if xs.length + ys.length ≤ LIM then some (.tup (xs ++ ys)) else none := rfl
theorem bin_addS {x y : Str} : binU .add (.str x) (.str y) = if x.length + y.length ≤ LIM then some (.str (x ++ y)) else none := rfl
theorem cmp_lt {i j : Int} : cmpU .lt (.int i) (.int j) = some (decide (i < j)) := rfl
theorem cmp_le {i j : Int} : cmpU .le (.int i) (.int j) = some (decide (i ≤ j)) := rfl
theorem cmp_gt {i j : Int} : cmpU .gt (.int i) (.int j) = some (decide (j < i)) := rfl
theorem cmp_ge {i j : Int} : cmpU .ge (.int i) (.int j) = some (decide (j ≤ i)) := rfl
theorem mem_str {x y : Str} : memU (.str x) (.str y) = oneIn x y := rfl
theorem mem_tup {a : U} {us : List U} : memU a (.tup us) = if flatU a && us.all flatU then inU a us else none := rfl
theorem mem_dic {a : U} {ks us : List U} : memU a (.dic ks us) = if alikeU ks a then some (dgetU ks us a).isSome else none := rfl
theorem one_in {c : Nat} {y : Str} : oneIn ⟨#[c]⟩ y = some (decide (c ∈ y.cps.toList)) := rfl
theorem isT_str_s {x : Str} : isTU (.str x) .str = some true := rfl
theorem isT_str_t {x : Str} : isTU (.str x) .tuple = some false := rfl
theorem isT_tup {us : List U} : isTU (.tup us) .tuple = some true := rfl
theorem isT_int {i : Int} : isTU (.int i) .int = some true := rfl
theorem isT_int_b {i : Int} : isTU (.int i) .bool = some false := rfl
theorem isT_lst {us : List U} : isTU (.lst us) .list = some true := rfl
theorem sl_tup {us : List U} {lo hi : Option Int} : slU (.tup us) lo hi = some (.tup (cutL us lo hi)) := rfl
theorem sl_lst {us : List U} {lo hi : Option Int} : slU (.lst us) lo hi = some (.lst (cutL us lo hi)) := rfl
theorem walk_str {x : Str} : walkU (.str x) = some (x.cps.toList.map fun c => .str ⟨#[c]⟩) := rfl
theorem walk_ro {ns : List Int} : walkU (.ro ns) = some (ns.map .int) := rfl
theorem mut_app {us : List U} {v : U} : mutU .append us [v] = if us.length < LIM then some (.non, us ++ [v]) else none := rfl
theorem mut_ext {us vs : List U} : mutU .extend us [.lst vs] = if us.length + vs.length ≤ LIM then some (.non, us ++ vs) else none := rfl
theorem non_tup {us : List U} : isNonU (.tup us) = false := rfl
theorem non_lst {us : List U} : isNonU (.lst us) = false := rfl
theorem non_bl {b : Bool} : isNonU (.bl b) = false := rfl
theorem flat_str {x : Str} : flatU (.str x) = true := rfl
theorem flat_int {x : Int} : flatU (.int x) = true := rfl
theorem boolsU_map {α : Type} {f : α → Bool} : ∀ {xs : List α}, boolsU (xs.map fun x => U.bl (f x)) = some (xs.map f)
  | [] => rfl
  | x :: xs => by simp only [List.map_cons, boolsU, boolsU_map, Option.map_some]
theorem inU_nil {x : Str} : inU (.str x) [] = some false := by simp [inU, toDataU, toDatasU]
theorem inU_str {x y : Str} {us : List U} : inU (.str x) (.str y :: us) = (inU (.str x) us).map fun b => decide (y = x) || b := by
  unfold inU
  simp only [toDataU, toDatasU]
  cases toDatasU 63 us with
  | none => rfl
  | some ps => simp [PyData.eqv, Bool.beq_eq_decide_eq]
theorem seqS_if {Ob : Type} {p : Prop} [Decidable p] {a b : SU Ob} {f : EnvU → List Ob → SU Ob} : seqS (if p then a else b) f = if p then seqS a f else seqS b f := by split <;> rfl
theorem fin_if {Ob : Type} {p : Prop} [Decidable p] {a b : SU Ob} : (if p then a else b).fin = if p then a.fin else b.fin := by split <;> rfl
theorem bind_if {Ob α β : Type} {p : Prop} [Decidable p] {a b : RU Ob α} {f : α → EnvU → List Ob → RU Ob β} : (if p then a else b).bind f = if p then a.bind f else b.bind f := by split <;> rfl
theorem to_if {Ob α : Type} {p : Prop} [Decidable p] {a b : RU Ob α} {f : α → EnvU → List Ob → SU Ob} : (if p then a else b).to f = if p then a.to f else b.to f := by split <;> rfl
theorem strsU_map : ∀ (xs : List Str), strsU (xs.map .str) = some xs
  | [] => rfl
  | x :: xs => by simp only [List.map_cons, strsU, strsU_map xs, Option.map_some]
structure UFind {Ob : Type} (T : TabU) (O : Nat → Str → List U → List Ob → Option (RC Ob)) : Prop where
  file_on : Has T O "file_on" 2 3 p_file_on
  line_of : Has T O "line_of" 2 3 p_line_of
  found_by : Has T O "found_by" 3 4 p_found_by
section
variable {Ob : Type} {T : TabU} {O : Nat → Str → List U → List Ob → Option (RC Ob)} {cn : Str} {W n : Nat} {H : List Ob} {w : Wld}
theorem file_on_u (h : UFind T O) (s : List File) (x : Str) : callU O cn T W (n + 1) "file_on" [.tup (s.map File.u), .str x] H = .ok (optFU (fileOn s x)) H := by
  rw [h.file_on.run [] rfl rfl]
  unfold p_file_on
  simp only [e_k, e_lc, e_bin, e_neg, e_not, e_and, e_or, e_cmp, e_chn, e_isN, e_notN, e_ite, e_call, e_mth, e_bi, e_lset, e_isT, e_get, e_index, e_append, e_extend, e_pop, e_popi, e_ix, e_sl, e_lst, e_tup, e_dct, e_comp, es_nil, es_cons, eo_none, eo_some, ec_none, ec_some, ed_nil, ed_cons, ei_val, ei_rng, ei_rng2, ei_enm, ei_zip, x_asg, x_asgT, x_aset, x_ife, x_fr, x_whl, x_ret, x_exp, x_pass, x_cont, x_rse, x_rsw, xs_nil, xs_cons, b_lc, b_k, s_k, b_bin, s_bin, b_neg, s_neg, b_not, s_not, b_and, s_and, b_or, s_or, b_cmp, s_cmp, b_chn, s_chn, b_isN, s_isN, b_notN, s_notN, b_ite, s_ite, b_call, s_call, b_cal, s_cal, b_mth, s_mth, b_bi, s_bi, b_lset, s_lset, b_bm, s_bm, b_isT, s_isT, b_isX, s_isX, b_fld, s_fld, b_ix, s_ix, b_sl, s_sl, b_lst, s_lst, b_tup, s_tup, b_dct, s_dct, b_comp, s_comp,  s_lc, same_self, look_at, out_some, bind_ok, bind_exc, to_ok, to_exc, seq_next, seq_ret, seq_cont, seq_exc, ofO_some, ofB_some, ofC_ok, ofC_exc, fin_ret, fin_next, fin_exc, iteR_t, iteR_f, ifeR_t, ifeR_f, chnR_t, lstR_some, hasR_some, mthR_obj, negR_i, notR_b, mutR_s, dicR_s, comR_s, intR_i, boolR_b, nxtR_s, rngR_i, rng2R_i, zipR_s, setR_d, memN, freshE, noRef, isDicU, isLstU, asg_nm, asg_tup, asg_lst, asgsU, wipeU, lockI, lockE, ofD, Nat.beq, List.map_cons, List.map_nil, List.replicate, List.nil_append, List.cons_append, List.append_nil, List.getElem?_cons_zero, List.getElem?_cons_succ, List.set_cons_zero, List.set_cons_succ, List.length_cons, List.length_nil, List.length_set, Bool.or_false, Bool.false_or, Bool.or_true, Bool.true_or, Bool.not_false, Bool.not_true, Bool.and_true, Bool.true_and, Bool.and_false, Bool.false_and, Bool.false_eq_true, Bool.not_eq_true, decide_true, decide_false, if_true, if_false, Option.map_some, Option.map_none, decide_eq_true_eq, and_true, true_and, Nat.zero_lt_succ, Nat.reduceAdd, Nat.reduceLT, Nat.reduceLeDiff, Nat.reduceEqDiff, Nat.reduceSub, Nat.sub_self, LIM, turn_next, turn_cont, turn_ret, walkU]
  rw [forU_find File.u [some (.tup (s.map File.u)), some (.str x), none] (fun f => if f.name = x then some f.u else none) s]
  · unfold fileOn
    generalize [some (U.tup (s.map File.u)), some (.str x), none] = ρ
    induction s with
    | nil => rfl
    | cons f s ih =>
      rw [List.findSome?_cons, List.find?_cons]
      by_cases hf : f.name = x
      · simp only [hf, if_true, decide_true, e_k, e_lc, e_bin, e_neg, e_not, e_and, e_or, e_cmp, e_chn, e_isN, e_notN, e_ite, e_call, e_mth, e_bi, e_lset, e_isT, e_get, e_index, e_append, e_extend, e_pop, e_popi, e_ix, e_sl, e_lst, e_tup, e_dct, e_comp, es_nil, es_cons, eo_none, eo_some, ec_none, ec_some, ed_nil, ed_cons, ei_val, ei_rng, ei_rng2, ei_enm, ei_zip, x_asg, x_asgT, x_aset, x_ife, x_fr, x_whl, x_ret, x_exp, x_pass, x_cont, x_rse, x_rsw, xs_nil, xs_cons, b_lc, b_k, s_k, b_bin, s_bin, b_neg, s_neg, b_not, s_not, b_and, s_and, b_or, s_or, b_cmp, s_cmp, b_chn, s_chn, b_isN, s_isN, b_notN, s_notN, b_ite, s_ite, b_call, s_call, b_cal, s_cal, b_mth, s_mth, b_bi, s_bi, b_lset, s_lset, b_bm, s_bm, b_isT, s_isT, b_isX, s_isX, b_fld, s_fld, b_ix, s_ix, b_sl, s_sl, b_lst, s_lst, b_tup, s_tup, b_dct, s_dct, b_comp, s_comp,  s_lc, same_self, look_at, out_some, bind_ok, bind_exc, to_ok, to_exc, seq_next, seq_ret, seq_cont, seq_exc, ofO_some, ofB_some, ofC_ok, ofC_exc, fin_ret, fin_next, fin_exc, iteR_t, iteR_f, ifeR_t, ifeR_f, chnR_t, lstR_some, hasR_some, mthR_obj, negR_i, notR_b, mutR_s, dicR_s, comR_s, intR_i, boolR_b, nxtR_s, rngR_i, rng2R_i, zipR_s, setR_d, memN, freshE, noRef, isDicU, isLstU, asg_nm, asg_tup, asg_lst, asgsU, wipeU, lockI, lockE, ofD, Nat.beq, List.map_cons, List.map_nil, List.replicate, List.nil_append, List.cons_append, List.append_nil, List.getElem?_cons_zero, List.getElem?_cons_succ, List.set_cons_zero, List.set_cons_succ, List.length_cons, List.length_nil, List.length_set, Bool.or_false, Bool.false_or, Bool.or_true, Bool.true_or, Bool.not_false, Bool.not_true, Bool.and_true, Bool.true_and, Bool.and_false, Bool.false_and, Bool.false_eq_true, Bool.not_eq_true, decide_true, decide_false, if_true, if_false, Option.map_some, Option.map_none, decide_eq_true_eq, and_true, true_and, Nat.zero_lt_succ, Nat.reduceAdd, Nat.reduceLT, Nat.reduceLeDiff, Nat.reduceEqDiff, Nat.reduceSub, Nat.sub_self, LIM, turn_next, turn_cont, turn_ret, optFU]
      · simp only [hf, if_false, decide_false]; exact ih
  · rfl
  · intro f hf
    simp only [e_k, e_lc, e_bin, e_neg, e_not, e_and, e_or, e_cmp, e_chn, e_isN, e_notN, e_ite, e_call, e_mth, e_bi, e_lset, e_isT, e_get, e_index, e_append, e_extend, e_pop, e_popi, e_ix, e_sl, e_lst, e_tup, e_dct, e_comp, es_nil, es_cons, eo_none, eo_some, ec_none, ec_some, ed_nil, ed_cons, ei_val, ei_rng, ei_rng2, ei_enm, ei_zip, x_asg, x_asgT, x_aset, x_ife, x_fr, x_whl, x_ret, x_exp, x_pass, x_cont, x_rse, x_rsw, xs_nil, xs_cons, b_lc, b_k, s_k, b_bin, s_bin, b_neg, s_neg, b_not, s_not, b_and, s_and, b_or, s_or, b_cmp, s_cmp, b_chn, s_chn, b_isN, s_isN, b_notN, s_notN, b_ite, s_ite, b_call, s_call, b_cal, s_cal, b_mth, s_mth, b_bi, s_bi, b_lset, s_lset, b_bm, s_bm, b_isT, s_isT, b_isX, s_isX, b_fld, s_fld, b_ix, s_ix, b_sl, s_sl, b_lst, s_lst, b_tup, s_tup, b_dct, s_dct, b_comp, s_comp,  s_lc, same_self, look_at, out_some, bind_ok, bind_exc, to_ok, to_exc, seq_next, seq_ret, seq_cont, seq_exc, ofO_some, ofB_some, ofC_ok, ofC_exc, fin_ret, fin_next, fin_exc, iteR_t, iteR_f, ifeR_t, ifeR_f, chnR_t, lstR_some, hasR_some, mthR_obj, negR_i, notR_b, mutR_s, dicR_s, comR_s, intR_i, boolR_b, nxtR_s, rngR_i, rng2R_i, zipR_s, setR_d, memN, freshE, noRef, isDicU, isLstU, asg_nm, asg_tup, asg_lst, asgsU, wipeU, lockI, lockE, ofD, Nat.beq, List.map_cons, List.map_nil, List.replicate, List.nil_append, List.cons_append, List.append_nil, List.getElem?_cons_zero, List.getElem?_cons_succ, List.set_cons_zero, List.set_cons_succ, List.length_cons, List.length_nil, List.length_set, Bool.or_false, Bool.false_or, Bool.or_true, Bool.true_or, Bool.not_false, Bool.not_true, Bool.and_true, Bool.true_and, Bool.and_false, Bool.false_and, Bool.false_eq_true, Bool.not_eq_true, decide_true, decide_false, if_true, if_false, Option.map_some, Option.map_none, decide_eq_true_eq, and_true, true_and, Nat.zero_lt_succ, Nat.reduceAdd, Nat.reduceLT, Nat.reduceLeDiff, Nat.reduceEqDiff, Nat.reduceSub, Nat.sub_self, LIM, turn_next, turn_cont, turn_ret, fturn, file_1, cmp_eq, eqU_str, ifeR_b]
    by_cases hn : f.name = x
    · simp only [hn, e_k, e_lc, e_bin, e_neg, e_not, e_and, e_or, e_cmp, e_chn, e_isN, e_notN, e_ite, e_call, e_mth, e_bi, e_lset, e_isT, e_get, e_index, e_append, e_extend, e_pop, e_popi, e_ix, e_sl, e_lst, e_tup, e_dct, e_comp, es_nil, es_cons, eo_none, eo_some, ec_none, ec_some, ed_nil, ed_cons, ei_val, ei_rng, ei_rng2, ei_enm, ei_zip, x_asg, x_asgT, x_aset, x_ife, x_fr, x_whl, x_ret, x_exp, x_pass, x_cont, x_rse, x_rsw, xs_nil, xs_cons, b_lc, b_k, s_k, b_bin, s_bin, b_neg, s_neg, b_not, s_not, b_and, s_and, b_or, s_or, b_cmp, s_cmp, b_chn, s_chn, b_isN, s_isN, b_notN, s_notN, b_ite, s_ite, b_call, s_call, b_cal, s_cal, b_mth, s_mth, b_bi, s_bi, b_lset, s_lset, b_bm, s_bm, b_isT, s_isT, b_isX, s_isX, b_fld, s_fld, b_ix, s_ix, b_sl, s_sl, b_lst, s_lst, b_tup, s_tup, b_dct, s_dct, b_comp, s_comp,  s_lc, same_self, look_at, out_some, bind_ok, bind_exc, to_ok, to_exc, seq_next, seq_ret, seq_cont, seq_exc, ofO_some, ofB_some, ofC_ok, ofC_exc, fin_ret, fin_next, fin_exc, iteR_t, iteR_f, ifeR_t, ifeR_f, chnR_t, lstR_some, hasR_some, mthR_obj, negR_i, notR_b, mutR_s, dicR_s, comR_s, intR_i, boolR_b, nxtR_s, rngR_i, rng2R_i, zipR_s, setR_d, memN, freshE, noRef, isDicU, isLstU, asg_nm, asg_tup, asg_lst, asgsU, wipeU, lockI, lockE, ofD, Nat.beq, List.map_cons, List.map_nil, List.replicate, List.nil_append, List.cons_append, List.append_nil, List.getElem?_cons_zero, List.getElem?_cons_succ, List.set_cons_zero, List.set_cons_succ, List.length_cons, List.length_nil, List.length_set, Bool.or_false, Bool.false_or, Bool.or_true, Bool.true_or, Bool.not_false, Bool.not_true, Bool.and_true, Bool.true_and, Bool.and_false, Bool.false_and, Bool.false_eq_true, Bool.not_eq_true, decide_true, decide_false, if_true, if_false, Option.map_some, Option.map_none, decide_eq_true_eq, and_true, true_and, Nat.zero_lt_succ, Nat.reduceAdd, Nat.reduceLT, Nat.reduceLeDiff, Nat.reduceEqDiff, Nat.reduceSub, Nat.sub_self, LIM, turn_next, turn_cont, turn_ret]
    · simp only [hn, e_k, e_lc, e_bin, e_neg, e_not, e_and, e_or, e_cmp, e_chn, e_isN, e_notN, e_ite, e_call, e_mth, e_bi, e_lset, e_isT, e_get, e_index, e_append, e_extend, e_pop, e_popi, e_ix, e_sl, e_lst, e_tup, e_dct, e_comp, es_nil, es_cons, eo_none, eo_some, ec_none, ec_some, ed_nil, ed_cons, ei_val, ei_rng, ei_rng2, ei_enm, ei_zip, x_asg, x_asgT, x_aset, x_ife, x_fr, x_whl, x_ret, x_exp, x_pass, x_cont, x_rse, x_rsw, xs_nil, xs_cons, b_lc, b_k, s_k, b_bin, s_bin, b_neg, s_neg, b_not, s_not, b_and, s_and, b_or, s_or, b_cmp, s_cmp, b_chn, s_chn, b_isN, s_isN, b_notN, s_notN, b_ite, s_ite, b_call, s_call, b_cal, s_cal, b_mth, s_mth, b_bi, s_bi, b_lset, s_lset, b_bm, s_bm, b_isT, s_isT, b_isX, s_isX, b_fld, s_fld, b_ix, s_ix, b_sl, s_sl, b_lst, s_lst, b_tup, s_tup, b_dct, s_dct, b_comp, s_comp,  s_lc, same_self, look_at, out_some, bind_ok, bind_exc, to_ok, to_exc, seq_next, seq_ret, seq_cont, seq_exc, ofO_some, ofB_some, ofC_ok, ofC_exc, fin_ret, fin_next, fin_exc, iteR_t, iteR_f, ifeR_t, ifeR_f, chnR_t, lstR_some, hasR_some, mthR_obj, negR_i, notR_b, mutR_s, dicR_s, comR_s, intR_i, boolR_b, nxtR_s, rngR_i, rng2R_i, zipR_s, setR_d, memN, freshE, noRef, isDicU, isLstU, asg_nm, asg_tup, asg_lst, asgsU, wipeU, lockI, lockE, ofD, Nat.beq, List.map_cons, List.map_nil, List.replicate, List.nil_append, List.cons_append, List.append_nil, List.getElem?_cons_zero, List.getElem?_cons_succ, List.set_cons_zero, List.set_cons_succ, List.length_cons, List.length_nil, List.length_set, Bool.or_false, Bool.false_or, Bool.or_true, Bool.true_or, Bool.not_false, Bool.not_true, Bool.and_true, Bool.true_and, Bool.and_false, Bool.false_and, Bool.false_eq_true, Bool.not_eq_true, decide_true, decide_false, if_true, if_false, Option.map_some, Option.map_none, decide_eq_true_eq, and_true, true_and, Nat.zero_lt_succ, Nat.reduceAdd, Nat.reduceLT, Nat.reduceLeDiff, Nat.reduceEqDiff, Nat.reduceSub, Nat.sub_self, LIM, turn_next, turn_cont, turn_ret]; rfl
theorem asg_file {M : List Nat} {ts : Tgs} {f : File} {ρ : EnvU} : asgU M (.tp ts) f.u ρ = asgsU M ts [.str (kindV f.face), .str f.name, optSU f.above, .tup (f.faces.map .str), .tup (f.rows.map Row.u)] ρ := by unfold File.u; simp only [asgU]
theorem asg_ldr {M : List Nat} {ts : Tgs} {l : Ldr} {ρ : EnvU} : asgU M (.tp ts) l.u ρ = asgsU M ts [optIU l.par, .tup (l.shelf.map File.u)] ρ := by unfold Ldr.u; simp only [asgU]
theorem asg_cls {M : List Nat} {ts : Tgs} {c : Cls} {ρ : EnvU} : asgU M (.tp ts) (clsU c) ρ = asgsU M ts [.int (c.1 : Int), .str c.2] ρ := by unfold clsU; simp only [asgU]
def optNU : Option Nat → U
  | none => .non
  | some x => .int (x : Int)
theorem non_optN {x : Option Nat} : isNonU (optNU x) = x.isNone := by cases x <;> rfl
theorem optI_N {w : Wld} (hw : WOk w) {l : Nat} (hl : l < w.length) : optIU w[l].par = optNU (w[l].par.map Int.toNat) := by
  cases hp : w[l].par with
  | none => rfl
  | some p =>
    have := (hw.par l w[l] p (List.getElem?_eq_getElem hl) hp).1
    show U.int p = .int ((p.toNat : Nat) : Int)
    rw [Int.toNat_of_nonneg this]
theorem bin_addL {xs ys : List U} : binU .add (.lst xs) (.lst ys) = if xs.length + ys.length ≤ LIM then some (.lst (xs ++ ys)) else none := rfl
theorem lim_nat {n : Nat} (h : n ≤ 100000) : n ≤ LIM := by unfold LIM; omega
theorem natsU_len {ls : List Nat} : (natsU ls).length = ls.length := by unfold natsU; rw [List.length_map]
theorem line_of_u (h : UFind T O) (hW : 100 ≤ W) (hw : WOk w) {l : Nat} (hl : l < w.length) : callU O cn T W (n + 1) "line_of" [wU w, .int (l : Int)] H = .ok (.lst (natsU (line w l))) H := by
  rw [h.line_of.run [] rfl rfl]
  unfold p_line_of
  simp only [e_k, e_lc, e_bin, e_neg, e_not, e_and, e_or, e_cmp, e_chn, e_isN, e_notN, e_ite, e_call, e_mth, e_bi, e_lset, e_isT, e_get, e_index, e_append, e_extend, e_pop, e_popi, e_ix, e_sl, e_lst, e_tup, e_dct, e_comp, es_nil, es_cons, eo_none, eo_some, ec_none, ec_some, ed_nil, ed_cons, ei_val, ei_rng, ei_rng2, ei_enm, ei_zip, x_asg, x_asgT, x_aset, x_ife, x_fr, x_whl, x_ret, x_exp, x_pass, x_cont, x_rse, x_rsw, xs_nil, xs_cons, b_lc, b_k, s_k, b_bin, s_bin, b_neg, s_neg, b_not, s_not, b_and, s_and, b_or, s_or, b_cmp, s_cmp, b_chn, s_chn, b_isN, s_isN, b_notN, s_notN, b_ite, s_ite, b_call, s_call, b_cal, s_cal, b_mth, s_mth, b_bi, s_bi, b_lset, s_lset, b_bm, s_bm, b_isT, s_isT, b_isX, s_isX, b_fld, s_fld, b_ix, s_ix, b_sl, s_sl, b_lst, s_lst, b_tup, s_tup, b_dct, s_dct, b_comp, s_comp,  s_lc, same_self, look_at, out_some, bind_ok, bind_exc, to_ok, to_exc, seq_next, seq_ret, seq_cont, seq_exc, ofO_some, ofB_some, ofC_ok, ofC_exc, fin_ret, fin_next, fin_exc, iteR_t, iteR_f, ifeR_t, ifeR_f, chnR_t, lstR_some, hasR_some, mthR_obj, negR_i, notR_b, mutR_s, dicR_s, comR_s, intR_i, boolR_b, nxtR_s, rngR_i, rng2R_i, zipR_s, setR_d, memN, freshE, noRef, isDicU, isLstU, asg_nm, asg_tup, asg_lst, asgsU, wipeU, lockI, lockE, ofD, Nat.beq, List.map_cons, List.map_nil, List.replicate, List.nil_append, List.cons_append, List.append_nil, List.getElem?_cons_zero, List.getElem?_cons_succ, List.set_cons_zero, List.set_cons_succ, List.length_cons, List.length_nil, List.length_set, Bool.or_false, Bool.false_or, Bool.or_true, Bool.true_or, Bool.not_false, Bool.not_true, Bool.and_true, Bool.true_and, Bool.and_false, Bool.false_and, Bool.false_eq_true, Bool.not_eq_true, decide_true, decide_false, if_true, if_false, Option.map_some, Option.map_none, decide_eq_true_eq, and_true, true_and, Nat.zero_lt_succ, Nat.reduceAdd, Nat.reduceLT, Nat.reduceLeDiff, Nat.reduceEqDiff, Nat.reduceSub, Nat.sub_self, LIM, turn_next, turn_cont, turn_ret]
  refine whlU_use (P := fun r => (seqS r _).fin = _) (fun s : List Nat × Option Nat => [some (wU w), some (optNU s.2), some (.lst (natsU s.1))]) (fun _ => H) (fun s => s.2.isSome) (fun s => match s.2 with
      | some o => (o :: s.1, ((w[o]?).bind (·.par)).map Int.toNat)
      | none => s) (fun s => match s.2 with
      | some o => o + 1
      | none => 0) (fun s => match s.2 with
      | some o => o < w.length ∧ line w o ++ s.1 = line w l
      | none => s.1 = line w l) ([], some l) rfl rfl ⟨hl, by simp⟩ (by have := hw.len; show l + 1 < W; omega) (fun s hi => ?_) (fun s hi hp => ?_) fun s hi hp => ?_
  · simp only [e_k, e_lc, e_bin, e_neg, e_not, e_and, e_or, e_cmp, e_chn, e_isN, e_notN, e_ite, e_call, e_mth, e_bi, e_lset, e_isT, e_get, e_index, e_append, e_extend, e_pop, e_popi, e_ix, e_sl, e_lst, e_tup, e_dct, e_comp, es_nil, es_cons, eo_none, eo_some, ec_none, ec_some, ed_nil, ed_cons, ei_val, ei_rng, ei_rng2, ei_enm, ei_zip, x_asg, x_asgT, x_aset, x_ife, x_fr, x_whl, x_ret, x_exp, x_pass, x_cont, x_rse, x_rsw, xs_nil, xs_cons, b_lc, b_k, s_k, b_bin, s_bin, b_neg, s_neg, b_not, s_not, b_and, s_and, b_or, s_or, b_cmp, s_cmp, b_chn, s_chn, b_isN, s_isN, b_notN, s_notN, b_ite, s_ite, b_call, s_call, b_cal, s_cal, b_mth, s_mth, b_bi, s_bi, b_lset, s_lset, b_bm, s_bm, b_isT, s_isT, b_isX, s_isX, b_fld, s_fld, b_ix, s_ix, b_sl, s_sl, b_lst, s_lst, b_tup, s_tup, b_dct, s_dct, b_comp, s_comp,  s_lc, same_self, look_at, out_some, bind_ok, bind_exc, to_ok, to_exc, seq_next, seq_ret, seq_cont, seq_exc, ofO_some, ofB_some, ofC_ok, ofC_exc, fin_ret, fin_next, fin_exc, iteR_t, iteR_f, ifeR_t, ifeR_f, chnR_t, lstR_some, hasR_some, mthR_obj, negR_i, notR_b, mutR_s, dicR_s, comR_s, intR_i, boolR_b, nxtR_s, rngR_i, rng2R_i, zipR_s, setR_d, memN, freshE, noRef, isDicU, isLstU, asg_nm, asg_tup, asg_lst, asgsU, wipeU, lockI, lockE, ofD, Nat.beq, List.map_cons, List.map_nil, List.replicate, List.nil_append, List.cons_append, List.append_nil, List.getElem?_cons_zero, List.getElem?_cons_succ, List.set_cons_zero, List.set_cons_succ, List.length_cons, List.length_nil, List.length_set, Bool.or_false, Bool.false_or, Bool.or_true, Bool.true_or, Bool.not_false, Bool.not_true, Bool.and_true, Bool.true_and, Bool.and_false, Bool.false_and, Bool.false_eq_true, Bool.not_eq_true, decide_true, decide_false, if_true, if_false, Option.map_some, Option.map_none, decide_eq_true_eq, and_true, true_and, Nat.zero_lt_succ, Nat.reduceAdd, Nat.reduceLT, Nat.reduceLeDiff, Nat.reduceEqDiff, Nat.reduceSub, Nat.sub_self, LIM, turn_next, turn_cont, turn_ret, non_optN]
    cases s.2 <;> rfl
  · obtain ⟨made, cur⟩ := s
    cases cur with
    | none => cases hp
    | some o =>
      obtain ⟨ho, hline⟩ := hi
      have hline : line w o ++ made = line w l := hline
      have hlen : made.length ≤ 4 := by
        have h1 := line_len hw l hl
        have h2 := hw.len
        have h3 := congrArg List.length hline
        rw [List.length_append] at h3
        omega
      have hg : w[o]? = some w[o] := List.getElem?_eq_getElem ho
      refine ⟨?_, ?_, ?_⟩
      · simp only [e_k, e_lc, e_bin, e_neg, e_not, e_and, e_or, e_cmp, e_chn, e_isN, e_notN, e_ite, e_call, e_mth, e_bi, e_lset, e_isT, e_get, e_index, e_append, e_extend, e_pop, e_popi, e_ix, e_sl, e_lst, e_tup, e_dct, e_comp, es_nil, es_cons, eo_none, eo_some, ec_none, ec_some, ed_nil, ed_cons, ei_val, ei_rng, ei_rng2, ei_enm, ei_zip, x_asg, x_asgT, x_aset, x_ife, x_fr, x_whl, x_ret, x_exp, x_pass, x_cont, x_rse, x_rsw, xs_nil, xs_cons, b_lc, b_k, s_k, b_bin, s_bin, b_neg, s_neg, b_not, s_not, b_and, s_and, b_or, s_or, b_cmp, s_cmp, b_chn, s_chn, b_isN, s_isN, b_notN, s_notN, b_ite, s_ite, b_call, s_call, b_cal, s_cal, b_mth, s_mth, b_bi, s_bi, b_lset, s_lset, b_bm, s_bm, b_isT, s_isT, b_isX, s_isX, b_fld, s_fld, b_ix, s_ix, b_sl, s_sl, b_lst, s_lst, b_tup, s_tup, b_dct, s_dct, b_comp, s_comp,  s_lc, same_self, look_at, out_some, bind_ok, bind_exc, to_ok, to_exc, seq_next, seq_ret, seq_cont, seq_exc, ofO_some, ofB_some, ofC_ok, ofC_exc, fin_ret, fin_next, fin_exc, iteR_t, iteR_f, ifeR_t, ifeR_f, chnR_t, lstR_some, hasR_some, mthR_obj, negR_i, notR_b, mutR_s, dicR_s, comR_s, intR_i, boolR_b, nxtR_s, rngR_i, rng2R_i, zipR_s, setR_d, memN, freshE, noRef, isDicU, isLstU, asg_nm, asg_tup, asg_lst, asgsU, wipeU, lockI, lockE, ofD, Nat.beq, List.map_cons, List.map_nil, List.replicate, List.nil_append, List.cons_append, List.append_nil, List.getElem?_cons_zero, List.getElem?_cons_succ, List.set_cons_zero, List.set_cons_succ, List.length_cons, List.length_nil, List.length_set, Bool.or_false, Bool.false_or, Bool.or_true, Bool.true_or, Bool.not_false, Bool.not_true, Bool.and_true, Bool.true_and, Bool.and_false, Bool.false_and, Bool.false_eq_true, Bool.not_eq_true, decide_true, decide_false, if_true, if_false, Option.map_some, Option.map_none, decide_eq_true_eq, and_true, true_and, Nat.zero_lt_succ, Nat.reduceAdd, Nat.reduceLT, Nat.reduceLeDiff, Nat.reduceEqDiff, Nat.reduceSub, Nat.sub_self, LIM, turn_next, turn_cont, turn_ret, optNU, bin_addL, natsU_len, wU_at ho, ldr_0, optI_N hw ho]
        rw [if_pos (by omega)]
        simp only [e_k, e_lc, e_bin, e_neg, e_not, e_and, e_or, e_cmp, e_chn, e_isN, e_notN, e_ite, e_call, e_mth, e_bi, e_lset, e_isT, e_get, e_index, e_append, e_extend, e_pop, e_popi, e_ix, e_sl, e_lst, e_tup, e_dct, e_comp, es_nil, es_cons, eo_none, eo_some, ec_none, ec_some, ed_nil, ed_cons, ei_val, ei_rng, ei_rng2, ei_enm, ei_zip, x_asg, x_asgT, x_aset, x_ife, x_fr, x_whl, x_ret, x_exp, x_pass, x_cont, x_rse, x_rsw, xs_nil, xs_cons, b_lc, b_k, s_k, b_bin, s_bin, b_neg, s_neg, b_not, s_not, b_and, s_and, b_or, s_or, b_cmp, s_cmp, b_chn, s_chn, b_isN, s_isN, b_notN, s_notN, b_ite, s_ite, b_call, s_call, b_cal, s_cal, b_mth, s_mth, b_bi, s_bi, b_lset, s_lset, b_bm, s_bm, b_isT, s_isT, b_isX, s_isX, b_fld, s_fld, b_ix, s_ix, b_sl, s_sl, b_lst, s_lst, b_tup, s_tup, b_dct, s_dct, b_comp, s_comp,  s_lc, same_self, look_at, out_some, bind_ok, bind_exc, to_ok, to_exc, seq_next, seq_ret, seq_cont, seq_exc, ofO_some, ofB_some, ofC_ok, ofC_exc, fin_ret, fin_next, fin_exc, iteR_t, iteR_f, ifeR_t, ifeR_f, chnR_t, lstR_some, hasR_some, mthR_obj, negR_i, notR_b, mutR_s, dicR_s, comR_s, intR_i, boolR_b, nxtR_s, rngR_i, rng2R_i, zipR_s, setR_d, memN, freshE, noRef, isDicU, isLstU, asg_nm, asg_tup, asg_lst, asgsU, wipeU, lockI, lockE, ofD, Nat.beq, List.map_cons, List.map_nil, List.replicate, List.nil_append, List.cons_append, List.append_nil, List.getElem?_cons_zero, List.getElem?_cons_succ, List.set_cons_zero, List.set_cons_succ, List.length_cons, List.length_nil, List.length_set, Bool.or_false, Bool.false_or, Bool.or_true, Bool.true_or, Bool.not_false, Bool.not_true, Bool.and_true, Bool.true_and, Bool.and_false, Bool.false_and, Bool.false_eq_true, Bool.not_eq_true, decide_true, decide_false, if_true, if_false, Option.map_some, Option.map_none, decide_eq_true_eq, and_true, true_and, Nat.zero_lt_succ, Nat.reduceAdd, Nat.reduceLT, Nat.reduceLeDiff, Nat.reduceEqDiff, Nat.reduceSub, Nat.sub_self, LIM, turn_next, turn_cont, turn_ret, wU_at ho, ldr_0, optI_N hw ho, hg, Option.bind_some]
        rfl
      · simp only [hg, Option.bind_some]
        have e := line_eq hw ho
        cases hp : w[o].par with
        | none =>
          rw [hp] at e
          rw [e] at hline
          exact hline
        | some p =>
          rw [hp] at e
          have := hw.par o w[o] p hg hp
          rw [e, List.append_assoc] at hline
          exact ⟨by show p.toNat < w.length; omega, hline⟩
      · simp only [hg, Option.bind_some]
        cases hp : w[o].par with
        | none => exact Nat.succ_pos _
        | some p =>
          have := hw.par o w[o] p hg hp
          show p.toNat + 1 < o + 1
          omega
  · obtain ⟨made, cur⟩ := s
    cases cur with
    | some o => cases hp
    | none =>
      simp only [e_k, e_lc, e_bin, e_neg, e_not, e_and, e_or, e_cmp, e_chn, e_isN, e_notN, e_ite, e_call, e_mth, e_bi, e_lset, e_isT, e_get, e_index, e_append, e_extend, e_pop, e_popi, e_ix, e_sl, e_lst, e_tup, e_dct, e_comp, es_nil, es_cons, eo_none, eo_some, ec_none, ec_some, ed_nil, ed_cons, ei_val, ei_rng, ei_rng2, ei_enm, ei_zip, x_asg, x_asgT, x_aset, x_ife, x_fr, x_whl, x_ret, x_exp, x_pass, x_cont, x_rse, x_rsw, xs_nil, xs_cons, b_lc, b_k, s_k, b_bin, s_bin, b_neg, s_neg, b_not, s_not, b_and, s_and, b_or, s_or, b_cmp, s_cmp, b_chn, s_chn, b_isN, s_isN, b_notN, s_notN, b_ite, s_ite, b_call, s_call, b_cal, s_cal, b_mth, s_mth, b_bi, s_bi, b_lset, s_lset, b_bm, s_bm, b_isT, s_isT, b_isX, s_isX, b_fld, s_fld, b_ix, s_ix, b_sl, s_sl, b_lst, s_lst, b_tup, s_tup, b_dct, s_dct, b_comp, s_comp,  s_lc, same_self, look_at, out_some, bind_ok, bind_exc, to_ok, to_exc, seq_next, seq_ret, seq_cont, seq_exc, ofO_some, ofB_some, ofC_ok, ofC_exc, fin_ret, fin_next, fin_exc, iteR_t, iteR_f, ifeR_t, ifeR_f, chnR_t, lstR_some, hasR_some, mthR_obj, negR_i, notR_b, mutR_s, dicR_s, comR_s, intR_i, boolR_b, nxtR_s, rngR_i, rng2R_i, zipR_s, setR_d, memN, freshE, noRef, isDicU, isLstU, asg_nm, asg_tup, asg_lst, asgsU, wipeU, lockI, lockE, ofD, Nat.beq, List.map_cons, List.map_nil, List.replicate, List.nil_append, List.cons_append, List.append_nil, List.getElem?_cons_zero, List.getElem?_cons_succ, List.set_cons_zero, List.set_cons_succ, List.length_cons, List.length_nil, List.length_set, Bool.or_false, Bool.false_or, Bool.or_true, Bool.true_or, Bool.not_false, Bool.not_true, Bool.and_true, Bool.true_and, Bool.and_false, Bool.false_and, Bool.false_eq_true, Bool.not_eq_true, decide_true, decide_false, if_true, if_false, Option.map_some, Option.map_none, decide_eq_true_eq, and_true, true_and, Nat.zero_lt_succ, Nat.reduceAdd, Nat.reduceLT, Nat.reduceLeDiff, Nat.reduceEqDiff, Nat.reduceSub, Nat.sub_self, LIM, turn_next, turn_cont, turn_ret]
      rw [show made = line w l from hi]
theorem found_u (h : UFind T O) (hW : 100 ≤ W) (hw : WOk w) {l : Nat} (hl : l < w.length) (x : Str) : callU O cn T W (n + 2) "found_by" [wU w, .int (l : Int), .str x] H = .ok (fdU x (foundV w l x)) H := by
  rw [h.found_by.run [] rfl rfl]
  unfold p_found_by
  simp only [e_k, e_lc, e_bin, e_neg, e_not, e_and, e_or, e_cmp, e_chn, e_isN, e_notN, e_ite, e_call, e_mth, e_bi, e_lset, e_isT, e_get, e_index, e_append, e_extend, e_pop, e_popi, e_ix, e_sl, e_lst, e_tup, e_dct, e_comp, es_nil, es_cons, eo_none, eo_some, ec_none, ec_some, ed_nil, ed_cons, ei_val, ei_rng, ei_rng2, ei_enm, ei_zip, x_asg, x_asgT, x_aset, x_ife, x_fr, x_whl, x_ret, x_exp, x_pass, x_cont, x_rse, x_rsw, xs_nil, xs_cons, b_lc, b_k, s_k, b_bin, s_bin, b_neg, s_neg, b_not, s_not, b_and, s_and, b_or, s_or, b_cmp, s_cmp, b_chn, s_chn, b_isN, s_isN, b_notN, s_notN, b_ite, s_ite, b_call, s_call, b_cal, s_cal, b_mth, s_mth, b_bi, s_bi, b_lset, s_lset, b_bm, s_bm, b_isT, s_isT, b_isX, s_isX, b_fld, s_fld, b_ix, s_ix, b_sl, s_sl, b_lst, s_lst, b_tup, s_tup, b_dct, s_dct, b_comp, s_comp,  s_lc, same_self, look_at, out_some, bind_ok, bind_exc, to_ok, to_exc, seq_next, seq_ret, seq_cont, seq_exc, ofO_some, ofB_some, ofC_ok, ofC_exc, fin_ret, fin_next, fin_exc, iteR_t, iteR_f, ifeR_t, ifeR_f, chnR_t, lstR_some, hasR_some, mthR_obj, negR_i, notR_b, mutR_s, dicR_s, comR_s, intR_i, boolR_b, nxtR_s, rngR_i, rng2R_i, zipR_s, setR_d, memN, freshE, noRef, isDicU, isLstU, asg_nm, asg_tup, asg_lst, asgsU, wipeU, lockI, lockE, ofD, Nat.beq, List.map_cons, List.map_nil, List.replicate, List.nil_append, List.cons_append, List.append_nil, List.getElem?_cons_zero, List.getElem?_cons_succ, List.set_cons_zero, List.set_cons_succ, List.length_cons, List.length_nil, List.length_set, Bool.or_false, Bool.false_or, Bool.or_true, Bool.true_or, Bool.not_false, Bool.not_true, Bool.and_true, Bool.true_and, Bool.and_false, Bool.false_and, Bool.false_eq_true, Bool.not_eq_true, decide_true, decide_false, if_true, if_false, Option.map_some, Option.map_none, decide_eq_true_eq, and_true, true_and, Nat.zero_lt_succ, Nat.reduceAdd, Nat.reduceLT, Nat.reduceLeDiff, Nat.reduceEqDiff, Nat.reduceSub, Nat.sub_self, LIM, turn_next, turn_cont, turn_ret, line_of_u h hW hw hl, walk_lst, natsU]
  rw [forU_find (fun l : Nat => U.int (l : Int)) [some (wU w), some (.int (l : Int)), some (.str x), none] (fun o => if (fileOn (shelfAt w o) x).isSome then some (clsU (o, x)) else none) (line w l)]
  · unfold foundV
    generalize [some (wU w), some (.int (l : Int)), some (.str x), none] = ρ
    induction line w l with
    | nil => rfl
    | cons f s ih =>
      rw [List.findSome?_cons, List.find?_cons]
      by_cases hf : (fileOn (shelfAt w f) x).isSome = true
      · simp only [hf, if_true, decide_true, e_k, e_lc, e_bin, e_neg, e_not, e_and, e_or, e_cmp, e_chn, e_isN, e_notN, e_ite, e_call, e_mth, e_bi, e_lset, e_isT, e_get, e_index, e_append, e_extend, e_pop, e_popi, e_ix, e_sl, e_lst, e_tup, e_dct, e_comp, es_nil, es_cons, eo_none, eo_some, ec_none, ec_some, ed_nil, ed_cons, ei_val, ei_rng, ei_rng2, ei_enm, ei_zip, x_asg, x_asgT, x_aset, x_ife, x_fr, x_whl, x_ret, x_exp, x_pass, x_cont, x_rse, x_rsw, xs_nil, xs_cons, b_lc, b_k, s_k, b_bin, s_bin, b_neg, s_neg, b_not, s_not, b_and, s_and, b_or, s_or, b_cmp, s_cmp, b_chn, s_chn, b_isN, s_isN, b_notN, s_notN, b_ite, s_ite, b_call, s_call, b_cal, s_cal, b_mth, s_mth, b_bi, s_bi, b_lset, s_lset, b_bm, s_bm, b_isT, s_isT, b_isX, s_isX, b_fld, s_fld, b_ix, s_ix, b_sl, s_sl, b_lst, s_lst, b_tup, s_tup, b_dct, s_dct, b_comp, s_comp,  s_lc, same_self, look_at, out_some, bind_ok, bind_exc, to_ok, to_exc, seq_next, seq_ret, seq_cont, seq_exc, ofO_some, ofB_some, ofC_ok, ofC_exc, fin_ret, fin_next, fin_exc, iteR_t, iteR_f, ifeR_t, ifeR_f, chnR_t, lstR_some, hasR_some, mthR_obj, negR_i, notR_b, mutR_s, dicR_s, comR_s, intR_i, boolR_b, nxtR_s, rngR_i, rng2R_i, zipR_s, setR_d, memN, freshE, noRef, isDicU, isLstU, asg_nm, asg_tup, asg_lst, asgsU, wipeU, lockI, lockE, ofD, Nat.beq, List.map_cons, List.map_nil, List.replicate, List.nil_append, List.cons_append, List.append_nil, List.getElem?_cons_zero, List.getElem?_cons_succ, List.set_cons_zero, List.set_cons_succ, List.length_cons, List.length_nil, List.length_set, Bool.or_false, Bool.false_or, Bool.or_true, Bool.true_or, Bool.not_false, Bool.not_true, Bool.and_true, Bool.true_and, Bool.and_false, Bool.false_and, Bool.false_eq_true, Bool.not_eq_true, decide_true, decide_false, if_true, if_false, Option.map_some, Option.map_none, decide_eq_true_eq, and_true, true_and, Nat.zero_lt_succ, Nat.reduceAdd, Nat.reduceLT, Nat.reduceLeDiff, Nat.reduceEqDiff, Nat.reduceSub, Nat.sub_self, LIM, turn_next, turn_cont, turn_ret, fdU]
      · simp only [hf, if_false, decide_false]; exact ih
  · rfl
  · intro o ho
    have := line_lt hw l hl o ho
    have ho : o < w.length := by omega
    simp only [e_k, e_lc, e_bin, e_neg, e_not, e_and, e_or, e_cmp, e_chn, e_isN, e_notN, e_ite, e_call, e_mth, e_bi, e_lset, e_isT, e_get, e_index, e_append, e_extend, e_pop, e_popi, e_ix, e_sl, e_lst, e_tup, e_dct, e_comp, es_nil, es_cons, eo_none, eo_some, ec_none, ec_some, ed_nil, ed_cons, ei_val, ei_rng, ei_rng2, ei_enm, ei_zip, x_asg, x_asgT, x_aset, x_ife, x_fr, x_whl, x_ret, x_exp, x_pass, x_cont, x_rse, x_rsw, xs_nil, xs_cons, b_lc, b_k, s_k, b_bin, s_bin, b_neg, s_neg, b_not, s_not, b_and, s_and, b_or, s_or, b_cmp, s_cmp, b_chn, s_chn, b_isN, s_isN, b_notN, s_notN, b_ite, s_ite, b_call, s_call, b_cal, s_cal, b_mth, s_mth, b_bi, s_bi, b_lset, s_lset, b_bm, s_bm, b_isT, s_isT, b_isX, s_isX, b_fld, s_fld, b_ix, s_ix, b_sl, s_sl, b_lst, s_lst, b_tup, s_tup, b_dct, s_dct, b_comp, s_comp,  s_lc, same_self, look_at, out_some, bind_ok, bind_exc, to_ok, to_exc, seq_next, seq_ret, seq_cont, seq_exc, ofO_some, ofB_some, ofC_ok, ofC_exc, fin_ret, fin_next, fin_exc, iteR_t, iteR_f, ifeR_t, ifeR_f, chnR_t, lstR_some, hasR_some, mthR_obj, negR_i, notR_b, mutR_s, dicR_s, comR_s, intR_i, boolR_b, nxtR_s, rngR_i, rng2R_i, zipR_s, setR_d, memN, freshE, noRef, isDicU, isLstU, asg_nm, asg_tup, asg_lst, asgsU, wipeU, lockI, lockE, ofD, Nat.beq, List.map_cons, List.map_nil, List.replicate, List.nil_append, List.cons_append, List.append_nil, List.getElem?_cons_zero, List.getElem?_cons_succ, List.set_cons_zero, List.set_cons_succ, List.length_cons, List.length_nil, List.length_set, Bool.or_false, Bool.false_or, Bool.or_true, Bool.true_or, Bool.not_false, Bool.not_true, Bool.and_true, Bool.true_and, Bool.and_false, Bool.false_and, Bool.false_eq_true, Bool.not_eq_true, decide_true, decide_false, if_true, if_false, Option.map_some, Option.map_none, decide_eq_true_eq, and_true, true_and, Nat.zero_lt_succ, Nat.reduceAdd, Nat.reduceLT, Nat.reduceLeDiff, Nat.reduceEqDiff, Nat.reduceSub, Nat.sub_self, LIM, turn_next, turn_cont, turn_ret, fturn, wU_at ho, ldr_1, file_on_u h, non_optF, shelf_get ho]
    rw [ifeR_b]
    cases hf : fileOn w[o].shelf x with
    | none => simp only [e_k, e_lc, e_bin, e_neg, e_not, e_and, e_or, e_cmp, e_chn, e_isN, e_notN, e_ite, e_call, e_mth, e_bi, e_lset, e_isT, e_get, e_index, e_append, e_extend, e_pop, e_popi, e_ix, e_sl, e_lst, e_tup, e_dct, e_comp, es_nil, es_cons, eo_none, eo_some, ec_none, ec_some, ed_nil, ed_cons, ei_val, ei_rng, ei_rng2, ei_enm, ei_zip, x_asg, x_asgT, x_aset, x_ife, x_fr, x_whl, x_ret, x_exp, x_pass, x_cont, x_rse, x_rsw, xs_nil, xs_cons, b_lc, b_k, s_k, b_bin, s_bin, b_neg, s_neg, b_not, s_not, b_and, s_and, b_or, s_or, b_cmp, s_cmp, b_chn, s_chn, b_isN, s_isN, b_notN, s_notN, b_ite, s_ite, b_call, s_call, b_cal, s_cal, b_mth, s_mth, b_bi, s_bi, b_lset, s_lset, b_bm, s_bm, b_isT, s_isT, b_isX, s_isX, b_fld, s_fld, b_ix, s_ix, b_sl, s_sl, b_lst, s_lst, b_tup, s_tup, b_dct, s_dct, b_comp, s_comp,  s_lc, same_self, look_at, out_some, bind_ok, bind_exc, to_ok, to_exc, seq_next, seq_ret, seq_cont, seq_exc, ofO_some, ofB_some, ofC_ok, ofC_exc, fin_ret, fin_next, fin_exc, iteR_t, iteR_f, ifeR_t, ifeR_f, chnR_t, lstR_some, hasR_some, mthR_obj, negR_i, notR_b, mutR_s, dicR_s, comR_s, intR_i, boolR_b, nxtR_s, rngR_i, rng2R_i, zipR_s, setR_d, memN, freshE, noRef, isDicU, isLstU, asg_nm, asg_tup, asg_lst, asgsU, wipeU, lockI, lockE, ofD, Nat.beq, List.map_cons, List.map_nil, List.replicate, List.nil_append, List.cons_append, List.append_nil, List.getElem?_cons_zero, List.getElem?_cons_succ, List.set_cons_zero, List.set_cons_succ, List.length_cons, List.length_nil, List.length_set, Bool.or_false, Bool.false_or, Bool.or_true, Bool.true_or, Bool.not_false, Bool.not_true, Bool.and_true, Bool.true_and, Bool.and_false, Bool.false_and, Bool.false_eq_true, Bool.not_eq_true, decide_true, decide_false, if_true, if_false, Option.map_some, Option.map_none, decide_eq_true_eq, and_true, true_and, Nat.zero_lt_succ, Nat.reduceAdd, Nat.reduceLT, Nat.reduceLeDiff, Nat.reduceEqDiff, Nat.reduceSub, Nat.sub_self, LIM, turn_next, turn_cont, turn_ret, Option.isNone_none, Option.isSome_none]; rfl
    | some f => simp only [e_k, e_lc, e_bin, e_neg, e_not, e_and, e_or, e_cmp, e_chn, e_isN, e_notN, e_ite, e_call, e_mth, e_bi, e_lset, e_isT, e_get, e_index, e_append, e_extend, e_pop, e_popi, e_ix, e_sl, e_lst, e_tup, e_dct, e_comp, es_nil, es_cons, eo_none, eo_some, ec_none, ec_some, ed_nil, ed_cons, ei_val, ei_rng, ei_rng2, ei_enm, ei_zip, x_asg, x_asgT, x_aset, x_ife, x_fr, x_whl, x_ret, x_exp, x_pass, x_cont, x_rse, x_rsw, xs_nil, xs_cons, b_lc, b_k, s_k, b_bin, s_bin, b_neg, s_neg, b_not, s_not, b_and, s_and, b_or, s_or, b_cmp, s_cmp, b_chn, s_chn, b_isN, s_isN, b_notN, s_notN, b_ite, s_ite, b_call, s_call, b_cal, s_cal, b_mth, s_mth, b_bi, s_bi, b_lset, s_lset, b_bm, s_bm, b_isT, s_isT, b_isX, s_isX, b_fld, s_fld, b_ix, s_ix, b_sl, s_sl, b_lst, s_lst, b_tup, s_tup, b_dct, s_dct, b_comp, s_comp,  s_lc, same_self, look_at, out_some, bind_ok, bind_exc, to_ok, to_exc, seq_next, seq_ret, seq_cont, seq_exc, ofO_some, ofB_some, ofC_ok, ofC_exc, fin_ret, fin_next, fin_exc, iteR_t, iteR_f, ifeR_t, ifeR_f, chnR_t, lstR_some, hasR_some, mthR_obj, negR_i, notR_b, mutR_s, dicR_s, comR_s, intR_i, boolR_b, nxtR_s, rngR_i, rng2R_i, zipR_s, setR_d, memN, freshE, noRef, isDicU, isLstU, asg_nm, asg_tup, asg_lst, asgsU, wipeU, lockI, lockE, ofD, Nat.beq, List.map_cons, List.map_nil, List.replicate, List.nil_append, List.cons_append, List.append_nil, List.getElem?_cons_zero, List.getElem?_cons_succ, List.set_cons_zero, List.set_cons_succ, List.length_cons, List.length_nil, List.length_set, Bool.or_false, Bool.false_or, Bool.or_true, Bool.true_or, Bool.not_false, Bool.not_true, Bool.and_true, Bool.true_and, Bool.and_false, Bool.false_and, Bool.false_eq_true, Bool.not_eq_true, decide_true, decide_false, if_true, if_false, Option.map_some, Option.map_none, decide_eq_true_eq, and_true, true_and, Nat.zero_lt_succ, Nat.reduceAdd, Nat.reduceLT, Nat.reduceLeDiff, Nat.reduceEqDiff, Nat.reduceSub, Nat.sub_self, LIM, turn_next, turn_cont, turn_ret, Option.isNone_some, Option.isSome_some]; rfl
end
def uall_0 := And.intro @e_k (And.intro @e_lc (And.intro @e_bin (And.intro @e_neg (And.intro @e_not (And.intro @e_and (And.intro @e_or (And.intro @e_cmp (And.intro @e_chn (And.intro @e_isN (And.intro @e_notN (And.intro @e_ite (And.intro @e_call (And.intro @e_mth (And.intro @e_bi (And.intro @e_lset (And.intro @e_isT (And.intro @e_get (And.intro @e_index (And.intro @e_append (And.intro @e_extend (And.intro @e_pop (And.intro @e_popi (And.intro @e_ix (And.intro @e_sl (And.intro @e_lst (And.intro @e_tup (And.intro @e_dct (And.intro @e_comp (@es_nil)))))))))))))))))))))))))))))
def uall_1 := And.intro @es_cons (And.intro @eo_none (And.intro @eo_some (And.intro @ec_none (And.intro @ec_some (And.intro @ed_nil (And.intro @ed_cons (And.intro @ei_val (And.intro @ei_rng (And.intro @ei_rng2 (And.intro @ei_enm (And.intro @ei_zip (And.intro @x_asg (And.intro @x_asgT (And.intro @x_aset (And.intro @x_ife (And.intro @x_fr (And.intro @x_whl (And.intro @x_ret (And.intro @x_exp (And.intro @x_pass (And.intro @x_cont (And.intro @x_rse (And.intro @x_rsw (And.intro @xs_nil (And.intro @xs_cons (And.intro @b_lc (And.intro @b_k (And.intro @s_k (@b_bin)))))))))))))))))))))))))))))
def uall_2 := And.intro @s_bin (And.intro @b_neg (And.intro @s_neg (And.intro @b_not (And.intro @s_not (And.intro @b_and (And.intro @s_and (And.intro @b_or (And.intro @s_or (And.intro @b_cmp (And.intro @s_cmp (And.intro @b_chn (And.intro @s_chn (And.intro @b_isN (And.intro @s_isN (And.intro @b_notN (And.intro @s_notN (And.intro @b_ite (And.intro @s_ite (And.intro @b_call (And.intro @s_call (And.intro @b_cal (And.intro @s_cal (And.intro @b_mth (And.intro @s_mth (And.intro @b_bi (And.intro @s_bi (And.intro @b_lset (And.intro @s_lset (@b_bm)))))))))))))))))))))))))))))
def uall_3 := And.intro @s_bm (And.intro @b_isT (And.intro @s_isT (And.intro @b_isX (And.intro @s_isX (And.intro @b_fld (And.intro @s_fld (And.intro @b_ix (And.intro @s_ix (And.intro @b_sl (And.intro @s_sl (And.intro @b_lst (And.intro @s_lst (And.intro @b_tup (And.intro @s_tup (And.intro @b_dct (And.intro @s_dct (And.intro @b_comp (And.intro @s_comp (And.intro @s_lc (And.intro @same_self (And.intro @look_at (And.intro @out_some (And.intro @bind_ok (And.intro @bind_exc (And.intro @to_ok (And.intro @to_exc (And.intro @seq_next (And.intro @seq_ret (@seq_cont)))))))))))))))))))))))))))))
def uall_4 := And.intro @seq_exc (And.intro @ofO_some (And.intro @ofB_some (And.intro @ofC_ok (And.intro @ofC_exc (And.intro @fin_ret (And.intro @fin_next (And.intro @fin_exc (And.intro @iteR_t (And.intro @iteR_f (And.intro @ifeR_t (And.intro @ifeR_f (And.intro @chnR_t (And.intro @lstR_some (And.intro @hasR_some (And.intro @mthR_obj (And.intro @negR_i (And.intro @notR_b (And.intro @mutR_s (And.intro @dicR_s (And.intro @comR_s (And.intro @intR_i (And.intro @boolR_b (And.intro @nxtR_s (And.intro @rngR_i (And.intro @rng2R_i (And.intro @zipR_s (And.intro @setR_d (And.intro @asg_nm (@asg_tup)))))))))))))))))))))))))))))
def uall_5 := And.intro @asg_lst (And.intro @turn_next (And.intro @turn_cont (And.intro @turn_ret (And.intro @bi_len_tup (And.intro @bi_len_lst (And.intro @bi_len_ro (And.intro @bi_len_str (And.intro @bi_all (And.intro @bi_any (And.intro @bi_list_tup (And.intro @bi_list_lst (And.intro @bi_list_dic (And.intro @bi_tup_tup (And.intro @bi_tup_lst (And.intro @bi_int_bl (And.intro @bi_int_int (And.intro @bi_sort (And.intro @bin_addI (And.intro @bin_subI (And.intro @bin_mulI (And.intro @bin_modI (And.intro @bin_addT (And.intro @bin_addS (And.intro @cmp_lt (And.intro @cmp_le (And.intro @cmp_gt (And.intro @cmp_ge (And.intro @mem_str (@mem_tup)))))))))))))))))))))))))))))
def uall_6 := And.intro @mem_dic (And.intro @one_in (And.intro @isT_str_s (And.intro @isT_str_t (And.intro @isT_tup (And.intro @isT_int (And.intro @isT_int_b (And.intro @isT_lst (And.intro @sl_tup (And.intro @sl_lst (And.intro @walk_str (And.intro @walk_ro (And.intro @mut_app (And.intro @mut_ext (And.intro @non_tup (And.intro @non_lst (And.intro @non_bl (And.intro @flat_str (And.intro @flat_int (And.intro @cmp_eq (And.intro @cmp_ne (And.intro @cmp_in (And.intro @cmp_nin (And.intro @mem_lst (And.intro @walk_tup (And.intro @walk_lst (And.intro @seq_tup (And.intro @seq_lst (And.intro @non_str (@non_int)))))))))))))))))))))))))))))
def uall_7 := And.intro @non_non (And.intro @ix_tup (And.intro @ix_lst (And.intro @atI_0 (And.intro @atI_1 (And.intro @atI_2 (And.intro @atI_3 (And.intro @atI_4 (And.intro @file_0 (And.intro @file_1 (And.intro @file_2 (And.intro @file_3 (And.intro @file_4 (And.intro @ldr_0 (And.intro @ldr_1 (And.intro @cls_0 (And.intro @cls_1 (And.intro @non_cls (And.intro @non_file (And.intro @non_optS (And.intro @non_optI (And.intro @non_optN (And.intro @non_fd (And.intro @non_optF (And.intro @eqU_str (And.intro @eqU_int (And.intro @bin_addL (And.intro @asg_file (And.intro @asg_ldr (@asg_cls)))))))))))))))))))))))))))))
def uall_8 := And.intro @inU_nil (@inU_str)
end IP.Q

/-! UbC: words, rows, files, worlds: what the program takes. -/
namespace IP.Q
open PySem
structure UFiles {Ob : Type} (T : TabU) (O : Nat → Str → List U → List Ob → Option (RC Ob)) : Prop extends UFind T O where
  is_word : Has T O "is_word" 1 2 p_is_word
  is_whole : Has T O "is_whole" 3 3 p_is_whole
  is_row : Has T O "is_row" 1 2 p_is_row
  is_file : Has T O "is_file" 1 3 p_is_file
  is_shelf : Has T O "is_shelf" 1 2 p_is_shelf
  is_world : Has T O "is_world" 1 3 p_is_world
  need_world : Has T O "need_world" 1 1 p_need_world
section
variable {Ob : Type} {T : TabU} {O : Nat → Str → List U → List Ob → Option (RC Ob)} {cn : Str} {W n : Nat} {H : List Ob} {w : Wld}
theorem is_word_u (h : UFiles T O) {x : Str} (hx : x.length ≤ LIM) : callU O cn T W (n + 1) "is_word" [.str x] H = .ok (.bl (wordB x)) H := by
  rw [h.is_word.run [] rfl rfl]
  unfold p_is_word
  have hx' : x.length ≤ 1000000 := hx
  simp only [uall_0, uall_1, uall_2, uall_3, uall_4, uall_5, uall_6, uall_7, uall_8, memN, freshE, noRef, isDicU, isLstU, asgsU, wipeU, lockI, lockE, ofD, Nat.beq, List.map_cons, List.map_nil, List.replicate, List.nil_append, List.cons_append, List.append_nil, List.getElem?_cons_zero, List.getElem?_cons_succ, List.set_cons_zero, List.set_cons_succ, List.length_cons, List.length_nil, List.length_set, Bool.or_false, Bool.false_or, Bool.or_true, Bool.true_or, Bool.not_false, Bool.not_true, Bool.and_true, Bool.true_and, Bool.and_false, Bool.false_and, Bool.false_eq_true, Bool.not_eq_true, decide_true, decide_false, if_true, if_false, Option.map_some, Option.map_none, decide_eq_true_eq, and_true, true_and, Nat.zero_lt_succ, Nat.reduceAdd, Nat.reduceLT, Nat.reduceLeDiff, Nat.reduceEqDiff, Nat.reduceSub, Nat.sub_self, LIM, Option.isNone_none, Option.isNone_some, Option.isSome_none, Option.isSome_some, chnR_b, iteR_b, hx']
  unfold wordB
  by_cases h1 : (1 : Int) ≤ x.length
  · by_cases h2 : (x.length : Int) ≤ 6
    · simp only [h1, h2, uall_0, uall_1, uall_2, uall_3, uall_4, uall_5, uall_6, uall_7, uall_8, memN, freshE, noRef, isDicU, isLstU, asgsU, wipeU, lockI, lockE, ofD, Nat.beq, List.map_cons, List.map_nil, List.replicate, List.nil_append, List.cons_append, List.append_nil, List.getElem?_cons_zero, List.getElem?_cons_succ, List.set_cons_zero, List.set_cons_succ, List.length_cons, List.length_nil, List.length_set, Bool.or_false, Bool.false_or, Bool.or_true, Bool.true_or, Bool.not_false, Bool.not_true, Bool.and_true, Bool.true_and, Bool.and_false, Bool.false_and, Bool.false_eq_true, Bool.not_eq_true, decide_true, decide_false, if_true, if_false, Option.map_some, Option.map_none, decide_eq_true_eq, and_true, true_and, Nat.zero_lt_succ, Nat.reduceAdd, Nat.reduceLT, Nat.reduceLeDiff, Nat.reduceEqDiff, Nat.reduceSub, Nat.sub_self, LIM, Option.isNone_none, Option.isNone_some, Option.isSome_none, Option.isSome_some]
      rw [compU_map (fun c => U.str ⟨#[c]⟩) (fun c => .bl (decide (c ∈ letters.cps.toList))) x.cps.toList (by simpa [Str.length] using hx)]
      · simp only [uall_0, uall_1, uall_2, uall_3, uall_4, uall_5, uall_6, uall_7, uall_8, memN, freshE, noRef, isDicU, isLstU, asgsU, wipeU, lockI, lockE, ofD, Nat.beq, List.map_cons, List.map_nil, List.replicate, List.nil_append, List.cons_append, List.append_nil, List.getElem?_cons_zero, List.getElem?_cons_succ, List.set_cons_zero, List.set_cons_succ, List.length_cons, List.length_nil, List.length_set, Bool.or_false, Bool.false_or, Bool.or_true, Bool.true_or, Bool.not_false, Bool.not_true, Bool.and_true, Bool.true_and, Bool.and_false, Bool.false_and, Bool.false_eq_true, Bool.not_eq_true, decide_true, decide_false, if_true, if_false, Option.map_some, Option.map_none, decide_eq_true_eq, and_true, true_and, Nat.zero_lt_succ, Nat.reduceAdd, Nat.reduceLT, Nat.reduceLeDiff, Nat.reduceEqDiff, Nat.reduceSub, Nat.sub_self, LIM, Option.isNone_none, Option.isNone_some, Option.isSome_none, Option.isSome_some, boolsU_map]
      · intro c hc
        simp only [cturn, uall_0, uall_1, uall_2, uall_3, uall_4, uall_5, uall_6, uall_7, uall_8, memN, freshE, noRef, isDicU, isLstU, asgsU, wipeU, lockI, lockE, ofD, Nat.beq, List.map_cons, List.map_nil, List.replicate, List.nil_append, List.cons_append, List.append_nil, List.getElem?_cons_zero, List.getElem?_cons_succ, List.set_cons_zero, List.set_cons_succ, List.length_cons, List.length_nil, List.length_set, Bool.or_false, Bool.false_or, Bool.or_true, Bool.true_or, Bool.not_false, Bool.not_true, Bool.and_true, Bool.true_and, Bool.and_false, Bool.false_and, Bool.false_eq_true, Bool.not_eq_true, decide_true, decide_false, if_true, if_false, Option.map_some, Option.map_none, decide_eq_true_eq, and_true, true_and, Nat.zero_lt_succ, Nat.reduceAdd, Nat.reduceLT, Nat.reduceLeDiff, Nat.reduceEqDiff, Nat.reduceSub, Nat.sub_self, LIM, Option.isNone_none, Option.isNone_some, Option.isSome_none, Option.isSome_some]
        rfl
    · simp only [h1, h2, uall_0, uall_1, uall_2, uall_3, uall_4, uall_5, uall_6, uall_7, uall_8, memN, freshE, noRef, isDicU, isLstU, asgsU, wipeU, lockI, lockE, ofD, Nat.beq, List.map_cons, List.map_nil, List.replicate, List.nil_append, List.cons_append, List.append_nil, List.getElem?_cons_zero, List.getElem?_cons_succ, List.set_cons_zero, List.set_cons_succ, List.length_cons, List.length_nil, List.length_set, Bool.or_false, Bool.false_or, Bool.or_true, Bool.true_or, Bool.not_false, Bool.not_true, Bool.and_true, Bool.true_and, Bool.and_false, Bool.false_and, Bool.false_eq_true, Bool.not_eq_true, decide_true, decide_false, if_true, if_false, Option.map_some, Option.map_none, decide_eq_true_eq, and_true, true_and, Nat.zero_lt_succ, Nat.reduceAdd, Nat.reduceLT, Nat.reduceLeDiff, Nat.reduceEqDiff, Nat.reduceSub, Nat.sub_self, LIM, Option.isNone_none, Option.isNone_some, Option.isSome_none, Option.isSome_some]
  · simp only [h1, uall_0, uall_1, uall_2, uall_3, uall_4, uall_5, uall_6, uall_7, uall_8, memN, freshE, noRef, isDicU, isLstU, asgsU, wipeU, lockI, lockE, ofD, Nat.beq, List.map_cons, List.map_nil, List.replicate, List.nil_append, List.cons_append, List.append_nil, List.getElem?_cons_zero, List.getElem?_cons_succ, List.set_cons_zero, List.set_cons_succ, List.length_cons, List.length_nil, List.length_set, Bool.or_false, Bool.false_or, Bool.or_true, Bool.true_or, Bool.not_false, Bool.not_true, Bool.and_true, Bool.true_and, Bool.and_false, Bool.false_and, Bool.false_eq_true, Bool.not_eq_true, decide_true, decide_false, if_true, if_false, Option.map_some, Option.map_none, decide_eq_true_eq, and_true, true_and, Nat.zero_lt_succ, Nat.reduceAdd, Nat.reduceLT, Nat.reduceLeDiff, Nat.reduceEqDiff, Nat.reduceSub, Nat.sub_self, LIM, Option.isNone_none, Option.isNone_some, Option.isSome_none, Option.isSome_some]
theorem word_lim {x : Str} (h : wordB x = true) : x.length ≤ LIM := by
  have := word_len h
  unfold LIM; omega
theorem word_u (h : UFiles T O) {x : Str} (hx : wordB x = true) : callU O cn T W (n + 1) "is_word" [.str x] H = .ok (.bl true) H := by
  rw [is_word_u h (word_lim hx), hx]
theorem whole_u (h : UFiles T O) (i lo hi : Int) : callU O cn T W (n + 1) "is_whole" [.int i, .int lo, .int hi] H = .ok (.bl (decide (lo ≤ i) && decide (i ≤ hi))) H := by
  rw [h.is_whole.run [] rfl rfl]
  unfold p_is_whole
  simp only [uall_0, uall_1, uall_2, uall_3, uall_4, uall_5, uall_6, uall_7, uall_8, memN, freshE, noRef, isDicU, isLstU, asgsU, wipeU, lockI, lockE, ofD, Nat.beq, List.map_cons, List.map_nil, List.replicate, List.nil_append, List.cons_append, List.append_nil, List.getElem?_cons_zero, List.getElem?_cons_succ, List.set_cons_zero, List.set_cons_succ, List.length_cons, List.length_nil, List.length_set, Bool.or_false, Bool.false_or, Bool.or_true, Bool.true_or, Bool.not_false, Bool.not_true, Bool.and_true, Bool.true_and, Bool.and_false, Bool.false_and, Bool.false_eq_true, Bool.not_eq_true, decide_true, decide_false, if_true, if_false, Option.map_some, Option.map_none, decide_eq_true_eq, and_true, true_and, Nat.zero_lt_succ, Nat.reduceAdd, Nat.reduceLT, Nat.reduceLeDiff, Nat.reduceEqDiff, Nat.reduceSub, Nat.sub_self, LIM, Option.isNone_none, Option.isNone_some, Option.isSome_none, Option.isSome_some, chnR_b, iteR_b]
  by_cases h1 : lo ≤ i
  · simp only [h1, uall_0, uall_1, uall_2, uall_3, uall_4, uall_5, uall_6, uall_7, uall_8, memN, freshE, noRef, isDicU, isLstU, asgsU, wipeU, lockI, lockE, ofD, Nat.beq, List.map_cons, List.map_nil, List.replicate, List.nil_append, List.cons_append, List.append_nil, List.getElem?_cons_zero, List.getElem?_cons_succ, List.set_cons_zero, List.set_cons_succ, List.length_cons, List.length_nil, List.length_set, Bool.or_false, Bool.false_or, Bool.or_true, Bool.true_or, Bool.not_false, Bool.not_true, Bool.and_true, Bool.true_and, Bool.and_false, Bool.false_and, Bool.false_eq_true, Bool.not_eq_true, decide_true, decide_false, if_true, if_false, Option.map_some, Option.map_none, decide_eq_true_eq, and_true, true_and, Nat.zero_lt_succ, Nat.reduceAdd, Nat.reduceLT, Nat.reduceLeDiff, Nat.reduceEqDiff, Nat.reduceSub, Nat.sub_self, LIM, Option.isNone_none, Option.isNone_some, Option.isSome_none, Option.isSome_some]
  · simp only [h1, uall_0, uall_1, uall_2, uall_3, uall_4, uall_5, uall_6, uall_7, uall_8, memN, freshE, noRef, isDicU, isLstU, asgsU, wipeU, lockI, lockE, ofD, Nat.beq, List.map_cons, List.map_nil, List.replicate, List.nil_append, List.cons_append, List.append_nil, List.getElem?_cons_zero, List.getElem?_cons_succ, List.set_cons_zero, List.set_cons_succ, List.length_cons, List.length_nil, List.length_set, Bool.or_false, Bool.false_or, Bool.or_true, Bool.true_or, Bool.not_false, Bool.not_true, Bool.and_true, Bool.true_and, Bool.and_false, Bool.false_and, Bool.false_eq_true, Bool.not_eq_true, decide_true, decide_false, if_true, if_false, Option.map_some, Option.map_none, decide_eq_true_eq, and_true, true_and, Nat.zero_lt_succ, Nat.reduceAdd, Nat.reduceLT, Nat.reduceLeDiff, Nat.reduceEqDiff, Nat.reduceSub, Nat.sub_self, LIM, Option.isNone_none, Option.isNone_some, Option.isSome_none, Option.isSome_some]
/-- all(f(x) for x in xs), each True -/
theorem all_t {α : Type} {xs : List α} : boolsU (xs.map fun _ => U.bl true) = some (xs.map fun _ => true) := boolsU_map
theorem all_tt {α : Type} {xs : List α} : (xs.map fun _ => true).all id = true := by
  induction xs with
  | nil => rfl
  | cons x xs ih => simp
theorem small_len {α β : Type} {xs : List α} {f : α → β} {k : Nat} (h : xs.length ≤ k) (hk : k ≤ 1000000) : (xs.map f).length ≤ 1000000 := by rw [List.length_map]; omega
theorem is_row_u (h : UFiles T O) {r : Row} (hr : r.ok) : callU O cn T W (n + 2) "is_row" [r.u] H = .ok (.bl true) H := by
  rw [h.is_row.run [] rfl rfl]
  unfold p_is_row
  cases r with
  | put f i => simp (decide := true) only [uall_0, uall_1, uall_2, uall_3, uall_4, uall_5, uall_6, uall_7, uall_8, memN, freshE, noRef, isDicU, isLstU, asgsU, wipeU, lockI, lockE, ofD, Nat.beq, List.map_cons, List.map_nil, List.replicate, List.nil_append, List.cons_append, List.append_nil, List.getElem?_cons_zero, List.getElem?_cons_succ, List.set_cons_zero, List.set_cons_succ, List.length_cons, List.length_nil, List.length_set, Bool.or_false, Bool.false_or, Bool.or_true, Bool.true_or, Bool.not_false, Bool.not_true, Bool.and_true, Bool.true_and, Bool.and_false, Bool.false_and, Bool.false_eq_true, Bool.not_eq_true, decide_true, decide_false, if_true, if_false, Option.map_some, Option.map_none, decide_eq_true_eq, and_true, true_and, Nat.zero_lt_succ, Nat.reduceAdd, Nat.reduceLT, Nat.reduceLeDiff, Nat.reduceEqDiff, Nat.reduceSub, Nat.sub_self, LIM, Option.isNone_none, Option.isNone_some, Option.isSome_none, Option.isSome_some, Row.u, iteR_b, ifeR_b, word_u h hr.1, whole_u h, hr.2.1, hr.2.2]
  | read f w g => simp (decide := true) only [uall_0, uall_1, uall_2, uall_3, uall_4, uall_5, uall_6, uall_7, uall_8, memN, freshE, noRef, isDicU, isLstU, asgsU, wipeU, lockI, lockE, ofD, Nat.beq, List.map_cons, List.map_nil, List.replicate, List.nil_append, List.cons_append, List.append_nil, List.getElem?_cons_zero, List.getElem?_cons_succ, List.set_cons_zero, List.set_cons_succ, List.length_cons, List.length_nil, List.length_set, Bool.or_false, Bool.false_or, Bool.or_true, Bool.true_or, Bool.not_false, Bool.not_true, Bool.and_true, Bool.true_and, Bool.and_false, Bool.false_and, Bool.false_eq_true, Bool.not_eq_true, decide_true, decide_false, if_true, if_false, Option.map_some, Option.map_none, decide_eq_true_eq, and_true, true_and, Nat.zero_lt_succ, Nat.reduceAdd, Nat.reduceLT, Nat.reduceLeDiff, Nat.reduceEqDiff, Nat.reduceSub, Nat.sub_self, LIM, Option.isNone_none, Option.isNone_some, Option.isSome_none, Option.isSome_some, Row.u, iteR_b, ifeR_b, show cutL [U.str "read", .str f, .str w, .str g] (some 1) none = [U.str f, .str w, .str g] from rfl, compU, cturn, word_u h hr.1, word_u h hr.2.1, word_u h hr.2.2, boolsU, List.all_cons, List.all_nil, id]
  | need w => simp (decide := true) only [uall_0, uall_1, uall_2, uall_3, uall_4, uall_5, uall_6, uall_7, uall_8, memN, freshE, noRef, isDicU, isLstU, asgsU, wipeU, lockI, lockE, ofD, Nat.beq, List.map_cons, List.map_nil, List.replicate, List.nil_append, List.cons_append, List.append_nil, List.getElem?_cons_zero, List.getElem?_cons_succ, List.set_cons_zero, List.set_cons_succ, List.length_cons, List.length_nil, List.length_set, Bool.or_false, Bool.false_or, Bool.or_true, Bool.true_or, Bool.not_false, Bool.not_true, Bool.and_true, Bool.true_and, Bool.and_false, Bool.false_and, Bool.false_eq_true, Bool.not_eq_true, decide_true, decide_false, if_true, if_false, Option.map_some, Option.map_none, decide_eq_true_eq, and_true, true_and, Nat.zero_lt_succ, Nat.reduceAdd, Nat.reduceLT, Nat.reduceLeDiff, Nat.reduceEqDiff, Nat.reduceSub, Nat.sub_self, LIM, Option.isNone_none, Option.isNone_some, Option.isSome_none, Option.isSome_some, Row.u, iteR_b, ifeR_b, word_u h (show wordB w = true from hr), List.all_cons, List.all_nil]
  | note w => simp (decide := true) only [uall_0, uall_1, uall_2, uall_3, uall_4, uall_5, uall_6, uall_7, uall_8, memN, freshE, noRef, isDicU, isLstU, asgsU, wipeU, lockI, lockE, ofD, Nat.beq, List.map_cons, List.map_nil, List.replicate, List.nil_append, List.cons_append, List.append_nil, List.getElem?_cons_zero, List.getElem?_cons_succ, List.set_cons_zero, List.set_cons_succ, List.length_cons, List.length_nil, List.length_set, Bool.or_false, Bool.false_or, Bool.or_true, Bool.true_or, Bool.not_false, Bool.not_true, Bool.and_true, Bool.true_and, Bool.and_false, Bool.false_and, Bool.false_eq_true, Bool.not_eq_true, decide_true, decide_false, if_true, if_false, Option.map_some, Option.map_none, decide_eq_true_eq, and_true, true_and, Nat.zero_lt_succ, Nat.reduceAdd, Nat.reduceLT, Nat.reduceLeDiff, Nat.reduceEqDiff, Nat.reduceSub, Nat.sub_self, LIM, Option.isNone_none, Option.isNone_some, Option.isSome_none, Option.isSome_some, Row.u, iteR_b, ifeR_b, word_u h (show wordB w = true from hr), List.all_cons, List.all_nil]
  | fail w => simp (decide := true) only [uall_0, uall_1, uall_2, uall_3, uall_4, uall_5, uall_6, uall_7, uall_8, memN, freshE, noRef, isDicU, isLstU, asgsU, wipeU, lockI, lockE, ofD, Nat.beq, List.map_cons, List.map_nil, List.replicate, List.nil_append, List.cons_append, List.append_nil, List.getElem?_cons_zero, List.getElem?_cons_succ, List.set_cons_zero, List.set_cons_succ, List.length_cons, List.length_nil, List.length_set, Bool.or_false, Bool.false_or, Bool.or_true, Bool.true_or, Bool.not_false, Bool.not_true, Bool.and_true, Bool.true_and, Bool.and_false, Bool.false_and, Bool.false_eq_true, Bool.not_eq_true, decide_true, decide_false, if_true, if_false, Option.map_some, Option.map_none, decide_eq_true_eq, and_true, true_and, Nat.zero_lt_succ, Nat.reduceAdd, Nat.reduceLT, Nat.reduceLeDiff, Nat.reduceEqDiff, Nat.reduceSub, Nat.sub_self, LIM, Option.isNone_none, Option.isNone_some, Option.isSome_none, Option.isSome_some, Row.u, iteR_b, ifeR_b, word_u h (show wordB w = true from hr), List.all_cons, List.all_nil]
theorem kind_in (b : Bool) : (decide (("class" : Str) = kindV b) || (decide (("face" : Str) = kindV b) || false)) = true := by cases b <;> decide +kernel
theorem kind_in2 (b : Bool) : (decide (("class" : Str) = kindV b) || decide (("face" : Str) = kindV b)) = true := by cases b <;> decide +kernel
theorem kind_face (b : Bool) : decide (kindV b = "face") = b := by cases b <;> decide +kernel
theorem lset_tup {us : List U} {xs : List Str} (h : strsU us = some xs) (hl : xs.length ≤ 100) : lsetU (.tup us) = some (.int (distinct xs).length) := by
  simp only [lsetU, h]; rw [if_pos hl]
theorem lset_lst {us : List U} {xs : List Str} (h : strsU us = some xs) (hl : xs.length ≤ 100) : lsetU (.lst us) = some (.int (distinct xs).length) := by
  simp only [lsetU, h]; rw [if_pos hl]
theorem strsU_mapf {α : Type} (f : α → Str) (xs : List α) : strsU (xs.map fun x => .str (f x)) = some (xs.map f) := by
  have := strsU_map (xs.map f)
  rwa [List.map_map] at this
theorem is_file_u (h : UFiles T O) {f : File} (hf : f.ok) : callU O cn T W (n + 3) "is_file" [f.u] H = .ok (.bl true) H := by
  rw [h.is_file.run [] rfl rfl]
  unfold p_is_file
  have t1 : isTU f.u .tuple = some true := rfl
  have t2 : biU .len f.u = some (.int 5) := rfl
  have hl := hf.faces2
  have hl' : ¬ ((2 : Int) < (f.faces.length : Nat)) := by omega
  have hr := hf.rows5
  have hr' : ¬ ((5 : Int) < (f.rows.length : Nat)) := by omega
  have hab : f.above = none ∨ ∃ a, f.above = some a ∧ f.face = false ∧ wordB a = true := by
    cases ha : f.above with
    | none => exact .inl rfl
    | some a => exact .inr ⟨a, rfl, (hf.above a ha).1, (hf.above a ha).2⟩
  have cm : compU (cturn (callU O cn T W (n + 2)) cn [] (Ex.call "is_word" (Exs.cons (Ex.lc 1) Exs.nil)) (Tg.nm 1) Exo.none [1] [some f.u, none, none]) (f.faces.map .str) [] H = some (f.faces.map fun _ => .bl true, H) := by
    rw [compU_map U.str (fun _ => .bl true) f.faces (by unfold LIM; omega)]
    intro x hx
    simp (decide := true) only [uall_0, uall_1, uall_2, uall_3, uall_4, uall_5, uall_6, uall_7, uall_8, memN, freshE, noRef, isDicU, isLstU, asgsU, wipeU, lockI, lockE, ofD, Nat.beq, List.map_cons, List.map_nil, List.replicate, List.nil_append, List.cons_append, List.append_nil, List.getElem?_cons_zero, List.getElem?_cons_succ, List.set_cons_zero, List.set_cons_succ, List.length_cons, List.length_nil, List.length_set, Bool.or_false, Bool.false_or, Bool.or_true, Bool.true_or, Bool.not_false, Bool.not_true, Bool.and_true, Bool.true_and, Bool.and_false, Bool.false_and, Bool.false_eq_true, Bool.not_eq_true, decide_true, decide_false, if_true, if_false, Option.map_some, Option.map_none, decide_eq_true_eq, and_true, true_and, Nat.zero_lt_succ, Nat.reduceAdd, Nat.reduceLT, Nat.reduceLeDiff, Nat.reduceEqDiff, Nat.reduceSub, Nat.sub_self, LIM, Option.isNone_none, Option.isNone_some, Option.isSome_none, Option.isSome_some, cturn, word_u h (hf.faces x hx)]
  have cm2 : compU (cturn (callU O cn T W (n + 2)) cn [] (Ex.call "is_row" (Exs.cons (Ex.lc 2) Exs.nil)) (Tg.nm 2) Exo.none [2] [some f.u, none, none]) (f.rows.map Row.u) [] H = some (f.rows.map fun _ => .bl true, H) := by
    rw [compU_map Row.u (fun _ => .bl true) f.rows (by unfold LIM; omega)]
    intro x hx
    simp (decide := true) only [uall_0, uall_1, uall_2, uall_3, uall_4, uall_5, uall_6, uall_7, uall_8, memN, freshE, noRef, isDicU, isLstU, asgsU, wipeU, lockI, lockE, ofD, Nat.beq, List.map_cons, List.map_nil, List.replicate, List.nil_append, List.cons_append, List.append_nil, List.getElem?_cons_zero, List.getElem?_cons_succ, List.set_cons_zero, List.set_cons_succ, List.length_cons, List.length_nil, List.length_set, Bool.or_false, Bool.false_or, Bool.or_true, Bool.true_or, Bool.not_false, Bool.not_true, Bool.and_true, Bool.true_and, Bool.and_false, Bool.false_and, Bool.false_eq_true, Bool.not_eq_true, decide_true, decide_false, if_true, if_false, Option.map_some, Option.map_none, decide_eq_true_eq, and_true, true_and, Nat.zero_lt_succ, Nat.reduceAdd, Nat.reduceLT, Nat.reduceLeDiff, Nat.reduceEqDiff, Nat.reduceSub, Nat.sub_self, LIM, Option.isNone_none, Option.isNone_some, Option.isSome_none, Option.isSome_some, cturn, is_row_u h (hf.rows x hx)]
  have ls : lsetU (.tup (f.faces.map .str)) = some (.int (f.faces.length : Nat)) := by
    rw [lset_tup (strsU_map _) (by omega), hf.fnd]
  rcases hab with hab | ⟨a, hab, h1, h2⟩
  · simp (decide := true) only [uall_0, uall_1, uall_2, uall_3, uall_4, uall_5, uall_6, uall_7, uall_8, memN, freshE, noRef, isDicU, isLstU, asgsU, wipeU, lockI, lockE, ofD, Nat.beq, List.map_cons, List.map_nil, List.replicate, List.nil_append, List.cons_append, List.append_nil, List.getElem?_cons_zero, List.getElem?_cons_succ, List.set_cons_zero, List.set_cons_succ, List.length_cons, List.length_nil, List.length_set, Bool.or_false, Bool.false_or, Bool.or_true, Bool.true_or, Bool.not_false, Bool.not_true, Bool.and_true, Bool.true_and, Bool.and_false, Bool.false_and, Bool.false_eq_true, Bool.not_eq_true, decide_true, decide_false, if_true, if_false, Option.map_some, Option.map_none, decide_eq_true_eq, and_true, true_and, Nat.zero_lt_succ, Nat.reduceAdd, Nat.reduceLT, Nat.reduceLeDiff, Nat.reduceEqDiff, Nat.reduceSub, Nat.sub_self, LIM, Option.isNone_none, Option.isNone_some, Option.isSome_none, Option.isSome_some, iteR_b, ifeR_b, t1, t2, kind_in, kind_in2, word_u h hf.name, hab, optSU, hl', hr', cm, cm2, ls, boolsU_map, all_tt, List.length_map]
  · simp (decide := true) only [uall_0, uall_1, uall_2, uall_3, uall_4, uall_5, uall_6, uall_7, uall_8, memN, freshE, noRef, isDicU, isLstU, asgsU, wipeU, lockI, lockE, ofD, Nat.beq, List.map_cons, List.map_nil, List.replicate, List.nil_append, List.cons_append, List.append_nil, List.getElem?_cons_zero, List.getElem?_cons_succ, List.set_cons_zero, List.set_cons_succ, List.length_cons, List.length_nil, List.length_set, Bool.or_false, Bool.false_or, Bool.or_true, Bool.true_or, Bool.not_false, Bool.not_true, Bool.and_true, Bool.true_and, Bool.and_false, Bool.false_and, Bool.false_eq_true, Bool.not_eq_true, decide_true, decide_false, if_true, if_false, Option.map_some, Option.map_none, decide_eq_true_eq, and_true, true_and, Nat.zero_lt_succ, Nat.reduceAdd, Nat.reduceLT, Nat.reduceLeDiff, Nat.reduceEqDiff, Nat.reduceSub, Nat.sub_self, LIM, Option.isNone_none, Option.isNone_some, Option.isSome_none, Option.isSome_some, iteR_b, ifeR_b, t1, t2, kind_in, kind_in2, word_u h hf.name, hab, optSU, hl', hr', cm, cm2, ls, boolsU_map, all_tt, List.length_map, h1, h2, kind_face, word_u h h2]
theorem is_shelf_u (h : UFiles T O) {s : List File} (hs : ShelfOk s) : callU O cn T W (n + 4) "is_shelf" [.tup (s.map File.u)] H = .ok (.bl true) H := by
  rw [h.is_shelf.run [] rfl rfl]
  unfold p_is_shelf
  have hl := hs.len
  have hl' : ¬ ((4 : Int) < (s.length : Nat)) := by omega
  have cm : compU (cturn (callU O cn T W (n + 3)) cn [] (Ex.call "is_file" (Exs.cons (Ex.lc 1) Exs.nil)) (Tg.nm 1) Exo.none [1] [some (.tup (s.map File.u)), none]) (s.map File.u) [] H = some (s.map fun _ => .bl true, H) := by
    rw [compU_map File.u (fun _ => .bl true) s (by unfold LIM; omega)]
    intro x hx
    simp (decide := true) only [uall_0, uall_1, uall_2, uall_3, uall_4, uall_5, uall_6, uall_7, uall_8, memN, freshE, noRef, isDicU, isLstU, asgsU, wipeU, lockI, lockE, ofD, Nat.beq, List.map_cons, List.map_nil, List.replicate, List.nil_append, List.cons_append, List.append_nil, List.getElem?_cons_zero, List.getElem?_cons_succ, List.set_cons_zero, List.set_cons_succ, List.length_cons, List.length_nil, List.length_set, Bool.or_false, Bool.false_or, Bool.or_true, Bool.true_or, Bool.not_false, Bool.not_true, Bool.and_true, Bool.true_and, Bool.and_false, Bool.false_and, Bool.false_eq_true, Bool.not_eq_true, decide_true, decide_false, if_true, if_false, Option.map_some, Option.map_none, decide_eq_true_eq, and_true, true_and, Nat.zero_lt_succ, Nat.reduceAdd, Nat.reduceLT, Nat.reduceLeDiff, Nat.reduceEqDiff, Nat.reduceSub, Nat.sub_self, LIM, Option.isNone_none, Option.isNone_some, Option.isSome_none, Option.isSome_some, cturn, is_file_u h (hs.files x hx)]
  have cm2 : compU (cturn (callU O cn T W (n + 3)) cn [] ((Ex.lc 1).ix (Ex.k (D.int 1))) (Tg.nm 1) Exo.none [1] [some (.tup (s.map File.u)), none]) (s.map File.u) [] H = some (s.map fun f => .str f.name, H) := by
    rw [compU_map File.u (fun f => .str f.name) s (by unfold LIM; omega)]
    intro x hx
    simp (decide := true) only [uall_0, uall_1, uall_2, uall_3, uall_4, uall_5, uall_6, uall_7, uall_8, memN, freshE, noRef, isDicU, isLstU, asgsU, wipeU, lockI, lockE, ofD, Nat.beq, List.map_cons, List.map_nil, List.replicate, List.nil_append, List.cons_append, List.append_nil, List.getElem?_cons_zero, List.getElem?_cons_succ, List.set_cons_zero, List.set_cons_succ, List.length_cons, List.length_nil, List.length_set, Bool.or_false, Bool.false_or, Bool.or_true, Bool.true_or, Bool.not_false, Bool.not_true, Bool.and_true, Bool.true_and, Bool.and_false, Bool.false_and, Bool.false_eq_true, Bool.not_eq_true, decide_true, decide_false, if_true, if_false, Option.map_some, Option.map_none, decide_eq_true_eq, and_true, true_and, Nat.zero_lt_succ, Nat.reduceAdd, Nat.reduceLT, Nat.reduceLeDiff, Nat.reduceEqDiff, Nat.reduceSub, Nat.sub_self, LIM, Option.isNone_none, Option.isNone_some, Option.isSome_none, Option.isSome_some, cturn]
  have ls : lsetU (.lst (s.map fun f => U.str f.name)) = some (.int (s.length : Nat)) := by
    rw [lset_lst (strsU_mapf _ _) (by rw [List.length_map]; omega), distinct_nd hs.nd, List.length_map]
  simp (decide := true) only [uall_0, uall_1, uall_2, uall_3, uall_4, uall_5, uall_6, uall_7, uall_8, memN, freshE, noRef, isDicU, isLstU, asgsU, wipeU, lockI, lockE, ofD, Nat.beq, List.map_cons, List.map_nil, List.replicate, List.nil_append, List.cons_append, List.append_nil, List.getElem?_cons_zero, List.getElem?_cons_succ, List.set_cons_zero, List.set_cons_succ, List.length_cons, List.length_nil, List.length_set, Bool.or_false, Bool.false_or, Bool.or_true, Bool.true_or, Bool.not_false, Bool.not_true, Bool.and_true, Bool.true_and, Bool.and_false, Bool.false_and, Bool.false_eq_true, Bool.not_eq_true, decide_true, decide_false, if_true, if_false, Option.map_some, Option.map_none, decide_eq_true_eq, and_true, true_and, Nat.zero_lt_succ, Nat.reduceAdd, Nat.reduceLT, Nat.reduceLeDiff, Nat.reduceEqDiff, Nat.reduceSub, Nat.sub_self, LIM, Option.isNone_none, Option.isNone_some, Option.isSome_none, Option.isSome_some, iteR_b, ifeR_b, hl', cm, cm2, ls, boolsU_map, all_tt, List.length_map]
theorem is_world_u (h : UFiles T O) (hw : WOk w) : callU O cn T W (n + 5) "is_world" [wU w] H = .ok (.bl true) H := by
  rw [h.is_world.run [] rfl rfl]
  unfold p_is_world
  have h1 := hw.pos
  have h2 := hw.len
  have t1 : isTU (wU w) .tuple = some true := rfl
  have t2 : biU .len (wU w) = some (.int (w.length : Nat)) := by unfold wU; rw [bi_len_tup, List.length_map]
  have t3 : seqU (wU w) = some (w.map Ldr.u) := rfl
  have c1 : (1 : Int) ≤ (w.length : Nat) := by omega
  have c2 : (w.length : Int) ≤ 4 := by omega
  simp (decide := true) only [uall_0, uall_1, uall_2, uall_3, uall_4, uall_5, uall_6, uall_7, uall_8, memN, freshE, noRef, isDicU, isLstU, asgsU, wipeU, lockI, lockE, ofD, Nat.beq, List.map_cons, List.map_nil, List.replicate, List.nil_append, List.cons_append, List.append_nil, List.getElem?_cons_zero, List.getElem?_cons_succ, List.set_cons_zero, List.set_cons_succ, List.length_cons, List.length_nil, List.length_set, Bool.or_false, Bool.false_or, Bool.or_true, Bool.true_or, Bool.not_false, Bool.not_true, Bool.and_true, Bool.true_and, Bool.and_false, Bool.false_and, Bool.false_eq_true, Bool.not_eq_true, decide_true, decide_false, if_true, if_false, Option.map_some, Option.map_none, decide_eq_true_eq, and_true, true_and, Nat.zero_lt_succ, Nat.reduceAdd, Nat.reduceLT, Nat.reduceLeDiff, Nat.reduceEqDiff, Nat.reduceSub, Nat.sub_self, LIM, Option.isNone_none, Option.isNone_some, Option.isSome_none, Option.isSome_some, iteR_b, ifeR_b, chnR_b, t1, t2, t3, c1, c2, zipUI_map]
  rw [forU_all (fun p : Ldr × Nat => U.tup [.int (p.2 : Int), p.1.u]) [some (wU w), none, none] w.zipIdx]
  · simp (decide := true) only [uall_0, uall_1, uall_2, uall_3, uall_4, uall_5, uall_6, uall_7, uall_8, memN, freshE, noRef, isDicU, isLstU, asgsU, wipeU, lockI, lockE, ofD, Nat.beq, List.map_cons, List.map_nil, List.replicate, List.nil_append, List.cons_append, List.append_nil, List.getElem?_cons_zero, List.getElem?_cons_succ, List.set_cons_zero, List.set_cons_succ, List.length_cons, List.length_nil, List.length_set, Bool.or_false, Bool.false_or, Bool.or_true, Bool.true_or, Bool.not_false, Bool.not_true, Bool.and_true, Bool.true_and, Bool.and_false, Bool.false_and, Bool.false_eq_true, Bool.not_eq_true, decide_true, decide_false, if_true, if_false, Option.map_some, Option.map_none, decide_eq_true_eq, and_true, true_and, Nat.zero_lt_succ, Nat.reduceAdd, Nat.reduceLT, Nat.reduceLeDiff, Nat.reduceEqDiff, Nat.reduceSub, Nat.sub_self, LIM, Option.isNone_none, Option.isNone_some, Option.isSome_none, Option.isSome_some]
  · rfl
  · rintro ⟨l, i⟩ hm
    have hi : w[i]? = some l := by
      obtain ⟨k1, k2⟩ := List.mem_zipIdx' hm
      rw [List.getElem?_eq_getElem k1]; exact congrArg some k2.symm
    have hl := List.mem_of_getElem? hi
    have t4 : isTU l.u .tuple = some true := rfl
    have t5 : biU .len l.u = some (.int 2) := rfl
    cases hp : l.par with
    | none =>
      simp (decide := true) only [uall_0, uall_1, uall_2, uall_3, uall_4, uall_5, uall_6, uall_7, uall_8, memN, freshE, noRef, isDicU, isLstU, asgsU, wipeU, lockI, lockE, ofD, Nat.beq, List.map_cons, List.map_nil, List.replicate, List.nil_append, List.cons_append, List.append_nil, List.getElem?_cons_zero, List.getElem?_cons_succ, List.set_cons_zero, List.set_cons_succ, List.length_cons, List.length_nil, List.length_set, Bool.or_false, Bool.false_or, Bool.or_true, Bool.true_or, Bool.not_false, Bool.not_true, Bool.and_true, Bool.true_and, Bool.and_false, Bool.false_and, Bool.false_eq_true, Bool.not_eq_true, decide_true, decide_false, if_true, if_false, Option.map_some, Option.map_none, decide_eq_true_eq, and_true, true_and, Nat.zero_lt_succ, Nat.reduceAdd, Nat.reduceLT, Nat.reduceLeDiff, Nat.reduceEqDiff, Nat.reduceSub, Nat.sub_self, LIM, Option.isNone_none, Option.isNone_some, Option.isSome_none, Option.isSome_some, fturn, iteR_b, ifeR_b, t4, t5, is_shelf_u h (hw.shelf l hl), hp, optIU]
      rfl
    | some p =>
      have := hw.par i l p hi hp
      have c3 : p ≤ (i : Int) - 1 := by omega
      simp (decide := true) only [uall_0, uall_1, uall_2, uall_3, uall_4, uall_5, uall_6, uall_7, uall_8, memN, freshE, noRef, isDicU, isLstU, asgsU, wipeU, lockI, lockE, ofD, Nat.beq, List.map_cons, List.map_nil, List.replicate, List.nil_append, List.cons_append, List.append_nil, List.getElem?_cons_zero, List.getElem?_cons_succ, List.set_cons_zero, List.set_cons_succ, List.length_cons, List.length_nil, List.length_set, Bool.or_false, Bool.false_or, Bool.or_true, Bool.true_or, Bool.not_false, Bool.not_true, Bool.and_true, Bool.true_and, Bool.and_false, Bool.false_and, Bool.false_eq_true, Bool.not_eq_true, decide_true, decide_false, if_true, if_false, Option.map_some, Option.map_none, decide_eq_true_eq, and_true, true_and, Nat.zero_lt_succ, Nat.reduceAdd, Nat.reduceLT, Nat.reduceLeDiff, Nat.reduceEqDiff, Nat.reduceSub, Nat.sub_self, LIM, Option.isNone_none, Option.isNone_some, Option.isSome_none, Option.isSome_some, fturn, iteR_b, ifeR_b, t4, t5, is_shelf_u h (hw.shelf l hl), hp, optIU, whole_u h, this.1, c3]
      rfl
theorem need_world_u (h : UFiles T O) (hw : WOk w) : callU O cn T W (n + 6) "need_world" [wU w] H = .ok .non H := by
  rw [h.need_world.run [] rfl rfl]
  unfold p_need_world
  simp (decide := true) only [uall_0, uall_1, uall_2, uall_3, uall_4, uall_5, uall_6, uall_7, uall_8, memN, freshE, noRef, isDicU, isLstU, asgsU, wipeU, lockI, lockE, ofD, Nat.beq, List.map_cons, List.map_nil, List.replicate, List.nil_append, List.cons_append, List.append_nil, List.getElem?_cons_zero, List.getElem?_cons_succ, List.set_cons_zero, List.set_cons_succ, List.length_cons, List.length_nil, List.length_set, Bool.or_false, Bool.false_or, Bool.or_true, Bool.true_or, Bool.not_false, Bool.not_true, Bool.and_true, Bool.true_and, Bool.and_false, Bool.false_and, Bool.false_eq_true, Bool.not_eq_true, decide_true, decide_false, if_true, if_false, Option.map_some, Option.map_none, decide_eq_true_eq, and_true, true_and, Nat.zero_lt_succ, Nat.reduceAdd, Nat.reduceLT, Nat.reduceLeDiff, Nat.reduceEqDiff, Nat.reduceSub, Nat.sub_self, LIM, Option.isNone_none, Option.isNone_some, Option.isSome_none, Option.isSome_some, is_world_u h hw]
end
end IP.Q

/-! PrU: why a class can't be linked, by the program and by the laws. -/
namespace IP.Q
open PySem
abbrev Why := Option (Str × Str)
def whyD : Why → D
  | none => .non
  | some p => ssD p
def goF (rec : Cls → Why) (w : Wld) (l : Nat) : List (Str × Str) → Why
  | [] => none
  | (x, k) :: r => match foundV w l x with
    | none => some ("lacks", x)
    | some o => if kindV (fileOf w (o, x)).face ≠ k then some ("kind", x) else match rec (o, x) with
      | some d => some d
      | none => goF rec w l r
theorem goF_cons {rec : Cls → Why} {w : Wld} {l : Nat} {x k : Str} {r : List (Str × Str)} : goF rec w l ((x, k) :: r) = match foundV w l x with
    | none => some ("lacks", x)
    | some o => if kindV (fileOf w (o, x)).face ≠ k then some ("kind", x) else match rec (o, x) with
      | some d => some d
      | none => goF rec w l r := rfl
/-- the reason, by the classes on the way -/
def flawF (w : Wld) : Nat → Cls → List Cls → Why
  | 0, _, _ => none
  | f + 1, c, path => if c ∈ path then some ("ring", c.2) else goF (fun c2 => flawF w f c2 (path ++ [c])) w c.1 (abvV w c)
/-- ways without a class twice are shorter than K -/
def Few (w : Wld) (K : Nat) : Prop := ∀ path : List Cls, path.Nodup → (∀ p ∈ path, Real w p) → path.length < K
structure TFlaw (T : Tab) : Prop extends TAbove T where
  flaw : T "flaw" = some (.fn 3 7 p_flaw)
structure LFlaw (T : Tab) : Prop extends LAbove T where
  lflaw : T "_law_flaw" = some (.fn 3 7 l_flaw)
section
variable {T : Tab} {W n : Nat} {C : Str → List D → Sto → R D} {ρ : Env} {st : Sto} {a b e : Ex} {w : Wld} {c : Cls}
theorem Ev.inV {x : D} {ds : List D} {n m i : Nat} (ha : Ev C ρ st a x) (hb : Ev C ρ st b (.ref i)) (hi : st[i]? = some (.lst ds)) (h1 : plainT n x = true) (h2 : plainTs m ds = true) (hn : n ≤ 64 := by decide) (hm : m ≤ 63 := by decide) : Ev C ρ st (.cmp .isin a b) (.bl (decide (x ∈ ds))) :=
  Ev.cmp ha hb fun s hs => by
    show memD x (.ref i) s = _
    simp only [memD, hs.at_ hi]
    exact inD_plain hn hm h1 h2
theorem Ev.inL {x : D} {ds : List D} {n m : Nat} (ha : Ev C ρ st a x) (hb : EvL C ρ st b ds) (h1 : plainT n x = true) (h2 : plainTs m ds = true) (hn : n ≤ 64 := by decide) (hm : m ≤ 63 := by decide) : Ev C ρ st (.cmp .isin a b) (.bl (decide (x ∈ ds))) := fun s hs => by
  rw [w_cmp]
  refine ok_mono (ha s hs) fun u s1 ⟨e1, hu⟩ => ?_
  subst hu
  refine ok_mono (hb s1 (hs.trans e1)) fun v s2 ⟨e2, i, hv, hn2, hc⟩ => ?_
  subst hv
  have : cmpD .isin u (.ref i) s2 = some (decide (u ∈ ds)) := by
    show memD u (.ref i) s2 = _
    simp only [memD, hc]
    exact inD_plain hn hm h1 h2
  rw [this]
  exact ⟨e1.trans e2, rfl⟩
theorem pair_inj {p q : Cls} (h : pairD p = pairD q) : p = q := by
  unfold pairD at h
  have h2 : (p.1 : Int) = (q.1 : Int) ∧ p.2 = q.2 := by simpa using h
  exact Prod.ext (by omega) h2.2
theorem mem_pairs {c : Cls} {path : List Cls} : decide (pairD c ∈ path.map pairD) = decide (c ∈ path) := by
  refine decide_eq_decide.mpr ⟨fun h => ?_, fun h => List.mem_map_of_mem h⟩
  obtain ⟨p, hp, e⟩ := List.mem_map.mp h
  rw [← pair_inj e]
  exact hp
theorem path_plain {path : List Cls} (hw : WOk w) (h : ∀ p ∈ path, Real w p) : plainTs 1 (path.map pairD) = true := by
  rw [plainTs_all, List.all_eq_true]
  intro d hd
  obtain ⟨p, hp, rfl⟩ := List.mem_map.mp hd
  exact pair_plain ((h p hp).str hw)
theorem real_plain (hw : WOk w) (h : Real w c) : plainT 1 (pairD c) = true := pair_plain (h.str hw)
theorem snoc_nodup {path : List Cls} (hn : path.Nodup) (hc : c ∉ path) : (path ++ [c]).Nodup := by
  rw [List.nodup_append]
  exact ⟨hn, by simp, fun a ha b hb e => hc (by rw [List.mem_singleton.mp hb] at e; rw [← e]; exact ha)⟩
theorem snoc_real {path : List Cls} (h : ∀ p ∈ path, Real w p) (hc : Real w c) : ∀ p ∈ path ++ [c], Real w p := fun p hp => by
  rcases List.mem_append.mp hp with hp | hp
  · exact h p hp
  · rw [List.mem_singleton.mp hp]; exact hc
theorem flaw_says (hT : TFlaw T) (hW : 100 ≤ W) (hw : WOk w) {K : Nat} (hK : Few w K) (hK2 : K ≤ 100) : ∀ (f : Nat) (n : Nat) (st : Sto) (c : Cls) (path : List Cls) (p : Nat), Real w c → (∀ q ∈ path, Real w q) → path.Nodup → K ≤ path.length + f → st[p]? = some (.lst (path.map pairD)) →
    Fn (callD T W (n + f + 4)) st "flaw" [wd w, pairD c, .ref p] (whyD (flawF w f c path)) := by
  intro f
  induction f with
  | zero =>
    intro n st c path p hc hp hn hk
    have := hK path hn hp
    omega
  | succ f ih =>
    intro n st c path p hc hpath hn hk hst s0 h0
    have hpl := hK path hn hpath
    refine call_ok hT.flaw rfl ?_
    show okS (excs (callD T W (n + f + 4)) _ _ [some (wd w), some (pairD c), some (.ref p), none, none, none, none] _) _ _ _
    unfold p_flaw
    have hst0 := h0.at_ hst
    rw [s_cons]
    unfold flawF
    refine S_ife (p := decide (c ∈ path)) (Ext.refl _) (Ev.to (Ev.inV (n := 1) (m := 1) (Ev.lc rfl) (Ev.lc rfl) hst0 (real_plain hw hc) (path_plain hw hpath)) (by rw [mem_pairs])) (fun hp s1 e1 => ?_) fun hp s1 e1 => ?_
    · rw [s_cons, if_pos (of_decide_eq_true hp)]
      exact S_ret (Ext.refl _) (Ev.tup (Evs.cons Ev.k (Evs.cons (Ev.ixT (ds := [_, _]) (Ev.lc rfl) Ev.k pair1) Evs.nil)) (by show 2 ≤ LIM; decide)) fun s2 e2 => ⟨e1.trans e2, rfl⟩
    · have hcp := of_decide_eq_false hp
      rw [s_nil, s_cons, if_neg hcp]
      generalize hrec : (fun c2 => flawF w f c2 (path ++ [c])) = rec
      have ab : FnL (callD T W (n + f + 4)) s1 "above_all" [wd w, pairD c] ((abvV w c).map ssD) := above_says (n := n + f + 1) hT.toTAbove hw hc
      refine S_fr (Ext.refl _) (Evi.lst (EvL.call (Evs.cons (Ev.lc rfl) (Evs.cons (Ev.lc rfl) Evs.nil)) ab)) fun s2 wt e2 hwt => ?_
      refine for_rule (fun i ρ s3 => Ext s2 s3 ∧ goF rec w c.1 (abvV w c) = goF rec w c.1 ((abvV w c).drop i) ∧ ∃ x3 x4 x5 x6, ρ = [some (wd w), some (pairD c), some (.ref p), x3, x4, x5, x6]) _ 0 _ s2 ⟨Ext.refl _, rfl, _, _, _, _, rfl⟩ (fun i d ρ s3 hd hI => ?_) fun ρ s3 hI => ?_
      · obtain ⟨e3, hgo, x3, x4, x5, x6, rfl⟩ := hI
        rw [Nat.zero_add] at *
        rw [List.getElem?_map] at hd
        obtain ⟨⟨x, k⟩, hxk, rfl⟩ := Option.map_eq_some_iff.mp hd
        obtain ⟨hi, hxk2⟩ := List.getElem?_eq_some_iff.mp hxk
        obtain ⟨sx, sk⟩ := abv_str hw hc _ (List.mem_of_getElem? hxk)
        rw [List.drop_eq_getElem_cons hi, hxk2] at hgo
        rw [goF_cons] at hgo
        have e03 := h0.trans (e1.trans (e2.trans e3))
        have hp3 := e03.at_ hst
        show okS (excs (callD T W (n + f + 4)) _ _ [some (wd w), some (pairD c), some (.ref p), some (.str x), some (.str k), x5, x6] s3) _ _ _
        rw [s_cons]
        have fb : Fn (callD T W (n + f + 4)) s3 "found_by" [wd w, .int (c.1 : Int), .str x] (fdD x (foundV w c.1 x)) := found_says (n := n + f + 2) hT.toTFind hW hw hc.lt sx
        refine S_asg (Ext.refl _) (Ev.call (Evs.cons (Ev.lc rfl) (Evs.cons (Ev.ixT (ds := [_, _]) (Ev.lc rfl) Ev.k pair0) (Evs.cons (Ev.lc rfl) Evs.nil))) fb) fun s4 e4 => ⟨_, rfl, ?_⟩
        cases hfo : foundV w c.1 x with
        | none =>
          rw [hfo] at hgo
          show okS (excs (callD T W (n + f + 4)) _ _ [some (wd w), some (pairD c), some (.ref p), some (.str x), some (.str k), some .non, x6] s4) _ _ _
          rw [s_cons]
          refine S_ife (p := true) (Ext.refl _) (Ev.to (Ev.isN (Ev.lc rfl)) rfl) (fun _ s5 e5 => ?_) fun z => nomatch z
          rw [s_cons]
          refine S_ret (Ext.refl _) (Ev.tup (Evs.cons Ev.k (Evs.cons (Ev.lc rfl) Evs.nil)) (by show 2 ≤ LIM; decide)) fun s6 e6 => ⟨e1.trans (e2.trans (e3.trans (e4.trans (e5.trans e6)))), ?_⟩
          rw [hgo]; rfl
        | some o =>
          rw [hfo] at hgo
          dsimp only at hgo
          have ho := found_real hw hc.lt hfo
          show okS (excs (callD T W (n + f + 4)) _ _ [some (wd w), some (pairD c), some (.ref p), some (.str x), some (.str k), some (pairD (o, x)), x6] s4) _ _ _
          rw [s_cons]
          refine S_no (Ext.refl _) (Ev.to (Ev.isN (Ev.lc rfl)) rfl) fun s5 e5 => ?_
          rw [s_cons]
          have fo : Fn (callD T W (n + f + 4)) s5 "file_of" [wd w, pairD (o, x)] (fileOf w (o, x)).d := file_of_says (n := n + f + 2) hT.toTAbove hw ho
          refine S_ife (p := !decide (kindV (fileOf w (o, x)).face = k)) (Ext.refl _) (Ev.to (Ev.ne (n := 0) (m := 0) (Ev.ixT (ds := [_, _, _, _, _]) (Ev.call (Evs.cons (Ev.lc rfl) (Evs.cons (Ev.lc rfl) Evs.nil)) fo) Ev.k at0) (Ev.lc rfl) (plain_str (kind_ok _)) (plain_str sk)) (by simp)) (fun hp2 s6 e6 => ?_) fun hp2 s6 e6 => ?_
          · rw [s_cons]
            refine S_ret (Ext.refl _) (Ev.tup (Evs.cons Ev.k (Evs.cons (Ev.lc rfl) Evs.nil)) (by show 2 ≤ LIM; decide)) fun s7 e7 => ⟨e1.trans (e2.trans (e3.trans (e4.trans (e5.trans (e6.trans e7))))), ?_⟩
            rw [hgo, if_pos (by simpa using hp2)]; rfl
          · rw [if_neg (by simpa using hp2)] at hgo
            rw [s_nil, s_cons]
            have e36 := e4.trans (e5.trans e6)
            have hrd : rec (o, x) = flawF w f (o, x) (path ++ [c]) := by rw [← hrec]
            have fl : ∀ s, ok (evs (callD T W (n + f + 4)) (.cons (.lc 0) (.cons (.lc 5) (.cons (.bin .add (.lc 2) (.lst (.cons (.lc 1) .nil))) .nil))) [some (wd w), some (pairD c), some (.ref p), some (.str x), some (.str k), some (pairD (o, x)), x6] s) (fun ds s1 => True) → True := fun _ _ => trivial
            have hcall : Ev (callD T W (n + f + 4)) [some (wd w), some (pairD c), some (.ref p), some (.str x), some (.str k), some (pairD (o, x)), x6] s6 (.call "flaw" (.cons (.lc 0) (.cons (.lc 5) (.cons (.bin .add (.lc 2) (.lst (.cons (.lc 1) .nil))) .nil)))) (whyD (rec (o, x))) := fun s hs => by
              rw [w_call, w_cons, w_lc (d := wd w) rfl, w_cons, w_lc (d := pairD (o, x)) rfl, w_cons]
              refine ok_mono (EvL.vadd (st := s6) (Ev.lc rfl) (e36.at_ hp3) (EvL.lst (Evs.cons (Ev.lc rfl) Evs.nil) (by show 1 ≤ LIM; decide)) (by simp; unfold LIM; omega) s hs) fun u s7 ⟨e7, m, hu, hm, hc7⟩ => ?_
              subst hu
              rw [w_nil, hrd]
              exact ok_mono (ih n s7 (o, x) (path ++ [c]) m ho (snoc_real hpath hc) (snoc_nodup hn hcp) (by rw [List.length_append, List.length_singleton]; omega) (by rw [hc7, List.map_append]; rfl) s7 (Ext.refl _)) fun v s8 ⟨e8, hv⟩ => ⟨e7.trans e8, hv⟩
            refine S_asg (Ext.refl _) hcall fun s7 e7 => ⟨_, rfl, ?_⟩
            show okS (excs (callD T W (n + f + 4)) _ _ [some (wd w), some (pairD c), some (.ref p), some (.str x), some (.str k), some (pairD (o, x)), some (whyD (rec (o, x)))] s7) _ _ _
            rw [s_cons]
            have e37 := e36.trans e7
            cases hr : rec (o, x) with
            | none =>
              rw [hr] at hgo
              refine S_no (Ext.refl _) (Ev.to (Ev.notN (Ev.lc rfl)) rfl) fun s8 e8 => ?_
              rw [s_nil]
              exact ⟨⟨e3.trans (e37.trans e8), hgo, _, _, _, _, rfl⟩, (e3.trans (e37.trans e8)).okW hwt⟩
            | some d =>
              rw [hr] at hgo
              refine S_ife (p := true) (Ext.refl _) (Ev.to (Ev.notN (Ev.lc rfl)) rfl) (fun _ s8 e8 => ?_) fun z => nomatch z
              rw [s_cons]
              refine S_ret (Ext.refl _) (Ev.lc rfl) fun s9 e9 => ⟨e1.trans (e2.trans (e3.trans (e37.trans (e8.trans e9)))), ?_⟩
              rw [hgo]
      · obtain ⟨e3, hgo, x3, x4, x5, x6, rfl⟩ := hI
        rw [Nat.zero_add, List.length_map, List.drop_length] at hgo
        rw [s_cons]
        refine S_ret (Ext.refl _) Ev.k fun s4 e4 => ⟨e1.trans (e2.trans (e3.trans e4)), ?_⟩
        rw [hgo]; rfl
end
end IP.Q

/-! PrV: why a class can't be linked, by the laws. -/
namespace IP.Q
open PySem
section
variable {T : Tab} {W n : Nat} {C : Str → List D → Sto → R D} {ρ : Env} {st : Sto} {a b e : Ex} {w : Wld} {c : Cls}
theorem lflaw_says (hT : LFlaw T) (hW : 100 ≤ W) (hw : WOk w) {K : Nat} (hK : Few w K) (hK2 : K ≤ 100) : ∀ (f : Nat) (n : Nat) (st : Sto) (c : Cls) (path : List Cls) (p : Nat), Real w c → (∀ q ∈ path, Real w q) → path.Nodup → c ∉ path → K ≤ path.length + f → st[p]? = some (.lst (path.map pairD)) →
    Fn (callD T W (n + f + 4)) st "_law_flaw" [wd w, pairD c, .ref p] (whyD (flawF w f c path)) := by
  intro f
  induction f with
  | zero =>
    intro n st c path p hc hp hn _ hk
    have := hK path hn hp
    omega
  | succ f ih =>
    intro n st c path p hc hpath hn hcp hk hst s0 h0
    have hpl := hK path hn hpath
    refine call_ok hT.lflaw rfl ?_
    show okS (excs (callD T W (n + f + 4)) _ _ [some (wd w), some (pairD c), some (.ref p), none, none, none, none] _) _ _ _
    unfold l_flaw
    have hst0 := h0.at_ hst
    unfold flawF
    rw [s_cons, if_neg hcp]
    have e1 : Ext s0 s0 := Ext.refl _
    have hpl2 := hK (path ++ [c]) (snoc_nodup hn hcp) (snoc_real hpath hc)
    rw [List.length_append, List.length_singleton] at hpl2
    generalize hrec : (fun c2 => flawF w f c2 (path ++ [c])) = rec
    have ab : FnL (callD T W (n + f + 4)) s0 "_law_above" [wd w, pairD c] ((abvV w c).map ssD) := labove_says (n := n + f + 1) hT.toLAbove hw hc
    refine S_fr (Ext.refl _) (Evi.lst (EvL.call (Evs.cons (Ev.lc rfl) (Evs.cons (Ev.lc rfl) Evs.nil)) ab)) fun s2 wt e2 hwt => ?_
    refine for_rule (fun i ρ s3 => Ext s2 s3 ∧ goF rec w c.1 (abvV w c) = goF rec w c.1 ((abvV w c).drop i) ∧ ∃ x3 x4 x5 x6, ρ = [some (wd w), some (pairD c), some (.ref p), x3, x4, x5, x6]) _ 0 _ s2 ⟨Ext.refl _, rfl, _, _, _, _, rfl⟩ (fun i d ρ s3 hd hI => ?_) fun ρ s3 hI => ?_
    · obtain ⟨e3, hgo, x3, x4, x5, x6, rfl⟩ := hI
      rw [Nat.zero_add] at *
      rw [List.getElem?_map] at hd
      obtain ⟨⟨x, k⟩, hxk, rfl⟩ := Option.map_eq_some_iff.mp hd
      obtain ⟨hi, hxk2⟩ := List.getElem?_eq_some_iff.mp hxk
      obtain ⟨sx, sk⟩ := abv_str hw hc _ (List.mem_of_getElem? hxk)
      rw [List.drop_eq_getElem_cons hi, hxk2] at hgo
      rw [goF_cons] at hgo
      have e03 := h0.trans (e1.trans (e2.trans e3))
      have hp3 := e03.at_ hst
      show okS (excs (callD T W (n + f + 4)) _ _ [some (wd w), some (pairD c), some (.ref p), some (.str x), some (.str k), x5, x6] s3) _ _ _
      rw [s_cons]
      have fb : Fn (callD T W (n + f + 4)) s3 "_law_find" [wd w, .int (c.1 : Int), .str x] (fdD x (foundV w c.1 x)) := lfind_says (n := n + f + 2) hT.toTLine hW hw hc.lt sx
      refine S_asg (Ext.refl _) (Ev.call (Evs.cons (Ev.lc rfl) (Evs.cons (Ev.ixT (ds := [_, _]) (Ev.lc rfl) Ev.k pair0) (Evs.cons (Ev.lc rfl) Evs.nil))) fb) fun s4 e4 => ⟨_, rfl, ?_⟩
      cases hfo : foundV w c.1 x with
      | none =>
        rw [hfo] at hgo
        show okS (excs (callD T W (n + f + 4)) _ _ [some (wd w), some (pairD c), some (.ref p), some (.str x), some (.str k), some .non, x6] s4) _ _ _
        rw [s_cons]
        refine S_ife (p := true) (Ext.refl _) (Ev.to (Ev.isN (Ev.lc rfl)) rfl) (fun _ s5 e5 => ?_) fun z => nomatch z
        rw [s_cons]
        refine S_ret (Ext.refl _) (Ev.tup (Evs.cons Ev.k (Evs.cons (Ev.lc rfl) Evs.nil)) (by show 2 ≤ LIM; decide)) fun s6 e6 => ⟨e1.trans (e2.trans (e3.trans (e4.trans (e5.trans e6)))), ?_⟩
        rw [hgo]; rfl
      | some o =>
        rw [hfo] at hgo
        dsimp only at hgo
        have ho := found_real hw hc.lt hfo
        show okS (excs (callD T W (n + f + 4)) _ _ [some (wd w), some (pairD c), some (.ref p), some (.str x), some (.str k), some (pairD (o, x)), x6] s4) _ _ _
        rw [s_cons]
        refine S_no (Ext.refl _) (Ev.to (Ev.isN (Ev.lc rfl)) rfl) fun s5 e5 => ?_
        rw [s_cons]
        have fo : Fn (callD T W (n + f + 4)) s5 "_law_file_of" [wd w, pairD (o, x)] (fileOf w (o, x)).d := lfile_of_says (n := n + f + 2) hT.toLAbove hw ho
        refine S_ife (p := !decide (kindV (fileOf w (o, x)).face = k)) (Ext.refl _) (Ev.to (Ev.ne (n := 0) (m := 0) (Ev.ixT (ds := [_, _, _, _, _]) (Ev.call (Evs.cons (Ev.lc rfl) (Evs.cons (Ev.lc rfl) Evs.nil)) fo) Ev.k at0) (Ev.lc rfl) (plain_str (kind_ok _)) (plain_str sk)) (by simp)) (fun hp2 s6 e6 => ?_) fun hp2 s6 e6 => ?_
        · rw [s_cons]
          refine S_ret (Ext.refl _) (Ev.tup (Evs.cons Ev.k (Evs.cons (Ev.lc rfl) Evs.nil)) (by show 2 ≤ LIM; decide)) fun s7 e7 => ⟨e1.trans (e2.trans (e3.trans (e4.trans (e5.trans (e6.trans e7))))), ?_⟩
          rw [hgo, if_pos (by simpa using hp2)]; rfl
        · rw [if_neg (by simpa using hp2)] at hgo
          rw [s_nil, s_cons]
          have hrd : rec (o, x) = flawF w f (o, x) (path ++ [c]) := by rw [← hrec]
          have hp6 := (e4.trans (e5.trans e6)).at_ hp3
          have pth : ∀ s : Sto, Ext s6 s → EvL (callD T W (n + f + 4)) [some (wd w), some (pairD c), some (.ref p), some (.str x), some (.str k), some (pairD (o, x)), x6] s (.bin .add (.lc 2) (.lst (.cons (.lc 1) .nil))) ((path ++ [c]).map pairD) := fun s hs => by
            have := EvL.vadd (C := callD T W (n + f + 4)) (ρ := [some (wd w), some (pairD c), some (.ref p), some (.str x), some (.str k), some (pairD (o, x)), x6]) (st := s) (a := .lc 2) (b := .lst (.cons (.lc 1) .nil)) (m := p) (Ev.lc rfl) (hs.at_ hp6) (EvL.lst (Evs.cons (Ev.lc rfl) Evs.nil) (by show 1 ≤ LIM; decide)) (by simp; unfold LIM; omega)
            rw [List.map_append]
            exact this
          refine S_ifeP (p := decide ((o, x) ∈ path ++ [c])) (fun ρ' s' => (o, x) ∉ path ++ [c] ∧ ρ' = [some (wd w), some (pairD c), some (.ref p), some (.str x), some (.str k), some (pairD (o, x)), x6] ∧ Ext s6 s') (Ext.refl _)
            (Ev.to (Ev.inL (n := 1) (m := 1) (Ev.lc rfl) (pth s6 (Ext.refl _)) (real_plain hw ho) (path_plain hw (snoc_real hpath hc))) (by rw [mem_pairs])) (fun hr6 s7 e7 => ?_) (fun hr6 s7 e7 => by rw [s_nil]; exact ⟨of_decide_eq_false hr6, rfl, e7⟩) ?_
          · rw [s_cons]
            refine S_ret (Ext.refl _) (Ev.tup (Evs.cons Ev.k (Evs.cons (Ev.lc rfl) Evs.nil)) (by show 2 ≤ LIM; decide)) fun s8 e8 => ⟨e1.trans (e2.trans (e3.trans (e4.trans (e5.trans (e6.trans (e7.trans e8)))))), ?_⟩
            obtain ⟨f', rfl⟩ : ∃ f', f = f' + 1 := ⟨f - 1, by omega⟩
            have : rec (o, x) = some (("ring", x) : Str × Str) := by
              rw [hrd]
              unfold flawF
              rw [if_pos (of_decide_eq_true hr6)]
            rw [this] at hgo
            rw [hgo]; rfl
          rintro _ s6' ⟨hnr, rfl, e66⟩
          rw [s_cons]
          have e36 := (e4.trans (e5.trans e6)).trans e66
          have pth6 := pth s6' e66
          have e6 := e6.trans e66
          have hcall : Ev (callD T W (n + f + 4)) [some (wd w), some (pairD c), some (.ref p), some (.str x), some (.str k), some (pairD (o, x)), x6] s6' (.call "_law_flaw" (.cons (.lc 0) (.cons (.lc 5) (.cons (.bin .add (.lc 2) (.lst (.cons (.lc 1) .nil))) .nil)))) (whyD (rec (o, x))) := fun s hs => by
            rw [w_call, w_cons, w_lc (d := wd w) rfl, w_cons, w_lc (d := pairD (o, x)) rfl, w_cons]
            refine ok_mono (pth6 s hs) fun u s7 ⟨e7, m, hu, hm, hc7⟩ => ?_
            subst hu
            rw [w_nil, hrd]
            exact ok_mono (ih n s7 (o, x) (path ++ [c]) m ho (snoc_real hpath hc) (snoc_nodup hn hcp) hnr (by rw [List.length_append, List.length_singleton]; omega) hc7 s7 (Ext.refl _)) fun v s8 ⟨e8, hv⟩ => ⟨e7.trans e8, hv⟩
          refine S_asg (Ext.refl _) hcall fun s7 e7 => ⟨_, rfl, ?_⟩
          show okS (excs (callD T W (n + f + 4)) _ _ [some (wd w), some (pairD c), some (.ref p), some (.str x), some (.str k), some (pairD (o, x)), some (whyD (rec (o, x)))] s7) _ _ _
          rw [s_cons]
          have e37 := e36.trans e7
          cases hr : rec (o, x) with
          | none =>
            rw [hr] at hgo
            refine S_no (Ext.refl _) (Ev.to (Ev.notN (Ev.lc rfl)) rfl) fun s8 e8 => ?_
            rw [s_nil]
            exact ⟨⟨e3.trans (e37.trans e8), hgo, _, _, _, _, rfl⟩, (e3.trans (e37.trans e8)).okW hwt⟩
          | some d =>
            rw [hr] at hgo
            refine S_ife (p := true) (Ext.refl _) (Ev.to (Ev.notN (Ev.lc rfl)) rfl) (fun _ s8 e8 => ?_) fun z => nomatch z
            rw [s_cons]
            refine S_ret (Ext.refl _) (Ev.lc rfl) fun s9 e9 => ⟨e1.trans (e2.trans (e3.trans (e37.trans (e8.trans e9)))), ?_⟩
            rw [hgo]
    · obtain ⟨e3, hgo, x3, x4, x5, x6, rfl⟩ := hI
      rw [Nat.zero_add, List.length_map, List.drop_length] at hgo
      rw [s_cons]
      refine S_ret (Ext.refl _) Ev.k fun s4 e4 => ⟨e1.trans (e2.trans (e3.trans e4)), ?_⟩
      rw [hgo]; rfl
end
end IP.Q

/-! PrW: few classes; classes that are asked for. -/
namespace IP.Q
open PySem
theorem nodup_le {α : Type} [DecidableEq α] : ∀ (l m : List α), l.Nodup → (∀ x ∈ l, x ∈ m) → l.length ≤ m.length
  | [], _, _, _ => Nat.zero_le _
  | x :: xs, m, hn, hs => by
    obtain ⟨h1, h2⟩ := List.nodup_cons.mp hn
    have hx := hs x List.mem_cons_self
    have := nodup_le xs (m.erase x) h2 fun y hy => by
      have hne : y ≠ x := fun e => h1 (e ▸ hy)
      exact (List.mem_erase_of_ne hne).mpr (hs y (List.mem_cons_of_mem _ hy))
    rw [List.length_erase_of_mem hx] at this
    have := List.length_pos_of_mem hx
    rw [List.length_cons]
    omega
def allF (w : Wld) (j : Nat) : List Cls := (List.range j).flatMap fun i => (shelfAt w i).map fun f => (i, f.name)
theorem allF_len {w : Wld} (h : WOk w) : ∀ j, j ≤ w.length → (allF w j).length ≤ 4 * j
  | 0, _ => by simp [allF]
  | j + 1, hj => by
    have := allF_len h j (by omega)
    have hs := (h.shelf _ (List.getElem_mem (show j < w.length by omega))).len
    unfold allF at this ⊢
    rw [List.range_succ, List.flatMap_append, List.length_append]
    rw [show ([j].flatMap fun i => (shelfAt w i).map fun f => (i, f.name)) = (shelfAt w j).map fun f => (j, f.name) from by simp, List.length_map, shelf_get (by omega)]
    omega
theorem real_in {w : Wld} {c : Cls} (h : Real w c) : c ∈ allF w w.length := by
  unfold allF
  refine List.mem_flatMap.mpr ⟨c.1, List.mem_range.mpr h.lt, ?_⟩
  rw [shelf_get h.lt]
  refine List.mem_map.mpr ⟨fileOf w c, h.mem.1, ?_⟩
  rw [h.mem.2]
theorem few {w : Wld} (h : WOk w) : Few w 17 := fun path hn hp => by
  have h1 := nodup_le path (allF w w.length) hn fun c hc => real_in (hp c hc)
  have h2 := allF_len h w.length (Nat.le_refl _)
  have := h.len
  omega
structure TAsk (T : Tab) : Prop extends TFlaw T where
  is_class : T "is_class" = some (.fn 2 2 p_is_class)
  need_class : T "need_class" = some (.fn 2 2 p_need_class)
section
variable {T : Tab} {W n : Nat} {C : Str → List D → Sto → R D} {ρ : Env} {st : Sto} {a b e : Ex} {w : Wld} {c : Cls}
theorem is_class_says (hT : TAsk T) (hW : 100 ≤ W) (hw : WOk w) (h : Real w c) : Fn (callD T W (n + 3)) st "is_class" [wd w, pairD c] (.bl true) := by
  refine Fn.of hT.is_class rfl ?_
  show Bd _ _ [some (wd w), some (pairD c)] _ _ _
  unfold p_is_class
  have c0 : Ev (callD T W (n + 2)) [some (wd w), some (pairD c)] st (.ix (.lc 1) (.k (.int 0))) (.int (c.1 : Int)) := Ev.ixT (ds := [_, _]) (Ev.lc rfl) Ev.k pair0
  have c1 : Ev (callD T W (n + 2)) [some (wd w), some (pairD c)] st (.ix (.lc 1) (.k (.int 1))) (.str c.2) := Ev.ixT (ds := [_, _]) (Ev.lc rfl) Ev.k pair1
  have hlt := h.lt
  refine Bd.no (Ev.or0 (Ev.nT (Ev.isTup (ds := [_, _]) (Ev.lc rfl))) (Ev.or0 (Ev.to (Ev.neI (Ev.lenT (ds := [_, _]) (Ev.lc rfl)) Ev.k) rfl) (Ev.nT (Ev.isStr c1)))) (Bd.no (Ev.or0 (Ev.isT c0 fun s => rfl) (Ev.or0 (Ev.nT (Ev.isT c0 fun s => rfl)) (Ev.nT (Ev.to (Ev.chn (p := true) (q := true) Ev.k c0 (fun s => ?_) (fun _ => Ev.lenT (Ev.lc rfl)) fun s => ?_) rfl)))) (Bd.ret ?_))
  · show some (decide ((0 : Int) ≤ (c.1 : Int))) = some true
    rw [decide_eq_true (by omega)]
  · show some (decide ((c.1 : Int) < ((w.map Ldr.d).length : Nat))) = some true
    rw [decide_eq_true (by rw [List.length_map]; omega)]
  · have fb : Fn (callD T W (n + 2)) st "found_by" [wd w, .int (c.1 : Int), .str c.2] (fdD c.2 (foundV w c.1 c.2)) := found_says hT.toTFind hW hw h.lt (h.str hw)
    refine Ev.to (Ev.eq (n := 1) (m := 1) (Ev.call (Evs.cons (Ev.lc rfl) (Evs.cons c0 (Evs.cons c1 Evs.nil))) fb) (Ev.lc rfl) (fd_plain (h.str hw)) (real_plain hw h)) ?_
    rw [h.fd]
    show D.bl (decide (pairD c = pairD c)) = _
    rw [decide_eq_true rfl]
theorem need_class_says (hT : TAsk T) (hW : 100 ≤ W) (hw : WOk w) (h : Real w c) : Fn (callD T W (n + 7)) st "need_class" [wd w, pairD c] .non := by
  intro s hs
  refine call_ok hT.need_class rfl ?_
  show okS (excs _ _ _ [some (wd w), some (pairD c)] _) _ _ _
  unfold p_need_class
  rw [s_cons]
  refine S_call0 (Ev.call1 (Ev.lc rfl) (need_of hT.toTFiles hw)) fun s1 e1 => ?_
  rw [s_cons]
  have ic : Fn (callD T W (n + 6)) s1 "is_class" [wd w, pairD c] (.bl true) := is_class_says (n := n + 3) hT hW hw h
  refine S_no (Ext.refl _) (Ev.nT (Ev.call (Evs.cons (Ev.lc rfl) (Evs.cons (Ev.lc rfl) Evs.nil)) ic)) fun s2 e2 => ?_
  rw [s_nil]
  exact ⟨e1.trans e2, rfl⟩
/-- the classes that the lists tell are classes -/
theorem classes_real (hw : WOk w) : ∀ p ∈ classesV w, Real w p := fun p hp => by
  obtain ⟨i, l, h1, h2⟩ := gather_mem hp
  have hi : i < w.length := (List.getElem?_eq_some_iff.mp h1).1
  unfold clsV at h2
  obtain ⟨f, hf, rfl⟩ := List.mem_map.mp h2
  exact ⟨hi, of_decide_eq_true (List.mem_filter.mp hf).2⟩
end
end IP.Q

/-! PrX: classes that can be linked: the line above them. -/
namespace IP.Q
open PySem
/-- c can be linked -/
def Lk (w : Wld) (c : Cls) : Prop := flawF w 17 c [] = none
theorem lk_above {w : Wld} {f : Nat} {c : Cls} {path : List Cls} (h : flawF w (f + 1) c path = none) {a : Str} (ha : (fileOf w c).above = some a) : c ∉ path ∧ ∃ o, foundV w c.1 a = some o ∧ (fileOf w (o, a)).face = false ∧ flawF w f (o, a) (path ++ [c]) = none := by
  unfold flawF at h
  split at h
  · cases h
  · rename_i hc
    refine ⟨hc, ?_⟩
    unfold abvV at h
    rw [ha] at h
    rw [List.cons_append, goF_cons] at h
    cases hf : foundV w c.1 a with
    | none => rw [hf] at h; cases h
    | some o =>
      rw [hf] at h
      dsimp only at h
      split at h
      · cases h
      · rename_i hk
        refine ⟨o, rfl, ?_, ?_⟩
        · cases hfc : (fileOf w (o, a)).face with
          | false => rfl
          | true =>
            rw [hfc] at hk
            exact absurd (by decide +kernel : kindV true ≠ ("class" : Str)) hk
        · cases hr : flawF w f (o, a) (path ++ [c]) with
          | none => rfl
          | some d => rw [hr] at h; cases h
/-- the line above c -/
def supF (w : Wld) : Nat → Cls → List Cls
  | 0, _ => []
  | f + 1, c => c :: match (fileOf w c).above with
    | none => []
    | some a => match foundV w c.1 a with
      | none => []
      | some o => supF w f (o, a)
def supV (w : Wld) (c : Cls) : List Cls := supF w 17 c
structure TLink (T : Tab) : Prop extends TAsk T where
  why_not : T "why_not" = some (.fn 2 2 p_why_not)
  need_linked : T "need_linked" = some (.fn 2 3 p_need_linked)
  supers : T "supers" = some (.fn 2 3 p_supers)
section
variable {T : Tab} {W n : Nat} {C : Str → List D → Sto → R D} {ρ : Env} {st : Sto} {a b e : Ex} {w : Wld} {c : Cls}
/-- flaw(world, thing, []) -/
theorem flaw_call (hT : TFlaw T) (hW : 100 ≤ W) (hw : WOk w) (h : Real w c) (h0 : ρ[0]? = some (some (wd w))) (h1 : ρ[1]? = some (some (pairD c))) : Ev (callD T W (n + 21)) ρ st (.call "flaw" (.cons (.lc 0) (.cons (.lc 1) (.cons (.lst .nil) .nil)))) (whyD (flawF w 17 c [])) := fun s hs => by
  rw [w_call, w_cons, w_lc h0, w_cons, w_lc h1, w_cons]
  refine ok_mono (EvL.lst (st := st) Evs.nil (Nat.zero_le _) s hs) fun u s7 ⟨e7, m, hu, hm, hc7⟩ => ?_
  subst hu
  rw [w_nil]
  exact ok_mono (flaw_says hT hW hw (few hw) (by decide) 17 n s7 c [] m h (fun q hq => by cases hq) List.nodup_nil (by simp) hc7 s7 (Ext.refl _)) fun v s8 ⟨e8, hv⟩ => ⟨e7.trans e8, hv⟩
theorem why_not_says (hT : TLink T) (hW : 100 ≤ W) (hw : WOk w) (h : Real w c) : Fn (callD T W (n + 22)) st "why_not" [wd w, pairD c] (whyD (flawF w 17 c [])) := by
  intro s hs
  refine call_ok hT.why_not rfl ?_
  show okS (excs _ _ _ [some (wd w), some (pairD c)] _) _ _ _
  unfold p_why_not
  rw [s_cons]
  refine S_call0 (Ev.call (Evs.cons (Ev.lc rfl) (Evs.cons (Ev.lc rfl) Evs.nil)) (need_class_says (n := n + 14) hT.toTAsk hW hw h)) fun s1 e1 => ?_
  rw [s_cons]
  exact S_ret (Ext.refl _) (flaw_call hT.toTFlaw hW hw h rfl rfl) fun s2 e2 => ⟨e1.trans e2, rfl⟩
theorem need_linked_says (hT : TLink T) (hW : 100 ≤ W) (hw : WOk w) (h : Real w c) (hl : Lk w c) : Fn (callD T W (n + 22)) st "need_linked" [wd w, pairD c] .non := by
  intro s hs
  refine call_ok hT.need_linked rfl ?_
  show okS (excs _ _ _ [some (wd w), some (pairD c), none] _) _ _ _
  unfold p_need_linked
  rw [s_cons]
  refine S_call0 (Ev.call (Evs.cons (Ev.lc rfl) (Evs.cons (Ev.lc rfl) Evs.nil)) (need_class_says (n := n + 14) hT.toTAsk hW hw h)) fun s1 e1 => ?_
  rw [s_cons]
  refine S_asg (Ext.refl _) (flaw_call hT.toTFlaw hW hw h rfl rfl) fun s2 e2 => ⟨_, rfl, ?_⟩
  rw [hl]
  show okS (excs _ _ _ [some (wd w), some (pairD c), some .non] _) _ _ _
  rw [s_cons]
  refine S_no (Ext.refl _) (Ev.to (Ev.notN (Ev.lc rfl)) rfl) fun s3 e3 => ?_
  rw [s_nil]
  exact ⟨e1.trans (e2.trans e3), rfl⟩
/-- the chain from c on: all are classes that can be linked behind the way, none twice -/
theorem sup_chain (hw : WOk w) : ∀ (f : Nat) (c : Cls) (path : List Cls), Real w c → (∀ q ∈ path, Real w q) → path.Nodup → 17 ≤ path.length + f → flawF w f c path = none → (∀ q ∈ supF w f c, Real w q ∧ q ∉ path) ∧ (supF w f c).Nodup := by
  intro f
  induction f with
  | zero =>
    intro c path hc hp hn hk _
    have := few hw path hn hp
    omega
  | succ f ih =>
    intro c path hc hp hn hk hfl
    unfold supF
    cases ha : (fileOf w c).above with
    | none =>
      have hcp : c ∉ path := fun z => by
        unfold flawF at hfl
        rw [if_pos z] at hfl
        cases hfl
      dsimp only
      exact ⟨fun q hq => by rw [List.mem_singleton.mp hq]; exact ⟨hc, hcp⟩, by simp⟩
    | some a =>
      obtain ⟨hcp, o, h1, h2, h3⟩ := lk_above hfl ha
      dsimp only
      rw [h1]
      dsimp only
      have ho := found_real hw hc.lt h1
      obtain ⟨k1, k2⟩ := ih (o, a) (path ++ [c]) ho (snoc_real hp hc) (snoc_nodup hn hcp) (by rw [List.length_append, List.length_singleton]; omega) h3
      refine ⟨fun q hq => ?_, ?_⟩
      · rcases List.mem_cons.mp hq with rfl | hq
        · exact ⟨hc, hcp⟩
        · exact ⟨(k1 q hq).1, fun z => (k1 q hq).2 (List.mem_append_left _ z)⟩
      · exact List.nodup_cons.mpr ⟨fun z => (k1 c z).2 (by simp), k2⟩
end
end IP.Q

/-! PrY: the line above a class, by the program. -/
namespace IP.Q
open PySem
section
variable {T : Tab} {W n : Nat} {C : Str → List D → Sto → R D} {ρ : Env} {st : Sto} {a b e : Ex} {w : Wld} {c : Cls}
theorem last_pair {acc : List Cls} {c : Cls} : L2.atI ((acc ++ [c]).map pairD) (-1) = some (pairD c) := by
  unfold L2.atI L2.ixN
  rw [if_neg (by omega), if_pos (by simp; omega)]
  show ((acc ++ [c]).map pairD)[_]? = _
  have e : ((-1 : Int) + (((acc ++ [c]).map pairD).length : Nat)).toNat = acc.length := by
    rw [List.length_map, List.length_append, List.length_singleton]
    omega
  rw [e, List.getElem?_map, List.getElem?_append_right (Nat.le_refl _)]
  simp
theorem supers_says (hT : TLink T) (hW : 100 ≤ W) (hw : WOk w) (h : Real w c) (hl : Lk w c) : FnL (callD T W (n + 23)) st "supers" [wd w, pairD c] ((supV w c).map pairD) := by
  intro s hs
  refine call_ok hT.supers rfl ?_
  show okS (excs _ _ _ [some (wd w), some (pairD c), none] _) _ _ _
  unfold p_supers
  rw [s_cons]
  refine S_call0 (Ev.call (Evs.cons (Ev.lc rfl) (Evs.cons (Ev.lc rfl) Evs.nil)) (need_linked_says (n := n) hT hW hw h hl)) fun s0 e0 => ?_
  rw [s_cons]
  refine S_asgL (EvL.lst (Evs.cons (Ev.lc rfl) Evs.nil) (by show 1 ≤ LIM; decide)) (by simp) fun s1 q e1 hq hc => ?_
  show okS (excs _ _ _ [some (wd w), some (pairD c), some (.ref q)] _) _ _ _
  rw [s_cons, s_whl]
  have hqs : s.length ≤ q := Nat.le_trans e0.len hq
  have key : ∀ (f : Nat) (x : Cls) (path acc : List Cls) (k : Nat) (s1 : Sto), Real w x → (∀ q ∈ path, Real w q) → path.Nodup → 17 ≤ path.length + f → flawF w f x path = none → f + 1 ≤ k → acc.length + f ≤ 50 → Ext s s1 → s1[q]? = some (.lst ((acc ++ [x]).map pairD)) →
      okS (whlL (fun ρ' st' => ev (callD T W (n + 22)) (.notN (.ix (.call "file_of" (.cons (.lc 0) (.cons (.ix (.lc 2) (.neg (.k (.int 1)))) .nil))) (.k (.int 2)))) ρ' st') (fun ρ' st' => excs (callD T W (n + 22)) W (.cons (.exp (.bm .append (.lc 2) (.cons (.call "found_by" (.cons (.lc 0) (.cons (.ix (.ix (.lc 2) (.neg (.k (.int 1)))) (.k (.int 0))) (.cons (.ix (.call "file_of" (.cons (.lc 0) (.cons (.ix (.lc 2) (.neg (.k (.int 1)))) .nil))) (.k (.int 2))) .nil)))) .nil))) .nil) ρ' st') k [some (wd w), some (pairD c), some (.ref q)] s1)
        (fun ρ s2 => ρ = [some (wd w), some (pairD c), some (.ref q)] ∧ Ext s s2 ∧ s2[q]? = some (.lst ((acc ++ supF w f x).map pairD))) (fun _ _ => False) fun _ _ => False := by
    intro f
    induction f with
    | zero =>
      intro x path acc k s1 hx hp hn hk _
      have := few hw path hn hp
      omega
    | succ f ih =>
      intro x path acc k s1 hx hp hn hk hfl hkk hacc e1 hc
      obtain ⟨k, rfl⟩ : ∃ k', k = k' + 1 := ⟨k - 1, by omega⟩
      have lst : ∀ s2, Ext s1 s2 → Ev (callD T W (n + 22)) [some (wd w), some (pairD c), some (.ref q)] s2 (.ix (.lc 2) (.neg (.k (.int 1)))) (pairD x) := fun s2 e2 => Ev.ixV (Ev.lc rfl) (e2.at_ hc) (Ev.neg Ev.k) last_pair
      have abv : ∀ s2, Ext s1 s2 → Ev (callD T W (n + 22)) [some (wd w), some (pairD c), some (.ref q)] s2 (.ix (.call "file_of" (.cons (.lc 0) (.cons (.ix (.lc 2) (.neg (.k (.int 1)))) .nil))) (.k (.int 2))) (optS (fileOf w x).above) := fun s2 e2 =>
        Ev.ixT (ds := [_, _, _, _, _]) (Ev.call (Evs.cons (Ev.lc rfl) (Evs.cons (lst s2 e2) Evs.nil)) (file_of_says (n := n + 20) hT.toTAbove hw hx)) Ev.k rfl
      cases ha : (fileOf w x).above with
      | none =>
        have a0 := abv s1 (Ext.refl _)
        rw [ha] at a0
        refine whl_step (Ev.run (Ev.to (Ev.notN a0) (by rfl)) fun s5 e5 => .inr ⟨rfl, rfl, e1.trans e5, ?_⟩)
        unfold supF
        rw [ha]
        exact e5.at_ hc
      | some y =>
        obtain ⟨hcp, o, h1, h2, h3⟩ := lk_above hfl ha
        have ho := found_real hw hx.lt h1
        rw [ha] at abv
        refine whl_step (Ev.run (Ev.to (Ev.notN (abv s1 (Ext.refl _))) (by rfl)) fun s2 e2 => .inl ⟨rfl, ?_⟩)
        rw [s_cons]
        have fb : Fn (callD T W (n + 22)) s2 "found_by" [wd w, .int (x.1 : Int), .str y] (fdD y (foundV w x.1 y)) := found_says (n := n + 20) hT.toTFind hW hw hx.lt (ho.str hw)
        rw [h1] at fb
        refine S_app (x := pairD (o, y)) rfl (e2.at_ hc) (Ev.call (Evs.cons (Ev.lc rfl) (Evs.cons (Ev.ixT (ds := [_, _]) (lst s2 e2) Ev.k pair0) (Evs.cons (abv s2 e2) Evs.nil))) fb) (by rw [List.length_map, List.length_append, List.length_singleton]; unfold LIM; omega) fun s3 e3 => ?_
        rw [s_nil]
        refine okS_mono (ih (o, y) (path ++ [x]) (acc ++ [x]) k _ ho (snoc_real hp hx) (snoc_nodup hn hcp) (by rw [List.length_append, List.length_singleton]; omega) h3 (by omega) (by rw [List.length_append, List.length_singleton]; omega) ((e1.trans (e2.trans e3)).set hqs) (by
          rw [List.getElem?_set_self (List.getElem?_eq_some_iff.mp ((e2.trans e3).at_ hc)).1, List.map_append (l₁ := acc ++ [x])]; rfl)) (fun ρ s5 ⟨h1', h2', h4⟩ => ⟨h1', h2', ?_⟩) (fun _ _ z => z) fun _ _ z => z
        rw [h4]
        conv => rhs; unfold supF
        rw [ha]
        dsimp only
        rw [h1]
        simp
  refine okS_mono (key 17 c [] [] W s1 h (fun q hq => by cases hq) List.nodup_nil (by simp) hl (by omega) (by simp) (e0.trans e1) hc) (fun ρ s2 ⟨h1, h2, h4⟩ => ?_) (fun _ _ z => z.elim) fun _ _ z => z.elim
  subst h1
  rw [s_cons, s_ret, w_lc (d := .ref q) rfl]
  exact ⟨h2, q, rfl, hqs, h4⟩
end
end IP.Q

/-! PrZ: the line above a class, by the laws. -/
namespace IP.Q
open PySem
section
variable {T : Tab} {W n : Nat} {C : Str → List D → Sto → R D} {ρ : Env} {st : Sto} {a b e : Ex} {w : Wld} {c : Cls}
theorem lsupers_says (hT : LAbove T) (hS : T "_law_supers" = some (.fn 2 3 l_supers)) (hW : 100 ≤ W) (hw : WOk w) (h : Real w c) (hl : Lk w c) : FnL (callD T W (n + 23)) st "_law_supers" [wd w, pairD c] ((supV w c).map pairD) := by
  intro s hs
  refine call_ok hS rfl ?_
  show okS (excs _ _ _ [some (wd w), some (pairD c), none] _) _ _ _
  unfold l_supers
  have e0 : Ext s s := Ext.refl _
  rw [s_cons]
  refine S_asgL (EvL.lst (Evs.cons (Ev.lc rfl) Evs.nil) (by show 1 ≤ LIM; decide)) (by simp) fun s1 q e1 hq hc => ?_
  show okS (excs _ _ _ [some (wd w), some (pairD c), some (.ref q)] _) _ _ _
  rw [s_cons, s_whl]
  have hqs : s.length ≤ q := Nat.le_trans e0.len hq
  have key : ∀ (f : Nat) (x : Cls) (path acc : List Cls) (k : Nat) (s1 : Sto), Real w x → (∀ q ∈ path, Real w q) → path.Nodup → 17 ≤ path.length + f → flawF w f x path = none → f + 1 ≤ k → acc.length + f ≤ 50 → Ext s s1 → s1[q]? = some (.lst ((acc ++ [x]).map pairD)) →
      okS (whlL (fun ρ' st' => ev (callD T W (n + 22)) (.notN (.ix (.call "_law_file_of" (.cons (.lc 0) (.cons (.ix (.lc 2) (.neg (.k (.int 1)))) .nil))) (.k (.int 2)))) ρ' st') (fun ρ' st' => excs (callD T W (n + 22)) W (.cons (.exp (.bm .append (.lc 2) (.cons (.call "_law_find" (.cons (.lc 0) (.cons (.ix (.ix (.lc 2) (.neg (.k (.int 1)))) (.k (.int 0))) (.cons (.ix (.call "_law_file_of" (.cons (.lc 0) (.cons (.ix (.lc 2) (.neg (.k (.int 1)))) .nil))) (.k (.int 2))) .nil)))) .nil))) .nil) ρ' st') k [some (wd w), some (pairD c), some (.ref q)] s1)
        (fun ρ s2 => ρ = [some (wd w), some (pairD c), some (.ref q)] ∧ Ext s s2 ∧ s2[q]? = some (.lst ((acc ++ supF w f x).map pairD))) (fun _ _ => False) fun _ _ => False := by
    intro f
    induction f with
    | zero =>
      intro x path acc k s1 hx hp hn hk _
      have := few hw path hn hp
      omega
    | succ f ih =>
      intro x path acc k s1 hx hp hn hk hfl hkk hacc e1 hc
      obtain ⟨k, rfl⟩ : ∃ k', k = k' + 1 := ⟨k - 1, by omega⟩
      have lst : ∀ s2, Ext s1 s2 → Ev (callD T W (n + 22)) [some (wd w), some (pairD c), some (.ref q)] s2 (.ix (.lc 2) (.neg (.k (.int 1)))) (pairD x) := fun s2 e2 => Ev.ixV (Ev.lc rfl) (e2.at_ hc) (Ev.neg Ev.k) last_pair
      have abv : ∀ s2, Ext s1 s2 → Ev (callD T W (n + 22)) [some (wd w), some (pairD c), some (.ref q)] s2 (.ix (.call "_law_file_of" (.cons (.lc 0) (.cons (.ix (.lc 2) (.neg (.k (.int 1)))) .nil))) (.k (.int 2))) (optS (fileOf w x).above) := fun s2 e2 =>
        Ev.ixT (ds := [_, _, _, _, _]) (Ev.call (Evs.cons (Ev.lc rfl) (Evs.cons (lst s2 e2) Evs.nil)) (lfile_of_says (n := n + 20) hT hw hx)) Ev.k rfl
      cases ha : (fileOf w x).above with
      | none =>
        have a0 := abv s1 (Ext.refl _)
        rw [ha] at a0
        refine whl_step (Ev.run (Ev.to (Ev.notN a0) (by rfl)) fun s5 e5 => .inr ⟨rfl, rfl, e1.trans e5, ?_⟩)
        unfold supF
        rw [ha]
        exact e5.at_ hc
      | some y =>
        obtain ⟨hcp, o, h1, h2, h3⟩ := lk_above hfl ha
        have ho := found_real hw hx.lt h1
        rw [ha] at abv
        refine whl_step (Ev.run (Ev.to (Ev.notN (abv s1 (Ext.refl _))) (by rfl)) fun s2 e2 => .inl ⟨rfl, ?_⟩)
        rw [s_cons]
        have fb : Fn (callD T W (n + 22)) s2 "_law_find" [wd w, .int (x.1 : Int), .str y] (fdD y (foundV w x.1 y)) := lfind_says (n := n + 20) hT.toTLine hW hw hx.lt (ho.str hw)
        rw [h1] at fb
        refine S_app (x := pairD (o, y)) rfl (e2.at_ hc) (Ev.call (Evs.cons (Ev.lc rfl) (Evs.cons (Ev.ixT (ds := [_, _]) (lst s2 e2) Ev.k pair0) (Evs.cons (abv s2 e2) Evs.nil))) fb) (by rw [List.length_map, List.length_append, List.length_singleton]; unfold LIM; omega) fun s3 e3 => ?_
        rw [s_nil]
        refine okS_mono (ih (o, y) (path ++ [x]) (acc ++ [x]) k _ ho (snoc_real hp hx) (snoc_nodup hn hcp) (by rw [List.length_append, List.length_singleton]; omega) h3 (by omega) (by rw [List.length_append, List.length_singleton]; omega) ((e1.trans (e2.trans e3)).set hqs) (by
          rw [List.getElem?_set_self (List.getElem?_eq_some_iff.mp ((e2.trans e3).at_ hc)).1, List.map_append (l₁ := acc ++ [x])]; rfl)) (fun ρ s5 ⟨h1', h2', h4⟩ => ⟨h1', h2', ?_⟩) (fun _ _ z => z) fun _ _ z => z
        rw [h4]
        conv => rhs; unfold supF
        rw [ha]
        dsimp only
        rw [h1]
        simp
  refine okS_mono (key 17 c [] [] W s1 h (fun q hq => by cases hq) List.nodup_nil (by simp) hl (by omega) (by simp) (e0.trans e1) hc) (fun ρ s2 ⟨h1, h2, h4⟩ => ?_) (fun _ _ z => z.elim) fun _ _ z => z.elim
  subst h1
  rw [s_cons, s_ret, w_lc (d := .ref q) rfl]
  exact ⟨h2, q, rfl, hqs, h4⟩
end
end IP.Q

/-! PsA: the nearest common class. -/
namespace IP.Q
open PySem
def optC : Option Cls → D
  | none => .non
  | some c => pairD c
def comV (w : Wld) (c d : Cls) : Option Cls := (supV w c).find? fun x => decide (x ∈ supV w d)
theorem sup_real {w : Wld} (hw : WOk w) {c : Cls} (h : Real w c) (hl : Lk w c) : (∀ q ∈ supV w c, Real w q) ∧ (supV w c).Nodup ∧ (supV w c).length ≤ 16 := by
  obtain ⟨k1, k2⟩ := sup_chain hw 17 c [] h (fun q hq => by cases hq) List.nodup_nil (by simp) hl
  refine ⟨fun q hq => (k1 q hq).1, k2, ?_⟩
  have := few hw _ k2 fun q hq => (k1 q hq).1
  show (supF w 17 c).length ≤ 16
  omega
section
variable {T : Tab} {W n : Nat} {C : Str → List D → Sto → R D} {ρ : Env} {st : Sto} {a b e : Ex} {w : Wld} {c d : Cls}
theorem common_says (hT : TLink T) (hC : T "common" = some (.fn 3 7 p_common)) (hW : 100 ≤ W) (hw : WOk w) (h : Real w c) (hl : Lk w c) (h' : Real w d) (hl' : Lk w d) : Fn (callD T W (n + 24)) st "common" [wd w, pairD c, pairD d] (optC (comV w c d)) := by
  obtain ⟨r1, r2, r3⟩ := sup_real hw h hl
  obtain ⟨r4, r5, r6⟩ := sup_real hw h' hl'
  intro s hs
  refine call_ok hC rfl ?_
  show okS (excs _ _ _ [some (wd w), some (pairD c), some (pairD d), none, none, none, none] _) _ _ _
  unfold p_common
  rw [s_cons]
  refine S_call0 (Ev.call (Evs.cons (Ev.lc rfl) (Evs.cons (Ev.lc rfl) Evs.nil)) (need_linked_says (n := n + 1) hT hW hw h hl)) fun s0 e0 => ?_
  rw [s_cons]
  refine S_call0 (Ev.call (Evs.cons (Ev.lc rfl) (Evs.cons (Ev.lc rfl) Evs.nil)) (need_linked_says (n := n + 1) hT hW hw h' hl')) fun s1 e1 => ?_
  rw [s_cons]
  refine S_asgL (EvL.call (Evs.cons (Ev.lc rfl) (Evs.cons (Ev.lc rfl) Evs.nil)) (supers_says (n := n) hT hW hw h hl)) (by simp) fun s2 q e2 hq hc => ?_
  rw [s_cons]
  refine S_asgL (EvL.call (Evs.cons (Ev.lc rfl) (Evs.cons (Ev.lc rfl) Evs.nil)) (supers_says (n := n) hT hW hw h' hl')) (by simp) fun s3 r e3 hr hc3 => ?_
  show okS (excs _ _ _ [some (wd w), some (pairD c), some (pairD d), some (.ref q), some (.ref r), none, none] _) _ _ _
  rw [s_cons]
  have hcq := e3.at_ hc
  have hi : Evi (callD T W (n + 23)) [some (wd w), some (pairD c), some (pairD d), some (.ref q), some (.ref r), none, none] s3 (.val (.lc 3)) ((supV w c).map pairD) := fun s hs => ok_mono (EviW.lstV (Ev.lc rfl) hcq s hs) fun p s' ⟨e, hp⟩ => by
    subst hp
    exact ⟨e, rfl, by simp [okW, (hs.trans e).at_ hcq]⟩
  have hm := EvL.filt (C := callD T W (n + 23)) (ρ := [some (wd w), some (pairD c), some (pairD d), some (.ref q), some (.ref r), none, none]) (st := s3) (e := .lc 6) (c := .cmp .isin (.lc 6) (.lc 4)) (t := .nm 6) (it := .val (.lc 3)) (own := [6]) (fun x => decide (x ∈ (supV w d).map pairD)) id hi (by rw [List.length_map]; unfold LIM; omega) fun x hx s4 e4 => by
    obtain ⟨y, hy, rfl⟩ := List.mem_map.mp hx
    exact ⟨[some (wd w), some (pairD c), some (pairD d), some (.ref q), some (.ref r), none, some (pairD y)], rfl, Ev.inV (n := 1) (m := 1) (Ev.lc rfl) (Ev.lc rfl) (e4.at_ hc3) (real_plain hw (r1 y hy)) (path_plain hw r4), fun _ => Ev.lc rfl⟩
  have hfl : ((supV w c).map pairD).filter (fun x => decide (x ∈ (supV w d).map pairD)) = ((supV w c).filter fun x => decide (x ∈ supV w d)).map pairD := by
    rw [List.filter_map]
    congr 2
    funext x
    exact mem_pairs
  rw [List.map_id, hfl] at hm
  refine S_asgL hm (by simp) fun s4 t e4 ht hc4 => ?_
  show okS (excs _ _ _ [some (wd w), some (pairD c), some (pairD d), some (.ref q), some (.ref r), some (.ref t), none] _) _ _ _
  rw [s_cons]
  have hfi : comV w c d = ((supV w c).filter fun x => decide (x ∈ supV w d)).head? := by unfold comV; rw [List.head?_filter]
  have hle : ((supV w c).filter fun x => decide (x ∈ supV w d)).length ≤ 16 := Nat.le_trans (List.length_filter_le _ _) r3
  refine S_ret (Ext.refl _) (Ev.ixL (es := .nil) (EvL.vadd (Ev.lc rfl) hc4 (EvL.lst (Evs.cons Ev.k Evs.nil) (by show 1 ≤ LIM; decide)) (by rw [List.length_map]; simp only [List.length_cons, List.length_nil]; unfold LIM; omega)) Ev.k (d := optC (comV w c d)) ?_) fun s5 e5 => ⟨e0.trans (e1.trans (e2.trans (e3.trans (e4.trans e5)))), rfl⟩
  rw [hfi]
  cases (supV w c).filter fun x => decide (x ∈ supV w d) with
  | nil => rfl
  | cons y ys => exact at0
end
end IP.Q

/-! PsB: classes above a class that can be linked can be linked; their lines. -/
namespace IP.Q
open PySem
theorem goF_none {rec rec' : Cls → Why} {w : Wld} {l : Nat} : ∀ (ps : List (Str × Str)), goF rec w l ps = none → (∀ x o, foundV w l x = some o → rec (o, x) = none → rec' (o, x) = none) → goF rec' w l ps = none
  | [], _, _ => rfl
  | (x, k) :: r, h, hr => by
    rw [goF_cons] at h ⊢
    cases hf : foundV w l x with
    | none => rw [hf] at h; cases h
    | some o =>
      rw [hf] at h
      dsimp only at h ⊢
      split at h
      · cases h
      · rename_i hk
        rw [if_neg hk]
        cases hc : rec (o, x) with
        | some d => rw [hc] at h; cases h
        | none =>
          rw [hc] at h
          rw [hr x o hf hc]
          exact goF_none r h hr
/-- with fewer classes on the way -/
theorem flaw_less {w : Wld} (hw : WOk w) : ∀ (f : Nat) (c : Cls) (path path' : List Cls) (f' : Nat), Real w c → (∀ q ∈ path, Real w q) → path.Nodup → 17 ≤ path.length + f → flawF w f c path = none → (∀ q ∈ path', q ∈ path) → f ≤ f' → flawF w f' c path' = none := by
  intro f
  induction f with
  | zero =>
    intro c path path' f' hc hp hn hk _
    have := few hw path hn hp
    omega
  | succ f ih =>
    intro c path path' f' hc hp hn hk h hs hf
    obtain ⟨f', rfl⟩ : ∃ g, f' = g + 1 := ⟨f' - 1, by omega⟩
    unfold flawF at h ⊢
    split at h
    · cases h
    · rename_i hcp
      rw [if_neg fun z => hcp (hs c z)]
      refine goF_none _ h fun x o hfo hr => ?_
      exact ih (o, x) (path ++ [c]) (path' ++ [c]) f' (found_real hw hc.lt hfo) (snoc_real hp hc) (snoc_nodup hn hcp) (by rw [List.length_append, List.length_singleton]; omega) hr (fun q hq => by
        rcases List.mem_append.mp hq with hq | hq
        · exact List.mem_append_left _ (hs q hq)
        · exact List.mem_append_right _ hq) (by omega)
/-- all above a class that can be linked can be linked -/
theorem sup_lk {w : Wld} (hw : WOk w) : ∀ (f : Nat) (c : Cls) (path : List Cls), Real w c → (∀ q ∈ path, Real w q) → path.Nodup → 17 ≤ path.length + f → f ≤ 17 → flawF w f c path = none → ∀ q ∈ supF w f c, Lk w q := by
  intro f
  induction f with
  | zero =>
    intro c path hc hp hn hk _ _
    have := few hw path hn hp
    omega
  | succ f ih =>
    intro c path hc hp hn hk hf h q hq
    unfold supF at hq
    rcases List.mem_cons.mp hq with rfl | hq
    · exact flaw_less hw (f + 1) q path [] 17 hc hp hn hk h (fun q hq => by cases hq) hf
    · cases ha : (fileOf w c).above with
      | none => rw [ha] at hq; cases hq
      | some a =>
        obtain ⟨hcp, o, h1, h2, h3⟩ := lk_above h ha
        rw [ha] at hq
        dsimp only at hq
        rw [h1] at hq
        exact ih (o, a) (path ++ [c]) (found_real hw hc.lt h1) (snoc_real hp hc) (snoc_nodup hn hcp) (by rw [List.length_append, List.length_singleton]; omega) (by omega) h3 q hq
end IP.Q

/-! PsC: the line of a class in a line is the rest of it. -/
namespace IP.Q
open PySem
theorem sup_more {w : Wld} (hw : WOk w) : ∀ (f : Nat) (c : Cls) (path : List Cls) (f' : Nat), Real w c → (∀ q ∈ path, Real w q) → path.Nodup → 17 ≤ path.length + f → flawF w f c path = none → f ≤ f' → supF w f' c = supF w f c := by
  intro f
  induction f with
  | zero =>
    intro c path f' hc hp hn hk
    have := few hw path hn hp
    omega
  | succ f ih =>
    intro c path f' hc hp hn hk h hf
    obtain ⟨f', rfl⟩ : ∃ g, f' = g + 1 := ⟨f' - 1, by omega⟩
    unfold supF
    cases ha : (fileOf w c).above with
    | none => rfl
    | some a =>
      obtain ⟨hcp, o, h1, h2, h3⟩ := lk_above h ha
      dsimp only
      rw [h1]
      dsimp only
      rw [ih (o, a) (path ++ [c]) f' (found_real hw hc.lt h1) (snoc_real hp hc) (snoc_nodup hn hcp) (by rw [List.length_append, List.length_singleton]; omega) h3 (by omega)]
theorem sup_split {w : Wld} (hw : WOk w) : ∀ (f : Nat) (c : Cls) (path : List Cls), Real w c → (∀ q ∈ path, Real w q) → path.Nodup → 17 ≤ path.length + f → f ≤ 17 → flawF w f c path = none → ∀ q ∈ supF w f c, ∃ pre, supF w f c = pre ++ supV w q := by
  intro f
  induction f with
  | zero =>
    intro c path hc hp hn hk
    have := few hw path hn hp
    omega
  | succ f ih =>
    intro c path hc hp hn hk hf h q hq
    by_cases hqc : q = c
    · subst hqc
      exact ⟨[], (sup_more hw (f + 1) q path 17 hc hp hn hk h hf).symm⟩
    · unfold supF at hq ⊢
      rcases List.mem_cons.mp hq with hq | hq
      · exact absurd hq hqc
      · cases ha : (fileOf w c).above with
        | none => rw [ha] at hq; cases hq
        | some a =>
          obtain ⟨hcp, o, h1, h2, h3⟩ := lk_above h ha
          rw [ha] at hq
          dsimp only at hq ⊢
          rw [h1] at hq ⊢
          obtain ⟨pre, hpre⟩ := ih (o, a) (path ++ [c]) (found_real hw hc.lt h1) (snoc_real hp hc) (snoc_nodup hn hcp) (by rw [List.length_append, List.length_singleton]; omega) (by omega) h3 q hq
          exact ⟨c :: pre, by dsimp only; rw [hpre]; rfl⟩
end IP.Q

/-! PsD: the nearest common class, its laws. -/
namespace IP.Q
open PySem
section
variable {w : Wld} {c d x : Cls}
theorem sup_suffix (hw : WOk w) (h : Real w c) (hl : Lk w c) (hx : x ∈ supV w c) : ∃ pre, supV w c = pre ++ supV w x := sup_split hw 17 c [] h (fun q hq => by cases hq) List.nodup_nil (by simp) (Nat.le_refl _) hl x hx
theorem sup_link (hw : WOk w) (h : Real w c) (hl : Lk w c) (hx : x ∈ supV w c) : Lk w x := sup_lk hw 17 c [] h (fun q hq => by cases hq) List.nodup_nil (by simp) (Nat.le_refl _) hl x hx
theorem sup_self : ∃ r, supV w c = c :: r := ⟨_, rfl⟩
/-- the first one in front: what stands ahead of it isn't above the other one -/
theorem com_some (hw : WOk w) (h : Real w c) (hl : Lk w c) (hx : comV w c d = some x) : x ∈ supV w d ∧ ∃ pre, supV w c = pre ++ supV w x ∧ ∀ y ∈ pre, y ∉ supV w d := by
  unfold comV at hx
  have h1 := List.mem_of_find?_eq_some hx
  have h2 : x ∈ supV w d := of_decide_eq_true (List.find?_some (p := fun x => decide (x ∈ supV w d)) hx)
  obtain ⟨pre, hp⟩ := sup_suffix hw h hl h1
  refine ⟨h2, pre, hp, fun y hy hyd => ?_⟩
  obtain ⟨_, hnd, _⟩ := sup_real hw h hl
  rw [hp] at hx hnd
  rw [List.find?_append] at hx
  cases hq : pre.find? fun x => decide (x ∈ supV w d) with
  | none => exact (List.find?_eq_none.mp hq y hy) (decide_eq_true hyd)
  | some z =>
    rw [hq] at hx
    have hzx : z = x := Option.some.inj hx
    subst hzx
    obtain ⟨r, hr⟩ := sup_self (w := w) (c := z)
    rw [List.nodup_append] at hnd
    exact hnd.2.2 z (List.mem_of_find?_eq_some hq) z (by rw [hr]; exact List.mem_cons_self) rfl
theorem com_none (h : comV w c d = none) : ∀ y ∈ supV w c, y ∉ supV w d := fun y hy hd => (List.find?_eq_none.mp h y hy) (decide_eq_true hd)
theorem find_at {p : Cls → Bool} {pre r : List Cls} {x : Cls} (h : ∀ y ∈ pre, p y = false) (hx : p x = true) : (pre ++ x :: r).find? p = some x := by
  rw [List.find?_append, List.find?_eq_none.mpr fun y hy => by rw [h y hy]; simp]
  simp [hx]
theorem com_symm (hw : WOk w) (h : Real w c) (hl : Lk w c) (h' : Real w d) (hl' : Lk w d) : comV w d c = comV w c d := by
  cases hx : comV w c d with
  | none =>
    unfold comV
    rw [List.find?_eq_none]
    intro y hy
    have := com_none hx
    simp only [decide_eq_true_eq]
    exact fun z => this y z hy
  | some x =>
    obtain ⟨hxd, pre, hp, hno⟩ := com_some hw h hl hx
    obtain ⟨pre2, hp2⟩ := sup_suffix hw h' hl' hxd
    obtain ⟨_, hnd, _⟩ := sup_real hw h' hl'
    obtain ⟨r, hr⟩ := sup_self (w := w) (c := x)
    unfold comV
    rw [hp2] at hnd ⊢
    rw [hr] at hnd ⊢
    refine find_at (fun y hy => ?_) (decide_eq_true (by rw [hp, hr]; simp))
    refine decide_eq_false fun hyc => ?_
    rw [hp] at hyc
    rcases List.mem_append.mp hyc with hyc | hyc
    · refine hno y hyc ?_
      rw [hp2]
      exact List.mem_append_left _ hy
    · rw [hr] at hyc
      rw [List.nodup_append] at hnd
      exact hnd.2.2 y hy y hyc rfl
theorem com_in (hw : WOk w) (h : Real w c) (hl : Lk w c) (hd : d ∈ supV w c) : comV w c d = some d := by
  obtain ⟨pre, hp⟩ := sup_suffix hw h hl hd
  obtain ⟨_, hnd, _⟩ := sup_real hw h hl
  obtain ⟨r, hr⟩ := sup_self (w := w) (c := d)
  unfold comV
  rw [hp] at hnd ⊢
  have hs : supV w d = d :: r := hr
  have key : ∀ y ∈ pre, decide (y ∈ supV w d) = false := fun y hy => decide_eq_false fun z => by
    rw [List.nodup_append] at hnd
    exact hnd.2.2 y hy y z rfl
  have := find_at (p := fun x => decide (x ∈ supV w d)) (r := r) key (x := d) (decide_eq_true (by rw [hs]; exact List.mem_cons_self))
  rw [← hs] at this
  exact this
end
end IP.Q

/-! UbD: classes, what stands above them, why they can't be linked: the program. -/
namespace IP.Q
open PySem
theorem cls_mk {i : Nat} {x : Str} : U.tup [.int (i : Int), .str x] = clsU (i, x) := rfl
theorem cls_plain {c : Cls} : plainU 60 (clsU c) = true := by simp [clsU, plainU, plainsU]
theorem cls_inj {a b : Cls} : clsU a = clsU b ↔ a = b := by
  obtain ⟨a1, a2⟩ := a
  obtain ⟨b1, b2⟩ := b
  simp [clsU]
  intro _; omega
theorem eqU_cls {a b : Cls} : eqU (clsU a) (clsU b) = some (decide (a = b)) := by
  rw [eqU_plain cls_plain cls_plain]
  congr 1
  exact decide_eq_decide.mpr cls_inj
theorem fd_plain_u {x : Str} {o : Option Nat} : plainU 60 (fdU x o) = true := by
  cases o with
  | none => simp [fdU, plainU]
  | some i => exact cls_plain
theorem eqU_fd {x : Str} {o : Option Nat} {i : Nat} : eqU (fdU x o) (clsU (i, x)) = some (decide (o = some i)) := by
  rw [eqU_plain fd_plain_u cls_plain]
  congr 1
  refine decide_eq_decide.mpr ?_
  cases o with
  | none => simp [fdU, clsU]
  | some j => rw [show fdU x (some j) = clsU (j, x) from rfl, cls_inj]; simp
theorem cls_plains {cs : List Cls} : plainsU 60 (cs.map clsU) = true := by
  rw [plainsU_all, List.all_eq_true]
  intro d hd
  obtain ⟨c, _, rfl⟩ := List.mem_map.mp hd
  exact cls_plain
theorem in_cls {c : Cls} {cs : List Cls} : inU (clsU c) (cs.map clsU) = some (decide (c ∈ cs)) := by
  rw [inU_plain cls_plain cls_plains]
  congr 1
  refine decide_eq_decide.mpr ?_
  constructor
  · intro h
    obtain ⟨d, h1, h2⟩ := List.mem_map.mp h
    rw [← cls_inj.mp h2]; exact h1
  · exact fun h => List.mem_map_of_mem h
theorem eqU_clss {as bs : List Cls} : eqU (.lst (as.map clsU)) (.lst (bs.map clsU)) = some (decide (as = bs)) := by
  have hp : ∀ cs : List Cls, plainU 60 (.lst (cs.map clsU)) = true := fun cs => by
    simp only [plainU]
    rw [plainsU_all, List.all_eq_true]
    intro d hd
    obtain ⟨c, _, rfl⟩ := List.mem_map.mp hd
    simp [clsU, plainU, plainsU]
  rw [eqU_plain (hp _) (hp _)]
  congr 1
  refine decide_eq_decide.mpr ?_
  rw [U.lst.injEq]
  constructor
  · intro h
    exact List.map_inj_right (fun a b => cls_inj.mp) |>.mp h
  · rintro rfl; rfl
def ssU (p : Str × Str) : U := .tup [.str p.1, .str p.2]
def whyU : Why → U
  | none => .non
  | some p => ssU p
theorem ss_mk {x y : Str} : U.tup [.str x, .str y] = ssU (x, y) := rfl
theorem non_why {y : Why} : isNonU (whyU y) = y.isNone := by cases y <;> rfl
theorem non_ss {p : Str × Str} : isNonU (ssU p) = false := rfl
/-! sorted classes -/
def srtC (cs : List Cls) : List Cls := cs.mergeSort (PySem.W.dataLe false fun c => toPU (clsU c))
theorem mem_srtC {cs : List Cls} {c : Cls} : c ∈ srtC cs ↔ c ∈ cs := List.mem_mergeSort
theorem srtC_len {cs : List Cls} : (srtC cs).length = cs.length := List.length_mergeSort _
theorem datasU_cls : ∀ (cs : List Cls), datasU (cs.map clsU) = some (cs.map fun c => (clsU c, toPU (clsU c)))
  | [] => rfl
  | c :: cs => by
    simp only [List.map_cons, datasU, plainU_data 60 64 _ (by decide) cls_plain, datasU_cls cs]
theorem sort_cls {cs : List Cls} (hl : cs.length ≤ 1000) : sortU (cs.map clsU) = some ((srtC cs).map clsU) := by
  unfold sortU
  rw [datasU_cls]
  dsimp only
  have e1 : (cs.map fun c => (clsU c, toPU (clsU c))).map (·.2) = cs.map fun c => PyData.tuple [.int (c.1 : Int), .str c.2] := by
    rw [List.map_map]
    refine List.map_congr_left fun p _ => ?_
    simp [clsU, toPU, toPsU]
  rw [e1]
  have e2 : alikeB (cs.map fun p => PyData.tuple [.int (p.1 : Int), .str p.2]) = true := by
    unfold alikeB
    rw [List.all_eq_true]
    intro a ha
    obtain ⟨p, _, rfl⟩ := List.mem_map.mp ha
    rw [List.all_eq_true]
    intro b hb
    obtain ⟨q, _, rfl⟩ := List.mem_map.mp hb
    simp [PySem.W.alike, PySem.W.alikeAll]
  have e3 : (cs.map fun p => PyData.tuple [.int (p.1 : Int), .str p.2]).all tupleB = true := by
    rw [List.all_eq_true]
    intro a ha
    obtain ⟨p, _, rfl⟩ := List.mem_map.mp ha
    rfl
  rw [e2, e3, decide_eq_true (by rw [List.length_map]; unfold LIM; omega)]
  simp only [Bool.true_or, Bool.and_self, if_true]
  congr 1
  rw [← List.map_mergeSort (f := fun c : Cls => (clsU c, toPU (clsU c))) (r := PySem.W.dataLe false fun c => toPU (clsU c)) (s := PySem.W.dataLe false (·.2)) (fun a _ b _ => rfl), List.map_map]
  rfl
structure UFlaw {Ob : Type} (T : TabU) (O : Nat → Str → List U → List Ob → Option (RC Ob)) : Prop extends UFiles T O where
  file_of : Has T O "file_of" 2 2 p_file_of
  above_all : Has T O "above_all" 2 9 p_above_all
  flaw : Has T O "flaw" 3 7 p_flaw
structure UAsk {Ob : Type} (T : TabU) (O : Nat → Str → List U → List Ob → Option (RC Ob)) : Prop extends UFlaw T O where
  is_class : Has T O "is_class" 2 2 p_is_class
  need_class : Has T O "need_class" 2 2 p_need_class
structure UCls {Ob : Type} (T : TabU) (O : Nat → Str → List U → List Ob → Option (RC Ob)) : Prop extends UFiles T O where
  classes : Has T O "classes" 1 5 p_classes
section
variable {Ob : Type} {T : TabU} {O : Nat → Str → List U → List Ob → Option (RC Ob)} {cn : Str} {W n : Nat} {H : List Ob} {w : Wld} {c : Cls}
theorem file_of_u (h : UFlaw T O) (hr : Real w c) : callU O cn T W (n + 2) "file_of" [wU w, clsU c] H = .ok (fileOf w c).u H := by
  rw [h.file_of.run [] rfl rfl]
  unfold p_file_of
  have := hr.file
  rw [shelf_get hr.lt] at this
  simp (decide := true) only [uall_0, uall_1, uall_2, uall_3, uall_4, uall_5, uall_6, uall_7, uall_8, memN, freshE, noRef, isDicU, isLstU, asgsU, wipeU, lockI, lockE, ofD, Nat.beq, List.map_cons, List.map_nil, List.replicate, List.nil_append, List.cons_append, List.append_nil, List.getElem?_cons_zero, List.getElem?_cons_succ, List.set_cons_zero, List.set_cons_succ, List.length_cons, List.length_nil, List.length_set, Bool.or_false, Bool.false_or, Bool.or_true, Bool.true_or, Bool.not_false, Bool.not_true, Bool.and_true, Bool.true_and, Bool.and_false, Bool.false_and, Bool.false_eq_true, Bool.not_eq_true, decide_true, decide_false, if_true, if_false, Option.map_some, Option.map_none, decide_eq_true_eq, and_true, true_and, Nat.zero_lt_succ, Nat.reduceAdd, Nat.reduceLT, Nat.reduceLeDiff, Nat.reduceEqDiff, Nat.reduceSub, Nat.sub_self, LIM, Option.isNone_none, Option.isNone_some, Option.isSome_none, Option.isSome_some, wU_at hr.lt, file_on_u h.toUFind, this, optFU]
theorem ss_map {α : Type} {f : α → Str × Str} {xs : List α} : (xs.map fun x => ssU (f x)) = (xs.map f).map ssU := by rw [List.map_map]; rfl
theorem above_u (h : UFlaw T O) (hw : WOk w) (hr : Real w c) : callU O cn T W (n + 3) "above_all" [wU w, clsU c] H = .ok (.lst ((abvV w c).map ssU)) H := by
  rw [h.above_all.run [] rfl rfl]
  unfold p_above_all
  have hl := (hr.ok hw).faces2
  have cm : ∀ ρ : EnvU, 8 < ρ.length → compU (cturn (callU O cn T W (n + 2)) cn [] (Ex.tup (Exs.cons (Ex.lc 8) (Exs.cons (Ex.k (D.str "face")) Exs.nil))) (Tg.nm 8) Exo.none [8] ρ) ((fileOf w c).faces.map .str) [] H = some ((fileOf w c).faces.map fun x => ssU (x, "face"), H) := by
    intro ρ hρ
    rw [compU_map U.str (fun x => ssU (x, "face")) (fileOf w c).faces (by unfold LIM; omega)]
    intro x hx
    have : (ρ.set 8 none).set 8 (some (U.str x)) = ρ.set 8 (some (.str x)) := by rw [List.set_set]
    simp (decide := true) only [uall_0, uall_1, uall_2, uall_3, uall_4, uall_5, uall_6, uall_7, uall_8, memN, freshE, noRef, isDicU, isLstU, asgsU, wipeU, lockI, lockE, ofD, Nat.beq, List.map_cons, List.map_nil, List.replicate, List.nil_append, List.cons_append, List.append_nil, List.getElem?_cons_zero, List.getElem?_cons_succ, List.set_cons_zero, List.set_cons_succ, List.length_cons, List.length_nil, List.length_set, Bool.or_false, Bool.false_or, Bool.or_true, Bool.true_or, Bool.not_false, Bool.not_true, Bool.and_true, Bool.true_and, Bool.and_false, Bool.false_and, Bool.false_eq_true, Bool.not_eq_true, decide_true, decide_false, if_true, if_false, Option.map_some, Option.map_none, decide_eq_true_eq, and_true, true_and, Nat.zero_lt_succ, Nat.reduceAdd, Nat.reduceLT, Nat.reduceLeDiff, Nat.reduceEqDiff, Nat.reduceSub, Nat.sub_self, LIM, Option.isNone_none, Option.isNone_some, Option.isSome_none, Option.isSome_some, cturn, hρ, this, List.getElem?_set_self hρ, ss_mk]
  simp (decide := true) only [uall_0, uall_1, uall_2, uall_3, uall_4, uall_5, uall_6, uall_7, uall_8, memN, freshE, noRef, isDicU, isLstU, asgsU, wipeU, lockI, lockE, ofD, Nat.beq, List.map_cons, List.map_nil, List.replicate, List.nil_append, List.cons_append, List.append_nil, List.getElem?_cons_zero, List.getElem?_cons_succ, List.set_cons_zero, List.set_cons_succ, List.length_cons, List.length_nil, List.length_set, Bool.or_false, Bool.false_or, Bool.or_true, Bool.true_or, Bool.not_false, Bool.not_true, Bool.and_true, Bool.true_and, Bool.and_false, Bool.false_and, Bool.false_eq_true, Bool.not_eq_true, decide_true, decide_false, if_true, if_false, Option.map_some, Option.map_none, decide_eq_true_eq, and_true, true_and, Nat.zero_lt_succ, Nat.reduceAdd, Nat.reduceLT, Nat.reduceLeDiff, Nat.reduceEqDiff, Nat.reduceSub, Nat.sub_self, LIM, Option.isNone_none, Option.isNone_some, Option.isSome_none, Option.isSome_some, file_of_u h hr, cm]
  unfold abvV
  cases ha : (fileOf w c).above with
  | none =>
    simp (decide := true) only [uall_0, uall_1, uall_2, uall_3, uall_4, uall_5, uall_6, uall_7, uall_8, memN, freshE, noRef, isDicU, isLstU, asgsU, wipeU, lockI, lockE, ofD, Nat.beq, List.map_cons, List.map_nil, List.replicate, List.nil_append, List.cons_append, List.append_nil, List.getElem?_cons_zero, List.getElem?_cons_succ, List.set_cons_zero, List.set_cons_succ, List.length_cons, List.length_nil, List.length_set, Bool.or_false, Bool.false_or, Bool.or_true, Bool.true_or, Bool.not_false, Bool.not_true, Bool.and_true, Bool.true_and, Bool.and_false, Bool.false_and, Bool.false_eq_true, Bool.not_eq_true, decide_true, decide_false, if_true, if_false, Option.map_some, Option.map_none, decide_eq_true_eq, and_true, true_and, Nat.zero_lt_succ, Nat.reduceAdd, Nat.reduceLT, Nat.reduceLeDiff, Nat.reduceEqDiff, Nat.reduceSub, Nat.sub_self, LIM, Option.isNone_none, Option.isNone_some, Option.isSome_none, Option.isSome_some, optSU, ss_map (f := fun x => (x, ("face" : Str)))]
  | some a =>
    have : ¬ (1000000 < 1 + (fileOf w c).faces.length) := by omega
    simp (decide := true) only [uall_0, uall_1, uall_2, uall_3, uall_4, uall_5, uall_6, uall_7, uall_8, memN, freshE, noRef, isDicU, isLstU, asgsU, wipeU, lockI, lockE, ofD, Nat.beq, List.map_cons, List.map_nil, List.replicate, List.nil_append, List.cons_append, List.append_nil, List.getElem?_cons_zero, List.getElem?_cons_succ, List.set_cons_zero, List.set_cons_succ, List.length_cons, List.length_nil, List.length_set, Bool.or_false, Bool.false_or, Bool.or_true, Bool.true_or, Bool.not_false, Bool.not_true, Bool.and_true, Bool.true_and, Bool.and_false, Bool.false_and, Bool.false_eq_true, Bool.not_eq_true, decide_true, decide_false, if_true, if_false, Option.map_some, Option.map_none, decide_eq_true_eq, and_true, true_and, Nat.zero_lt_succ, Nat.reduceAdd, Nat.reduceLT, Nat.reduceLeDiff, Nat.reduceEqDiff, Nat.reduceSub, Nat.sub_self, LIM, Option.isNone_none, Option.isNone_some, Option.isSome_none, Option.isSome_some, optSU, ss_map (f := fun x => (x, ("face" : Str))), List.length_map, Nat.not_lt.mp this, ss_mk]
end
end IP.Q

/-! UbE: flaws, lines, the nearest common class, all classes: the program. -/
namespace IP.Q
open PySem
structure ULink {Ob : Type} (T : TabU) (O : Nat → Str → List U → List Ob → Option (RC Ob)) : Prop extends UAsk T O where
  why_not : Has T O "why_not" 2 2 p_why_not
  need_linked : Has T O "need_linked" 2 3 p_need_linked
  supers : Has T O "supers" 2 3 p_supers
structure UCom {Ob : Type} (T : TabU) (O : Nat → Str → List U → List Ob → Option (RC Ob)) : Prop extends ULink T O where
  common : Has T O "common" 3 7 p_common
section
variable {Ob : Type} {T : TabU} {O : Nat → Str → List U → List Ob → Option (RC Ob)} {cn : Str} {W n : Nat} {H : List Ob} {w : Wld} {c d : Cls}
theorem goF_find (rec : Cls → Why) (w : Wld) (l : Nat) : ∀ ps : List (Str × Str), ps.findSome? (fun p => (goF rec w l [p]).map ssU) = (goF rec w l ps).map ssU
  | [] => rfl
  | (x, k) :: r => by
    rw [List.findSome?_cons, goF_find rec w l r, goF_cons, goF_cons]
    cases foundV w l x with
    | none => rfl
    | some o =>
      dsimp only
      by_cases hk : kindV (fileOf w (o, x)).face ≠ k
      · rw [if_pos hk, if_pos hk]; rfl
      · rw [if_neg hk, if_neg hk]
        cases rec (o, x) <;> rfl
theorem flaw_u (h : UFlaw T O) (hW : 100 ≤ W) (hw : WOk w) : ∀ (f n : Nat) (c : Cls) (path : List Cls), Real w c → (∀ q ∈ path, Real w q) → path.Nodup → 17 ≤ path.length + f →
    callU O cn T W (n + f + 4) "flaw" [wU w, clsU c, .lst (path.map clsU)] H = .ok (whyU (flawF w f c path)) H := by
  intro f
  induction f with
  | zero =>
    intro n c path hc hp hn hk
    have := few hw path hn hp
    omega
  | succ f ih =>
    intro n c path hc hp hn hk
    rw [show n + (f + 1) + 4 = (n + f + 4) + 1 by omega, h.flaw.run [] rfl rfl]
    unfold p_flaw flawF
    have fw := few hw path hn hp
    by_cases hcp : c ∈ path
    · simp (decide := true) only [uall_0, uall_1, uall_2, uall_3, uall_4, uall_5, uall_6, uall_7, uall_8, memN, freshE, noRef, isDicU, isLstU, asgsU, wipeU, lockI, lockE, ofD, Nat.beq, List.map_cons, List.map_nil, List.replicate, List.nil_append, List.cons_append, List.append_nil, List.getElem?_cons_zero, List.getElem?_cons_succ, List.set_cons_zero, List.set_cons_succ, List.length_cons, List.length_nil, List.length_set, Bool.or_false, Bool.false_or, Bool.or_true, Bool.true_or, Bool.not_false, Bool.not_true, Bool.and_true, Bool.true_and, Bool.and_false, Bool.false_and, Bool.false_eq_true, Bool.not_eq_true, decide_true, decide_false, if_true, if_false, Option.map_some, Option.map_none, decide_eq_true_eq, and_true, true_and, Nat.zero_lt_succ, Nat.reduceAdd, Nat.reduceLT, Nat.reduceLeDiff, Nat.reduceEqDiff, Nat.reduceSub, Nat.sub_self, LIM, Option.isNone_none, Option.isNone_some, Option.isSome_none, Option.isSome_some, in_cls, hcp, ss_mk, whyU]
    · simp (decide := true) only [uall_0, uall_1, uall_2, uall_3, uall_4, uall_5, uall_6, uall_7, uall_8, memN, freshE, noRef, isDicU, isLstU, asgsU, wipeU, lockI, lockE, ofD, Nat.beq, List.map_cons, List.map_nil, List.replicate, List.nil_append, List.cons_append, List.append_nil, List.getElem?_cons_zero, List.getElem?_cons_succ, List.set_cons_zero, List.set_cons_succ, List.length_cons, List.length_nil, List.length_set, Bool.or_false, Bool.false_or, Bool.or_true, Bool.true_or, Bool.not_false, Bool.not_true, Bool.and_true, Bool.true_and, Bool.and_false, Bool.false_and, Bool.false_eq_true, Bool.not_eq_true, decide_true, decide_false, if_true, if_false, Option.map_some, Option.map_none, decide_eq_true_eq, and_true, true_and, Nat.zero_lt_succ, Nat.reduceAdd, Nat.reduceLT, Nat.reduceLeDiff, Nat.reduceEqDiff, Nat.reduceSub, Nat.sub_self, LIM, Option.isNone_none, Option.isNone_some, Option.isSome_none, Option.isSome_some, in_cls, hcp, above_u h hw hc]
      rw [forU_find ssU [some (wU w), some (clsU c), some (.lst (path.map clsU)), none, none, none, none] (fun p => (goF (fun c2 => flawF w f c2 (path ++ [c])) w c.1 [p]).map ssU) (abvV w c)]
      · rw [goF_find]
        cases goF (fun c2 => flawF w f c2 (path ++ [c])) w c.1 (abvV w c) with
        | none => simp (decide := true) only [uall_0, uall_1, uall_2, uall_3, uall_4, uall_5, uall_6, uall_7, uall_8, memN, freshE, noRef, isDicU, isLstU, asgsU, wipeU, lockI, lockE, ofD, Nat.beq, List.map_cons, List.map_nil, List.replicate, List.nil_append, List.cons_append, List.append_nil, List.getElem?_cons_zero, List.getElem?_cons_succ, List.set_cons_zero, List.set_cons_succ, List.length_cons, List.length_nil, List.length_set, Bool.or_false, Bool.false_or, Bool.or_true, Bool.true_or, Bool.not_false, Bool.not_true, Bool.and_true, Bool.true_and, Bool.and_false, Bool.false_and, Bool.false_eq_true, Bool.not_eq_true, decide_true, decide_false, if_true, if_false, Option.map_some, Option.map_none, decide_eq_true_eq, and_true, true_and, Nat.zero_lt_succ, Nat.reduceAdd, Nat.reduceLT, Nat.reduceLeDiff, Nat.reduceEqDiff, Nat.reduceSub, Nat.sub_self, LIM, Option.isNone_none, Option.isNone_some, Option.isSome_none, Option.isSome_some, whyU]
        | some p => simp (decide := true) only [uall_0, uall_1, uall_2, uall_3, uall_4, uall_5, uall_6, uall_7, uall_8, memN, freshE, noRef, isDicU, isLstU, asgsU, wipeU, lockI, lockE, ofD, Nat.beq, List.map_cons, List.map_nil, List.replicate, List.nil_append, List.cons_append, List.append_nil, List.getElem?_cons_zero, List.getElem?_cons_succ, List.set_cons_zero, List.set_cons_succ, List.length_cons, List.length_nil, List.length_set, Bool.or_false, Bool.false_or, Bool.or_true, Bool.true_or, Bool.not_false, Bool.not_true, Bool.and_true, Bool.true_and, Bool.and_false, Bool.false_and, Bool.false_eq_true, Bool.not_eq_true, decide_true, decide_false, if_true, if_false, Option.map_some, Option.map_none, decide_eq_true_eq, and_true, true_and, Nat.zero_lt_succ, Nat.reduceAdd, Nat.reduceLT, Nat.reduceLeDiff, Nat.reduceEqDiff, Nat.reduceSub, Nat.sub_self, LIM, Option.isNone_none, Option.isNone_some, Option.isSome_none, Option.isSome_some, whyU]
      · rfl
      · rintro ⟨x, k⟩ hx
        have fu : callU O cn T W (n + f + 4) "found_by" [wU w, .int (c.1 : Int), .str x] H = .ok (fdU x (foundV w c.1 x)) H := found_u (n := n + f + 2) h.toUFind hW hw hc.lt x
        rw [goF_cons]
        cases hf : foundV w c.1 x with
        | none =>
          rw [hf] at fu
          simp (decide := true) only [uall_0, uall_1, uall_2, uall_3, uall_4, uall_5, uall_6, uall_7, uall_8, memN, freshE, noRef, isDicU, isLstU, asgsU, wipeU, lockI, lockE, ofD, Nat.beq, List.map_cons, List.map_nil, List.replicate, List.nil_append, List.cons_append, List.append_nil, List.getElem?_cons_zero, List.getElem?_cons_succ, List.set_cons_zero, List.set_cons_succ, List.length_cons, List.length_nil, List.length_set, Bool.or_false, Bool.false_or, Bool.or_true, Bool.true_or, Bool.not_false, Bool.not_true, Bool.and_true, Bool.true_and, Bool.and_false, Bool.false_and, Bool.false_eq_true, Bool.not_eq_true, decide_true, decide_false, if_true, if_false, Option.map_some, Option.map_none, decide_eq_true_eq, and_true, true_and, Nat.zero_lt_succ, Nat.reduceAdd, Nat.reduceLT, Nat.reduceLeDiff, Nat.reduceEqDiff, Nat.reduceSub, Nat.sub_self, LIM, Option.isNone_none, Option.isNone_some, Option.isSome_none, Option.isSome_some, fturn, ssU, fu, fdU]
        | some o =>
          rw [hf] at fu
          have ho := found_real hw hc.lt hf
          have ff : callU O cn T W (n + f + 4) "file_of" [wU w, clsU (o, x)] H = .ok (fileOf w (o, x)).u H := file_of_u (n := n + f + 2) h ho
          dsimp only
          by_cases hk2 : kindV (fileOf w (o, x)).face = k
          · have ih2 := ih n (o, x) (path ++ [c]) ho (snoc_real hp hc) (snoc_nodup hn hcp) (by rw [List.length_append, List.length_singleton]; omega)
            rw [List.map_append, List.map_singleton] at ih2
            have hlen : path.length + 1 ≤ 1000000 := by omega
            have hk3 : ¬ (kindV (fileOf w (o, x)).face ≠ k) := fun z => z hk2
            rw [if_neg hk3]
            simp (decide := true) only [uall_0, uall_1, uall_2, uall_3, uall_4, uall_5, uall_6, uall_7, uall_8, memN, freshE, noRef, isDicU, isLstU, asgsU, wipeU, lockI, lockE, ofD, Nat.beq, List.map_cons, List.map_nil, List.replicate, List.nil_append, List.cons_append, List.append_nil, List.getElem?_cons_zero, List.getElem?_cons_succ, List.set_cons_zero, List.set_cons_succ, List.length_cons, List.length_nil, List.length_set, Bool.or_false, Bool.false_or, Bool.or_true, Bool.true_or, Bool.not_false, Bool.not_true, Bool.and_true, Bool.true_and, Bool.and_false, Bool.false_and, Bool.false_eq_true, Bool.not_eq_true, decide_true, decide_false, if_true, if_false, Option.map_some, Option.map_none, decide_eq_true_eq, and_true, true_and, Nat.zero_lt_succ, Nat.reduceAdd, Nat.reduceLT, Nat.reduceLeDiff, Nat.reduceEqDiff, Nat.reduceSub, Nat.sub_self, LIM, Option.isNone_none, Option.isNone_some, Option.isSome_none, Option.isSome_some, fturn, ssU, fu, fdU, ff, hk2, List.length_map, hlen, ih2, non_why]
            cases hr : flawF w f (o, x) (path ++ [c]) with
            | none => simp (decide := true) only [uall_0, uall_1, uall_2, uall_3, uall_4, uall_5, uall_6, uall_7, uall_8, memN, freshE, noRef, isDicU, isLstU, asgsU, wipeU, lockI, lockE, ofD, Nat.beq, List.map_cons, List.map_nil, List.replicate, List.nil_append, List.cons_append, List.append_nil, List.getElem?_cons_zero, List.getElem?_cons_succ, List.set_cons_zero, List.set_cons_succ, List.length_cons, List.length_nil, List.length_set, Bool.or_false, Bool.false_or, Bool.or_true, Bool.true_or, Bool.not_false, Bool.not_true, Bool.and_true, Bool.true_and, Bool.and_false, Bool.false_and, Bool.false_eq_true, Bool.not_eq_true, decide_true, decide_false, if_true, if_false, Option.map_some, Option.map_none, decide_eq_true_eq, and_true, true_and, Nat.zero_lt_succ, Nat.reduceAdd, Nat.reduceLT, Nat.reduceLeDiff, Nat.reduceEqDiff, Nat.reduceSub, Nat.sub_self, LIM, Option.isNone_none, Option.isNone_some, Option.isSome_none, Option.isSome_some, hr, whyU, goF]; rfl
            | some p => simp (decide := true) only [uall_0, uall_1, uall_2, uall_3, uall_4, uall_5, uall_6, uall_7, uall_8, memN, freshE, noRef, isDicU, isLstU, asgsU, wipeU, lockI, lockE, ofD, Nat.beq, List.map_cons, List.map_nil, List.replicate, List.nil_append, List.cons_append, List.append_nil, List.getElem?_cons_zero, List.getElem?_cons_succ, List.set_cons_zero, List.set_cons_succ, List.length_cons, List.length_nil, List.length_set, Bool.or_false, Bool.false_or, Bool.or_true, Bool.true_or, Bool.not_false, Bool.not_true, Bool.and_true, Bool.true_and, Bool.and_false, Bool.false_and, Bool.false_eq_true, Bool.not_eq_true, decide_true, decide_false, if_true, if_false, Option.map_some, Option.map_none, decide_eq_true_eq, and_true, true_and, Nat.zero_lt_succ, Nat.reduceAdd, Nat.reduceLT, Nat.reduceLeDiff, Nat.reduceEqDiff, Nat.reduceSub, Nat.sub_self, LIM, Option.isNone_none, Option.isNone_some, Option.isSome_none, Option.isSome_some, hr, whyU, goF, ssU]
          · have hk3 : kindV (fileOf w (o, x)).face ≠ k := hk2
            rw [if_pos hk3]
            simp (decide := true) only [uall_0, uall_1, uall_2, uall_3, uall_4, uall_5, uall_6, uall_7, uall_8, memN, freshE, noRef, isDicU, isLstU, asgsU, wipeU, lockI, lockE, ofD, Nat.beq, List.map_cons, List.map_nil, List.replicate, List.nil_append, List.cons_append, List.append_nil, List.getElem?_cons_zero, List.getElem?_cons_succ, List.set_cons_zero, List.set_cons_succ, List.length_cons, List.length_nil, List.length_set, Bool.or_false, Bool.false_or, Bool.or_true, Bool.true_or, Bool.not_false, Bool.not_true, Bool.and_true, Bool.true_and, Bool.and_false, Bool.false_and, Bool.false_eq_true, Bool.not_eq_true, decide_true, decide_false, if_true, if_false, Option.map_some, Option.map_none, decide_eq_true_eq, and_true, true_and, Nat.zero_lt_succ, Nat.reduceAdd, Nat.reduceLT, Nat.reduceLeDiff, Nat.reduceEqDiff, Nat.reduceSub, Nat.sub_self, LIM, Option.isNone_none, Option.isNone_some, Option.isSome_none, Option.isSome_some, fturn, ssU, fu, fdU, ff, hk2]
theorem flaw0_u (h : UFlaw T O) (hW : 100 ≤ W) (hw : WOk w) (hc : Real w c) : callU O cn T W (n + 21) "flaw" [wU w, clsU c, .lst []] H = .ok (whyU (flawF w 17 c [])) H :=
  flaw_u h hW hw 17 n c [] hc (fun _ hq => by cases hq) List.nodup_nil (by simp)
theorem wU_len : biU .len (wU w) = some (.int (w.length : Nat)) := by unfold wU; rw [bi_len_tup, List.length_map]
theorem is_class_u (h : UAsk T O) (hW : 100 ≤ W) (hw : WOk w) (hc : Real w c) : callU O cn T W (n + 3) "is_class" [wU w, clsU c] H = .ok (.bl true) H := by
  rw [h.is_class.run [] rfl rfl]
  unfold p_is_class
  have t1 : isTU (clsU c) .tuple = some true := rfl
  have t2 : biU .len (clsU c) = some (.int 2) := rfl
  have hlt : ((c.1 : Nat) : Int) < (w.length : Nat) := by have := hc.lt; omega
  have h0 : (0 : Int) ≤ (c.1 : Nat) := by omega
  have fe : eqU (fdU c.2 (some c.1)) (clsU c) = some true := by rw [show clsU c = clsU (c.1, c.2) from rfl, eqU_fd]; simp
  simp (decide := true) only [uall_0, uall_1, uall_2, uall_3, uall_4, uall_5, uall_6, uall_7, uall_8, memN, freshE, noRef, isDicU, isLstU, asgsU, wipeU, lockI, lockE, ofD, Nat.beq, List.map_cons, List.map_nil, List.replicate, List.nil_append, List.cons_append, List.append_nil, List.getElem?_cons_zero, List.getElem?_cons_succ, List.set_cons_zero, List.set_cons_succ, List.length_cons, List.length_nil, List.length_set, Bool.or_false, Bool.false_or, Bool.or_true, Bool.true_or, Bool.not_false, Bool.not_true, Bool.and_true, Bool.true_and, Bool.and_false, Bool.false_and, Bool.false_eq_true, Bool.not_eq_true, decide_true, decide_false, if_true, if_false, Option.map_some, Option.map_none, decide_eq_true_eq, and_true, true_and, Nat.zero_lt_succ, Nat.reduceAdd, Nat.reduceLT, Nat.reduceLeDiff, Nat.reduceEqDiff, Nat.reduceSub, Nat.sub_self, LIM, Option.isNone_none, Option.isNone_some, Option.isSome_none, Option.isSome_some, iteR_b, ifeR_b, chnR_b, t1, t2, wU_len, hlt, h0, found_u h.toUFind hW hw hc.lt, hc.fd, fe]
theorem need_class_u (h : UAsk T O) (hW : 100 ≤ W) (hw : WOk w) (hc : Real w c) : callU O cn T W (n + 7) "need_class" [wU w, clsU c] H = .ok .non H := by
  rw [h.need_class.run [] rfl rfl]
  unfold p_need_class
  simp (decide := true) only [uall_0, uall_1, uall_2, uall_3, uall_4, uall_5, uall_6, uall_7, uall_8, memN, freshE, noRef, isDicU, isLstU, asgsU, wipeU, lockI, lockE, ofD, Nat.beq, List.map_cons, List.map_nil, List.replicate, List.nil_append, List.cons_append, List.append_nil, List.getElem?_cons_zero, List.getElem?_cons_succ, List.set_cons_zero, List.set_cons_succ, List.length_cons, List.length_nil, List.length_set, Bool.or_false, Bool.false_or, Bool.or_true, Bool.true_or, Bool.not_false, Bool.not_true, Bool.and_true, Bool.true_and, Bool.and_false, Bool.false_and, Bool.false_eq_true, Bool.not_eq_true, decide_true, decide_false, if_true, if_false, Option.map_some, Option.map_none, decide_eq_true_eq, and_true, true_and, Nat.zero_lt_succ, Nat.reduceAdd, Nat.reduceLT, Nat.reduceLeDiff, Nat.reduceEqDiff, Nat.reduceSub, Nat.sub_self, LIM, Option.isNone_none, Option.isNone_some, Option.isSome_none, Option.isSome_some, need_world_u h.toUFiles hw, is_class_u h hW hw hc]
theorem why_not_u (h : ULink T O) (hW : 100 ≤ W) (hw : WOk w) (hc : Real w c) : callU O cn T W (n + 22) "why_not" [wU w, clsU c] H = .ok (whyU (flawF w 17 c [])) H := by
  rw [h.why_not.run [] rfl rfl]
  unfold p_why_not
  simp (decide := true) only [uall_0, uall_1, uall_2, uall_3, uall_4, uall_5, uall_6, uall_7, uall_8, memN, freshE, noRef, isDicU, isLstU, asgsU, wipeU, lockI, lockE, ofD, Nat.beq, List.map_cons, List.map_nil, List.replicate, List.nil_append, List.cons_append, List.append_nil, List.getElem?_cons_zero, List.getElem?_cons_succ, List.set_cons_zero, List.set_cons_succ, List.length_cons, List.length_nil, List.length_set, Bool.or_false, Bool.false_or, Bool.or_true, Bool.true_or, Bool.not_false, Bool.not_true, Bool.and_true, Bool.true_and, Bool.and_false, Bool.false_and, Bool.false_eq_true, Bool.not_eq_true, decide_true, decide_false, if_true, if_false, Option.map_some, Option.map_none, decide_eq_true_eq, and_true, true_and, Nat.zero_lt_succ, Nat.reduceAdd, Nat.reduceLT, Nat.reduceLeDiff, Nat.reduceEqDiff, Nat.reduceSub, Nat.sub_self, LIM, Option.isNone_none, Option.isNone_some, Option.isSome_none, Option.isSome_some, need_class_u h.toUAsk hW hw hc, flaw0_u h.toUFlaw hW hw hc]
theorem need_linked_u (h : ULink T O) (hW : 100 ≤ W) (hw : WOk w) (hc : Real w c) (hl : Lk w c) : callU O cn T W (n + 22) "need_linked" [wU w, clsU c] H = .ok .non H := by
  rw [h.need_linked.run [] rfl rfl]
  unfold p_need_linked
  simp (decide := true) only [uall_0, uall_1, uall_2, uall_3, uall_4, uall_5, uall_6, uall_7, uall_8, memN, freshE, noRef, isDicU, isLstU, asgsU, wipeU, lockI, lockE, ofD, Nat.beq, List.map_cons, List.map_nil, List.replicate, List.nil_append, List.cons_append, List.append_nil, List.getElem?_cons_zero, List.getElem?_cons_succ, List.set_cons_zero, List.set_cons_succ, List.length_cons, List.length_nil, List.length_set, Bool.or_false, Bool.false_or, Bool.or_true, Bool.true_or, Bool.not_false, Bool.not_true, Bool.and_true, Bool.true_and, Bool.and_false, Bool.false_and, Bool.false_eq_true, Bool.not_eq_true, decide_true, decide_false, if_true, if_false, Option.map_some, Option.map_none, decide_eq_true_eq, and_true, true_and, Nat.zero_lt_succ, Nat.reduceAdd, Nat.reduceLT, Nat.reduceLeDiff, Nat.reduceEqDiff, Nat.reduceSub, Nat.sub_self, LIM, Option.isNone_none, Option.isNone_some, Option.isSome_none, Option.isSome_some, need_class_u h.toUAsk hW hw hc, flaw0_u h.toUFlaw hW hw hc, show flawF w 17 c [] = none from hl, whyU]
theorem atI_last {cs : List Cls} : L2.atI ((cs ++ [c]).map clsU) (-1) = some (clsU c) := by
  unfold L2.atI L2.ixN
  rw [if_neg (by omega), if_pos (by simp; omega)]
  show ((cs ++ [c]).map clsU)[_]? = _
  have e : ((-1 : Int) + (((cs ++ [c]).map clsU).length : Nat)).toNat = cs.length := by
    rw [List.length_map, List.length_append, List.length_singleton]
    omega
  rw [e, List.getElem?_map, List.getElem?_append_right (Nat.le_refl _)]
  simp
theorem supers_u (h : ULink T O) (hW : 100 ≤ W) (hw : WOk w) (hc : Real w c) (hl : Lk w c) : callU O cn T W (n + 23) "supers" [wU w, clsU c] H = .ok (.lst ((supV w c).map clsU)) H := by
  rw [h.supers.run [2] rfl rfl]
  unfold p_supers
  simp (decide := true) only [uall_0, uall_1, uall_2, uall_3, uall_4, uall_5, uall_6, uall_7, uall_8, memN, freshE, noRef, isDicU, isLstU, asgsU, wipeU, lockI, lockE, ofD, Nat.beq, List.map_cons, List.map_nil, List.replicate, List.nil_append, List.cons_append, List.append_nil, List.getElem?_cons_zero, List.getElem?_cons_succ, List.set_cons_zero, List.set_cons_succ, List.length_cons, List.length_nil, List.length_set, Bool.or_false, Bool.false_or, Bool.or_true, Bool.true_or, Bool.not_false, Bool.not_true, Bool.and_true, Bool.true_and, Bool.and_false, Bool.false_and, Bool.false_eq_true, Bool.not_eq_true, decide_true, decide_false, if_true, if_false, Option.map_some, Option.map_none, decide_eq_true_eq, and_true, true_and, Nat.zero_lt_succ, Nat.reduceAdd, Nat.reduceLT, Nat.reduceLeDiff, Nat.reduceEqDiff, Nat.reduceSub, Nat.sub_self, LIM, Option.isNone_none, Option.isNone_some, Option.isSome_none, Option.isSome_some, need_linked_u h hW hw hc hl]
  refine whlU_use (P := fun r => (seqS r _).fin = _) (fun s : List Cls × Cls × Nat => [some (wU w), some (clsU c), some (.lst ((s.1 ++ [s.2.1]).map clsU))]) (fun _ => H) (fun s => (fileOf w s.2.1).above.isSome) (fun s => match (fileOf w s.2.1).above with
      | some a => match foundV w s.2.1.1 a with
        | some o => (s.1 ++ [s.2.1], (o, a), s.2.2 - 1)
        | none => s
      | none => s) (fun s => s.2.2) (fun s => Real w s.2.1 ∧ (∀ q ∈ s.1, Real w q) ∧ s.1.Nodup ∧ 17 ≤ s.1.length + s.2.2 ∧ flawF w s.2.2 s.2.1 s.1 = none ∧ s.1 ++ supF w s.2.2 s.2.1 = supV w c) ([], c, 17) rfl rfl ⟨hc, fun _ hq => (by cases hq), List.nodup_nil, by simp, hl, rfl⟩ (by show 17 < W; omega) (fun s hi => ?_) (fun s hi hp => ?_) fun s hi hp => ?_
  · obtain ⟨made, x, f⟩ := s
    obtain ⟨h1, h2, h3, h4, h5, h6⟩ := hi
    simp (decide := true) only [uall_0, uall_1, uall_2, uall_3, uall_4, uall_5, uall_6, uall_7, uall_8, memN, freshE, noRef, isDicU, isLstU, asgsU, wipeU, lockI, lockE, ofD, Nat.beq, List.map_cons, List.map_nil, List.replicate, List.nil_append, List.cons_append, List.append_nil, List.getElem?_cons_zero, List.getElem?_cons_succ, List.set_cons_zero, List.set_cons_succ, List.length_cons, List.length_nil, List.length_set, Bool.or_false, Bool.false_or, Bool.or_true, Bool.true_or, Bool.not_false, Bool.not_true, Bool.and_true, Bool.true_and, Bool.and_false, Bool.false_and, Bool.false_eq_true, Bool.not_eq_true, decide_true, decide_false, if_true, if_false, Option.map_some, Option.map_none, decide_eq_true_eq, and_true, true_and, Nat.zero_lt_succ, Nat.reduceAdd, Nat.reduceLT, Nat.reduceLeDiff, Nat.reduceEqDiff, Nat.reduceSub, Nat.sub_self, LIM, Option.isNone_none, Option.isNone_some, Option.isSome_none, Option.isSome_some, atI_last, file_of_u h.toUFlaw h1]
    cases (fileOf w x).above <;> rfl
  · obtain ⟨made, x, f⟩ := s
    obtain ⟨h1, h2, h3, h4, h5, h6⟩ := hi
    dsimp only at h1 h2 h3 h4 h5 h6 hp ⊢
    have fw := few hw made h3 h2
    obtain ⟨f, rfl⟩ : ∃ g, f = g + 1 := ⟨f - 1, by omega⟩
    cases ha : (fileOf w x).above with
    | none => rw [ha] at hp; cases hp
    | some a =>
      obtain ⟨hcp, o, k1, k2, k3⟩ := lk_above h5 ha
      have ho := found_real hw h1.lt k1
      simp only [k1]
      have hlen : made.length + 1 < 1000000 := by omega
      refine ⟨?_, ⟨ho, snoc_real h2 h1, snoc_nodup h3 hcp, by rw [List.length_append, List.length_singleton]; omega, k3, ?_⟩, by omega⟩
      · simp (decide := true) only [uall_0, uall_1, uall_2, uall_3, uall_4, uall_5, uall_6, uall_7, uall_8, memN, freshE, noRef, isDicU, isLstU, asgsU, wipeU, lockI, lockE, ofD, Nat.beq, List.map_cons, List.map_nil, List.replicate, List.nil_append, List.cons_append, List.append_nil, List.getElem?_cons_zero, List.getElem?_cons_succ, List.set_cons_zero, List.set_cons_succ, List.length_cons, List.length_nil, List.length_set, Bool.or_false, Bool.false_or, Bool.or_true, Bool.true_or, Bool.not_false, Bool.not_true, Bool.and_true, Bool.true_and, Bool.and_false, Bool.false_and, Bool.false_eq_true, Bool.not_eq_true, decide_true, decide_false, if_true, if_false, Option.map_some, Option.map_none, decide_eq_true_eq, and_true, true_and, Nat.zero_lt_succ, Nat.reduceAdd, Nat.reduceLT, Nat.reduceLeDiff, Nat.reduceEqDiff, Nat.reduceSub, Nat.sub_self, LIM, Option.isNone_none, Option.isNone_some, Option.isSome_none, Option.isSome_some, atI_last, file_of_u h.toUFlaw h1, ha, optSU, found_u h.toUFind hW hw h1.lt, k1, fdU, List.length_map, List.length_append, hlen]
        rw [List.map_append (l₁ := made ++ [x])]
        rfl
      · rw [← h6]
        conv => rhs; unfold supF
        rw [ha]
        dsimp only
        rw [k1, List.append_assoc]; rfl
  · obtain ⟨made, x, f⟩ := s
    obtain ⟨h1, h2, h3, h4, h5, h6⟩ := hi
    dsimp only at h1 h2 h3 h4 h5 h6 hp ⊢
    have fw := few hw made h3 h2
    obtain ⟨f, rfl⟩ : ∃ g, f = g + 1 := ⟨f - 1, by omega⟩
    have ha : (fileOf w x).above = none := by
      cases ha : (fileOf w x).above with
      | none => rfl
      | some a => rw [ha] at hp; cases hp
    unfold supF at h6
    rw [ha] at h6
    simp (decide := true) only [uall_0, uall_1, uall_2, uall_3, uall_4, uall_5, uall_6, uall_7, uall_8, memN, freshE, noRef, isDicU, isLstU, asgsU, wipeU, lockI, lockE, ofD, Nat.beq, List.map_cons, List.map_nil, List.replicate, List.nil_append, List.cons_append, List.append_nil, List.getElem?_cons_zero, List.getElem?_cons_succ, List.set_cons_zero, List.set_cons_succ, List.length_cons, List.length_nil, List.length_set, Bool.or_false, Bool.false_or, Bool.or_true, Bool.true_or, Bool.not_false, Bool.not_true, Bool.and_true, Bool.true_and, Bool.and_false, Bool.false_and, Bool.false_eq_true, Bool.not_eq_true, decide_true, decide_false, if_true, if_false, Option.map_some, Option.map_none, decide_eq_true_eq, and_true, true_and, Nat.zero_lt_succ, Nat.reduceAdd, Nat.reduceLT, Nat.reduceLeDiff, Nat.reduceEqDiff, Nat.reduceSub, Nat.sub_self, LIM, Option.isNone_none, Option.isNone_some, Option.isSome_none, Option.isSome_some]
    rw [← h6]
def optCU : Option Cls → U
  | none => .non
  | some c => clsU c
theorem non_optC {c : Option Cls} : isNonU (optCU c) = c.isNone := by cases c <;> rfl
theorem common_u (h : UCom T O) (hW : 100 ≤ W) (hw : WOk w) (hc : Real w c) (hl : Lk w c) (hd : Real w d) (hl' : Lk w d) : callU O cn T W (n + 24) "common" [wU w, clsU c, clsU d] H = .ok (optCU (comV w c d)) H := by
  rw [h.common.run [] rfl rfl]
  unfold p_common
  obtain ⟨r1, r2, r3⟩ := sup_real hw hc hl
  have cm : ∀ ρ : EnvU, ρ = [some (wU w), some (clsU c), some (clsU d), some (.lst ((supV w c).map clsU)), some (.lst ((supV w d).map clsU)), none, none] → compU (cturn (callU O cn T W (n + 23)) cn [] (Ex.lc 6) (Tg.nm 6) (Exo.some (Ex.cmp Cop.isin (Ex.lc 6) (Ex.lc 4))) [6] ρ) ((supV w c).map clsU) [] H = some (((supV w c).filter fun x => decide (x ∈ supV w d)).map clsU, H) := by
    rintro ρ rfl
    rw [compU_filt clsU (fun x => decide (x ∈ supV w d)) clsU (supV w c) (by unfold LIM; omega)]
    intro x hx
    simp (decide := true) only [uall_0, uall_1, uall_2, uall_3, uall_4, uall_5, uall_6, uall_7, uall_8, memN, freshE, noRef, isDicU, isLstU, asgsU, wipeU, lockI, lockE, ofD, Nat.beq, List.map_cons, List.map_nil, List.replicate, List.nil_append, List.cons_append, List.append_nil, List.getElem?_cons_zero, List.getElem?_cons_succ, List.set_cons_zero, List.set_cons_succ, List.length_cons, List.length_nil, List.length_set, Bool.or_false, Bool.false_or, Bool.or_true, Bool.true_or, Bool.not_false, Bool.not_true, Bool.and_true, Bool.true_and, Bool.and_false, Bool.false_and, Bool.false_eq_true, Bool.not_eq_true, decide_true, decide_false, if_true, if_false, Option.map_some, Option.map_none, decide_eq_true_eq, and_true, true_and, Nat.zero_lt_succ, Nat.reduceAdd, Nat.reduceLT, Nat.reduceLeDiff, Nat.reduceEqDiff, Nat.reduceSub, Nat.sub_self, LIM, Option.isNone_none, Option.isNone_some, Option.isSome_none, Option.isSome_some, cturn, in_cls]
    by_cases hxd : x ∈ supV w d
    · simp (decide := true) only [uall_0, uall_1, uall_2, uall_3, uall_4, uall_5, uall_6, uall_7, uall_8, memN, freshE, noRef, isDicU, isLstU, asgsU, wipeU, lockI, lockE, ofD, Nat.beq, List.map_cons, List.map_nil, List.replicate, List.nil_append, List.cons_append, List.append_nil, List.getElem?_cons_zero, List.getElem?_cons_succ, List.set_cons_zero, List.set_cons_succ, List.length_cons, List.length_nil, List.length_set, Bool.or_false, Bool.false_or, Bool.or_true, Bool.true_or, Bool.not_false, Bool.not_true, Bool.and_true, Bool.true_and, Bool.and_false, Bool.false_and, Bool.false_eq_true, Bool.not_eq_true, decide_true, decide_false, if_true, if_false, Option.map_some, Option.map_none, decide_eq_true_eq, and_true, true_and, Nat.zero_lt_succ, Nat.reduceAdd, Nat.reduceLT, Nat.reduceLeDiff, Nat.reduceEqDiff, Nat.reduceSub, Nat.sub_self, LIM, Option.isNone_none, Option.isNone_some, Option.isSome_none, Option.isSome_some, hxd]
    · simp (decide := true) only [uall_0, uall_1, uall_2, uall_3, uall_4, uall_5, uall_6, uall_7, uall_8, memN, freshE, noRef, isDicU, isLstU, asgsU, wipeU, lockI, lockE, ofD, Nat.beq, List.map_cons, List.map_nil, List.replicate, List.nil_append, List.cons_append, List.append_nil, List.getElem?_cons_zero, List.getElem?_cons_succ, List.set_cons_zero, List.set_cons_succ, List.length_cons, List.length_nil, List.length_set, Bool.or_false, Bool.false_or, Bool.or_true, Bool.true_or, Bool.not_false, Bool.not_true, Bool.and_true, Bool.true_and, Bool.and_false, Bool.false_and, Bool.false_eq_true, Bool.not_eq_true, decide_true, decide_false, if_true, if_false, Option.map_some, Option.map_none, decide_eq_true_eq, and_true, true_and, Nat.zero_lt_succ, Nat.reduceAdd, Nat.reduceLT, Nat.reduceLeDiff, Nat.reduceEqDiff, Nat.reduceSub, Nat.sub_self, LIM, Option.isNone_none, Option.isNone_some, Option.isSome_none, Option.isSome_some, hxd]
  simp (decide := true) only [uall_0, uall_1, uall_2, uall_3, uall_4, uall_5, uall_6, uall_7, uall_8, memN, freshE, noRef, isDicU, isLstU, asgsU, wipeU, lockI, lockE, ofD, Nat.beq, List.map_cons, List.map_nil, List.replicate, List.nil_append, List.cons_append, List.append_nil, List.getElem?_cons_zero, List.getElem?_cons_succ, List.set_cons_zero, List.set_cons_succ, List.length_cons, List.length_nil, List.length_set, Bool.or_false, Bool.false_or, Bool.or_true, Bool.true_or, Bool.not_false, Bool.not_true, Bool.and_true, Bool.true_and, Bool.and_false, Bool.false_and, Bool.false_eq_true, Bool.not_eq_true, decide_true, decide_false, if_true, if_false, Option.map_some, Option.map_none, decide_eq_true_eq, and_true, true_and, Nat.zero_lt_succ, Nat.reduceAdd, Nat.reduceLT, Nat.reduceLeDiff, Nat.reduceEqDiff, Nat.reduceSub, Nat.sub_self, LIM, Option.isNone_none, Option.isNone_some, Option.isSome_none, Option.isSome_some, need_linked_u h.toULink hW hw hc hl, need_linked_u h.toULink hW hw hd hl', supers_u h.toULink hW hw hc hl, supers_u h.toULink hW hw hd hl', cm]
  have hfi : comV w c d = ((supV w c).filter fun x => decide (x ∈ supV w d)).head? := by unfold comV; rw [List.head?_filter]
  have hle : ((supV w c).filter fun x => decide (x ∈ supV w d)).length ≤ 16 := Nat.le_trans (List.length_filter_le _ _) r3
  rw [hfi]
  have hle2 : ((supV w c).filter fun x => decide (x ∈ supV w d)).length + 1 ≤ 1000000 := by omega
  simp (decide := true) only [uall_0, uall_1, uall_2, uall_3, uall_4, uall_5, uall_6, uall_7, uall_8, memN, freshE, noRef, isDicU, isLstU, asgsU, wipeU, lockI, lockE, ofD, Nat.beq, List.map_cons, List.map_nil, List.replicate, List.nil_append, List.cons_append, List.append_nil, List.getElem?_cons_zero, List.getElem?_cons_succ, List.set_cons_zero, List.set_cons_succ, List.length_cons, List.length_nil, List.length_set, Bool.or_false, Bool.false_or, Bool.or_true, Bool.true_or, Bool.not_false, Bool.not_true, Bool.and_true, Bool.true_and, Bool.and_false, Bool.false_and, Bool.false_eq_true, Bool.not_eq_true, decide_true, decide_false, if_true, if_false, Option.map_some, Option.map_none, decide_eq_true_eq, and_true, true_and, Nat.zero_lt_succ, Nat.reduceAdd, Nat.reduceLT, Nat.reduceLeDiff, Nat.reduceEqDiff, Nat.reduceSub, Nat.sub_self, LIM, Option.isNone_none, Option.isNone_some, Option.isSome_none, Option.isSome_some, List.length_map, hle2]
  revert hle2
  generalize (supV w c).filter (fun x => decide (x ∈ supV w d)) = l
  intro hle2
  cases l with
  | nil => simp (decide := true) only [uall_0, uall_1, uall_2, uall_3, uall_4, uall_5, uall_6, uall_7, uall_8, memN, freshE, noRef, isDicU, isLstU, asgsU, wipeU, lockI, lockE, ofD, Nat.beq, List.map_cons, List.map_nil, List.replicate, List.nil_append, List.cons_append, List.append_nil, List.getElem?_cons_zero, List.getElem?_cons_succ, List.set_cons_zero, List.set_cons_succ, List.length_cons, List.length_nil, List.length_set, Bool.or_false, Bool.false_or, Bool.or_true, Bool.true_or, Bool.not_false, Bool.not_true, Bool.and_true, Bool.true_and, Bool.and_false, Bool.false_and, Bool.false_eq_true, Bool.not_eq_true, decide_true, decide_false, if_true, if_false, Option.map_some, Option.map_none, decide_eq_true_eq, and_true, true_and, Nat.zero_lt_succ, Nat.reduceAdd, Nat.reduceLT, Nat.reduceLeDiff, Nat.reduceEqDiff, Nat.reduceSub, Nat.sub_self, LIM, Option.isNone_none, Option.isNone_some, Option.isSome_none, Option.isSome_some, optCU, List.head?_nil]
  | cons y ys =>
    have : ys.length ≤ 999998 := by rw [List.length_cons] at hle2; omega
    simp (decide := true) only [uall_0, uall_1, uall_2, uall_3, uall_4, uall_5, uall_6, uall_7, uall_8, memN, freshE, noRef, isDicU, isLstU, asgsU, wipeU, lockI, lockE, ofD, Nat.beq, List.map_cons, List.map_nil, List.replicate, List.nil_append, List.cons_append, List.append_nil, List.getElem?_cons_zero, List.getElem?_cons_succ, List.set_cons_zero, List.set_cons_succ, List.length_cons, List.length_nil, List.length_set, Bool.or_false, Bool.false_or, Bool.or_true, Bool.true_or, Bool.not_false, Bool.not_true, Bool.and_true, Bool.true_and, Bool.and_false, Bool.false_and, Bool.false_eq_true, Bool.not_eq_true, decide_true, decide_false, if_true, if_false, Option.map_some, Option.map_none, decide_eq_true_eq, and_true, true_and, Nat.zero_lt_succ, Nat.reduceAdd, Nat.reduceLT, Nat.reduceLeDiff, Nat.reduceEqDiff, Nat.reduceSub, Nat.sub_self, LIM, Option.isNone_none, Option.isNone_some, Option.isSome_none, Option.isSome_some, optCU, List.head?_cons, this]
end
end IP.Q

/-! UbF: all classes, by the program. -/
namespace IP.Q
open PySem
section
variable {Ob : Type} {T : TabU} {O : Nat → Str → List U → List Ob → Option (RC Ob)} {cn : Str} {W n : Nat} {H : List Ob} {w : Wld} {c d : Cls}
theorem zip_at_w {w : Wld} {l : Ldr} {i : Nat} (hm : (l, i) ∈ w.zipIdx) : w[i]? = some l := by
  obtain ⟨k1, k2⟩ := List.mem_zipIdx' hm
  rw [List.getElem?_eq_getElem k1]; exact congrArg some k2.symm
theorem gather_zip (g : Nat → Ldr → List Cls) (w : Wld) : gatherV g w w.length = w.zipIdx.flatMap fun p => g p.2 p.1 := by
  unfold gatherV
  rw [List.zipIdx_eq_zip_range', List.range_eq_range']
  have key : ∀ (u : Wld) (k : Nat), (∀ i, i < u.length → w[k + i]? = u[i]?) → (List.range' k u.length).flatMap (fun i => match w[i]? with
      | some l => g i l
      | none => []) = (u.zip (List.range' k u.length)).flatMap fun p => g p.2 p.1 := by
    intro u
    induction u with
    | nil => intro k _; rfl
    | cons x u ih =>
      intro k hk
      rw [List.length_cons, List.range'_succ, List.flatMap_cons, List.zip_cons_cons, List.flatMap_cons, ih (k + 1) fun i hi => by
        have := hk (i + 1) (by rw [List.length_cons]; omega)
        rw [show k + 1 + i = k + (i + 1) by omega, this]; simp]
      have := hk 0 (by simp)
      rw [Nat.add_zero] at this
      rw [this]; rfl
  exact key w 0 fun i _ => by rw [Nat.zero_add]
theorem flat_fold {α β : Type} (g : α → List β) : ∀ (xs : List α) (acc : List β), xs.foldl (fun s p => s ++ g p) acc = acc ++ xs.flatMap g
  | [], acc => by simp
  | x :: xs, acc => by rw [List.foldl_cons, flat_fold g xs, List.flatMap_cons, List.append_assoc]
theorem classes_u (h : UCls T O) (hW : 100 ≤ W) (hw : WOk w) : callU O cn T W (n + 7) "classes" [wU w] H = .ok (.lst ((srtC (classesV w)).map clsU)) H := by
  rw [h.classes.run [1] rfl rfl]
  unfold p_classes
  simp (decide := true) only [uall_0, uall_1, uall_2, uall_3, uall_4, uall_5, uall_6, uall_7, uall_8, memN, freshE, noRef, isDicU, isLstU, asgsU, wipeU, lockI, lockE, ofD, Nat.beq, List.map_cons, List.map_nil, List.replicate, List.nil_append, List.cons_append, List.append_nil, List.getElem?_cons_zero, List.getElem?_cons_succ, List.set_cons_zero, List.set_cons_succ, List.length_cons, List.length_nil, List.length_set, Bool.or_false, Bool.false_or, Bool.or_true, Bool.true_or, Bool.not_false, Bool.not_true, Bool.and_true, Bool.true_and, Bool.and_false, Bool.false_and, Bool.false_eq_true, Bool.not_eq_true, decide_true, decide_false, if_true, if_false, Option.map_some, Option.map_none, decide_eq_true_eq, and_true, true_and, Nat.zero_lt_succ, Nat.reduceAdd, Nat.reduceLT, Nat.reduceLeDiff, Nat.reduceEqDiff, Nat.reduceSub, Nat.sub_self, LIM, Option.isNone_none, Option.isNone_some, Option.isSome_none, Option.isSome_some, need_world_u h.toUFiles hw, show seqU (wU w) = some (w.map Ldr.u) from rfl, zipUI_map]
  rw [forU_fold (H := H) (fun p : Ldr × Nat => U.tup [.int (p.2 : Int), p.1.u]) (fun s : List Cls => [some (wU w), some (.lst (s.map clsU)), none, none, none]) (fun s p => s ++ clsV w p.2 p.1) (fun s r => s.length + 4 * r.length ≤ 16 ∧ ∀ p ∈ r, p ∈ w.zipIdx) w.zipIdx []]
  · rw [flat_fold (fun p : Ldr × Nat => clsV w p.2 p.1), List.nil_append, ← gather_zip (clsV w) w]
    have hl : (gatherV (clsV w) w w.length).length ≤ 1000 := by
      have := gather_len (cls_len hw) w.length
      have := hw.len
      omega
    simp (decide := true) only [uall_0, uall_1, uall_2, uall_3, uall_4, uall_5, uall_6, uall_7, uall_8, memN, freshE, noRef, isDicU, isLstU, asgsU, wipeU, lockI, lockE, ofD, Nat.beq, List.map_cons, List.map_nil, List.replicate, List.nil_append, List.cons_append, List.append_nil, List.getElem?_cons_zero, List.getElem?_cons_succ, List.set_cons_zero, List.set_cons_succ, List.length_cons, List.length_nil, List.length_set, Bool.or_false, Bool.false_or, Bool.or_true, Bool.true_or, Bool.not_false, Bool.not_true, Bool.and_true, Bool.true_and, Bool.and_false, Bool.false_and, Bool.false_eq_true, Bool.not_eq_true, decide_true, decide_false, if_true, if_false, Option.map_some, Option.map_none, decide_eq_true_eq, and_true, true_and, Nat.zero_lt_succ, Nat.reduceAdd, Nat.reduceLT, Nat.reduceLeDiff, Nat.reduceEqDiff, Nat.reduceSub, Nat.sub_self, LIM, Option.isNone_none, Option.isNone_some, Option.isSome_none, Option.isSome_some, sort_cls hl]
    rfl
  · rfl
  · rw [List.length_zipIdx]
    have := hw.len
    exact ⟨by rw [List.length_nil]; omega, fun p hp => hp⟩
  · rintro s ⟨l, i⟩ r ⟨hs, hr⟩
    have hi := zip_at_w (hr _ List.mem_cons_self)
    have hlt : i < w.length := (List.getElem?_eq_some_iff.mp hi).1
    rw [List.length_cons] at hs
    have cl := cls_len hw i l hi
    have sl := (hw.shelf l (List.mem_of_getElem? hi)).len
    refine ⟨?_, by show (s ++ clsV w i l).length + 4 * r.length ≤ 16; rw [List.length_append]; omega, fun p hp => hr p (List.mem_cons_of_mem _ hp)⟩
    have cm : ∀ ρ : EnvU, ρ = [some (wU w), some (.lst (s.map clsU)), some (.int (i : Int)), some l.u, none] → compU (cturn (callU O cn T W (n + 6)) cn [1] (Ex.tup (Exs.cons (Ex.lc 2) (Exs.cons ((Ex.lc 4).ix (Ex.k (D.int 1))) Exs.nil))) (Tg.nm 4) (Exo.some (Ex.cmp Cop.eq (Ex.call "found_by" (Exs.cons (Ex.lc 0) (Exs.cons (Ex.lc 2) (Exs.cons ((Ex.lc 4).ix (Ex.k (D.int 1))) Exs.nil)))) (Ex.tup (Exs.cons (Ex.lc 2) (Exs.cons ((Ex.lc 4).ix (Ex.k (D.int 1))) Exs.nil))))) [4] ρ) (l.shelf.map File.u) [] H = some ((clsV w i l).map clsU, H) := by
      rintro ρ rfl
      unfold clsV
      rw [List.map_map, compU_filt File.u (fun f => decide (foundV w i f.name = some i)) (fun f => clsU (i, f.name)) l.shelf (by unfold LIM; omega)]
      · rfl
      · intro f hf
        simp (decide := true) only [uall_0, uall_1, uall_2, uall_3, uall_4, uall_5, uall_6, uall_7, uall_8, memN, freshE, noRef, isDicU, isLstU, asgsU, wipeU, lockI, lockE, ofD, Nat.beq, List.map_cons, List.map_nil, List.replicate, List.nil_append, List.cons_append, List.append_nil, List.getElem?_cons_zero, List.getElem?_cons_succ, List.set_cons_zero, List.set_cons_succ, List.length_cons, List.length_nil, List.length_set, Bool.or_false, Bool.false_or, Bool.or_true, Bool.true_or, Bool.not_false, Bool.not_true, Bool.and_true, Bool.true_and, Bool.and_false, Bool.false_and, Bool.false_eq_true, Bool.not_eq_true, decide_true, decide_false, if_true, if_false, Option.map_some, Option.map_none, decide_eq_true_eq, and_true, true_and, Nat.zero_lt_succ, Nat.reduceAdd, Nat.reduceLT, Nat.reduceLeDiff, Nat.reduceEqDiff, Nat.reduceSub, Nat.sub_self, LIM, Option.isNone_none, Option.isNone_some, Option.isSome_none, Option.isSome_some, cturn, found_u h.toUFind hW hw hlt, cls_mk, eqU_fd]
        by_cases hfd : foundV w i f.name = some i
        · simp (decide := true) only [uall_0, uall_1, uall_2, uall_3, uall_4, uall_5, uall_6, uall_7, uall_8, memN, freshE, noRef, isDicU, isLstU, asgsU, wipeU, lockI, lockE, ofD, Nat.beq, List.map_cons, List.map_nil, List.replicate, List.nil_append, List.cons_append, List.append_nil, List.getElem?_cons_zero, List.getElem?_cons_succ, List.set_cons_zero, List.set_cons_succ, List.length_cons, List.length_nil, List.length_set, Bool.or_false, Bool.false_or, Bool.or_true, Bool.true_or, Bool.not_false, Bool.not_true, Bool.and_true, Bool.true_and, Bool.and_false, Bool.false_and, Bool.false_eq_true, Bool.not_eq_true, decide_true, decide_false, if_true, if_false, Option.map_some, Option.map_none, decide_eq_true_eq, and_true, true_and, Nat.zero_lt_succ, Nat.reduceAdd, Nat.reduceLT, Nat.reduceLeDiff, Nat.reduceEqDiff, Nat.reduceSub, Nat.sub_self, LIM, Option.isNone_none, Option.isNone_some, Option.isSome_none, Option.isSome_some, hfd, cls_mk]
        · simp (decide := true) only [uall_0, uall_1, uall_2, uall_3, uall_4, uall_5, uall_6, uall_7, uall_8, memN, freshE, noRef, isDicU, isLstU, asgsU, wipeU, lockI, lockE, ofD, Nat.beq, List.map_cons, List.map_nil, List.replicate, List.nil_append, List.cons_append, List.append_nil, List.getElem?_cons_zero, List.getElem?_cons_succ, List.set_cons_zero, List.set_cons_succ, List.length_cons, List.length_nil, List.length_set, Bool.or_false, Bool.false_or, Bool.or_true, Bool.true_or, Bool.not_false, Bool.not_true, Bool.and_true, Bool.true_and, Bool.and_false, Bool.false_and, Bool.false_eq_true, Bool.not_eq_true, decide_true, decide_false, if_true, if_false, Option.map_some, Option.map_none, decide_eq_true_eq, and_true, true_and, Nat.zero_lt_succ, Nat.reduceAdd, Nat.reduceLT, Nat.reduceLeDiff, Nat.reduceEqDiff, Nat.reduceSub, Nat.sub_self, LIM, Option.isNone_none, Option.isNone_some, Option.isSome_none, Option.isSome_some, hfd]
    have hlen : s.length + (clsV w i l).length ≤ 1000000 := by omega
    simp (decide := true) only [uall_0, uall_1, uall_2, uall_3, uall_4, uall_5, uall_6, uall_7, uall_8, memN, freshE, noRef, isDicU, isLstU, asgsU, wipeU, lockI, lockE, ofD, Nat.beq, List.map_cons, List.map_nil, List.replicate, List.nil_append, List.cons_append, List.append_nil, List.getElem?_cons_zero, List.getElem?_cons_succ, List.set_cons_zero, List.set_cons_succ, List.length_cons, List.length_nil, List.length_set, Bool.or_false, Bool.false_or, Bool.or_true, Bool.true_or, Bool.not_false, Bool.not_true, Bool.and_true, Bool.true_and, Bool.and_false, Bool.false_and, Bool.false_eq_true, Bool.not_eq_true, decide_true, decide_false, if_true, if_false, Option.map_some, Option.map_none, decide_eq_true_eq, and_true, true_and, Nat.zero_lt_succ, Nat.reduceAdd, Nat.reduceLT, Nat.reduceLeDiff, Nat.reduceEqDiff, Nat.reduceSub, Nat.sub_self, LIM, Option.isNone_none, Option.isNone_some, Option.isSome_none, Option.isSome_some, fturn, cm, List.length_map, hlen]
    rw [List.map_append]
    rfl
theorem cut_map {α β : Type} (f : α → β) (xs : List α) (lo hi : Option Int) : cutL (xs.map f) lo hi = (cutL xs lo hi).map f := by
  unfold cutL
  rw [List.length_map, List.map_take, List.map_drop]
theorem cut_sub {α : Type} {xs : List α} {lo hi : Option Int} {a : α} (h : a ∈ cutL xs lo hi) : a ∈ xs := List.mem_of_mem_drop (List.mem_of_mem_take h)
theorem cut_len {α : Type} {xs : List α} {lo hi : Option Int} : (cutL xs lo hi).length ≤ xs.length := by
  unfold cutL
  rw [List.length_take, List.length_drop]; omega
theorem index_cls {pre r : List Cls} {x : Cls} (hx : x ∉ pre) : indexU (.lst ((pre ++ x :: r).map clsU)) [clsU x] = some (.int (pre.length : Nat)) := by
  unfold indexU
  dsimp only
  rw [idxU_plain cls_plain cls_plains]
  have : ((pre ++ x :: r).map clsU).findIdx? (fun d => decide (d = clsU x)) = some pre.length := by
    rw [List.findIdx?_map]
    induction pre with
    | nil => simp [List.findIdx?_cons]
    | cons y ys ih =>
      have h1 : ¬ clsU y = clsU x := fun z => hx (by rw [cls_inj.mp z]; exact List.mem_cons_self)
      rw [List.cons_append, List.findIdx?_cons]
      simp only [Function.comp_apply, h1, decide_false, Bool.false_eq_true, if_false]
      rw [ih fun z => hx (List.mem_cons_of_mem _ z)]; rfl
  rw [this]; rfl
theorem cut_drop_map {xs : List Cls} {j : Nat} : cutL (xs.map clsU) (some (j : Int)) none = (xs.drop j).map clsU := by rw [cutL_drop, List.map_drop]
theorem cut_take_map {xs : List Cls} {j : Nat} : cutL (xs.map clsU) none (some (j : Int)) = (xs.take j).map clsU := by rw [cutL_take, List.map_take]
theorem optC_plain {o : Option Cls} : plainU 60 (optCU o) = true := by
  cases o with
  | none => simp [optCU, plainU]
  | some c => exact cls_plain
theorem eqU_optC {a b : Option Cls} : eqU (optCU a) (optCU b) = some (decide (a = b)) := by
  rw [eqU_plain optC_plain optC_plain]
  congr 1
  refine decide_eq_decide.mpr ?_
  cases a with
  | none => cases b with
    | none => simp
    | some b => simp [optCU, clsU]
  | some a => cases b with
    | none => simp [optCU, clsU]
    | some b => simp only [optCU, cls_inj, Option.some.injEq]
/-- classes that can be linked, in order -/
noncomputable def okC (w : Wld) : List Cls := (srtC (classesV w)).filter fun c => (flawF w 17 c []).isNone
theorem okC_ok (hw : WOk w) : ∀ c ∈ okC w, Real w c ∧ Lk w c := fun c hc => by
  obtain ⟨h1, h2⟩ := List.mem_filter.mp hc
  exact ⟨classes_real hw c (mem_srtC.mp h1), by unfold Lk; revert h2; cases flawF w 17 c [] <;> simp⟩
theorem classes_len (hw : WOk w) : (classesV w).length ≤ 16 := by
  have := gather_len (cls_len hw) w.length
  have := hw.len
  unfold classesV
  omega
theorem okC_len (hw : WOk w) : (okC w).length ≤ 16 := by
  refine Nat.le_trans (List.length_filter_le _ _) ?_
  rw [srtC_len]; exact classes_len hw
end
end IP.Q

/-! UbB: what is drawn: answers given ahead, as shown in the store. -/
namespace IP.Q
open PySem
section
variable {X : Nat → Prop} {φ : List Nat} {st : Sto}
theorem rep_strs : ∀ {xs : List Str}, (∀ x ∈ xs, PyData.strOk x = true) → Reps X φ st (xs.map .str) (xs.map .str)
  | [], _ => .nil
  | x :: xs, h => .cons (.str (h x List.mem_cons_self)) (rep_strs fun y hy => h y (List.mem_cons_of_mem _ hy))
theorem reps_map {α : Type} {f : α → U} {g : α → D} {xs : List α} (h : ∀ x ∈ xs, Rep X φ st (f x) (g x)) : Reps X φ st (xs.map f) (xs.map g) := reps_of h
theorem lit_ok (x : Str) (h : PyData.strOk x = true) : Rep X φ st (.str x) (.str x) := .str h
theorem rep_row {r : Row} (h : r.ok) : Rep X φ st r.u r.d := by
  cases r with
  | put f i => exact .tup (.cons (.str (by decide +kernel)) (.cons (.str (word_ok h.1)) (.one (.int i))))
  | read f w g => exact .tup (.cons (.str (by decide +kernel)) (.cons (.str (word_ok h.1)) (.cons (.str (word_ok h.2.1)) (.one (.str (word_ok h.2.2))))))
  | need w => exact .tup (.cons (.str (by decide +kernel)) (.one (.str (word_ok h))))
  | note x => exact .tup (.cons (.str (by decide +kernel)) (.one (.str (word_ok h))))
  | fail x => exact .tup (.cons (.str (by decide +kernel)) (.one (.str (word_ok h))))
theorem rep_file {f : File} (h : f.ok) : Rep X φ st f.u f.d := by
  refine .tup (.cons (.str (kind_ok _)) (.cons (.str (word_ok h.name)) (.cons ?_ (.cons (.tup (rep_strs fun x hx => word_ok (h.faces x hx))) (.one (.tup (reps_map fun r hr => rep_row (h.rows r hr))))))))
  cases ha : f.above with
  | none => exact .non
  | some a => exact .str (word_ok (h.above a ha).2)
theorem rep_w {w : Wld} (h : WOk w) : Rep X φ st (wU w) (wd w) := by
  refine .tup (reps_map fun l hl => .tup (.cons ?_ (.one (.tup (reps_map fun f hf => rep_file ((h.shelf l hl).files f hf))))))
  cases l.par with
  | none => exact .non
  | some a => exact .int a
theorem strs_of {us : List U} {ds : List D} {xs : List Str} (r : Reps X φ st us ds) (h : strsU us = some xs) : ds = xs.map .str ∧ us = xs.map .str ∧ ∀ x ∈ xs, PyData.strOk x = true := by
  induction us generalizing ds xs with
  | nil => cases r; simp only [strsU] at h; cases h; exact ⟨rfl, rfl, fun _ hx => by cases hx⟩
  | cons u us ih =>
    cases r with
    | cons r s =>
      cases u <;> simp [strsU] at h
      obtain ⟨ys, h1, rfl⟩ := h
      obtain ⟨e1, e2, e3⟩ := ih s h1
      obtain ⟨rfl, e4⟩ := RepB.str (.val r)
      refine ⟨by rw [e1]; rfl, by rw [e2]; rfl, fun x hx => ?_⟩
      rcases List.mem_cons.mp hx with rfl | hx
      · exact e4
      · exact e3 x hx
end
open Classical in
/-- the answers that are given ahead -/
noncomputable def oDraw (Ob : Type) (n : Nat) (f : Str) (us : List U) (H : List Ob) : Option (RC Ob) :=
  if f = "_law_mixed" then (match us with
    | [.ro ns, .int k, .int m] => if 0 ≤ k ∧ 0 < m ∧ 1 ≤ n then some (.ok (.int (mixV ns k m)) H) else none
    | _ => none)
  else if f = "_law_names" then (match us with
    | [.ro ns, .int k] => if 0 ≤ k ∧ 3 ≤ n then some (.ok (.lst ((namesV ns k).map .str)) H) else none
    | _ => none)
  else if f = "_law_file" then (match us with
    | [.ro ns, .int k, .lst us, .str x, .int long] => (match strsU us with
      | some xs => if NOk xs ∧ wordB x = true ∧ 0 ≤ k ∧ 0 ≤ long ∧ long ≤ 5 ∧ 3 ≤ n then some (.ok (fileV ns k xs x long).u H) else none
      | none => none)
    | _ => none)
  else if f = "_law_world" then (match us with
    | [.ro ns, .int k, .lst us, .int many, .int long] => (match strsU us with
      | some xs => if NOk xs ∧ 0 ≤ k ∧ 0 < many ∧ many ≤ 4 ∧ 0 ≤ long ∧ long ≤ 5 ∧ 4 ≤ n then some (.ok (wU (worldV ns k xs many long)) H) else none
      | none => none)
    | _ => none)
  else none
def drawnN (f : Str) : Bool := decide (f = "_law_mixed") || decide (f = "_law_names") || decide (f = "_law_file") || decide (f = "_law_world")
theorem oDraw_no {Ob : Type} {n : Nat} {f : Str} {us : List U} {H : List Ob} (h : drawnN f = false) : oDraw Ob n f us H = none := by
  unfold drawnN at h
  simp only [Bool.or_eq_false_iff, decide_eq_false_iff_not] at h
  unfold oDraw
  rw [if_neg h.1.1.1, if_neg h.1.1.2, if_neg h.1.2, if_neg h.2]
section
variable {Ob : Type} {cn : Str}
theorem ext_fr {K X : Nat → Prop} {φ : List Nat} {st st' : Sto} (e : Ext st st') : Fr st.length K X φ st X φ st' := by
  obtain ⟨t, rfl⟩ := e
  exact Fr.ext (Nat.le_refl _) t
theorem ext_oi {S : ObS Ob cn} {K X O : Nat → Prop} {φ : List Nat} {H : List Ob} {st st' : Sto} (e : Ext st st') (h : OI S K H X O φ st) : OI S K H X O φ st' := by
  refine ⟨S.loc h.1 fun n hn => ?_, h.2.1, fun n hn => Nat.lt_of_lt_of_le (h.2.2 n hn) e.len⟩
  obtain ⟨t, rfl⟩ := e
  exact List.getElem?_append_left (h.2.2 n (h.2.1 n hn).1)
theorem fn_res {S : ObS Ob cn} {K X O : Nat → Prop} {φ : List Nat} {H : List Ob} {st : Sto} {C : Str → List D → Sto → R D} {f : Str} {ds : List D} {u : U} {d : D} (oi : OI S K H X O φ st) (h : Fn C st f ds d) (r : ∀ s, Rep X φ s u d) : ResC S K X φ st (.ok u H) (C f ds st) := by
  have h1 := h st (Ext.refl _)
  cases hc : C f ds st with
  | ok x s =>
    rw [hc] at h1
    obtain ⟨e, rfl⟩ := h1
    exact ⟨X, O, φ, ext_fr e, ext_oi e oi, r s⟩
  | bad => rw [hc] at h1; exact h1.elim
  | exc _ _ => rw [hc] at h1; exact h1.elim
theorem fnL_res {S : ObS Ob cn} {K X O : Nat → Prop} {φ : List Nat} {H : List Ob} {st : Sto} {C : Str → List D → Sto → R D} {f : Str} {ds out : List D} {us : List U} (oi : OI S K H X O φ st) (h : FnL C st f ds out) (r : ∀ s, Reps X φ s us out) : ResC S K X φ st (.ok (.lst us) H) (C f ds st) := by
  have h1 := h st (Ext.refl _)
  cases hc : C f ds st with
  | ok x s =>
    rw [hc] at h1
    obtain ⟨e, n, rfl, hn, hcell⟩ := h1
    refine ⟨X, O, φ, ext_fr e, ext_oi e oi, .box (fun z => ?_) hcell (.lst (r s))⟩
    have := oi.2.2 n z
    omega
  | bad => rw [hc] at h1; exact h1.elim
  | exc _ _ => rw [hc] at h1; exact h1.elim
theorem lst_arg {X : Nat → Prop} {φ : List Nat} {st : Sto} {us : List U} {d : D} (r : Rep X φ st (.lst us) d) : ∃ m ds, d = .ref m ∧ st[m]? = some (.lst ds) ∧ Reps X φ st us ds := RepB.lst (.val r)
theorem oDraw_ok {S : ObS Ob cn} {TD : Tab} {W : Nat} (hT : TWorld TD l_file) : OraS S (oDraw Ob) TD W := by
  intro n f us H r ho ds st X Oc φ K rs oi hK
  unfold oDraw at ho
  have hF : FileSays TD W := by
    intro n st ns k hk m xs hm hx hxs x hxo long h0 h1
    exact file_says hT ns k hk hm hx hxs x hxo long h0 h1
  split at ho
  · rename_i hf
    subst hf
    split at ho
    · rename_i ns k m
      split at ho
      · rename_i hc
        cases ho
        cases rs with
        | cons r1 rs => cases rs with
          | cons r2 rs => cases rs with
            | cons r3 rs =>
              cases rs
              rw [RepB.ro (.val r1), RepB.int (.val r2), RepB.int (.val r3)]
              obtain ⟨n, rfl⟩ : ∃ k, n = k + 1 := ⟨n - 1, by omega⟩
              exact fn_res oi (mixed_says hT.toTDraw ns k m hc.1 hc.2.1) fun s => .int _
      · cases ho
    · cases ho
  · split at ho
    · rename_i hf
      subst hf
      split at ho
      · rename_i ns k
        split at ho
        · rename_i hc
          cases ho
          cases rs with
          | cons r1 rs => cases rs with
            | cons r2 rs =>
              cases rs
              rw [RepB.ro (.val r1), RepB.int (.val r2)]
              obtain ⟨n, rfl⟩ : ∃ k, n = k + 3 := ⟨n - 3, by omega⟩
              exact fnL_res oi (names_says hT.toTDraw ns k hc.1) fun s => rep_strs (namesV_ok ns k).str
        · cases ho
      · cases ho
    · split at ho
      · rename_i hf
        subst hf
        split at ho
        · rename_i ns k us' x long
          split at ho
          · rename_i xs hx
            split at ho
            · rename_i hc
              cases ho
              cases rs with
              | cons r1 rs => cases rs with
                | cons r2 rs => cases rs with
                  | cons r3 rs => cases rs with
                    | cons r4 rs => cases rs with
                      | cons r5 rs =>
                        cases rs
                        obtain ⟨m, dl, rfl, hm, q⟩ := lst_arg r3
                        obtain ⟨e1, e2, e3⟩ := strs_of q hx
                        obtain ⟨hN, hwx, hk, hl0, hl1, hn⟩ := hc
                        rw [RepB.ro (.val r1), RepB.int (.val r2), (RepB.str (.val r4)).1, RepB.int (.val r5)]
                        obtain ⟨n, rfl⟩ : ∃ k, n = k + 3 := ⟨n - 3, by omega⟩
                        exact fn_res oi (file_says hT ns k hk (by rw [hm, e1]) hN.ne hN.str x (word_ok hwx) long hl0 (by omega)) fun s => rep_file (fileV_ok hN k hwx hl0 hl1)
            · cases ho
          · cases ho
        · cases ho
      · split at ho
        · rename_i hf
          subst hf
          split at ho
          · rename_i ns k us' many long
            split at ho
            · rename_i xs hx
              split at ho
              · rename_i hc
                cases ho
                cases rs with
                | cons r1 rs => cases rs with
                  | cons r2 rs => cases rs with
                    | cons r3 rs => cases rs with
                      | cons r4 rs => cases rs with
                        | cons r5 rs =>
                          cases rs
                          obtain ⟨m, dl, rfl, hm, q⟩ := lst_arg r3
                          obtain ⟨e1, e2, e3⟩ := strs_of q hx
                          obtain ⟨hN, hk, hm0, hm1, hl0, hl1, hn⟩ := hc
                          rw [RepB.ro (.val r1), RepB.int (.val r2), RepB.int (.val r4), RepB.int (.val r5)]
                          obtain ⟨n, rfl⟩ : ∃ k, n = k + 4 := ⟨n - 4, by omega⟩
                          exact fn_res oi (world_says hT hF ns k hk (by rw [hm, e1]) hN.ne (Nat.le_trans hN.len (by decide)) hN.str many long hm0 (by omega) hl0 (by omega)) fun s => rep_w (worldV_ok hN hm0 hm1 hl0 hl1)
              · cases ho
            · cases ho
          · cases ho
        · cases ho
end
/-- what is drawn, by content -/
structure UDraw {Ob : Type} (O : Nat → Str → List U → List Ob → Option (RC Ob)) : Prop where
  mixed : ∀ {n : Nat} {ns : List Int} {k m : Int} {H : List Ob}, 0 ≤ k → 0 < m → O (n + 1) "_law_mixed" [.ro ns, .int k, .int m] H = some (.ok (.int (mixV ns k m)) H)
  names : ∀ {n : Nat} {ns : List Int} {k : Int} {H : List Ob}, 0 ≤ k → O (n + 3) "_law_names" [.ro ns, .int k] H = some (.ok (.lst ((namesV ns k).map .str)) H)
  file : ∀ {n : Nat} {ns : List Int} {k : Int} {xs : List Str} {x : Str} {long : Int} {H : List Ob}, NOk xs → wordB x = true → 0 ≤ k → 0 ≤ long → long ≤ 5 → O (n + 3) "_law_file" [.ro ns, .int k, .lst (xs.map .str), .str x, .int long] H = some (.ok (fileV ns k xs x long).u H)
  world : ∀ {n : Nat} {ns : List Int} {k : Int} {xs : List Str} {many long : Int} {H : List Ob}, NOk xs → 0 ≤ k → 0 < many → many ≤ 4 → 0 ≤ long → long ≤ 5 → O (n + 4) "_law_world" [.ro ns, .int k, .lst (xs.map .str), .int many, .int long] H = some (.ok (wU (worldV ns k xs many long)) H)
theorem oDraw_u {Ob : Type} : UDraw (oDraw Ob) where
  mixed := fun {n ns k m H} h1 h2 => by
    unfold oDraw
    rw [if_pos rfl]
    dsimp only
    rw [if_pos ⟨h1, h2, by omega⟩]
  names := fun {n ns k H} h1 => by
    unfold oDraw
    rw [if_neg (by decide +kernel), if_pos rfl]
    dsimp only
    rw [if_pos ⟨h1, by omega⟩]
  file := fun {n ns k xs x long H} h1 h2 h3 h4 h5 => by
    unfold oDraw
    rw [if_neg (by decide +kernel), if_neg (by decide +kernel), if_pos rfl]
    simp only [strsU_map]
    rw [if_pos ⟨h1, h2, h3, h4, h5, by omega⟩]
  world := fun {n ns k xs many long H} h1 h2 h3 h4 h5 h6 => by
    unfold oDraw
    rw [if_neg (by decide +kernel), if_neg (by decide +kernel), if_neg (by decide +kernel), if_pos rfl]
    simp only [strsU_map]
    rw [if_pos ⟨h1, h2, h3, h4, h5, h6, by omega⟩]
section
variable {Ob : Type} {T : TabU} {O : Nat → Str → List U → List Ob → Option (RC Ob)} {cn : Str} {W n : Nat} {H : List Ob} {ns : List Int} {k : Int}
theorem mixed_u (h : UDraw O) {m : Int} (hk : 0 ≤ k) (hm : 0 < m) : callU O cn T W (n + 2) "_law_mixed" [.ro ns, .int k, .int m] H = .ok (.int (mixV ns k m)) H := call_ora (h.mixed hk hm)
theorem names_u (h : UDraw O) (hk : 0 ≤ k) : callU O cn T W (n + 4) "_law_names" [.ro ns, .int k] H = .ok (.lst ((namesV ns k).map .str)) H := call_ora (h.names hk)
theorem fileD_u (h : UDraw O) {xs : List Str} {x : Str} {long : Int} (hN : NOk xs) (hx : wordB x = true) (hk : 0 ≤ k) (h0 : 0 ≤ long) (h1 : long ≤ 5) : callU O cn T W (n + 4) "_law_file" [.ro ns, .int k, .lst (xs.map .str), .str x, .int long] H = .ok (fileV ns k xs x long).u H := call_ora (h.file hN hx hk h0 h1)
theorem worldD_u (h : UDraw O) {xs : List Str} {many long : Int} (hN : NOk xs) (hk : 0 ≤ k) (hm0 : 0 < many) (hm1 : many ≤ 4) (h0 : 0 ≤ long) (h1 : long ≤ 5) : callU O cn T W (n + 5) "_law_world" [.ro ns, .int k, .lst (xs.map .str), .int many, .int long] H = .ok (wU (worldV ns k xs many long)) H := call_ora (h.world hN hk hm0 hm1 h0 h1)
end
end IP.Q

/-! K36u: the law's def, by content. -/
namespace IP.Q
open PySem
structure UK36 {Ob : Type} (T : TabU) (O : Nat → Str → List U → List Ob → Option (RC Ob)) : Prop extends UCom T O, UCls T O, UDraw O where
  law : Has T O "law" 1 13 law_k36
section
variable {Ob : Type} {T : TabU} {O : Nat → Str → List U → List Ob → Option (RC Ob)} {cn : Str} {W n : Nat} {H : List Ob} {w : Wld} {c d : Cls}
theorem k36_says (h : UK36 T O) (hW : 100 ≤ W) (ns : List Int) : callU O cn T W (n + 25) "law" [.ro ns] H = .ok (.bl true) H := by
  rw [h.law.run [] rfl rfl]
  unfold law_k36
  have hN := namesV_ok ns 20
  have hw := worldV_ok (ns := ns) (k := 100) hN (many := 3) (long := 1) (by decide) (by decide) (by decide) (by decide)
  have e1 : callU O cn T W (n + 24) "_law_names" [.ro ns, .int 20] H = .ok (.lst ((namesV ns 20).map .str)) H := names_u (n := n + 20) h.toUDraw (by decide)
  have e2 : callU O cn T W (n + 24) "_law_world" [.ro ns, .int 100, .lst ((namesV ns 20).map .str), .int 3, .int 1] H = .ok (wU (worldV ns 100 (namesV ns 20) 3 1)) H := worldD_u (n := n + 19) h.toUDraw hN (by decide) (by decide) (by decide) (by decide) (by decide)
  generalize worldV ns 100 (namesV ns 20) 3 1 = w at *
  have hol := okC_len hw
  have e3 : callU O cn T W (n + 24) "classes" [wU w] H = .ok (.lst ((srtC (classesV w)).map clsU)) H := classes_u (n := n + 17) h.toUCls hW hw
  have e4 : callU O cn T W (n + 24) "_law_mixed" [.ro ns, .int 0, .int (((okC w).length : Int) + 1)] H = .ok (.int (mixV ns 0 (((okC w).length : Int) + 1))) H := mixed_u (n := n + 22) h.toUDraw (by decide) (by omega)
  have cm : ∀ ρ : EnvU, ρ = [some (.ro ns), some (.lst ((namesV ns 20).map .str)), some (wU w), none, none, none, none, none, none, none, none, none, none] → compU (cturn (callU O cn T W (n + 24)) cn [] (Ex.lc 4) (Tg.nm 4) (Exo.some (Ex.isN (Ex.call "why_not" (Exs.cons (Ex.lc 2) (Exs.cons (Ex.lc 4) Exs.nil))))) [4] ρ) ((srtC (classesV w)).map clsU) [] H = some ((okC w).map clsU, H) := by
    rintro ρ rfl
    unfold okC
    rw [compU_filt clsU (fun c => (flawF w 17 c []).isNone) clsU _ (by rw [srtC_len]; have := classes_len hw; unfold LIM; omega)]
    intro x hx
    have hr := classes_real hw x (mem_srtC.mp hx)
    have e5 : callU O cn T W (n + 24) "why_not" [wU w, clsU x] H = .ok (whyU (flawF w 17 x [])) H := why_not_u (n := n + 2) h.toULink hW hw hr
    simp (decide := true) only [uall_0, uall_1, uall_2, uall_3, uall_4, uall_5, uall_6, uall_7, uall_8, memN, freshE, noRef, isDicU, isLstU, asgsU, wipeU, lockI, lockE, ofD, Nat.beq, List.map_cons, List.map_nil, List.replicate, List.nil_append, List.cons_append, List.append_nil, List.getElem?_cons_zero, List.getElem?_cons_succ, List.set_cons_zero, List.set_cons_succ, List.length_cons, List.length_nil, List.length_set, Bool.or_false, Bool.false_or, Bool.or_true, Bool.true_or, Bool.not_false, Bool.not_true, Bool.and_true, Bool.true_and, Bool.and_false, Bool.false_and, Bool.false_eq_true, Bool.not_eq_true, decide_true, decide_false, if_true, if_false, Option.map_some, Option.map_none, decide_eq_true_eq, and_true, true_and, Nat.zero_lt_succ, Nat.reduceAdd, Nat.reduceLT, Nat.reduceLeDiff, Nat.reduceEqDiff, Nat.reduceSub, Nat.sub_self, LIM, Option.isNone_none, Option.isNone_some, Option.isSome_none, Option.isSome_some, cturn, e5, non_why]
    cases flawF w 17 x [] with
    | none => simp (decide := true) only [uall_0, uall_1, uall_2, uall_3, uall_4, uall_5, uall_6, uall_7, uall_8, memN, freshE, noRef, isDicU, isLstU, asgsU, wipeU, lockI, lockE, ofD, Nat.beq, List.map_cons, List.map_nil, List.replicate, List.nil_append, List.cons_append, List.append_nil, List.getElem?_cons_zero, List.getElem?_cons_succ, List.set_cons_zero, List.set_cons_succ, List.length_cons, List.length_nil, List.length_set, Bool.or_false, Bool.false_or, Bool.or_true, Bool.true_or, Bool.not_false, Bool.not_true, Bool.and_true, Bool.true_and, Bool.and_false, Bool.false_and, Bool.false_eq_true, Bool.not_eq_true, decide_true, decide_false, if_true, if_false, Option.map_some, Option.map_none, decide_eq_true_eq, and_true, true_and, Nat.zero_lt_succ, Nat.reduceAdd, Nat.reduceLT, Nat.reduceLeDiff, Nat.reduceEqDiff, Nat.reduceSub, Nat.sub_self, LIM, Option.isNone_none, Option.isNone_some, Option.isSome_none, Option.isSome_some]
    | some p => simp (decide := true) only [uall_0, uall_1, uall_2, uall_3, uall_4, uall_5, uall_6, uall_7, uall_8, memN, freshE, noRef, isDicU, isLstU, asgsU, wipeU, lockI, lockE, ofD, Nat.beq, List.map_cons, List.map_nil, List.replicate, List.nil_append, List.cons_append, List.append_nil, List.getElem?_cons_zero, List.getElem?_cons_succ, List.set_cons_zero, List.set_cons_succ, List.length_cons, List.length_nil, List.length_set, Bool.or_false, Bool.false_or, Bool.or_true, Bool.true_or, Bool.not_false, Bool.not_true, Bool.and_true, Bool.true_and, Bool.and_false, Bool.false_and, Bool.false_eq_true, Bool.not_eq_true, decide_true, decide_false, if_true, if_false, Option.map_some, Option.map_none, decide_eq_true_eq, and_true, true_and, Nat.zero_lt_succ, Nat.reduceAdd, Nat.reduceLT, Nat.reduceLeDiff, Nat.reduceEqDiff, Nat.reduceSub, Nat.sub_self, LIM, Option.isNone_none, Option.isNone_some, Option.isSome_none, Option.isSome_some]
  simp (decide := true) only [uall_0, uall_1, uall_2, uall_3, uall_4, uall_5, uall_6, uall_7, uall_8, memN, freshE, noRef, isDicU, isLstU, asgsU, wipeU, lockI, lockE, ofD, Nat.beq, List.map_cons, List.map_nil, List.replicate, List.nil_append, List.cons_append, List.append_nil, List.getElem?_cons_zero, List.getElem?_cons_succ, List.set_cons_zero, List.set_cons_succ, List.length_cons, List.length_nil, List.length_set, Bool.or_false, Bool.false_or, Bool.or_true, Bool.true_or, Bool.not_false, Bool.not_true, Bool.and_true, Bool.true_and, Bool.and_false, Bool.false_and, Bool.false_eq_true, Bool.not_eq_true, decide_true, decide_false, if_true, if_false, Option.map_some, Option.map_none, decide_eq_true_eq, and_true, true_and, Nat.zero_lt_succ, Nat.reduceAdd, Nat.reduceLT, Nat.reduceLeDiff, Nat.reduceEqDiff, Nat.reduceSub, Nat.sub_self, LIM, Option.isNone_none, Option.isNone_some, Option.isSome_none, Option.isSome_some, e1, e2, e3, cm, e4, List.length_map, cut_map]
  rw [forU_all clsU [some (.ro ns), some (.lst ((namesV ns 20).map .str)), some (wU w), some (.lst ((okC w).map clsU)), none, some (.int (mixV ns 0 (((okC w).length : Int) + 1))), none, none, none, none, none, none, none]]
  · simp (decide := true) only [uall_0, uall_1, uall_2, uall_3, uall_4, uall_5, uall_6, uall_7, uall_8, memN, freshE, noRef, isDicU, isLstU, asgsU, wipeU, lockI, lockE, ofD, Nat.beq, List.map_cons, List.map_nil, List.replicate, List.nil_append, List.cons_append, List.append_nil, List.getElem?_cons_zero, List.getElem?_cons_succ, List.set_cons_zero, List.set_cons_succ, List.length_cons, List.length_nil, List.length_set, Bool.or_false, Bool.false_or, Bool.or_true, Bool.true_or, Bool.not_false, Bool.not_true, Bool.and_true, Bool.true_and, Bool.and_false, Bool.false_and, Bool.false_eq_true, Bool.not_eq_true, decide_true, decide_false, if_true, if_false, Option.map_some, Option.map_none, decide_eq_true_eq, and_true, true_and, Nat.zero_lt_succ, Nat.reduceAdd, Nat.reduceLT, Nat.reduceLeDiff, Nat.reduceEqDiff, Nat.reduceSub, Nat.sub_self, LIM, Option.isNone_none, Option.isNone_some, Option.isSome_none, Option.isSome_some]
  · rfl
  · intro one hone
    obtain ⟨h1, h2⟩ := okC_ok hw one (cut_sub hone)
    have s1 : callU O cn T W (n + 24) "supers" [wU w, clsU one] H = .ok (.lst ((supV w one).map clsU)) H := supers_u (n := n + 1) h.toULink hW hw h1 h2
    obtain ⟨r1, r2, r3⟩ := sup_real hw h1 h2
    have hcl : (cutL (okC w) none (some 5)).length + (supV w one).length ≤ 1000000 := by
      have := cut_len (xs := okC w) (lo := none) (hi := some 5)
      omega
    simp (decide := true) only [uall_0, uall_1, uall_2, uall_3, uall_4, uall_5, uall_6, uall_7, uall_8, memN, freshE, noRef, isDicU, isLstU, asgsU, wipeU, lockI, lockE, ofD, Nat.beq, List.map_cons, List.map_nil, List.replicate, List.nil_append, List.cons_append, List.append_nil, List.getElem?_cons_zero, List.getElem?_cons_succ, List.set_cons_zero, List.set_cons_succ, List.length_cons, List.length_nil, List.length_set, Bool.or_false, Bool.false_or, Bool.or_true, Bool.true_or, Bool.not_false, Bool.not_true, Bool.and_true, Bool.true_and, Bool.and_false, Bool.false_and, Bool.false_eq_true, Bool.not_eq_true, decide_true, decide_false, if_true, if_false, Option.map_some, Option.map_none, decide_eq_true_eq, and_true, true_and, Nat.zero_lt_succ, Nat.reduceAdd, Nat.reduceLT, Nat.reduceLeDiff, Nat.reduceEqDiff, Nat.reduceSub, Nat.sub_self, LIM, Option.isNone_none, Option.isNone_some, Option.isSome_none, Option.isSome_some, fturn, s1, List.length_map, cut_map, hcl]
    rw [← List.map_append, forU_all clsU [some (.ro ns), some (.lst ((namesV ns 20).map .str)), some (wU w), some (.lst ((okC w).map clsU)), none, some (.int (mixV ns 0 (((okC w).length : Int) + 1))), some (clsU one), none, none, none, none, none, none]]
    · simp (decide := true) only [uall_0, uall_1, uall_2, uall_3, uall_4, uall_5, uall_6, uall_7, uall_8, memN, freshE, noRef, isDicU, isLstU, asgsU, wipeU, lockI, lockE, ofD, Nat.beq, List.map_cons, List.map_nil, List.replicate, List.nil_append, List.cons_append, List.append_nil, List.getElem?_cons_zero, List.getElem?_cons_succ, List.set_cons_zero, List.set_cons_succ, List.length_cons, List.length_nil, List.length_set, Bool.or_false, Bool.false_or, Bool.or_true, Bool.true_or, Bool.not_false, Bool.not_true, Bool.and_true, Bool.true_and, Bool.and_false, Bool.false_and, Bool.false_eq_true, Bool.not_eq_true, decide_true, decide_false, if_true, if_false, Option.map_some, Option.map_none, decide_eq_true_eq, and_true, true_and, Nat.zero_lt_succ, Nat.reduceAdd, Nat.reduceLT, Nat.reduceLeDiff, Nat.reduceEqDiff, Nat.reduceSub, Nat.sub_self, LIM, Option.isNone_none, Option.isNone_some, Option.isSome_none, Option.isSome_some]
      rfl
    · rfl
    · intro other hother
      have ho : Real w other ∧ Lk w other := by
        rcases List.mem_append.mp hother with hm | hm
        · exact okC_ok hw other (cut_sub hm)
        · exact ⟨r1 other hm, sup_link hw h1 h2 hm⟩
      obtain ⟨h3, h4⟩ := ho
      have s2 : callU O cn T W (n + 24) "supers" [wU w, clsU other] H = .ok (.lst ((supV w other).map clsU)) H := supers_u (n := n + 1) h.toULink hW hw h3 h4
      have c1 : callU O cn T W (n + 24) "common" [wU w, clsU one, clsU other] H = .ok (optCU (comV w one other)) H := common_u (n := n) h.toUCom hW hw h1 h2 h3 h4
      have c2 : callU O cn T W (n + 24) "common" [wU w, clsU other, clsU one] H = .ok (optCU (comV w other one)) H := common_u (n := n) h.toUCom hW hw h3 h4 h1 h2
      rw [com_symm hw h1 h2 h3 h4] at c2
      obtain ⟨q1, q2, q3⟩ := sup_real hw h3 h4
      have anyF : ∀ (xs : List Cls), (∀ x ∈ xs, x ∉ supV w other) → xs.length ≤ 16 → ∀ ρ : EnvU, ρ.length = 13 → ρ[10]? = some (some (.lst ((supV w other).map clsU))) → compU (cturn (callU O cn T W (n + 24)) cn [] (Ex.cmp Cop.isin (Ex.lc 4) (Ex.lc 10)) (Tg.nm 4) Exo.none [4] ρ) (xs.map clsU) [] H = some (xs.map fun _ => .bl false, H) := by
        intro xs hxs hl ρ hρ hρ2
        rw [compU_map clsU (fun _ => .bl false) xs (by unfold LIM; omega)]
        intro x hx
        have h4 : 4 < ρ.length := by omega
        have e1 : ((ρ.set 4 none).set 4 (some (clsU x)))[4]? = some (some (clsU x)) := by rw [List.set_set, List.getElem?_set_self h4]
        have e2 : ((ρ.set 4 none).set 4 (some (clsU x)))[10]? = some (some (.lst ((supV w other).map clsU))) := by rw [List.set_set, List.getElem?_set_ne (by decide), hρ2]
        simp (decide := true) only [uall_0, uall_1, uall_2, uall_3, uall_4, uall_5, uall_6, uall_7, uall_8, memN, freshE, noRef, isDicU, isLstU, asgsU, wipeU, lockI, lockE, ofD, Nat.beq, List.map_cons, List.map_nil, List.replicate, List.nil_append, List.cons_append, List.append_nil, List.getElem?_cons_zero, List.getElem?_cons_succ, List.set_cons_zero, List.set_cons_succ, List.length_cons, List.length_nil, List.length_set, Bool.or_false, Bool.false_or, Bool.or_true, Bool.true_or, Bool.not_false, Bool.not_true, Bool.and_true, Bool.true_and, Bool.and_false, Bool.false_and, Bool.false_eq_true, Bool.not_eq_true, decide_true, decide_false, if_true, if_false, Option.map_some, Option.map_none, decide_eq_true_eq, and_true, true_and, Nat.zero_lt_succ, Nat.reduceAdd, Nat.reduceLT, Nat.reduceLeDiff, Nat.reduceEqDiff, Nat.reduceSub, Nat.sub_self, LIM, Option.isNone_none, Option.isNone_some, Option.isSome_none, Option.isSome_some, cturn, h4, e1, e2, in_cls, hxs x hx]
      have anyF2 : ∀ {α : Type} (xs : List α), ((xs.map fun _ => false).any id) = false := fun xs => by
        induction xs with
        | nil => rfl
        | cons x xs ih => simp
      have fin : ∀ x : Option Cls, comV w one other = x → (other ∈ supV w one → x = some other) := by
        intro x hx hm
        rw [← hx]; exact com_in hw h1 h2 hm
      cases hb : comV w one other with
      | none =>
        rw [hb] at c1 c2
        have hno : other ∉ supV w one := fun z => by have := fin none hb z; cases this
        simp (decide := true) only [uall_0, uall_1, uall_2, uall_3, uall_4, uall_5, uall_6, uall_7, uall_8, memN, freshE, noRef, isDicU, isLstU, asgsU, wipeU, lockI, lockE, ofD, Nat.beq, List.map_cons, List.map_nil, List.replicate, List.nil_append, List.cons_append, List.append_nil, List.getElem?_cons_zero, List.getElem?_cons_succ, List.set_cons_zero, List.set_cons_succ, List.length_cons, List.length_nil, List.length_set, Bool.or_false, Bool.false_or, Bool.or_true, Bool.true_or, Bool.not_false, Bool.not_true, Bool.and_true, Bool.true_and, Bool.and_false, Bool.false_and, Bool.false_eq_true, Bool.not_eq_true, decide_true, decide_false, if_true, if_false, Option.map_some, Option.map_none, decide_eq_true_eq, and_true, true_and, Nat.zero_lt_succ, Nat.reduceAdd, Nat.reduceLT, Nat.reduceLeDiff, Nat.reduceEqDiff, Nat.reduceSub, Nat.sub_self, LIM, Option.isNone_none, Option.isNone_some, Option.isSome_none, Option.isSome_some, fturn, c1, c2, eqU_optC, s1, s2, non_optC, Option.isNone_none, anyF (supV w one) (com_none hb) r3, boolsU_map, anyF2, in_cls, hno]
        rfl
      | some x =>
        rw [hb] at c1 c2
        obtain ⟨g1, pre, g2, g3⟩ := com_some hw h1 h2 hb
        obtain ⟨pre2, g4⟩ := sup_suffix hw h3 h4 g1
        have hxm : x ∈ supV w one := by rw [g2]; exact List.mem_append_right _ (by obtain ⟨r, hr⟩ := sup_self (w := w) (c := x); rw [hr]; exact List.mem_cons_self)
        have s3 : callU O cn T W (n + 24) "supers" [wU w, optCU (some x)] H = .ok (.lst ((supV w x).map clsU)) H := supers_u (n := n + 1) h.toULink hW hw (r1 x hxm) (sup_link hw h1 h2 hxm)
        obtain ⟨r, hr⟩ := sup_self (w := w) (c := x)
        have i1 : indexU (.lst ((supV w one).map clsU)) [optCU (some x)] = some (.int (pre.length : Nat)) := by
          rw [g2, hr]; exact index_cls fun z => g3 x z g1
        have i2 : indexU (.lst ((supV w other).map clsU)) [optCU (some x)] = some (.int (pre2.length : Nat)) := by
          rw [g4, hr]
          refine index_cls fun z => ?_
          rw [g4, hr, List.nodup_append] at q2
          exact q2.2.2 x z x List.mem_cons_self rfl
        have d1 : (supV w one).drop pre.length = supV w x := by rw [g2, List.drop_left]
        have d2 : (supV w other).drop pre2.length = supV w x := by rw [g4, List.drop_left]
        have d3 : (supV w one).take pre.length = pre := by rw [g2, List.take_left]
        have hpl : pre.length ≤ 16 := by have := congrArg List.length g2; rw [List.length_append] at this; omega
        have hin : decide (other ∈ supV w one) = true → decide (some x = some other) = true := fun z => decide_eq_true (fin (some x) hb (of_decide_eq_true z))
        have e9 : eqU (optCU (some x)) (clsU other) = some (decide (some x = some other)) := eqU_optC (a := some x) (b := some other)
        simp (decide := true) only [uall_0, uall_1, uall_2, uall_3, uall_4, uall_5, uall_6, uall_7, uall_8, memN, freshE, noRef, isDicU, isLstU, asgsU, wipeU, lockI, lockE, ofD, Nat.beq, List.map_cons, List.map_nil, List.replicate, List.nil_append, List.cons_append, List.append_nil, List.getElem?_cons_zero, List.getElem?_cons_succ, List.set_cons_zero, List.set_cons_succ, List.length_cons, List.length_nil, List.length_set, Bool.or_false, Bool.false_or, Bool.or_true, Bool.true_or, Bool.not_false, Bool.not_true, Bool.and_true, Bool.true_and, Bool.and_false, Bool.false_and, Bool.false_eq_true, Bool.not_eq_true, decide_true, decide_false, if_true, if_false, Option.map_some, Option.map_none, decide_eq_true_eq, and_true, true_and, Nat.zero_lt_succ, Nat.reduceAdd, Nat.reduceLT, Nat.reduceLeDiff, Nat.reduceEqDiff, Nat.reduceSub, Nat.sub_self, LIM, Option.isNone_none, Option.isNone_some, Option.isSome_none, Option.isSome_some, fturn, c1, c2, eqU_optC, s1, s2, s3, non_optC, i1, i2, cut_drop_map, cut_take_map, d1, d2, d3, eqU_clss, anyF pre g3 hpl, boolsU_map, anyF2, in_cls, e9, iteR_b]
        by_cases hm : other ∈ supV w one
        · have := of_decide_eq_true (hin (decide_eq_true hm))
          simp (decide := true) only [uall_0, uall_1, uall_2, uall_3, uall_4, uall_5, uall_6, uall_7, uall_8, memN, freshE, noRef, isDicU, isLstU, asgsU, wipeU, lockI, lockE, ofD, Nat.beq, List.map_cons, List.map_nil, List.replicate, List.nil_append, List.cons_append, List.append_nil, List.getElem?_cons_zero, List.getElem?_cons_succ, List.set_cons_zero, List.set_cons_succ, List.length_cons, List.length_nil, List.length_set, Bool.or_false, Bool.false_or, Bool.or_true, Bool.true_or, Bool.not_false, Bool.not_true, Bool.and_true, Bool.true_and, Bool.and_false, Bool.false_and, Bool.false_eq_true, Bool.not_eq_true, decide_true, decide_false, if_true, if_false, Option.map_some, Option.map_none, decide_eq_true_eq, and_true, true_and, Nat.zero_lt_succ, Nat.reduceAdd, Nat.reduceLT, Nat.reduceLeDiff, Nat.reduceEqDiff, Nat.reduceSub, Nat.sub_self, LIM, Option.isNone_none, Option.isNone_some, Option.isSome_none, Option.isSome_some, hm, this]
          rfl
        · simp (decide := true) only [uall_0, uall_1, uall_2, uall_3, uall_4, uall_5, uall_6, uall_7, uall_8, memN, freshE, noRef, isDicU, isLstU, asgsU, wipeU, lockI, lockE, ofD, Nat.beq, List.map_cons, List.map_nil, List.replicate, List.nil_append, List.cons_append, List.append_nil, List.getElem?_cons_zero, List.getElem?_cons_succ, List.set_cons_zero, List.set_cons_succ, List.length_cons, List.length_nil, List.length_set, Bool.or_false, Bool.false_or, Bool.or_true, Bool.true_or, Bool.not_false, Bool.not_true, Bool.and_true, Bool.true_and, Bool.and_false, Bool.false_and, Bool.false_eq_true, Bool.not_eq_true, decide_true, decide_false, if_true, if_false, Option.map_some, Option.map_none, decide_eq_true_eq, and_true, true_and, Nat.zero_lt_succ, Nat.reduceAdd, Nat.reduceLT, Nat.reduceLeDiff, Nat.reduceEqDiff, Nat.reduceSub, Nat.sub_self, LIM, Option.isNone_none, Option.isNone_some, Option.isSome_none, Option.isSome_some, hm]
          rfl
end
end IP.Q

namespace IP.Q
open PySem
def defU (e : Ent) : DefU := .fn e.np e.N.length (ownM e.np e.xs) e.xs
def tabU (es : List Ent) : TabU := fun x => (es.find? fun e => decide (e.x = x)).map defU
theorem tab_ok {es : List Ent} (h : ∀ e ∈ es, kokSs e.xs = true) : TabS (tabU es) (tabE es) := by
  intro f np ns M body ht
  unfold tabU at ht
  unfold tabE
  cases hf : es.find? fun e => decide (e.x = f) with
  | none => rw [hf] at ht; cases ht
  | some e =>
    rw [hf] at ht
    simp only [Option.map_some, defU, Option.some.injEq, DefU.fn.injEq] at ht
    obtain ⟨rfl, rfl, rfl, rfl⟩ := ht
    exact ⟨rfl, fun i hi => of_decide_eq_true (List.mem_filter.mp hi).2, h e (List.mem_of_find?_eq_some hf)⟩
theorem hasB {Ob : Type} {T : TabU} {f : Str} {np ns : Nat} {b : Sts} (h : T f = some (.fn np ns (ownM np b) b)) (k : drawnN f = false) : Has T (oDraw Ob) f np ns b := ⟨h, fun _ _ _ => oDraw_no k⟩
end IP.Q
namespace LawK36
open PySem PySem.Spec PyProof.Rows IP IP.Q
def top (i : Nat) : Stmt := PySem.Challenge.pw_loaders_k36_whole_common.main.body.getD i (.Pass ⟨0, 0, 0, 0⟩)
def e_p_is_word : Ent := ⟨"is_word", ⟨("is_word", none), "is_word", "is_word", L2.defArgs (top 13), L2.defBody (top 13), L2.defScope (top 13), [], []⟩, ["thing", "sign"], 1, p_is_word⟩
def e_p_is_whole : Ent := ⟨"is_whole", ⟨("is_whole", none), "is_whole", "is_whole", L2.defArgs (top 14), L2.defBody (top 14), L2.defScope (top 14), [], []⟩, ["thing", "low", "most"], 3, p_is_whole⟩
def e_p_is_row : Ent := ⟨"is_row", ⟨("is_row", none), "is_row", "is_row", L2.defArgs (top 15), L2.defBody (top 15), L2.defScope (top 15), [], []⟩, ["thing", "word"], 1, p_is_row⟩
def e_p_is_file : Ent := ⟨"is_file", ⟨("is_file", none), "is_file", "is_file", L2.defArgs (top 16), L2.defBody (top 16), L2.defScope (top 16), [], []⟩, ["thing", "face", "row"], 1, p_is_file⟩
def e_p_is_shelf : Ent := ⟨"is_shelf", ⟨("is_shelf", none), "is_shelf", "is_shelf", L2.defArgs (top 17), L2.defBody (top 17), L2.defScope (top 17), [], []⟩, ["thing", "one"], 1, p_is_shelf⟩
def e_p_is_world : Ent := ⟨"is_world", ⟨("is_world", none), "is_world", "is_world", L2.defArgs (top 18), L2.defBody (top 18), L2.defScope (top 18), [], []⟩, ["thing", "number", "loader"], 1, p_is_world⟩
def e_p_need_world : Ent := ⟨"need_world", ⟨("need_world", none), "need_world", "need_world", L2.defArgs (top 19), L2.defBody (top 19), L2.defScope (top 19), [], []⟩, ["world"], 1, p_need_world⟩
def e_p_file_on : Ent := ⟨"file_on", ⟨("file_on", none), "file_on", "file_on", L2.defArgs (top 20), L2.defBody (top 20), L2.defScope (top 20), [], []⟩, ["shelf", "name", "one"], 2, p_file_on⟩
def e_p_line_of : Ent := ⟨"line_of", ⟨("line_of", none), "line_of", "line_of", L2.defArgs (top 22), L2.defBody (top 22), L2.defScope (top 22), [], []⟩, ["world", "loader", "made"], 2, p_line_of⟩
def e_p_found_by : Ent := ⟨"found_by", ⟨("found_by", none), "found_by", "found_by", L2.defArgs (top 23), L2.defBody (top 23), L2.defScope (top 23), [], []⟩, ["world", "loader", "name", "one"], 3, p_found_by⟩
def e_p_is_class : Ent := ⟨"is_class", ⟨("is_class", none), "is_class", "is_class", L2.defArgs (top 24), L2.defBody (top 24), L2.defScope (top 24), [], []⟩, ["world", "thing"], 2, p_is_class⟩
def e_p_need_class : Ent := ⟨"need_class", ⟨("need_class", none), "need_class", "need_class", L2.defArgs (top 25), L2.defBody (top 25), L2.defScope (top 25), [], []⟩, ["world", "thing"], 2, p_need_class⟩
def e_p_file_of : Ent := ⟨"file_of", ⟨("file_of", none), "file_of", "file_of", L2.defArgs (top 26), L2.defBody (top 26), L2.defScope (top 26), [], []⟩, ["world", "thing"], 2, p_file_of⟩
def e_p_classes : Ent := ⟨"classes", ⟨("classes", none), "classes", "classes", L2.defArgs (top 27), L2.defBody (top 27), L2.defScope (top 27), [], []⟩, ["world", "made", "number", "loader", "one"], 1, p_classes⟩
def e_p_above_all : Ent := ⟨"above_all", ⟨("above_all", none), "above_all", "above_all", L2.defArgs (top 29), L2.defBody (top 29), L2.defScope (top 29), [], []⟩, ["world", "thing", "kind", "name", "above", "faces", "rows", "made", "face"], 2, p_above_all⟩
def e_p_flaw : Ent := ⟨"flaw", ⟨("flaw", none), "flaw", "flaw", L2.defArgs (top 30), L2.defBody (top 30), L2.defScope (top 30), [], []⟩, ["world", "thing", "path", "name", "kind", "other", "deep"], 3, p_flaw⟩
def e_p_why_not : Ent := ⟨"why_not", ⟨("why_not", none), "why_not", "why_not", L2.defArgs (top 31), L2.defBody (top 31), L2.defScope (top 31), [], []⟩, ["world", "thing"], 2, p_why_not⟩
def e_p_need_linked : Ent := ⟨"need_linked", ⟨("need_linked", none), "need_linked", "need_linked", L2.defArgs (top 32), L2.defBody (top 32), L2.defScope (top 32), [], []⟩, ["world", "thing", "why"], 2, p_need_linked⟩
def e_p_supers : Ent := ⟨"supers", ⟨("supers", none), "supers", "supers", L2.defArgs (top 33), L2.defBody (top 33), L2.defScope (top 33), [], []⟩, ["world", "thing", "made"], 2, p_supers⟩
def e_p_common : Ent := ⟨"common", ⟨("common", none), "common", "common", L2.defArgs (top 34), L2.defBody (top 34), L2.defScope (top 34), [], []⟩, ["world", "one", "other", "mine", "theirs", "some", "thing"], 3, p_common⟩
def e_l_cell_at : Ent := ⟨"_law_cell_at", ⟨("_law_cell_at", none), "_law_cell_at", "_law_cell_at", L2.defArgs (top 36), L2.defBody (top 36), L2.defScope (top 36), [], []⟩, ["_law_script", "_law_k"], 2, l_cell_at⟩
def e_l_mixed : Ent := ⟨"_law_mixed", ⟨("_law_mixed", none), "_law_mixed", "_law_mixed", L2.defArgs (top 37), L2.defBody (top 37), L2.defScope (top 37), [], []⟩, ["_law_script", "_law_k", "_law_many", "_law_drawn"], 3, l_mixed⟩
def e_l_word : Ent := ⟨"_law_word", ⟨("_law_word", none), "_law_word", "_law_word", L2.defArgs (top 38), L2.defBody (top 38), L2.defScope (top 38), [], []⟩, ["_law_script", "_law_at", "_law_made", "_law_k"], 2, l_word⟩
def e_l_names : Ent := ⟨"_law_names", ⟨("_law_names", none), "_law_names", "_law_names", L2.defArgs (top 39), L2.defBody (top 39), L2.defScope (top 39), [], []⟩, ["_law_script", "_law_at", "_law_found", "_law_k"], 2, l_names⟩
def e_l_row : Ent := ⟨"_law_row", ⟨("_law_row", none), "_law_row", "_law_row", L2.defArgs (top 40), L2.defBody (top 40), L2.defScope (top 40), [], []⟩, ["_law_script", "_law_at", "_law_names_here", "_law_kind", "_law_name", "_law_field"], 3, l_row⟩
def e_l_file : Ent := ⟨"_law_file", ⟨("_law_file", none), "_law_file", "_law_file", L2.defArgs (top 41), L2.defBody (top 41), L2.defScope (top 41), [], []⟩, ["_law_script", "_law_at", "_law_names_here", "_law_name", "_law_long", "_law_kind", "_law_above", "_law_faces", "_law_rows", "_law_k"], 5, l_file⟩
def e_l_world : Ent := ⟨"_law_world", ⟨("_law_world", none), "_law_world", "_law_world", L2.defArgs (top 42), L2.defBody (top 42), L2.defScope (top 42), [], []⟩, ["_law_script", "_law_at", "_law_names_here", "_law_many", "_law_long", "_law_made", "_law_twins", "_law_number", "_law_here", "_law_parent", "_law_shelf", "_law_k", "_law_name", "_law_row_here", "_law_turn"], 5, l_world⟩
def e_law_k36 : Ent := ⟨"law", ⟨("law", none), "law", "law", L2.defArgs (top 43), L2.defBody (top 43), L2.defScope (top 43), [], []⟩, ["_law_script", "_law_names_here", "_law_world_here", "_law_some", "_law_thing", "_law_turn", "_law_one", "_law_other", "_law_both", "_law_mine", "_law_theirs", "_law_here", "_law_there"], 1, law_k36⟩
def es0 : List Ent := [e_p_is_word, e_p_is_whole, e_p_is_row, e_p_is_file, e_p_is_shelf, e_p_is_world, e_p_need_world, e_p_file_on, e_p_line_of, e_p_found_by, e_p_is_class, e_p_need_class, e_p_file_of, e_p_classes, e_p_above_all, e_p_flaw, e_p_why_not, e_p_need_linked, e_p_supers, e_p_common]
def es1 : List Ent := [e_l_cell_at, e_l_mixed, e_l_word, e_l_names, e_l_row, e_l_file, e_l_world, e_law_k36]
def es : List Ent := es0 ++ es1
def gl : IP.Gl := [("all", .free), ("LETTERS", .str "abcdefghijklmnopqrstuvwxyz"), ("len", .free), ("LONGEST", .int 6), ("isinstance", .free), ("str", .free), ("bool", .free), ("int", .free), ("tuple", .free), ("NUMBER", .int 99), ("FACES", .int 2), ("ROWS", .int 5), ("set", .free), ("FILES", .int 4), ("LOADERS", .int 4), ("enumerate", .free), ("NoWorld", .exc), ("NoClass", .exc), ("sorted", .free), ("range", .free), ("list", .free), ("any", .free)]
theorem ok_p_is_word : EntOk (gkE es gl) e_p_is_word := ⟨rfl, rfl, rfl, by kernel_rfl, by decide, by kernel_rfl, fun _ _ _ _ _ _ us hl => match us, hl with | [_], _ => rfl⟩
theorem ok_p_is_whole : EntOk (gkE es gl) e_p_is_whole := ⟨rfl, rfl, rfl, by kernel_rfl, by decide, by kernel_rfl, fun _ _ _ _ _ _ us hl => match us, hl with | [_, _, _], _ => rfl⟩
theorem ok_p_is_row : EntOk (gkE es gl) e_p_is_row := ⟨rfl, rfl, rfl, by kernel_rfl, by decide, by kernel_rfl, fun _ _ _ _ _ _ us hl => match us, hl with | [_], _ => rfl⟩
theorem ok_p_is_file : EntOk (gkE es gl) e_p_is_file := ⟨rfl, rfl, rfl, by kernel_rfl, by decide, by kernel_rfl, fun _ _ _ _ _ _ us hl => match us, hl with | [_], _ => rfl⟩
theorem ok_p_is_shelf : EntOk (gkE es gl) e_p_is_shelf := ⟨rfl, rfl, rfl, by kernel_rfl, by decide, by kernel_rfl, fun _ _ _ _ _ _ us hl => match us, hl with | [_], _ => rfl⟩
theorem ok_p_is_world : EntOk (gkE es gl) e_p_is_world := ⟨rfl, rfl, rfl, by kernel_rfl, by decide, by kernel_rfl, fun _ _ _ _ _ _ us hl => match us, hl with | [_], _ => rfl⟩
theorem ok_p_need_world : EntOk (gkE es gl) e_p_need_world := ⟨rfl, rfl, rfl, by kernel_rfl, by decide, by kernel_rfl, fun _ _ _ _ _ _ us hl => match us, hl with | [_], _ => rfl⟩
theorem ok_p_file_on : EntOk (gkE es gl) e_p_file_on := ⟨rfl, rfl, rfl, by kernel_rfl, by decide, by kernel_rfl, fun _ _ _ _ _ _ us hl => match us, hl with | [_, _], _ => rfl⟩
theorem ok_p_line_of : EntOk (gkE es gl) e_p_line_of := ⟨rfl, rfl, rfl, by kernel_rfl, by decide, by kernel_rfl, fun _ _ _ _ _ _ us hl => match us, hl with | [_, _], _ => rfl⟩
theorem ok_p_found_by : EntOk (gkE es gl) e_p_found_by := ⟨rfl, rfl, rfl, by kernel_rfl, by decide, by kernel_rfl, fun _ _ _ _ _ _ us hl => match us, hl with | [_, _, _], _ => rfl⟩
theorem ok_p_is_class : EntOk (gkE es gl) e_p_is_class := ⟨rfl, rfl, rfl, by kernel_rfl, by decide, by kernel_rfl, fun _ _ _ _ _ _ us hl => match us, hl with | [_, _], _ => rfl⟩
theorem ok_p_need_class : EntOk (gkE es gl) e_p_need_class := ⟨rfl, rfl, rfl, by kernel_rfl, by decide, by kernel_rfl, fun _ _ _ _ _ _ us hl => match us, hl with | [_, _], _ => rfl⟩
theorem ok_p_file_of : EntOk (gkE es gl) e_p_file_of := ⟨rfl, rfl, rfl, by kernel_rfl, by decide, by kernel_rfl, fun _ _ _ _ _ _ us hl => match us, hl with | [_, _], _ => rfl⟩
theorem ok_p_classes : EntOk (gkE es gl) e_p_classes := ⟨rfl, rfl, rfl, by kernel_rfl, by decide, by kernel_rfl, fun _ _ _ _ _ _ us hl => match us, hl with | [_], _ => rfl⟩
theorem ok_p_above_all : EntOk (gkE es gl) e_p_above_all := ⟨rfl, rfl, rfl, by kernel_rfl, by decide, by kernel_rfl, fun _ _ _ _ _ _ us hl => match us, hl with | [_, _], _ => rfl⟩
theorem ok_p_flaw : EntOk (gkE es gl) e_p_flaw := ⟨rfl, rfl, rfl, by kernel_rfl, by decide, by kernel_rfl, fun _ _ _ _ _ _ us hl => match us, hl with | [_, _, _], _ => rfl⟩
theorem ok_p_why_not : EntOk (gkE es gl) e_p_why_not := ⟨rfl, rfl, rfl, by kernel_rfl, by decide, by kernel_rfl, fun _ _ _ _ _ _ us hl => match us, hl with | [_, _], _ => rfl⟩
theorem ok_p_need_linked : EntOk (gkE es gl) e_p_need_linked := ⟨rfl, rfl, rfl, by kernel_rfl, by decide, by kernel_rfl, fun _ _ _ _ _ _ us hl => match us, hl with | [_, _], _ => rfl⟩
theorem ok_p_supers : EntOk (gkE es gl) e_p_supers := ⟨rfl, rfl, rfl, by kernel_rfl, by decide, by kernel_rfl, fun _ _ _ _ _ _ us hl => match us, hl with | [_, _], _ => rfl⟩
theorem ok_p_common : EntOk (gkE es gl) e_p_common := ⟨rfl, rfl, rfl, by kernel_rfl, by decide, by kernel_rfl, fun _ _ _ _ _ _ us hl => match us, hl with | [_, _, _], _ => rfl⟩
theorem ok_l_cell_at : EntOk (gkE es gl) e_l_cell_at := ⟨rfl, rfl, rfl, by kernel_rfl, by decide, by kernel_rfl, fun _ _ _ _ _ _ us hl => match us, hl with | [_, _], _ => rfl⟩
theorem ok_l_mixed : EntOk (gkE es gl) e_l_mixed := ⟨rfl, rfl, rfl, by kernel_rfl, by decide, by kernel_rfl, fun _ _ _ _ _ _ us hl => match us, hl with | [_, _, _], _ => rfl⟩
theorem ok_l_word : EntOk (gkE es gl) e_l_word := ⟨rfl, rfl, rfl, by kernel_rfl, by decide, by kernel_rfl, fun _ _ _ _ _ _ us hl => match us, hl with | [_, _], _ => rfl⟩
theorem ok_l_names : EntOk (gkE es gl) e_l_names := ⟨rfl, rfl, rfl, by kernel_rfl, by decide, by kernel_rfl, fun _ _ _ _ _ _ us hl => match us, hl with | [_, _], _ => rfl⟩
theorem ok_l_row : EntOk (gkE es gl) e_l_row := ⟨rfl, rfl, rfl, by kernel_rfl, by decide, by kernel_rfl, fun _ _ _ _ _ _ us hl => match us, hl with | [_, _, _], _ => rfl⟩
theorem ok_l_file : EntOk (gkE es gl) e_l_file := ⟨rfl, rfl, rfl, by kernel_rfl, by decide, by kernel_rfl, fun _ _ _ _ _ _ us hl => match us, hl with | [_, _, _, _, _], _ => rfl⟩
theorem ok_l_world : EntOk (gkE es gl) e_l_world := ⟨rfl, rfl, rfl, by kernel_rfl, by decide, by kernel_rfl, fun _ _ _ _ _ _ us hl => match us, hl with | [_, _, _, _, _], _ => rfl⟩
theorem ok_law_k36 : EntOk (gkE es gl) e_law_k36 := ⟨rfl, rfl, rfl, by kernel_rfl, by decide, by kernel_rfl, fun _ _ _ _ _ _ us hl => match us, hl with | [_], _ => rfl⟩
def loose0 : List Str := ["LETTERS", "LONGEST", "ROWS", "FILES", "LOADERS", "FACES", "NUMBER", "LoadError", "NoWorld", "NoClass", "NotLinked", "is_word", "is_whole", "is_row", "is_file"]
def loose1 : List Str := ["is_shelf", "is_world", "need_world", "file_on", "line_of", "found_by", "is_class", "need_class", "file_of", "classes", "above_all", "flaw", "why_not", "need_linked", "supers"]
def loose2 : List Str := ["common", "_law_cell_at", "_law_mixed", "_law_word", "_law_names", "_law_row", "_law_file", "_law_world"]
def loose : List Str := loose0 ++ loose1 ++ loose2
abbrev R : PySem.W.OpenRow := PySem.W.OpenLaw.row PySem.Challenge.rw_loaders_k36_whole_common
abbrev fa : List He.Fa := faE es gl
abbrev fn : List He.DefD := fnE es
abbrev hk : PySem.W.Hook := He.hookD 4 fa fn
def ob (s : PySem.W.SharedT) : He.AlD := He.obsDG 4 fa fn (HandSHeadRun.getT s)
theorem obEq (s : PySem.W.SharedT) : ob s = hk.obs s.abs := He.obsDG_eq (HandSHeadRun.getT_eq s)
theorem run (w : World) : HandSHeadRun.RunEq R (PySem.W.view R.prog [43]) hk ob 6000 loose w := by
  intro os
  kernel_rfl
theorem es_ok : ∀ e ∈ es, EntOk (gkE es gl) e := by
  intro e he
  unfold es at he
  rcases List.mem_append.mp he with he | he
  · skip
    unfold es0 at he
    rcases List.mem_cons.mp he with rfl | he
    · exact ok_p_is_word
    rcases List.mem_cons.mp he with rfl | he
    · exact ok_p_is_whole
    rcases List.mem_cons.mp he with rfl | he
    · exact ok_p_is_row
    rcases List.mem_cons.mp he with rfl | he
    · exact ok_p_is_file
    rcases List.mem_cons.mp he with rfl | he
    · exact ok_p_is_shelf
    rcases List.mem_cons.mp he with rfl | he
    · exact ok_p_is_world
    rcases List.mem_cons.mp he with rfl | he
    · exact ok_p_need_world
    rcases List.mem_cons.mp he with rfl | he
    · exact ok_p_file_on
    rcases List.mem_cons.mp he with rfl | he
    · exact ok_p_line_of
    rcases List.mem_cons.mp he with rfl | he
    · exact ok_p_found_by
    rcases List.mem_cons.mp he with rfl | he
    · exact ok_p_is_class
    rcases List.mem_cons.mp he with rfl | he
    · exact ok_p_need_class
    rcases List.mem_cons.mp he with rfl | he
    · exact ok_p_file_of
    rcases List.mem_cons.mp he with rfl | he
    · exact ok_p_classes
    rcases List.mem_cons.mp he with rfl | he
    · exact ok_p_above_all
    rcases List.mem_cons.mp he with rfl | he
    · exact ok_p_flaw
    rcases List.mem_cons.mp he with rfl | he
    · exact ok_p_why_not
    rcases List.mem_cons.mp he with rfl | he
    · exact ok_p_need_linked
    rcases List.mem_cons.mp he with rfl | he
    · exact ok_p_supers
    rcases List.mem_cons.mp he with rfl | he
    · exact ok_p_common
    cases he
  · skip
    unfold es1 at he
    rcases List.mem_cons.mp he with rfl | he
    · exact ok_l_cell_at
    rcases List.mem_cons.mp he with rfl | he
    · exact ok_l_mixed
    rcases List.mem_cons.mp he with rfl | he
    · exact ok_l_word
    rcases List.mem_cons.mp he with rfl | he
    · exact ok_l_names
    rcases List.mem_cons.mp he with rfl | he
    · exact ok_l_row
    rcases List.mem_cons.mp he with rfl | he
    · exact ok_l_file
    rcases List.mem_cons.mp he with rfl | he
    · exact ok_l_world
    rcases List.mem_cons.mp he with rfl | he
    · exact ok_law_k36
    cases he
theorem kok : ∀ e ∈ es, kokSs e.xs = true := List.all_eq_true.mp (by kernel_rfl)
theorem drw : TWorld (tabE es) l_file := by
  constructor <;> (try constructor) <;> kernel_rfl
theorem tab : UK36 (tabU es) (oDraw Unit) := by
  repeat' (first | exact oDraw_u | exact hasB (by kernel_rfl) (by kernel_rfl) | constructor)
theorem says (ns : List Int) (_ : ns.length ≤ 63) : ∃ st, callD (tabE es) 1000000 31 "law" [.ro ns] [] = .ok (.bl true) st := top_ok (S := nob) (tab_ok kok) (oDraw_ok drw) ⟨rfl, fun _ z => z⟩ (k36_says tab (by decide) ns)
end LawK36
open PySem PySem.W PySem.Calls PyProof.Rows
theorem PySem.Challenge.cw_loaders_k36_whole_common_holds : PySem.Challenge.rw_loaders_k36_whole_common.Holds := by
  w_on; o_law
  refine HandSHeadRun.head_any (r := OpenLaw.row PySem.Challenge.rw_loaders_k36_whole_common) (q := view (OpenLaw.row PySem.Challenge.rw_loaders_k36_whole_common).prog [43]) (H := LawK36.hk) (ob := LawK36.ob) (M := 6000) (loose := LawK36.loose) (d := HandSHeadRun.topDef (OpenLaw.row PySem.Challenge.rw_loaders_k36_whole_common).prog 43) (kwd := []) LawK36.obEq
    (by kernel_rfl) (fun s => by kernel_rfl) LawK36.run (by kernel_rfl) (by kernel_rfl) (by kernel_rfl) (by rfl) (by first | assumption | decide +kernel) (by decide +kernel) ⟨rfl, rfl, rfl, rfl, rfl, by decide +kernel⟩ ?hw ?hc
  case hw => w_witness2
  case hc =>
    have en : (HandSHeadRun.topDef (OpenLaw.row PySem.Challenge.rw_loaders_k36_whole_common).prog 43).name = ("law" : PySem.Str) := by kernel_rfl
    refine IP.law_end (l := PySem.Challenge.rw_loaders_k36_whole_common) (n := 63) (k := 31) (Wf := 1000000) (x := "_law_script") (es := LawK36.es) (gl := LawK36.gl) (e := LawK36.e_law_k36) rfl (by decide) (by kernel_rfl) ⟨rfl, by decide, by decide⟩ (by kernel_rfl) LawK36.es_ok (by rw [en]; kernel_rfl) rfl rfl ?_
    rw [en]
    exact LawK36.says
