import PyProof.Rows.All
import Wide.All
import OpenK.AllK
import Wide.FinOn
import KE.KStateDown
import Lean
import PySem.Challenge.RW_flatsum_k23_pair_sums_by_their_definitio
import PyProof.ReprReads
import HandS.Base
import HandS.List
import HandS.Call
import HandS.Exc
import HandS.Wide
import HandS.TupAny
import HandS.TupMul
import HandS.Style
import HandS.Deep
import HandS.NoneIn
import HandS.Iter
import HandS.Comp
import HandS.Dict
import HandS.Small
import HandS.Flow
import HandS.TupSets
import HandS.SortOrd
import HandS.SetFor
import HandS.Set
import HandS.TupLen
import HandS.IsInst
import HandS.Text
import HandS.SortInts
import HandS.Conv
import HandS.WordsDict
import PyProof.ReprRoads
import PyProof.Rows.NestShow
import PyProof.FactsAll.list_3
import PyProof.FactsAll.dict_3
import KE.GoesEnum
import HandS.DictComp
import HandS.HeadEnd
import HandS.Defaults
import HandS.More
import HandS.TryMany
import HandS.HeadHook2
import PyProof.StrLaws
import PyProof.Rows.RegStrFacts
import HandS.Head0
import HandS.Head1
import HandS.Head2
import HandS.HeadHook1
set_option Elab.async false
set_option linter.all false
set_option maxRecDepth 100000
set_option maxHeartbeats 0
/-! The little language: deep values, a store of cells, an evaluator. -/
namespace Fs
open PySem

/-- a key: one int or text, or a tuple of such -/
inductive Ky where
  | k (a : L2.Key) | t (as : List L2.Key)
  deriving DecidableEq

/-- deep values; lst, dic, set as a value: fresh and unshared; in the store: the cell's content -/
inductive D where
  | non | bl (b : Bool) | int (i : Int) | str (s : Str)
  | tup (xs : List D)
  | ref (l : Nat)
  | lst (xs : List D)
  | frl (xs : List D)
  | dic (kvs : List (Ky × D))
  | set (xs : List Int)
  | exc (c : Nat) (fs : List D)
  | lam (f : Nat) (cs : List D)
  deriving Inhabited

abbrev Env := List (Option D)
abbrev Sto := List D

mutual
def D.eqb : D → D → Bool
  | .non, .non => true
  | .bl a, .bl b => a == b
  | .int a, .int b => decide (a = b)
  | .str a, .str b => decide (a = b)
  | .tup xs, .tup ys => D.eqbs xs ys
  | .ref a, .ref b => decide (a = b)
  | .lst xs, .lst ys => D.eqbs xs ys
  | .frl xs, .frl ys => D.eqbs xs ys
  | .dic xs, .dic ys => D.eqbk xs ys
  | .set xs, .set ys => decide (xs = ys)
  | .exc c xs, .exc d ys => decide (c = d) && D.eqbs xs ys
  | .lam a xs, .lam b ys => decide (a = b) && D.eqbs xs ys
  | _, _ => false
def D.eqbs : List D → List D → Bool
  | [], [] => true
  | x :: xs, y :: ys => D.eqb x y && D.eqbs xs ys
  | _, _ => false
def D.eqbk : List (Ky × D) → List (Ky × D) → Bool
  | [], [] => true
  | (k, x) :: xs, (j, y) :: ys => decide (k = j) && (D.eqb x y && D.eqbk xs ys)
  | _, _ => false
end
mutual
theorem D.eqb_of : ∀ {a b : D}, D.eqb a b = true → a = b := by
  intro a b h
  cases a <;> cases b <;> simp only [D.eqb, Bool.and_eq_true, decide_eq_true_eq, beq_iff_eq, reduceCtorEq, Bool.false_eq_true] at h <;> first
    | rfl
    | exact congrArg _ h
    | exact congrArg _ (D.eqbs_of h)
    | exact congrArg _ (D.eqbk_of h)
    | (obtain ⟨h1, h2⟩ := h; rw [h1, D.eqbs_of h2])
theorem D.eqbs_of : ∀ {a b : List D}, D.eqbs a b = true → a = b := by
  intro a b h
  cases a <;> cases b <;> simp only [D.eqbs, Bool.and_eq_true, reduceCtorEq, Bool.false_eq_true] at h
  · rfl
  · rw [D.eqb_of h.1, D.eqbs_of h.2]
theorem D.eqbk_of : ∀ {a b : List (Ky × D)}, D.eqbk a b = true → a = b := by
  intro a b h
  cases a with
  | nil => cases b with
    | nil => rfl
    | cons q _ => obtain ⟨_, _⟩ := q; simp [D.eqbk] at h
  | cons p r => cases b with
    | nil => obtain ⟨_, _⟩ := p; simp [D.eqbk] at h
    | cons q s =>
      obtain ⟨k, x⟩ := p
      obtain ⟨j, y⟩ := q
      simp only [D.eqbk, Bool.and_eq_true, decide_eq_true_eq] at h
      rw [h.1, D.eqb_of h.2.1, D.eqbk_of h.2.2]
end
mutual
theorem D.eqb_self : ∀ a : D, D.eqb a a = true
  | .non => rfl
  | .bl b => by simp [D.eqb]
  | .int i => by simp [D.eqb]
  | .str s => by simp [D.eqb]
  | .tup xs => by simp only [D.eqb]; exact D.eqbs_self xs
  | .ref l => by simp [D.eqb]
  | .lst xs => by simp only [D.eqb]; exact D.eqbs_self xs
  | .frl xs => by simp only [D.eqb]; exact D.eqbs_self xs
  | .dic xs => by simp only [D.eqb]; exact D.eqbk_self xs
  | .set xs => by simp [D.eqb]
  | .exc c xs => by simp only [D.eqb, decide_true, Bool.true_and]; exact D.eqbs_self xs
  | .lam c xs => by simp only [D.eqb, decide_true, Bool.true_and]; exact D.eqbs_self xs
theorem D.eqbs_self : ∀ a : List D, D.eqbs a a = true
  | [] => rfl
  | x :: xs => by simp only [D.eqbs, D.eqb_self x, D.eqbs_self xs, Bool.and_self]
theorem D.eqbk_self : ∀ a : List (Ky × D), D.eqbk a a = true
  | [] => rfl
  | (k, x) :: xs => by simp only [D.eqbk, decide_true, D.eqb_self x, D.eqbk_self xs, Bool.and_self]
end
instance : DecidableEq D := fun a b => if h : D.eqb a b = true then .isTrue (D.eqb_of h) else .isFalse fun e => h (e ▸ D.eqb_self a)
end Fs
namespace Fs
open PySem

inductive R (α : Type) where
  | ok (a : α) (s : Sto) | exc (e : D) (s : Sto) | bad
abbrev M (α : Type) := Sto → R α
def bnd {α β : Type} (m : M α) (f : α → M β) : M β := fun s => match m s with
  | .ok a s' => f a s'
  | .exc e s' => .exc e s'
  | .bad => .bad
def ret {α : Type} (a : α) : M α := fun s => .ok a s
def bad {α : Type} : M α := fun _ => .bad
def opt {α β : Type} (o : Option α) (f : α → M β) : M β := match o with
  | some a => f a
  | none => bad
def gd {α : Type} (b : Bool) (m : M α) : M α := match b with
  | true => m
  | false => bad
/-- nothing is to be raised -/
def noX {α : Type} (m : M α) : M α := fun s => match m s with
  | .ok a s' => .ok a s'
  | _ => .bad

/-! ### landing, purity, reading back -/
mutual
/-- nothing fresh within -/
def D.pur : D → Bool
  | .non | .bl _ | .int _ | .str _ | .ref _ => true
  | .tup xs => D.purs xs
  | .exc _ xs => D.purs xs
  | .lam _ xs => D.purs xs
  | _ => false
def D.purs : List D → Bool
  | [] => true
  | x :: xs => D.pur x && D.purs xs
end
mutual
def land : D → Sto → D × Sto
  | .tup xs, st => let r := lands xs st; (.tup r.1, r.2)
  | .lst xs, st => let r := lands xs st; (.ref r.2.length, r.2 ++ [.lst r.1])
  | .frl xs, st => let r := lands xs st; (.ref r.2.length, r.2 ++ [.frl r.1])
  | .dic kvs, st => let r := landk kvs st; (.ref r.2.length, r.2 ++ [.dic r.1])
  | .set xs, st => (.ref st.length, st ++ [.set xs])
  | d, st => (d, st)
def lands : List D → Sto → List D × Sto
  | [], st => ([], st)
  | x :: xs, st => let r := land x st; let q := lands xs r.2; (r.1 :: q.1, q.2)
def landk : List (Ky × D) → Sto → List (Ky × D) × Sto
  | [], st => ([], st)
  | (k, x) :: xs, st => let r := land x st; let q := landk xs r.2; ((k, r.1) :: q.1, q.2)
end
def landM (d : D) : M D := fun st => let r := land d st; .ok r.1 r.2
mutual
/-- all references stand below b, nothing fresh -/
def D.cls (b : Nat) : D → Bool
  | .non | .bl _ | .int _ | .str _ => true
  | .ref l => decide (l < b)
  | .tup xs => D.clss b xs
  | .exc _ xs => D.clss b xs
  | .lam _ xs => D.clss b xs
  | _ => false
def D.clss (b : Nat) : List D → Bool
  | [] => true
  | x :: xs => D.cls b x && D.clss b xs
def D.clsk (b : Nat) : List (Ky × D) → Bool
  | [] => true
  | (_, x) :: xs => D.cls b x && D.clsk b xs
end
/-- a cell whose references stand below b -/
def cellCl (b : Nat) : D → Bool
  | .lst xs => D.clss b xs
  | .frl xs => D.clss b xs
  | .dic kvs => D.clsk b kvs
  | .set _ => true
  | _ => false
mutual
/-- read a value back: references from b on become the fresh things that stand there; each at most once -/
def rbD (g : Nat → List Nat → Option (D × List Nat)) (b : Nat) : D → List Nat → Option (D × List Nat)
  | .ref l, vis => match decide (l < b) with
    | true => some (.ref l, vis)
    | false => g l vis
  | .tup xs, vis => (rbDs g b xs vis).map fun r => (.tup r.1, r.2)
  | .non, vis => some (.non, vis)
  | .bl c, vis => some (.bl c, vis)
  | .int i, vis => some (.int i, vis)
  | .str s, vis => some (.str s, vis)
  | .lst xs, vis => (rbDs g b xs vis).map fun r => (.lst r.1, r.2)
  | .dic xs, vis => (rbDk g b xs vis).map fun r => (.dic r.1, r.2)
  | .set xs, vis => some (.set xs, vis)
  | .exc c xs, vis => match D.clss b xs with
    | true => some (.exc c xs, vis)
    | false => none
  | .lam c xs, vis => match D.clss b xs with
    | true => some (.lam c xs, vis)
    | false => none
  | .frl _, _ => none
def rbDs (g : Nat → List Nat → Option (D × List Nat)) (b : Nat) : List D → List Nat → Option (List D × List Nat)
  | [], vis => some ([], vis)
  | x :: xs, vis => (rbD g b x vis).bind fun r => (rbDs g b xs r.2).map fun q => (r.1 :: q.1, q.2)
def rbDk (g : Nat → List Nat → Option (D × List Nat)) (b : Nat) : List (Ky × D) → List Nat → Option (List (Ky × D) × List Nat)
  | [], vis => some ([], vis)
  | (k, x) :: xs, vis => (rbD g b x vis).bind fun r => (rbDk g b xs r.2).map fun q => ((k, r.1) :: q.1, q.2)
end
def rbC (st : Sto) (b : Nat) : Nat → Nat → List Nat → Option (D × List Nat)
  | 0, _, _ => none
  | n + 1, l, vis => match vis.contains l with
    | true => none
    | false => match st[l]? with
      | some (.lst xs) => rbD (rbC st b n) b (.lst xs) (l :: vis)
      | some (.dic xs) => rbD (rbC st b n) b (.dic xs) (l :: vis)
      | some (.set xs) => some (.set xs, l :: vis)
      | _ => none
def rback (st : Sto) (b : Nat) (d : D) : Option D := (rbD (rbC st b 8) b d []).map (·.1)
/-- the cells that stood before are as they were, or closed -/
def okPre : Sto → Sto → Nat → Bool
  | [], _, _ => true
  | c :: cs, c' :: cs', b => (decide (c = c') || cellCl b c') && okPre cs cs' b
  | _ :: _, [], _ => false
/-- a def is left: what it made and nobody holds is dropped, what it hands back is read back -/
def leaveD (st0 : Sto) (r : R D) : R D := match r with
  | .ok d st2 => match okPre st0 st2 st0.length, rback st2 st0.length d with
    | true, some d' => .ok d' (st2.take st0.length)
    | _, _ => .ok d st2
  | .exc e st2 => match okPre st0 st2 st0.length && D.cls st0.length e with
    | true => .exc e (st2.take st0.length)
    | false => .exc e st2
  | .bad => .bad

/-! ### values -/
def seqv (st : Sto) : D → Option (List D)
  | .tup xs => some xs
  | .lst xs => some xs
  | .ref l => match st[l]? with
    | some (.lst xs) => some xs
    | some (.frl xs) => some xs
    | _ => none
  | _ => none
def lstv (st : Sto) : D → Option (List D)
  | .lst xs => some xs
  | .ref l => match st[l]? with
    | some (.lst xs) => some xs
    | _ => none
  | _ => none
def dicv (st : Sto) : D → Option (List (Ky × D))
  | .dic xs => some xs
  | .ref l => match st[l]? with
    | some (.dic xs) => some xs
    | _ => none
  | _ => none
def setv (st : Sto) : D → Option (List Int)
  | .set xs => some xs
  | .ref l => match st[l]? with
    | some (.set xs) => some xs
    | _ => none
  | _ => none
def optL {α β : Type} (f : α → Option β) : List α → Option (List β)
  | [] => some []
  | x :: xs => match f x with
    | some y => (match optL f xs with
      | some ys => some (y :: ys)
      | none => none)
    | none => none
/-- as data; dz: whether {} counts -/
def toP (dz : Bool) (st : Sto) : Nat → D → Option PyData
  | 0, _ => none
  | n + 1, d => match d with
    | .non => some .none
    | .bl b => some (.bool b)
    | .int i => some (.int i)
    | .str s => some (.str s)
    | .tup xs => (optL (toP dz st n) xs).map .tuple
    | .lst xs => (optL (toP dz st n) xs).map .list
    | .frl xs => (optL (toP dz st n) xs).map .list
    | .ref l => (match st[l]? with
      | some (.lst xs) => (optL (toP dz st n) xs).map .list
      | some (.frl xs) => (optL (toP dz st n) xs).map .list
      | some (.dic []) => if dz then some (.dict []) else none
      | _ => none)
    | .dic [] => if dz then some (.dict []) else none
    | _ => none
/-- flat values, and their == -/
def flatD : D → Bool
  | .non | .bl _ | .int _ | .str _ => true
  | _ => false
def eqF : D → D → Bool
  | .non, .non => true
  | .bl a, .bl b => a == b
  | .bl a, .int b => (if a then 1 else 0) == b
  | .int a, .bl b => a == (if b then 1 else 0)
  | .int a, .int b => a == b
  | .str a, .str b => a == b
  | _, _ => false
def intv : D → Option Int
  | .int i => some i
  | _ => none
def blv : D → Option Bool
  | .bl b => some b
  | _ => none
def strv : D → Option Str
  | .str s => some s
  | _ => none
def keyA : D → Option L2.Key
  | .int i => some (.inl i)
  | .str s => some (.inr s)
  | _ => none
def keyOf : D → Option Ky
  | .int i => some (.k (.inl i))
  | .str s => some (.k (.inr s))
  | _ => none
def dget (k : Ky) : List (Ky × D) → Option D
  | [] => none
  | (j, v) :: r => if j = k then some v else dget k r
def dput (k : Ky) (v : D) : List (Ky × D) → List (Ky × D)
  | [] => [(k, v)]
  | (j, x) :: r => if j = k then (j, v) :: r else (j, x) :: dput k v r
def ddel (k : Ky) : List (Ky × D) → List (Ky × D)
  | [] => []
  | (j, x) :: r => if j = k then r else (j, x) :: ddel k r
/-- one kind of keys -/
def kyK : Ky → Bool
  | .k _ => true
  | .t _ => false
def okKeys (k : Ky) (kvs : List (Ky × D)) : Bool := kvs.all fun p => kyK p.1 == kyK k
def truth (st : Sto) : D → Option Bool
  | .non => some false
  | .bl b => some b
  | .int i => some (i != 0)
  | .str s => if s.length ≤ sizeLine then some ((s.length : Int) != 0) else none
  | .tup xs => some (!xs.isEmpty)
  | .lst xs => some (!xs.isEmpty)
  | .ref l => match st[l]? with
    | some (.lst xs) => some (!xs.isEmpty)
    | some (.frl xs) => some (!xs.isEmpty)
    | _ => none
  | _ => none

inductive Bop where
  | add | sub | mul | fdiv | mod | pow | shl | shr | band | bxor
  deriving DecidableEq
inductive Cop where
  | eq | ne | lt | le | gt | ge | isN | ntN | inn | nin
  deriving DecidableEq
def intOp (op : Bop) (i j : Int) : Option Int := match op with
  | .add => some (i + j)
  | .sub => some (i - j)
  | .mul => if i.natAbs.log2 + j.natAbs.log2 < 1000000 then some (i * j) else none
  | .fdiv => if j ≠ 0 ∧ j.natAbs.log2 < 9000 then some (i.fdiv j) else none
  | .mod => if j ≠ 0 then some (i.fmod j) else none
  | .pow => if 0 ≤ j ∧ j ≤ 1000000 ∧ i.natAbs < 2 ^ 64 then some (i ^ j.toNat) else none
  | .shl => if 0 ≤ j ∧ j ≤ 1000000 ∧ i.natAbs < 2 ^ 64 then some (i * 2 ^ j.toNat) else none
  | .shr => if 0 ≤ j then some (i / 2 ^ j.toNat) else none
  | .band => some (Builtin.bitAnd i j)
  | .bxor => some (Builtin.bitXor i j)
def rep (k : Nat) (xs : List D) : List D := (List.replicate k xs).flatten
def binD (op : Bop) (a b : D) : M D := fun st => match a, b with
  | .int i, .int j => (match intOp op i j with
    | some r => .ok (.int r) st
    | none => .bad)
  | .str x, .str y => (match op with
    | .add => if x.length + y.length ≤ sizeLine then .ok (.str (x ++ y)) st else .bad
    | _ => .bad)
  | .tup xs, .tup ys => (match op with
    | .add => if xs.length + ys.length ≤ sizeLine then .ok (.tup (xs ++ ys)) st else .bad
    | _ => .bad)
  | .tup xs, .int k => (match op with
    | .mul => if D.purs xs = true ∧ xs.isEmpty = false ∧ 2 ≤ k ∧ k ≤ 1000 ∧ xs.length ≤ 1000 then .ok (.tup (rep k.toNat xs)) st else .bad
    | _ => .bad)
  | a, .int k => (match op, lstv st a with
    | .mul, some xs => if D.purs xs ∧ k < 2 ^ 63 ∧ -(2 ^ 63) ≤ k ∧ xs.length * k.toNat ≤ sizeLine then .ok (.lst (rep k.toNat xs)) st else .bad
    | _, _ => .bad)
  | a, b => (match op, lstv st a, lstv st b with
    | .add, some xs, some ys => if xs.length + ys.length ≤ sizeLine then .ok (.lst (xs ++ ys)) st else .bad
    | _, _, _ => .bad)
def isDic (st : Sto) : D → Bool
  | .dic _ => true
  | .ref l => match st[l]? with
    | some (.dic _) => true
    | _ => false
  | _ => false
def eqD (st : Sto) (a b : D) : Option Bool := match toP false st 66 a, toP false st 66 b with
  | some p, some q => if SeqAt.shaped p ∧ SeqAt.shaped q then some (PyData.eqv p q) else none
  | _, _ => none
def inD (st : Sto) (x y : D) : Option Bool := match y with
  | .str s => (match x with
    | .str t => some (!(Builtin.Str.occurrences s t 0 s.length 1).isEmpty)
    | _ => none)
  | y => match dicv st y with
    | some kvs => (match keyOf x with
      | some k => if okKeys k kvs then some (dget k kvs).isSome else none
      | none => none)
    | none => match y with
      | .tup ys => if flatD x ∧ ys.all flatD then some (ys.any fun z => eqF z x) else none
      | y => match seqv st y with
        | some ys => (match toP false st 66 x, optL (toP false st 65) ys with
          | some p, some qs => if SeqAt.shaped p ∧ SeqAt.shaped (.list qs) then some (qs.any fun z => PyData.eqv z p) else none
          | _, _ => none)
        | none => none
def cmpI (op : Cop) (i j : Int) : Option Bool := match op with
  | .lt => some (decide (i < j))
  | .le => some (decide (i ≤ j))
  | .gt => some (decide (j < i))
  | .ge => some (decide (j ≤ i))
  | _ => none
def isNon : D → Bool
  | .non => true
  | _ => false
/-- a is b, b None or a bool -/
def isD (a b : D) : Option Bool := match b with
  | .non => some (isNon a)
  | .bl c => (match a with
    | .bl d => some (d == c)
    | _ => none)
  | _ => none
def cmpD (op : Cop) (a b : D) (st : Sto) : Option Bool := match op with
  | .eq => eqD st a b
  | .ne => (eqD st a b).map (!·)
  | .isN => isD a b
  | .ntN => (isD a b).map (!·)
  | .inn => inD st a b
  | .nin => (inD st a b).map (!·)
  | op => match a, b with
    | .int i, .int j => cmpI op i j
    | _, _ => none

/-! ### built-ins -/
inductive Bi where
  | ssort | slen | suml | len | abs | min2 | max2 | min1 | max1 | sum | all | any | tuple | list | sorted | set | int | str | repr | dict
  | isT (t : String) | isC (cs : List Nat) | lrng | trng
  deriving DecidableEq
inductive Me where
  | append | pop | popi | extend | insert | index | count | get | setdefault | update | values | split | join | partition | replace | replace3 | bitlen
  deriving DecidableEq
def insI (i : Int) : List Int → List Int
  | [] => [i]
  | j :: r => if j ≤ i then j :: insI i r else i :: j :: r
def sortI : List Int → List Int
  | [] => []
  | i :: r => insI i (sortI r)
def lexL : List Int → List Int → Bool
  | [], [] => false
  | [], _ :: _ => true
  | _ :: _, [] => false
  | x :: xs, y :: ys => if x = y then lexL xs ys else decide (x < y)
def insL (i : List Int) : List (List Int) → List (List Int)
  | [] => [i]
  | j :: r => if lexL i j then i :: j :: r else j :: insL i r
def sortL : List (List Int) → List (List Int)
  | [] => []
  | i :: r => insL i (sortL r)
def tupI : D → Option (List Int)
  | .tup xs => optL intv xs
  | _ => none
def sortD (xs : List D) : Option (List D) := match optL intv xs with
  | some ns => some ((sortI ns).map .int)
  | none => match optL tupI xs with
    | some ls => some ((sortL ls).map fun l => .tup (l.map .int))
    | none => none
def dedI : List Int → List Int
  | [] => []
  | i :: r => if (dedI r).contains i then dedI r else i :: dedI r
def mn (xs : List Int) : Option Int := match xs with
  | [] => none
  | x :: r => some (r.foldl (fun a b => if b < a then b else a) x)
def mx (xs : List Int) : Option Int := match xs with
  | [] => none
  | x :: r => some (r.foldl (fun a b => if b > a then b else a) x)
def rngN (a c : Int) (n : Nat) : List D := (List.range n).map fun (i : Nat) => D.int (a + (i : Int) * c)
def rngL (ds : List D) : Option (List D) := match ds with
  | [.int b] => if -(2 ^ 62) ≤ b ∧ b < 2 ^ 62 then some (rngN 0 1 b.toNat) else none
  | [.int a, .int b] => if -(2 ^ 62) ≤ a ∧ a < 2 ^ 62 ∧ -(2 ^ 62) ≤ b ∧ b < 2 ^ 62 then some (rngN a 1 (b - a).toNat) else none
  | [.int a, .int b, .int c] => if c ≠ 0 ∧ c.natAbs < 1073741824 ∧ Builtin.Range.small a b c = true then some (rngN a c (Builtin.Range.rangeSize a b c).toNat) else none
  | _ => none
def rgOk (a b : Int) : Bool := decide (-(2 ^ 62) ≤ a ∧ a < 2 ^ 62 ∧ -(2 ^ 62) ≤ b ∧ b < 2 ^ 62 ∧ (b - a).toNat ≤ 2 ^ 24)
def isTy (st : Sto) (t : String) : D → Option Bool
  | .non => some false
  | .bl _ => some (t == "bool" || t == "int")
  | .int _ => some (t == "int")
  | .str _ => some (t == "str")
  | .tup _ => some (t == "tuple")
  | .lst _ => some (t == "list")
  | .dic _ => some (t == "dict")
  | .ref l => match st[l]? with
    | some (.lst _) => some (t == "list")
    | some (.frl _) => some (t == "list")
    | some (.dic _) => some (t == "dict")
    | _ => none
  | _ => none
structure Tbl where
  fn : Nat → List D → M D
  fld : Nat → Option Str
  anc : Nat → Nat → Bool
def keyI : Ky × D → Option Int
  | (.k (.inl i), _) => some i
  | _ => none
def pairv : D → Option (Ky × D)
  | .tup [k, v] => (keyOf k).map fun q => (q, v)
  | _ => none
def okInt (i : Int) : Bool := decide (i.natAbs.log2 < 1920)
/-- one argument -/
def b1 (f : D → M D) : List D → M D
  | [d] => f d
  | _ => bad
def b2 (f : D → D → M D) : List D → M D
  | [d, e] => f d e
  | _ => bad
def fLen (d : D) : M D := fun st => match d with
  | .str s => gd (decide (s.length ≤ sizeLine)) (ret (.int s.length)) st
  | d => match seqv st d with
    | some xs => .ok (.int xs.length) st
    | none => match dicv st d with
      | some kvs => .ok (.int kvs.length) st
      | none => .bad
def fAbs : D → M D
  | .int i => ret (.int (if i < 0 then -i else i))
  | _ => bad
def fMin2 : D → D → M D
  | .int i, .int j => ret (.int (if j < i then j else i))
  | _, _ => bad
def fMax2 : D → D → M D
  | .int i, .int j => ret (.int (if j > i then j else i))
  | _, _ => bad
/-- a list's ints -/
def lInt (st : Sto) (d : D) : Option (List Int) := match seqv st d with
  | some xs => (match d with
    | .tup _ => none
    | _ => optL intv xs)
  | none => none
def lBl (st : Sto) (d : D) : Option (List Bool) := match seqv st d with
  | some xs => (match d with
    | .tup _ => none
    | _ => optL blv xs)
  | none => none
def fMin1 (d : D) : M D := fun st => opt ((lInt st d).bind mn) (fun i => ret (.int i)) st
def fMax1 (d : D) : M D := fun st => opt ((lInt st d).bind mx) (fun i => ret (.int i)) st
def fSum (d : D) : M D := fun st => opt (lInt st d) (fun ns => ret (.int ns.sum)) st
def fAll (d : D) : M D := fun st => opt (lBl st d) (fun bs => ret (.bl (bs.all id))) st
def fAny (d : D) : M D := fun st => opt (lBl st d) (fun bs => ret (.bl (bs.any id))) st
def fTuple (d : D) : M D := fun st => opt (seqv st d) (fun xs => ret (.tup xs)) st
def fList (d : D) : M D := fun st => opt (seqv st d) (fun xs => ret (.lst xs)) st
/-- a dict's int keys -/
def dInts (st : Sto) (d : D) : Option (List Int) := match dicv st d with
  | some kvs => optL keyI kvs
  | none => none
def lTups (st : Sto) (d : D) : Option (List (List Int)) := match seqv st d with
  | some xs => (match d with
    | .tup _ => none
    | _ => optL tupI xs)
  | none => none
def fSorted (d : D) : M D := fun st => match lInt st d with
  | some ns => .ok (.lst ((sortI ns).map .int)) st
  | none => match lTups st d with
    | some ls => gd (ls.all fun l => !l.isEmpty) (ret (.lst ((sortL ls).map fun l => .tup (l.map .int)))) st
    | none => .bad
def fSsort (d : D) : M D := fun st => opt (lInt st d) (fun ns => gd (decide (ns.length < 64)) (ret (.lst ((sortI (dedI ns)).map .int)))) st
def fSlen (d : D) : M D := fun st => opt (lInt st d) (fun ns => gd (decide (ns.length < 64)) (ret (.int (dedI ns).length))) st
def fSuml : D → D → M D
  | d, .lst [] => fun st => opt ((lstv st d).bind (optL (lstv st))) (fun xss => gd (decide (xss.flatten.length ≤ sizeLine)) (ret (.lst xss.flatten))) st
  | _, _ => bad
def fDict (d : D) : M D := fun st => opt ((lstv st d).bind (optL pairv)) (fun kvs => gd (kvs.all fun p => D.pur p.2) (ret (.dic (kvs.foldl (fun a p => dput p.1 p.2 a) [])))) st
def fInt : D → M D
  | .bl c => ret (.int (if c then 1 else 0))
  | .int i => ret (.int i)
  | .str s => opt (PySem.intText? s) fun n => gd (decide (s.length ≤ 640)) (ret (.int n))
  | _ => bad
def fStr : D → M D
  | .int i => gd (okInt i) (ret (.str (toString i)))
  | .str s => ret (.str s)
  | _ => bad
def fRepr (d : D) : M D := fun st => opt (toP false st 60 d) (fun p => gd (decide (p.showable = true ∧ p.shown.length ≤ sizeLine ∧ p.depth ≤ 60 ∧ p.hasDict = false)) (ret (.str p.shown))) st
def fIsT (t : String) (d : D) : M D := fun st => opt (isTy st t d) (fun c => ret (.bl c)) st
def fIsC (T : Tbl) (cs : List Nat) : D → M D
  | .exc c _ => ret (.bl (cs.any fun k => T.anc c k))
  | .non => ret (.bl false)
  | _ => bad
def fLrng : List D → M D
  | [.int b] => gd (rgOk 0 b) (ret (.lst (rngN 0 1 b.toNat)))
  | [.int a, .int b] => gd (rgOk a b) (ret (.lst (rngN a 1 (b - a).toNat)))
  | _ => bad
def fTrng : List D → M D
  | [.int b] => gd (rgOk 0 b) (ret (.tup (rngN 0 1 b.toNat)))
  | [.int a, .int b] => gd (rgOk a b) (ret (.tup (rngN a 1 (b - a).toNat)))
  | _ => bad
def biD (T : Tbl) (b : Bi) (ds : List D) : M D := match b with
  | .len => b1 fLen ds
  | .abs => b1 fAbs ds
  | .min2 => b2 fMin2 ds
  | .max2 => b2 fMax2 ds
  | .min1 => b1 fMin1 ds
  | .max1 => b1 fMax1 ds
  | .sum => b1 fSum ds
  | .all => b1 fAll ds
  | .any => b1 fAny ds
  | .tuple => b1 fTuple ds
  | .list => b1 fList ds
  | .sorted => b1 fSorted ds
  | .ssort => b1 fSsort ds
  | .slen => b1 fSlen ds
  | .suml => b2 fSuml ds
  | .dict => b1 fDict ds
  | .set => bad
  | .int => b1 fInt ds
  | .str => b1 fStr ds
  | .repr => b1 fRepr ds
  | .isT t => b1 (fIsT t) ds
  | .isC cs => b1 (fIsC T cs) ds
  | .lrng => fLrng ds
  | .trng => fTrng ds
def upC (l : Nat) (c : D) (d : D) : M D := fun st => .ok d (st.set l c)
/-- what kind of thing: a method's receiver stays of its kind -/
def kndD (st : Sto) : D → Nat
  | .str _ => 1
  | .int _ => 2
  | .tup _ => 3
  | .lst _ => 4
  | .dic _ => 5
  | .ref l => match st[l]? with
    | some (.lst _) => 4
    | some (.frl _) => 4
    | some (.dic _) => 5
    | _ => 0
  | _ => 0
/-- the kinds that have the method -/
def meK : Me → Nat → Bool
  | .append, k | .pop, k | .extend, k | .insert, k | .index, k | .count, k => k == 4
  | .popi, k => k == 4 || k == 5
  | .get, k | .setdefault, k | .update, k | .values, k => k == 5
  | .bitlen, k => k == 2
  | _, _ => false
def lcell (st : Sto) (f : Nat → List D → M D) : D → M D
  | .ref l => match st[l]? with
    | some (.lst xs) => f l xs
    | _ => bad
  | _ => bad
def dcell (st : Sto) (f : Nat → List (Ky × D) → M D) : D → M D
  | .ref l => match st[l]? with
    | some (.dic xs) => f l xs
    | _ => bad
  | _ => bad
def mAppend (o d : D) : M D := fun st => lcell st (fun l xs => gd (decide (xs.length < sizeLine)) fun st => let r := land d st; .ok .non (r.2.set l (.lst (xs ++ [r.1])))) o st
def mPop (o : D) : M D := fun st => lcell st (fun l xs => opt xs[xs.length - 1]? fun y => fun st => .ok y (st.set l (.lst xs.dropLast))) o st
def mPopi (o k : D) : M D := fun st => lcell st (fun l xs => opt (intv k) fun i => gd (decide (-(2 ^ 63) ≤ i ∧ i < 2 ^ 63)) (opt (PySem.seqIndex? i xs.length) fun j => opt xs[j]? fun y => fun st => .ok y (st.set l (.lst (xs.eraseIdx j))))) o st
def mDpop (o k : D) : M D := fun st => dcell st (fun l kvs => opt (keyOf k) fun q => gd (okKeys q kvs) (opt (dget q kvs) fun y => fun st => .ok y (st.set l (.dic (ddel q kvs))))) o st
def mExtend (o d : D) : M D := fun st => lcell st (fun l xs => opt (lstv st d) fun ys => gd (decide (xs.length + ys.length ≤ sizeLine)) fun st => let r := lands ys st; .ok .non (r.2.set l (.lst (xs ++ r.1)))) o st
def mInsert (o i d : D) : M D := fun st => lcell st (fun l xs => opt (intv i) fun i => gd (decide (0 ≤ i ∧ i < 2 ^ 62 ∧ xs.length < sizeLine)) fun st => let r := land d st; .ok .non (r.2.set l (.lst (xs.take i.toNat ++ r.1 :: xs.drop i.toNat)))) o st
/-- the items as data -/
def dats (st : Sto) (o : D) : Option (List PyData) := match seqv st o with
  | some ys => optL (toP false st 65) ys
  | none => none
def mIndex (o d : D) : M D := fun st => opt (dats st o) (fun qs => opt (toP false st 66 d) fun p => gd (decide (SeqAt.shaped p = true ∧ SeqAt.shaped (.list qs) = true)) (opt (qs.findIdx? fun z => PyData.eqv z p) fun j => ret (.int (j : Nat)))) st
def mCount (o d : D) : M D := fun st => opt (dats st o) (fun qs => opt (toP false st 66 d) fun p => gd (decide (SeqAt.shaped p = true ∧ SeqAt.shaped (.list qs) = true)) (ret (.int (qs.countP fun z => PyData.eqv z p : Nat)))) st
def mGet (o k d : D) : M D := fun st => opt (dicv st o) (fun kvs => opt (keyOf k) fun q => gd (okKeys q kvs) (ret ((dget q kvs).getD d))) st
def mSetd (o k d : D) : M D := fun st => dcell st (fun l kvs => opt (keyOf k) fun q => gd (okKeys q kvs && decide (kvs.length < sizeLine)) (match dget q kvs with
  | some y => ret y
  | none => fun st => let r := land d st; .ok r.1 (r.2.set l (.dic (kvs ++ [(q, r.1)]))))) o st
def mUpdate (o d : D) : M D := fun st => dcell st (fun l kvs => opt (dicv st d) fun ys => gd (!ys.isEmpty && ys.all (fun p => D.pur p.2 && (kyK p.1 && okKeys p.1 kvs)) && decide (kvs.length + ys.length ≤ sizeLine)) fun st => .ok .non (st.set l (.dic (ys.foldl (fun a p => dput p.1 p.2 a) kvs)))) o st
def mValues (o : D) : M D := fun st => opt (dicv st o) (fun kvs => ret (.lst (kvs.map (·.2)))) st
def mBitlen : D → M D
  | .int i => gd (decide (0 ≤ i)) (ret (.int (if i = 0 then 0 else i.natAbs.log2 + 1)))
  | _ => bad
def b0 (f : M D) : List D → M D
  | [] => f
  | _ => bad
def meD (m : Me) (o : D) (ds : List D) : M D := match m with
  | .append => b1 (mAppend o) ds
  | .pop => b0 (mPop o) ds
  | .popi => fun st => match kndD st o with
    | 5 => b1 (mDpop o) ds st
    | _ => b1 (mPopi o) ds st
  | .extend => b1 (mExtend o) ds
  | .insert => b2 (mInsert o) ds
  | .index => b1 (mIndex o) ds
  | .count => b1 (mCount o) ds
  | .get => b2 (mGet o) ds
  | .setdefault => b2 (mSetd o) ds
  | .update => b1 (mUpdate o) ds
  | .values => b0 (mValues o) ds
  | .bitlen => b0 (mBitlen o) ds
  | _ => bad
def getI (a i : D) : M D := fun st => match i with
  | .int k => (match a with
    | .str z => if z.length ≤ sizeLine then (match L2.atI z.cps.toList k with
      | some c => .ok (.str ⟨#[c]⟩) st
      | none => .bad) else .bad
    | a => match seqv st a with
      | some xs => (match L2.atI xs k with
        | some y => .ok y st
        | none => .bad)
      | none => match dicv st a with
        | some kvs => if okKeys (.k (.inl k)) kvs then (match dget (.k (.inl k)) kvs with
          | some y => .ok y st
          | none => .bad) else .bad
        | none => .bad)
  | i => match keyOf i, dicv st a with
    | some q, some kvs => if okKeys q kvs then (match dget q kvs with
      | some y => .ok y st
      | none => .bad) else .bad
    | _, _ => .bad
/-- o[i] = d (d may be fresh) -/
def setI (o i d : D) : M Unit := fun st => match o with
  | .ref l => (match st[l]? with
    | some (.lst xs) => (match i with
      | .int k => (match L2.ixN xs.length k with
        | some j => (let r := land d st; .ok () (r.2.set l (.lst (xs.set j r.1))))
        | none => .bad)
      | _ => .bad)
    | some (.dic kvs) => (match keyOf i with
      | some q => if okKeys q kvs ∧ kvs.length < sizeLine then (let r := land d st; .ok () (r.2.set l (.dic (dput q r.1 kvs)))) else .bad
      | none => .bad)
    | _ => .bad)
  | _ => .bad
def cutD (xs : List D) (lo hi : Option Int) : List D := (xs.drop (HT.sIx xs.length 0 lo)).take (HT.sIx xs.length xs.length hi - HT.sIx xs.length 0 lo)
def slcD (a : D) (lo hi : Option Int) : M D := fun st => match a with
  | .tup xs => .ok (.tup (cutD xs lo hi)) st
  | a => match lstv st a with
    | some xs => .ok (.lst (cutD xs lo hi)) st
    | none => .bad
def revD (a : D) : M D := fun st => match lstv st a with
  | some xs => .ok (.lst xs.reverse) st
  | none => .bad
end Fs
namespace Fs
open PySem

mutual
inductive Ex where
  | loc (i : Nat)
  | con (d : D)
  | bin (op : Bop) (a b : Ex)
  | neg (a : Ex)
  | nt (a : Cn)
  | cmp (op : Cop) (a b : Ex)
  | chn (o1 o2 : Cop) (a b c : Ex)
  | and2 (a b : Ex)
  | or2 (a b : Ex)
  | ife (c : Cn) (a b : Ex)
  | tup (es : List Ex)
  | lst (es : List Ex)
  | dct (kvs : List Kv)
  | sub (a i : Ex)
  | slc (a : Ex) (lo hi : Option Ex)
  | rev (a : Ex)
  | call (f : Nat) (es : List Ex)
  | callp (f : Nat) (es : List Ex) (perm : List (Sum Nat D))
  | lamc (f : Nat) (cs : List Nat)
  | callv (e : Ex) (es : List Ex)
  | bi (b : Bi) (es : List Ex)
  | me (m : Me) (o : Ex) (es : List Ex)
  | attr (e : Ex) (f : Str)
  | mk (c : Nat) (es : List Ex)
  | lc (own : List Nat) (it : Ix) (tg : Tg) (ifs : List Cn) (e : Ex)
  | lc2 (own : List Nat) (it : Ix) (tg : Tg) (own2 : List Nat) (it2 : Ix) (tg2 : Tg) (e : Ex)
  | dc (own : List Nat) (it : Ix) (tg : Tg) (ifs : List Cn) (k v : Ex)
inductive Cn where
  | nt (a : Cn)
  | and2 (a b : Cn)
  | or2 (a b : Cn)
  | ife (c a b : Cn)
  | val (e : Ex)
inductive Kv where
  | mk (k v : Ex)
inductive Ix where
  | val (e : Ex)
  | rng (es : List Ex)
  | enum (s : Ex) (k : Int)
  | zip (strict : Bool) (es : List Ex)
  | keys (e : Ex)
  | vals (e : Ex)
  | items (e : Ex)
inductive Tg where
  | nm (i : Nat)
  | tup (ts : List Tg)
  | sub (o i : Ex)
  | attr (o : Ex) (f : Str)
end
inductive Sx where
  | asg (t : Tg) (e : Ex)
  | aug (i : Nat) (op : Bop) (e : Ex)
  | xpr (e : Ex)
  | ret (e : Ex)
  | ret0
  | iff (c : Cn) (a b : List Sx)
  | forr (it : Ix) (t : Tg) (b : List Sx)
  | whl (c : Cn) (b : List Sx)
  | brk | cnt | pas
  | rse (c : Nat) (es : List Ex)
  | tri (b : List Sx) (hs : List (List Nat × Option Nat × List Sx))

/-- what a walk draws from -/
inductive Src where
  | items (xs : List D)
  | cell (l : Nat)
inductive It where
  | one (s : Src) | enum (k : Int) (s : Src) | zip (strict : Bool) (ss : List Src)
def Src.at (s : Src) (i : Nat) (st : Sto) : Option (Option D) := match s with
  | .items xs => some xs[i]?
  | .cell l => match st[l]? with
    | some (.lst xs) => some xs[i]?
    | some (.frl xs) => some xs[i]?
    | _ => none
def Src.len (s : Src) (st : Sto) : Nat := match s with
  | .items xs => xs.length
  | .cell l => match st[l]? with
    | some (.lst xs) => xs.length
    | some (.frl xs) => xs.length
    | _ => 0
def allSome : List (Option D) → Option (List D)
  | [] => some []
  | none :: _ => none
  | some d :: r => match allSome r with
    | some ds => some (d :: ds)
    | none => none
/-- bad | the end | the next item -/
def It.next (t : It) (i : Nat) (st : Sto) : Option (Option D) := match t with
  | .one s => s.at i st
  | .enum k s => match s.at i st with
    | some (some d) => some (some (.tup [.int (k + (i : Nat)), d]))
    | some none => if s.len st = i then some none else none
    | none => none
  | .zip strict ss => match optL (fun s => Src.at s i st) ss with
    | some os => (match allSome os with
      | some ds => some (some (.tup ds))
      | none => if !strict || os.all (·.isNone) then some none else none)
    | none => none
def It.len (t : It) (st : Sto) : Nat := match t with
  | .one s => s.len st
  | .enum _ s => s.len st
  | .zip _ ss => match ss with
    | [] => 0
    | s :: _ => s.len st
def keysD (kvs : List (Ky × D)) : Option (List D) := optL (fun p => match p.1 with
  | .k (.inl i) => some (.int i)
  | .k (.inr s) => some (.str s)
  | .t as => some (.tup (as.map fun a => match a with
    | .inl i => .int i
    | .inr s => .str s))) kvs
def srcOf (d : D) : M Src := fun st => match d with
  | .tup xs => .ok (.items xs) st
  | .lst xs => .ok (.items xs) st
  | .ref l => (match st[l]? with
    | some (.lst _) => .ok (.cell l) st
    | some (.frl _) => .ok (.cell l) st
    | _ => .bad)
  | _ => .bad
def mapM' {α β : Type} (f : α → M β) : List α → M (List β)
  | [] => ret []
  | x :: xs => bnd (f x) fun y => bnd (mapM' f xs) fun ys => ret (y :: ys)
def wipe (σ : Env) (own : List Nat) : Env := own.foldr (fun i s => s.set i none) σ
/-- the loop of a comprehension: turns left, place, what is made so far -/
def lcLoop (it : It) (turn : D → Sto → R (Option D)) : Nat → Nat → List D → M (List D)
  | 0, _, _ => bad
  | n + 1, i, acc => fun st => match it.next i st with
    | none => .bad
    | some none => .ok acc st
    | some (some d) => match turn d st with
      | .ok (some y) st' => if acc.length < sizeLine then lcLoop it turn n (i + 1) (acc ++ [y]) st' else .bad
      | .ok none st' => lcLoop it turn n (i + 1) acc st'
      | _ => .bad
def andM (c : M Bool) (d : M Bool) : M Bool := bnd c fun b => match b with
  | true => d
  | false => ret false
/-- two loops in one comprehension -/
def lcLoop2 (it : It) (turn : D → List D → Sto → R (List D)) : Nat → Nat → List D → M (List D)
  | 0, _, _ => bad
  | n + 1, i, acc => fun st => match it.next i st with
    | none => .bad
    | some none => .ok acc st
    | some (some d) => match turn d acc st with
      | .ok acc' st' => lcLoop2 it turn n (i + 1) acc' st'
      | _ => .bad
def dcLoop (it : It) (turn : D → Sto → R (Option (Ky × D))) : Nat → Nat → List (Ky × D) → M (List (Ky × D))
  | 0, _, _ => bad
  | n + 1, i, acc => fun st => match it.next i st with
    | none => .bad
    | some none => .ok acc st
    | some (some d) => match turn d st with
      | .ok (some (k, y)) st' => if acc.length < sizeLine ∧ okKeys k acc = true ∧ D.pur y = true then dcLoop it turn n (i + 1) (dput k y acc) st' else .bad
      | .ok none st' => dcLoop it turn n (i + 1) acc st'
      | _ => .bad
def ofTup : D → Sto → Option (List D)
  | .tup xs, _ => some xs
  | .lst xs, _ => some xs
  | .ref l, st => match st[l]? with
    | some (.lst xs) => some xs
    | _ => none
  | _, _ => none
mutual
def ev (T : Tbl) : Ex → Env → M D
  | .loc i, σ => match σ[i]? with
    | some (some d) => ret d
    | _ => bad
  | .con d, _ => ret d
  | .bin op a b, σ => bnd (ev T a σ) fun x => bnd (ev T b σ) fun y => binD op x y
  | .neg a, σ => bnd (ev T a σ) fun x => opt (intv x) fun i => ret (.int (-i))
  | .nt a, σ => bnd (evT T a σ) fun c => ret (.bl (!c))
  | .cmp op a b, σ => bnd (ev T a σ) fun x => bnd (ev T b σ) fun y => fun st => opt (cmpD op x y st) (fun c => ret (.bl c)) st
  | .chn o1 o2 a b c, σ => bnd (ev T a σ) fun x => opt (intv x) fun i => bnd (ev T b σ) fun y => opt (intv y) fun j => opt (cmpI o1 i j) fun k => match k with
      | true => bnd (ev T c σ) fun z => opt (intv z) fun m => opt (cmpI o2 j m) fun r => ret (.bl r)
      | false => ret (.bl false)
  | .and2 a b, σ => bnd (ev T a σ) fun x => opt (blv x) fun c => match c with
    | true => ev T b σ
    | false => ret (.bl false)
  | .or2 a b, σ => bnd (ev T a σ) fun x => opt (blv x) fun c => match c with
    | true => ret (.bl true)
    | false => ev T b σ
  | .ife c a b, σ => bnd (evT T c σ) fun k => match k with
    | true => ev T a σ
    | false => ev T b σ
  | .tup es, σ => bnd (evs T es σ) fun ds => gd (decide (ds.length ≤ sizeLine)) (ret (.tup ds))
  | .lst es, σ => bnd (evs T es σ) fun ds => gd (decide (ds.length ≤ sizeLine)) (ret (.lst ds))
  | .dct kvs, σ => bnd (evkv T kvs σ) fun r => gd (match r with
    | [] => true
    | p :: _ => okKeys p.1 r && decide (r.length ≤ 15)) (ret (.dic (r.foldl (fun a p => dput p.1 p.2 a) [])))
  | .sub a i, σ => bnd (ev T a σ) fun x => bnd (ev T i σ) fun y => getI x y
  | .slc a lo hi, σ => bnd (ev T a σ) fun x => bnd (evo T lo σ) fun l => bnd (evo T hi σ) fun h => slcD x l h
  | .rev a, σ => bnd (ev T a σ) fun x => revD x
  | .call f es, σ => bnd (evs T es σ) fun ds => T.fn f ds
  | .callp f es perm, σ => bnd (evs T es σ) fun ds => opt (optL (fun p => match p with
      | .inl i => ds[i]?
      | .inr d => some d) perm) fun as => T.fn f as
  | .lamc f cs, σ => fun st => match optL (fun i => (σ[i]?).getD none) cs with
    | some ds => .ok (.lam f ds) st
    | none => .bad
  | .callv e es, σ => bnd (ev T e σ) fun x => bnd (evs T es σ) fun ds => match x with
    | .lam f cs => T.fn f (cs ++ ds)
    | _ => bad
  | .bi b es, σ => bnd (evs T es σ) fun ds => biD T b ds
  | .me m o es, σ => bnd (ev T o σ) fun x => fun st1 => gd (meK m (kndD st1 x)) (bnd (evs T es σ) fun ds => fun st2 => gd (kndD st1 x == kndD st2 x) (meD m x ds) st2) st1
  | .attr e f, σ => bnd (ev T e σ) fun x => match x with
    | .exc c [y] => gd (decide (T.fld c = some f)) (ret y)
    | _ => bad
  | .mk c es, σ => bnd (evs T es σ) fun ds => match T.fld c with
    | some _ => (match ds with
      | [d] => bnd (landM d) fun d' => ret (.exc c [d'])
      | _ => bad)
    | none => ret (.exc c [])
  | .lc own it tg ifs e, σ => bnd (evI T it σ) fun t => fun st =>
      bnd (lcLoop t (fun d => bnd (asgT T tg d (wipe σ own)) fun σ' => bnd (evTs T ifs σ') fun b => match b with
        | true => bnd (ev T e σ') fun y => ret (some y)
        | false => ret none) (t.len st + 1) 0 []) (fun ys => ret (.lst ys)) st
  | .lc2 own it tg own2 it2 tg2 e, σ => bnd (evI T it σ) fun t => fun st =>
      bnd (lcLoop2 t (fun d acc => bnd (asgT T tg d (wipe σ own)) fun σ' => bnd (evI T it2 σ') fun t2 => fun st2 =>
        lcLoop t2 (fun d2 => bnd (asgT T tg2 d2 (wipe σ' own2)) fun σ2 => bnd (ev T e σ2) fun y => ret (some y)) (t2.len st2 + 1) 0 acc st2) (t.len st + 1) 0 []) (fun ys => ret (.lst ys)) st
  | .dc own it tg ifs k v, σ => bnd (evI T it σ) fun t => fun st =>
      bnd (dcLoop t (fun d => bnd (asgT T tg d (wipe σ own)) fun σ' => bnd (evTs T ifs σ') fun b => match b with
        | true => bnd (ev T k σ') fun x => bnd (ev T v σ') fun y => opt (keyOf x) fun q => ret (some (q, y))
        | false => ret none) (t.len st + 1) 0 []) (fun ys => ret (.dic ys)) st
/-- a test -/
def evT (T : Tbl) : Cn → Env → M Bool
  | .nt a, σ => bnd (evT T a σ) fun c => ret (!c)
  | .and2 a b, σ => bnd (evT T a σ) fun c => match c with
    | true => evT T b σ
    | false => ret false
  | .or2 a b, σ => bnd (evT T a σ) fun c => match c with
    | true => ret true
    | false => evT T b σ
  | .ife c a b, σ => bnd (evT T c σ) fun k => match k with
    | true => evT T a σ
    | false => evT T b σ
  | .val e, σ => bnd (ev T e σ) fun x => fun st => opt (truth st x) ret st
def evs (T : Tbl) : List Ex → Env → M (List D)
  | [], _ => ret []
  | e :: es, σ => bnd (ev T e σ) fun x => bnd (evs T es σ) fun xs => ret (x :: xs)
def evTs (T : Tbl) : List Cn → Env → M Bool
  | [], _ => ret true
  | e :: es, σ => bnd (evT T e σ) fun c => match c with
    | true => evTs T es σ
    | false => ret false
def evo (T : Tbl) : Option Ex → Env → M (Option Int)
  | none, _ => ret none
  | some e, σ => bnd (ev T e σ) fun x => opt (intv x) fun i => ret (some i)
def evkv (T : Tbl) : List Kv → Env → M (List (Ky × D))
  | [], _ => ret []
  | .mk k v :: r, σ => bnd (ev T k σ) fun x => bnd (ev T v σ) fun y => opt (keyOf x) fun q => bnd (evkv T r σ) fun r => ret ((q, y) :: r)
def evI (T : Tbl) : Ix → Env → M It
  | .val e, σ => bnd (ev T e σ) fun x => bnd (srcOf x) fun s => ret (.one s)
  | .rng es, σ => bnd (evs T es σ) fun ds => opt (rngL ds) fun xs => ret (.one (.items xs))
  | .enum e k, σ => bnd (ev T e σ) fun x => bnd (srcOf x) fun s => ret (.enum k s)
  | .zip b es, σ => bnd (evs T es σ) fun ds => bnd (mapM' srcOf ds) fun ss => ret (.zip b ss)
  | .keys e, σ => bnd (ev T e σ) fun x => fun st => opt ((dicv st x).bind keysD) (fun ks => ret (.one (.items ks))) st
  | .vals e, σ => bnd (ev T e σ) fun x => fun st => opt (dicv st x) (fun kvs => ret (.one (.items (kvs.map (·.2))))) st
  | .items e, σ => bnd (ev T e σ) fun x => fun st => opt (dicv st x) (fun kvs => opt (keysD kvs) fun ks => ret (.one (.items ((ks.zip (kvs.map (·.2))).map fun p => .tup [p.1, p.2])))) st
def asgT (T : Tbl) : Tg → D → Env → M Env
  | .nm i, d, σ => bnd (landM d) fun d' => ret (σ.set i (some d'))
  | .tup ts, d, σ => fun st => match ofTup d st with
    | some ds => asgTs T ts ds σ st
    | none => .bad
  | .sub o i, d, σ => bnd (ev T o σ) fun x => bnd (ev T i σ) fun y => bnd (setI x y d) fun _ => ret σ
  | .attr _ _, _, _ => bad
def asgTs (T : Tbl) : List Tg → List D → Env → M Env
  | [], [], σ => ret σ
  | t :: ts, d :: ds, σ => bnd (asgT T t d σ) fun σ' => asgTs T ts ds σ'
  | _, _, _ => bad
end
end Fs
namespace Fs
open PySem

inductive Fl where
  | nx (σ : Env) | br (σ : Env) | ct (σ : Env) | rt (d : D) | ex (σ : Env) (e : D)
/-- what raises in m leaves the statement -/
def lft {α : Type} (σ : Env) (m : M α) (f : α → M Fl) : M Fl := fun s => match m s with
  | .ok a s' => f a s'
  | .exc e s' => .ok (.ex σ e) s'
  | .bad => .bad
def seqF (m : M Fl) (k : Env → M Fl) : M Fl := fun s => match m s with
  | .ok (.nx σ) s' => k σ s'
  | .ok f s' => .ok f s'
  | _ => .bad
def whLoop (c : Env → M Bool) (b : Env → M Fl) : Nat → Env → M Fl
  | 0, _ => bad
  | n + 1, σ => lft σ (c σ) fun k => match k with
    | false => ret (.nx σ)
    | true => fun s => match b σ s with
      | .ok (.nx σ') s' => whLoop c b n σ' s'
      | .ok (.ct σ') s' => whLoop c b n σ' s'
      | .ok (.br σ') s' => .ok (.nx σ') s'
      | .ok f s' => .ok f s'
      | _ => .bad
def forLoop (it : It) (g : D → Env → M Env) (b : Env → M Fl) : Nat → Nat → Env → M Fl
  | 0, _, _ => bad
  | n + 1, i, σ => fun s => match it.next i s with
    | none => .bad
    | some none => .ok (.nx σ) s
    | some (some d) => match noX (g d σ) s with
      | .ok σ1 s1 => (match b σ1 s1 with
        | .ok (.nx σ') s' => forLoop it g b n (i + 1) σ' s'
        | .ok (.ct σ') s' => forLoop it g b n (i + 1) σ' s'
        | .ok (.br σ') s' => .ok (.nx σ') s'
        | .ok f s' => .ok f s'
        | _ => .bad)
      | _ => .bad
def wfuel : Nat := 1000000
def outS (i : Option Nat) (σ : Env) : Env := match i with
  | some j => σ.set j none
  | none => σ
def inS (i : Option Nat) (e : D) (σ : Env) : Env := match i with
  | some j => σ.set j (some e)
  | none => σ
def outF (i : Option Nat) (m : M Fl) : M Fl := fun s => match m s with
  | .ok (.nx σ) s' => .ok (.nx (outS i σ)) s'
  | .ok (.br σ) s' => .ok (.br (outS i σ)) s'
  | .ok (.ct σ) s' => .ok (.ct (outS i σ)) s'
  | .ok (.rt d) s' => .ok (.rt d) s'
  | _ => .bad
mutual
def exS (T : Tbl) : Sx → Env → M Fl
  | .asg t e, σ => lft σ (ev T e σ) fun x => bnd (noX (asgT T t x σ)) fun σ' => ret (.nx σ')
  | .aug i op e, σ => match (σ[i]?).getD none with
    | some x => lft σ (ev T e σ) fun y => lft σ (binD op x y) fun z => bnd (landM z) fun z' => ret (.nx (σ.set i (some z')))
    | none => bad
  | .xpr e, σ => lft σ (ev T e σ) fun _ => ret (.nx σ)
  | .ret e, σ => lft σ (ev T e σ) fun x => ret (.rt x)
  | .ret0, _ => ret (.rt .non)
  | .iff c a b, σ => lft σ (evT T c σ) fun k => match k with
    | true => exL T a σ
    | false => exL T b σ
  | .forr it t b, σ => lft σ (evI T it σ) fun w => fun s => forLoop w (fun d σ => asgT T t d σ) (fun σ => exL T b σ) (w.len s + 1) 0 σ s
  | .whl c b, σ => whLoop (fun σ => evT T c σ) (fun σ => exL T b σ) wfuel σ
  | .brk, σ => ret (.br σ)
  | .cnt, σ => ret (.ct σ)
  | .pas, σ => ret (.nx σ)
  | .rse c es, σ => lft σ (ev T (.mk c es) σ) fun x => ret (.ex σ x)
  | .tri b hs, σ => fun s => match exL T b σ s with
    | .ok (.ex σ' e) s' => exH T hs e σ' s'
    | r => r
def exL (T : Tbl) : List Sx → Env → M Fl
  | [], σ => ret (.nx σ)
  | x :: xs, σ => seqF (exS T x σ) fun σ' => exL T xs σ'
def exH (T : Tbl) : List (List Nat × Option Nat × List Sx) → D → Env → M Fl
  | [], e, σ => ret (.ex σ e)
  | (cs, i, b) :: hs, e, σ => match e with
    | .exc c _ => (match cs.any fun k => T.anc c k with
      | true => outF i (exL T b (inS i e σ))
      | false => exH T hs e σ)
    | _ => bad
end
structure Fn where
  np : Nat
  ns : Nat
  body : List Sx
structure Pr where
  fns : Nat → Option Fn
  fld : Nat → Option Str
  anc : Nat → Nat → Bool
def outR (r : R Fl) : R D := match r with
  | .ok (.rt d) s => .ok d s
  | .ok (.nx _) s => .ok .non s
  | .ok (.ex _ e) s => .exc e s
  | _ => .bad
/-- a def at nesting depth n -/
def call (P : Pr) : Nat → Nat → List D → M D
  | 0, _, _ => bad
  | n + 1, f, ds => fun st => match P.fns f with
    | some F => (match decide (ds.length = F.np) with
      | true => leaveD st (outR (exL ⟨call P n, P.fld, P.anc⟩ F.body ((lands ds st).1.map some ++ List.replicate (F.ns - F.np) none) (lands ds st).2))
      | false => .bad)
    | none => .bad
def Pr.tbl (P : Pr) (n : Nat) : Tbl := ⟨call P n, P.fld, P.anc⟩
/-- what is not covered -/
def hole : Ex := .attr (.con .non) ⟨#[]⟩
end Fs
namespace Fs
open PySem
/-! ### sorting rows of numbers -/
theorem lex_trans : ∀ {a b c : List Int}, lexL a b = true → lexL b c = true → lexL a c = true
  | _, [], [], h, h2 => by simp [lexL] at h2
  | [], _ :: _, _ :: _, _, _ => by simp [lexL]
  | x :: a, [], _ :: _, h, _ => by simp [lexL] at h
  | [], [], _ :: _, h, _ => by simp [lexL] at h
  | _, _ :: _, [], _, h2 => by simp [lexL] at h2
  | x :: a, y :: b, z :: c, h, h2 => by
    simp only [lexL] at h h2 ⊢
    by_cases h3 : x = y
    · subst h3
      rw [if_pos rfl] at h
      by_cases h4 : x = z
      · subst h4
        rw [if_pos rfl] at h2 ⊢
        exact lex_trans h h2
      · rw [if_neg h4] at h2 ⊢
        exact h2
    · rw [if_neg h3] at h
      have h := of_decide_eq_true h
      by_cases h4 : y = z
      · subst h4
        rw [if_neg h3]
        exact decide_eq_true h
      · rw [if_neg h4] at h2
        have h2 := of_decide_eq_true h2
        rw [if_neg (by omega)]
        exact decide_eq_true (by omega)
theorem lex_tri : ∀ {a b : List Int}, lexL a b = false → lexL b a = false → a = b
  | [], [], _, _ => rfl
  | [], _ :: _, h, _ => by simp [lexL] at h
  | _ :: _, [], _, h => by simp [lexL] at h
  | x :: a, y :: b, h, h2 => by
    simp only [lexL] at h h2
    by_cases h3 : x = y
    · subst h3
      rw [if_pos rfl] at h h2
      rw [lex_tri h h2]
    · rw [if_neg h3] at h
      rw [if_neg (fun q => h3 q.symm)] at h2
      have h := of_decide_eq_false h
      have h2 := of_decide_eq_false h2
      omega
theorem lex_irr : ∀ {a : List Int}, lexL a a = false
  | [] => rfl
  | x :: a => by simp only [lexL, if_true]; exact lex_irr
theorem lex_asym {a b : List Int} (h : lexL a b = true) : lexL b a = false := by
  cases h2 : lexL b a with
  | false => rfl
  | true => have := lex_trans h h2; rw [lex_irr] at this; cases this
abbrev lexLe (a b : List Int) : Prop := lexL b a = false
theorem lexLe_trans {a b c : List Int} (h : lexLe a b) (h2 : lexLe b c) : lexLe a c := by
  unfold lexLe at *
  cases h3 : lexL c a with
  | false => rfl
  | true =>
    cases h4 : lexL a b with
    | true => have := lex_trans h3 h4; rw [h2] at this; cases this
    | false =>
      have := lex_tri h4 h
      subst this
      rw [h2] at h3; cases h3
theorem insL_perm (i : List Int) : ∀ r : List (List Int), (insL i r).Perm (i :: r)
  | [] => .refl _
  | j :: r => by
    simp only [insL]
    split
    · exact .refl _
    · exact (List.Perm.cons _ (insL_perm i r)).trans (List.Perm.swap ..)
theorem sortL_perm : ∀ r : List (List Int), (sortL r).Perm r
  | [] => .refl _
  | i :: r => by
    simp only [sortL]
    exact (insL_perm i _).trans (List.Perm.cons _ (sortL_perm r))
theorem insL_sorted (i : List Int) : ∀ {r : List (List Int)}, r.Pairwise lexLe → (insL i r).Pairwise lexLe
  | [], _ => by simp [insL]
  | j :: r, h => by
    simp only [insL]
    have h2 := List.pairwise_cons.1 h
    split
    · rename_i hj
      refine List.pairwise_cons.2 ⟨?_, h⟩
      intro a ha
      rcases List.mem_cons.1 ha with rfl | ha
      · exact lex_asym hj
      · exact lexLe_trans (lex_asym hj) (h2.1 a ha)
    · rename_i hj
      refine List.pairwise_cons.2 ⟨?_, insL_sorted i h2.2⟩
      intro a ha
      rcases List.mem_cons.1 ((insL_perm i r).mem_iff.1 ha) with rfl | ha
      · have : lexL a j = false := by simpa using hj
        exact this
      · exact h2.1 a ha
theorem sortL_sorted : ∀ r : List (List Int), (sortL r).Pairwise lexLe
  | [] => .nil
  | i :: r => by simp only [sortL]; exact insL_sorted i (sortL_sorted r)
theorem sortL_eq {r q : List (List Int)} (hp : r.Perm q) (hq : q.Pairwise fun a b => lexL a b = true) : sortL r = q :=
  List.Perm.eq_of_pairwise (le := lexLe) (fun a b _ _ h1 h2 => (lex_tri h1 h2).symm) (sortL_sorted r) (hq.imp fun h => lex_asym h) ((sortL_perm r).trans hp)
theorem dedI_mem {x : Int} : ∀ {L : List Int}, x ∈ dedI L ↔ x ∈ L
  | [] => by simp [dedI]
  | a :: L => by
    simp only [dedI]
    split
    · rename_i h
      rw [dedI_mem]
      have ha : a ∈ L := by rw [← dedI_mem (L := L)]; simpa using h
      constructor
      · exact List.mem_cons_of_mem _
      · intro hx
        rcases List.mem_cons.1 hx with rfl | hx
        · exact ha
        · exact hx
    · simp only [List.mem_cons, dedI_mem]
theorem dedI_nodup : ∀ {L : List Int}, (dedI L).Nodup
  | [] => by simp [dedI]
  | a :: L => by
    simp only [dedI]
    split
    · exact dedI_nodup
    · rename_i h
      refine List.nodup_cons.2 ⟨?_, dedI_nodup⟩
      simpa using h
end Fs
namespace Fs
open PySem L2

/-- what is known of the world: the written part, where the exceptions' classes lie, their fields -/
structure Wc where
  K : PySem.W.Frag
  ca : Nat → Addr
  fl : Nat → Option Str
/-- an exception's object, made and perhaps raised -/
def exoH (a C : Addr) (dx : Option Addr) : HO := .ext fun h => ∃ (oe : Obj) (vs : Array Value), h.get? a = some oe ∧ oe.cls = .ref C ∧ oe.dict = dx ∧ oe.data = .fields vs
/-- what may stand where a cell lies -/
def HCell : HO → Bool
  | .lst _ | .dK _ | .dT _ | .set _ _ => true
  | .frz _ (.lst _) => true
  | _ => false
section
variable (Z : Wc) (ρ : List Addr) (H : Hp)
mutual
/-- d is what v stands for; F: where its fresh things lie -/
def Rp : D → V → List Addr → Prop
  | .non, v, F => v = .non ∧ F = []
  | .bl b, v, F => v = .bl b ∧ F = []
  | .int i, v, F => v = .int i ∧ F = []
  | .str s, v, F => v = .str s ∧ F = []
  | .tup ds, v, F => ∃ a vs, v = .ref a ∧ SqT Z.K H a vs ∧ Rps ds vs F
  | .ref l, v, F => ∃ a, ρ[l]? = some a ∧ v = .ref a ∧ F = []
  | .lst ds, v, F => ∃ a vs G, v = .ref a ∧ H a = some (.lst vs) ∧ Rps ds vs G ∧ F = a :: G
  | .frl ds, v, F => ∃ a o vs G, v = .ref a ∧ H a = some (.frz o (.lst vs)) ∧ Rps ds vs G ∧ F = a :: G
  | .dic kvs, v, F => ∃ a G, v = .ref a ∧ F = a :: G ∧
      ((∃ ws, H a = some (.dK ws) ∧ RpK kvs ws G) ∨ ∃ ws, H a = some (.dT ws) ∧ RpT kvs ws G)
  | .set xs, v, F => ∃ a S, v = .ref a ∧ H a = some (.set S xs.length) ∧ xs.Nodup ∧ (∀ i, S i = xs.contains i) ∧ F = [a]
  | .exc c fs, v, F => ∃ a dx, v = .ref a ∧ H a = some (exoH a (Z.ca c) dx) ∧ RpX (Z.fl c) dx fs ∧ F = []
  | .lam _ _, _, _ => False
def RpX (f : Option Str) (dx : Option Addr) : List D → Prop
  | [] => f = none
  | d :: r => r = [] ∧ ∃ n x u, f = some n ∧ dx = some x ∧ H x = some (.xd [(n, u)]) ∧ Rp d u []
def Rps : List D → List V → List Addr → Prop
  | [], vs, F => vs = [] ∧ F = []
  | d :: ds, vs, F => ∃ v ws F1 F2, vs = v :: ws ∧ Rp d v F1 ∧ Rps ds ws F2 ∧ F = F1 ++ F2
def RpK : List (Ky × D) → List (L2.Key × V) → List Addr → Prop
  | [], ws, F => ws = [] ∧ F = []
  | (k, d) :: r, ws, F => ∃ j v ws' F1 F2, k = .k j ∧ ws = (j, v) :: ws' ∧ Rp d v F1 ∧ RpK r ws' F2 ∧ F = F1 ++ F2
def RpT : List (Ky × D) → List (List L2.Key × V) → List Addr → Prop
  | [], ws, F => ws = [] ∧ F = []
  | (k, d) :: r, ws, F => ∃ j v ws' F1 F2, k = .t j ∧ ws = (j, v) :: ws' ∧ Rp d v F1 ∧ RpT r ws' F2 ∧ F = F1 ++ F2
end
end

def isCell : D → Bool
  | .lst _ | .frl _ | .dic _ | .set _ => true
  | _ => false
/-- the store is held: cell l lies at ρ l -/
structure SR (Z : Wc) (ρ : List Addr) (st : Sto) (H : Hp) : Prop where
  len : ρ.length = st.length
  nd : ρ.Nodup
  kind : ∀ (l : Nat) (c : D), st[l]? = some c → isCell c = true
  cell : ∀ (l : Nat) (c : D) (a : Addr), st[l]? = some c → ρ[l]? = some a → Rp Z ρ H c (.ref a) [a]

/-- the names' values -/
def ER (Z : Wc) (ρ : List Addr) (H : Hp) (env : Env) (σ : L2.St) : Prop :=
  env.length = σ.length ∧ ∀ (i : Nat) (d : D), env[i]? = some (some d) → ∃ v, σ[i]? = some (some v) ∧ Rp Z ρ H d v []

/-- from (ρ, H) on: new cells N, fresh things F; all that was tracked and is no cell stands -/
def Stp (ρ : List Addr) (H : Hp) (ρ' : List Addr) (H' : Hp) (F : List Addr) : Prop :=
  ∃ N, ρ' = ρ ++ N ∧ (N ++ F).Nodup ∧ (∀ a ∈ N ++ F, H a = none) ∧ ∀ a o, H a = some o → a ∉ ρ → H' a = some o

section
variable {Z : Wc} {ρ ρ' ρ₁ ρ₂ : List Addr} {H H' H₁ H₂ : Hp} {st st' st₁ : Sto} {F F' F₁ F₂ : List Addr}

theorem Rps.length : ∀ {ds : List D} {vs : List V} {F : List Addr}, Rps Z ρ H ds vs F → ds.length = vs.length
  | [], vs, F, h => by obtain ⟨rfl, _⟩ := h; rfl
  | d :: ds, vs, F, h => by
    obtain ⟨v, ws, F1, F2, rfl, _, h2, _⟩ := h
    simp [Rps.length h2]

mutual
/-- fresh things are tracked -/
theorem Rp.there : ∀ {d : D} {v : V} {F : List Addr}, Rp Z ρ H d v F → ∀ a ∈ F, H a ≠ none
  | .non, v, F, h, a, ha => by obtain ⟨_, rfl⟩ := h; cases ha
  | .bl b, v, F, h, a, ha => by obtain ⟨_, rfl⟩ := h; cases ha
  | .int i, v, F, h, a, ha => by obtain ⟨_, rfl⟩ := h; cases ha
  | .str s, v, F, h, a, ha => by obtain ⟨_, rfl⟩ := h; cases ha
  | .tup ds, v, F, h, a, ha => by obtain ⟨_, _, _, _, h3⟩ := h; exact Rps.there h3 a ha
  | .ref l, v, F, h, a, ha => by obtain ⟨_, _, _, rfl⟩ := h; cases ha
  | .lst ds, v, F, h, a, ha => by
    obtain ⟨b, vs, G, _, hb, h3, rfl⟩ := h
    rcases List.mem_cons.mp ha with rfl | ha
    · rw [hb]; exact nofun
    · exact Rps.there h3 a ha
  | .frl ds, v, F, h, a, ha => by
    obtain ⟨b, o, vs, G, _, hb, h3, rfl⟩ := h
    rcases List.mem_cons.mp ha with rfl | ha
    · rw [hb]; exact nofun
    · exact Rps.there h3 a ha
  | .dic kvs, v, F, h, a, ha => by
    obtain ⟨b, G, _, rfl, h3⟩ := h
    rcases h3 with ⟨ws, hb, h4⟩ | ⟨ws, hb, h4⟩
    · rcases List.mem_cons.mp ha with rfl | ha
      · rw [hb]; exact nofun
      · exact RpK.there h4 a ha
    · rcases List.mem_cons.mp ha with rfl | ha
      · rw [hb]; exact nofun
      · exact RpT.there h4 a ha
  | .set xs, v, F, h, a, ha => by
    obtain ⟨b, S, _, hb, _, _, rfl⟩ := h
    rcases List.mem_cons.mp ha with rfl | ha
    · rw [hb]; exact nofun
    · cases ha
  | .exc _ _, v, F, h, a, ha => by obtain ⟨_, _, _, _, _, rfl⟩ := h; cases ha
  | .lam _ _, v, F, h, a, ha => h.elim
theorem Rps.there : ∀ {ds : List D} {vs : List V} {F : List Addr}, Rps Z ρ H ds vs F → ∀ a ∈ F, H a ≠ none
  | [], vs, F, h, a, ha => by obtain ⟨_, rfl⟩ := h; cases ha
  | d :: ds, vs, F, h, a, ha => by
    obtain ⟨v, ws, F1, F2, rfl, h1, h2, rfl⟩ := h
    rcases List.mem_append.mp ha with ha | ha
    · exact Rp.there h1 a ha
    · exact Rps.there h2 a ha
theorem RpK.there : ∀ {ds : List (Ky × D)} {vs : List (L2.Key × V)} {F : List Addr}, RpK Z ρ H ds vs F → ∀ a ∈ F, H a ≠ none
  | [], vs, F, h, a, ha => by obtain ⟨_, rfl⟩ := h; cases ha
  | (k, d) :: ds, vs, F, h, a, ha => by
    obtain ⟨j, v, ws, F1, F2, _, rfl, h1, h2, rfl⟩ := h
    rcases List.mem_append.mp ha with ha | ha
    · exact Rp.there h1 a ha
    · exact RpK.there h2 a ha
theorem RpT.there : ∀ {ds : List (Ky × D)} {vs : List (List L2.Key × V)} {F : List Addr}, RpT Z ρ H ds vs F → ∀ a ∈ F, H a ≠ none
  | [], vs, F, h, a, ha => by obtain ⟨_, rfl⟩ := h; cases ha
  | (k, d) :: ds, vs, F, h, a, ha => by
    obtain ⟨j, v, ws, F1, F2, _, rfl, h1, h2, rfl⟩ := h
    rcases List.mem_append.mp ha with ha | ha
    · exact Rp.there h1 a ha
    · exact RpT.there h2 a ha
end

theorem SqT.stay {K : PySem.W.Frag} (ht : ∀ a o, H a = some o → HCell o = false → H' a = some o) {a : Addr} {xs : List V} (h : SqT K H a xs) : SqT K H' a xs := by
  rcases h with h | h
  · refine .inl ?_
    rcases h with h | ⟨ob, h⟩
    · exact .inl (ht a _ h rfl)
    · exact .inr ⟨ob, ht a _ h rfl⟩
  · exact .inr h
mutual
/-- a value stays, where its fresh things, the tuples and the cells' places stay -/
theorem Rp.stay (hr : ∀ (l : Nat) (a : Addr), ρ[l]? = some a → ρ'[l]? = some a) (ht : ∀ a o, H a = some o → HCell o = false → H' a = some o) : ∀ {d : D} {v : V} {F : List Addr}, (∀ a ∈ F, ∀ o, H a = some o → H' a = some o) → Rp Z ρ H d v F → Rp Z ρ' H' d v F
  | .non, v, F, hk, h => h
  | .bl b, v, F, hk, h => h
  | .int i, v, F, hk, h => h
  | .str s, v, F, hk, h => h
  | .tup ds, v, F, hk, h => by
    obtain ⟨a, vs, e, h2, h3⟩ := h
    exact ⟨a, vs, e, SqT.stay ht h2, Rps.stay hr ht hk h3⟩
  | .ref l, v, F, hk, h => by
    obtain ⟨a, h1, e, f⟩ := h
    exact ⟨a, hr l a h1, e, f⟩
  | .lst ds, v, F, hk, h => by
    obtain ⟨a, vs, G, e, h2, h3, rfl⟩ := h
    exact ⟨a, vs, G, e, hk a List.mem_cons_self _ h2, Rps.stay hr ht (fun b hb => hk b (List.mem_cons_of_mem _ hb)) h3, rfl⟩
  | .frl ds, v, F, hk, h => by
    obtain ⟨a, o, vs, G, e, h2, h3, rfl⟩ := h
    exact ⟨a, o, vs, G, e, hk a List.mem_cons_self _ h2, Rps.stay hr ht (fun b hb => hk b (List.mem_cons_of_mem _ hb)) h3, rfl⟩
  | .dic kvs, v, F, hk, h => by
    obtain ⟨a, G, e, rfl, h3⟩ := h
    refine ⟨a, G, e, rfl, ?_⟩
    rcases h3 with ⟨ws, hb, h4⟩ | ⟨ws, hb, h4⟩
    · exact .inl ⟨ws, hk a List.mem_cons_self _ hb, RpK.stay hr ht (fun b hb => hk b (List.mem_cons_of_mem _ hb)) h4⟩
    · exact .inr ⟨ws, hk a List.mem_cons_self _ hb, RpT.stay hr ht (fun b hb => hk b (List.mem_cons_of_mem _ hb)) h4⟩
  | .set xs, v, F, hk, h => by
    obtain ⟨a, S, e, hb, n, z, rfl⟩ := h
    exact ⟨a, S, e, hk a List.mem_cons_self _ hb, n, z, rfl⟩
  | .exc c fs, v, F, hk, h => by
    obtain ⟨a, dx, e, h2, h3, f⟩ := h
    exact ⟨a, dx, e, ht a _ h2 rfl, RpX.stay hr ht h3, f⟩
  | .lam _ _, v, F, hk, h => h.elim
theorem RpX.stay (hr : ∀ (l : Nat) (a : Addr), ρ[l]? = some a → ρ'[l]? = some a) (ht : ∀ a o, H a = some o → HCell o = false → H' a = some o) {f : Option Str} {dx : Option Addr} : ∀ {ds : List D}, RpX Z ρ H f dx ds → RpX Z ρ' H' f dx ds
  | [], h => h
  | d :: r, h => by
    obtain ⟨e, n, x, u, h1, h2, h3, h4⟩ := h
    exact ⟨e, n, x, u, h1, h2, ht x _ h3 rfl, Rp.stay hr ht (by simp) h4⟩
theorem Rps.stay (hr : ∀ (l : Nat) (a : Addr), ρ[l]? = some a → ρ'[l]? = some a) (ht : ∀ a o, H a = some o → HCell o = false → H' a = some o) : ∀ {ds : List D} {vs : List V} {F : List Addr}, (∀ a ∈ F, ∀ o, H a = some o → H' a = some o) → Rps Z ρ H ds vs F → Rps Z ρ' H' ds vs F
  | [], vs, F, hk, h => h
  | d :: ds, vs, F, hk, h => by
    obtain ⟨v, ws, F1, F2, rfl, h1, h2, rfl⟩ := h
    exact ⟨v, ws, F1, F2, rfl, Rp.stay hr ht (fun b hb => hk b (List.mem_append_left _ hb)) h1, Rps.stay hr ht (fun b hb => hk b (List.mem_append_right _ hb)) h2, rfl⟩
theorem RpK.stay (hr : ∀ (l : Nat) (a : Addr), ρ[l]? = some a → ρ'[l]? = some a) (ht : ∀ a o, H a = some o → HCell o = false → H' a = some o) : ∀ {ds : List (Ky × D)} {vs : List (L2.Key × V)} {F : List Addr}, (∀ a ∈ F, ∀ o, H a = some o → H' a = some o) → RpK Z ρ H ds vs F → RpK Z ρ' H' ds vs F
  | [], vs, F, hk, h => h
  | (k, d) :: ds, vs, F, hk, h => by
    obtain ⟨j, v, ws, F1, F2, e, rfl, h1, h2, rfl⟩ := h
    exact ⟨j, v, ws, F1, F2, e, rfl, Rp.stay hr ht (fun b hb => hk b (List.mem_append_left _ hb)) h1, RpK.stay hr ht (fun b hb => hk b (List.mem_append_right _ hb)) h2, rfl⟩
theorem RpT.stay (hr : ∀ (l : Nat) (a : Addr), ρ[l]? = some a → ρ'[l]? = some a) (ht : ∀ a o, H a = some o → HCell o = false → H' a = some o) : ∀ {ds : List (Ky × D)} {vs : List (List L2.Key × V)} {F : List Addr}, (∀ a ∈ F, ∀ o, H a = some o → H' a = some o) → RpT Z ρ H ds vs F → RpT Z ρ' H' ds vs F
  | [], vs, F, hk, h => h
  | (k, d) :: ds, vs, F, hk, h => by
    obtain ⟨j, v, ws, F1, F2, e, rfl, h1, h2, rfl⟩ := h
    exact ⟨j, v, ws, F1, F2, e, rfl, Rp.stay hr ht (fun b hb => hk b (List.mem_append_left _ hb)) h1, RpT.stay hr ht (fun b hb => hk b (List.mem_append_right _ hb)) h2, rfl⟩
end

theorem SR.at (s : SR Z ρ st H) {l : Nat} {c : D} (h : st[l]? = some c) : ∃ a, ρ[l]? = some a ∧ isCell c = true ∧ Rp Z ρ H c (.ref a) [a] := by
  have hl : l < ρ.length := by rw [s.len]; exact (List.getElem?_eq_some_iff.mp h).1
  exact ⟨ρ[l], List.getElem?_eq_getElem hl, s.kind l c h, s.cell l c _ h (List.getElem?_eq_getElem hl)⟩
theorem SR.at' (s : SR Z ρ st H) {l : Nat} {a : Addr} (h : ρ[l]? = some a) : ∃ c, st[l]? = some c ∧ isCell c = true ∧ Rp Z ρ H c (.ref a) [a] := by
  have hl : l < st.length := by rw [← s.len]; exact (List.getElem?_eq_some_iff.mp h).1
  exact ⟨st[l], List.getElem?_eq_getElem hl, s.kind l _ (List.getElem?_eq_getElem hl), s.cell l _ a (List.getElem?_eq_getElem hl) h⟩
theorem Rp.hcell {c : D} {a : Addr} {F : List Addr} (h : Rp Z ρ H c (.ref a) F) (k : isCell c = true) : ∃ o, H a = some o ∧ HCell o = true := by
  cases c with
  | lst ds => obtain ⟨b, vs, G, z, h2, _, _⟩ := h; cases z; exact ⟨_, h2, rfl⟩
  | frl ds => obtain ⟨b, o, vs, G, z, h2, _, _⟩ := h; cases z; exact ⟨_, h2, rfl⟩
  | dic kvs => obtain ⟨b, G, z, _, h3⟩ := h; cases z; rcases h3 with ⟨ws, h2, _⟩ | ⟨ws, h2, _⟩ <;> exact ⟨_, h2, rfl⟩
  | set xs => obtain ⟨b, S, z, h2, _⟩ := h; cases z; exact ⟨_, h2, rfl⟩
  | _ => cases k
theorem SR.hcell (s : SR Z ρ st H) {a : Addr} (h : a ∈ ρ) : ∃ o, H a = some o ∧ HCell o = true := by
  obtain ⟨l, e⟩ := List.mem_iff_getElem?.mp h
  obtain ⟨c, _, k, r⟩ := s.at' e
  exact r.hcell k
theorem SR.has (s : SR Z ρ st H) {a : Addr} (h : a ∈ ρ) : H a ≠ none := by
  obtain ⟨o, e, _⟩ := s.hcell h
  rw [e]; exact nofun
theorem SR.fresh (s : SR Z ρ st H) {a : Addr} (h : H a = none) : a ∉ ρ := fun z => s.has z h
theorem SR.not_cell (s : SR Z ρ st H) {a : Addr} {o : HO} (h : H a = some o) (k : HCell o = false) : a ∉ ρ := fun z => by
  obtain ⟨u, e, q⟩ := s.hcell z
  rw [h] at e; cases e; rw [k] at q; cases q
theorem Stp.refl {F : List Addr} (n : F.Nodup) (h : ∀ a ∈ F, H a = none) : Stp ρ H ρ H F := ⟨[], by simp, by simpa using n, by simpa using h, fun _ _ e _ => e⟩
theorem Stp.id : Stp ρ H ρ H [] := Stp.refl List.nodup_nil (by simp)
theorem Stp.pre (s : Stp ρ H ρ' H' F) : ∀ (l : Nat) (a : Addr), ρ[l]? = some a → ρ'[l]? = some a := by
  obtain ⟨N, rfl, _⟩ := s
  intro l a h
  rw [List.getElem?_append_left (List.getElem?_eq_some_iff.mp h).1]
  exact h
theorem Stp.tup (s : Stp ρ H ρ' H' F) (r : SR Z ρ st H) : ∀ a o, H a = some o → HCell o = false → H' a = some o := by
  obtain ⟨N, _, _, _, k⟩ := s
  exact fun a o h q => k a o h (r.not_cell h q)
theorem Stp.keep (s : Stp ρ H ρ' H' F) {a : Addr} (h : a ∉ ρ) : ∀ o, H a = some o → H' a = some o := by
  obtain ⟨N, _, _, _, k⟩ := s
  exact fun o e => k a o e h
/-- a value from before -/
theorem Stp.val {d : D} {v : V} {G : List Addr} (s : Stp ρ H ρ' H' F) (r : SR Z ρ st H) (hG : ∀ a ∈ G, a ∉ ρ) (h : Rp Z ρ H d v G) : Rp Z ρ' H' d v G :=
  Rp.stay s.pre (s.tup r) (fun a ha => s.keep (hG a ha)) h
theorem Stp.vals {ds : List D} {vs : List V} {G : List Addr} (s : Stp ρ H ρ' H' F) (r : SR Z ρ st H) (hG : ∀ a ∈ G, a ∉ ρ) (h : Rps Z ρ H ds vs G) : Rps Z ρ' H' ds vs G :=
  Rps.stay s.pre (s.tup r) (fun a ha => s.keep (hG a ha)) h
theorem Stp.env {env : Env} {σ : L2.St} (s : Stp ρ H ρ' H' F) (r : SR Z ρ st H) (h : ER Z ρ H env σ) : ER Z ρ' H' env σ :=
  ⟨h.1, fun i d e => let ⟨v, h1, h2⟩ := h.2 i d e; ⟨v, h1, s.val r (by simp) h2⟩⟩
/-- the fresh things of a value made on the way are none of the cells -/
theorem Stp.out (s : Stp ρ H ρ' H' F) (r : SR Z ρ st H) : ∀ a ∈ F, a ∉ ρ' := by
  obtain ⟨N, rfl, n, f, _⟩ := s
  intro a ha z
  rcases List.mem_append.mp z with z | z
  · exact r.has z (f a (List.mem_append_right _ ha))
  · exact (List.nodup_append.mp n).2.2 a z a ha rfl
/-- one after the other: what the first made is still there -/
theorem Stp.trans {G : List Addr} (s : Stp ρ H ρ₁ H₁ F) (t : Stp ρ₁ H₁ ρ₂ H₂ G) (r : SR Z ρ st H) (r₁ : SR Z ρ₁ st₁ H₁) (hF : ∀ a ∈ F, H₁ a ≠ none) : Stp ρ H ρ₂ H₂ (F ++ G) := by
  have out := s.out r
  obtain ⟨N, rfl, n, f, k⟩ := s
  obtain ⟨N', rfl, n', f', k'⟩ := t
  have old : ∀ a ∈ N' ++ G, H a = none := fun a ha => by
    cases e : H a with
    | none => rfl
    | some o =>
      have z : a ∉ ρ := fun z => r₁.has (List.mem_append_left _ z) (f' a ha)
      have q := k a o e z
      rw [f' a ha] at q; cases q
  refine ⟨N ++ N', by simp [List.append_assoc], ?_, ?_, fun a o e z => ?_⟩
  · have nF := (List.nodup_append.mp n)
    have nG := (List.nodup_append.mp n')
    rw [List.append_assoc]
    refine List.nodup_append.mpr ⟨nF.1, ?_, ?_⟩
    · rw [← List.append_assoc]
      refine List.nodup_append.mpr ⟨List.nodup_append.mpr ⟨nG.1, nF.2.1, ?_⟩, nG.2.1, ?_⟩
      · intro a ha b hb e
        subst e
        exact hF a hb (f' a (List.mem_append_left _ ha))
      · intro a ha b hb e
        subst e
        rcases List.mem_append.mp ha with ha | ha
        · exact nG.2.2 a ha a hb rfl
        · exact hF a ha (f' a (List.mem_append_right _ hb))
    · intro a ha b hb e
      subst e
      rcases List.mem_append.mp hb with hb | hb
      · exact r₁.has (List.mem_append_right _ ha) (f' a (List.mem_append_left _ hb))
      · rcases List.mem_append.mp hb with hb | hb
        · exact nF.2.2 a ha a hb rfl
        · exact r₁.has (List.mem_append_right _ ha) (f' a (List.mem_append_right _ hb))
  · intro a ha
    rw [List.append_assoc] at ha
    rcases List.mem_append.mp ha with ha | ha
    · exact f a (List.mem_append_left _ ha)
    · rw [← List.append_assoc] at ha
      rcases List.mem_append.mp ha with ha | ha
      · rcases List.mem_append.mp ha with ha | ha
        · exact old a (List.mem_append_left _ ha)
        · exact f a (List.mem_append_right _ ha)
      · exact old a (List.mem_append_right _ ha)
  · have q := k a o e z
    refine k' a o q fun y => ?_
    rcases List.mem_append.mp y with y | y
    · exact z y
    · rw [f a (List.mem_append_left _ y)] at e; cases e
/-- the fresh things may be let go -/
theorem Stp.less {G : List Addr} (s : Stp ρ H ρ' H' F) (h : G.Sublist F) : Stp ρ H ρ' H' G := by
  obtain ⟨N, rfl, n, f, k⟩ := s
  refine ⟨N, rfl, n.sublist (List.Sublist.append (List.Sublist.refl _) h), fun a ha => f a ?_, k⟩
  exact (List.Sublist.append (List.Sublist.refl _) h).subset ha
theorem Stp.none (s : Stp ρ H ρ' H' F) : Stp ρ H ρ' H' [] := s.less (List.nil_sublist _)
theorem Stp.nodup (s : Stp ρ H ρ' H' F) : F.Nodup := by
  obtain ⟨N, rfl, n, f, k⟩ := s
  exact (List.nodup_append.mp n).2.1
end
end Fs
namespace Fs
open PySem L2

/-- the exception e in flight: its class, its own dict -/
def XcR (Z : Wc) (ρ : List Addr) (H : Hp) (e : D) (cls : Value) (dx : Option Addr) : Prop :=
  ∃ c fs, e = .exc c fs ∧ cls = .ref (Z.ca c) ∧ RpX Z ρ H (Z.fl c) dx fs

abbrev Rel (α β : Type) := List Addr → Hp → α → β → List Addr → Prop

/-- what is to be shown behind r, begun at (ρ, H) -/
def Post {α β : Type} (rel : Rel α β) (Z : Wc) (W : WX) (r : R α) (ρ : List Addr) (σ : L2.St) (H : Hp) (Q : β → Hp → Prop) : Prop := match r with
  | .ok d st' => ∀ ρ' H' v F, Stp ρ H ρ' H' F → SR Z ρ' st' H' → rel ρ' H' d v F → Q v H'
  | .exc e st' => ∀ ρ' H' cls dx, Stp ρ H ρ' H' [] → SR Z ρ' st' H' → XcR Z ρ' H' e cls dx → W cls dx σ H'
  | .bad => False

/-- where we are: behind a way from (ρ, H), with fresh things F in hand -/
structure Now (Z : Wc) (ρ : List Addr) (H : Hp) (ρ' : List Addr) (st' : Sto) (H' : Hp) (F : List Addr) : Prop where
  stp : Stp ρ H ρ' H' F
  sr : SR Z ρ' st' H'
  th : ∀ a ∈ F, H' a ≠ none
  out : ∀ a ∈ F, a ∉ ρ'
  nd : F.Nodup

section
variable {Z : Wc} {W : WX} {ρ ρ' ρ₁ ρ₂ : List Addr} {H H' H₁ H₂ : Hp} {st st' st₁ : Sto} {F F' F₁ F₂ G : List Addr} {σ : L2.St} {α β γ δ : Type} {rel : Rel α β} {rel₁ : Rel γ δ}

/-- a relation that speaks of tracked things and is carried along -/
structure RelOk (Z : Wc) (rel : Rel α β) : Prop where
  there : ∀ {ρ H d v F}, rel ρ H d v F → ∀ a ∈ F, H a ≠ none
  stay : ∀ {ρ H ρ' H' d v F}, (∀ (l : Nat) (a : Addr), ρ[l]? = some a → ρ'[l]? = some a) → (∀ a o, H a = some o → HCell o = false → H' a = some o) → (∀ a ∈ F, ∀ o, H a = some o → H' a = some o) → rel ρ H d v F → rel ρ' H' d v F
theorem rpOk : RelOk Z (Rp Z) := ⟨fun h => h.there, fun hr ht hk h => h.stay hr ht hk⟩
theorem rpsOk : RelOk Z (Rps Z) := ⟨fun h => h.there, fun hr ht hk h => h.stay hr ht hk⟩
/-- plain data -/
def RelEq (α : Type) : Rel α α := fun _ _ a b F => a = b ∧ F = []
theorem reqOk : RelOk Z (RelEq α) := ⟨fun h a ha => (by rw [h.2] at ha; cases ha), fun _ _ _ h => h⟩

theorem Now.start (s : SR Z ρ st H) : Now Z ρ H ρ st H [] := ⟨Stp.id, s, by simp, by simp, List.nodup_nil⟩
theorem Now.more (n : Now Z ρ H ρ₁ st₁ H₁ F) (s : SR Z ρ st H) (t : Stp ρ₁ H₁ ρ₂ H₂ G) (sr : SR Z ρ₂ st' H₂) (g : ∀ a ∈ G, H₂ a ≠ none) : Now Z ρ H ρ₂ st' H₂ (F ++ G) := by
  have tr := n.stp.trans t s n.sr n.th
  refine ⟨tr, sr, fun a ha => ?_, fun a ha => ?_, tr.nodup⟩
  · rcases List.mem_append.mp ha with ha | ha
    · have := n.th a ha
      intro z
      cases e : H₁ a with
      | none => exact this e
      | some o => have q := t.keep (n.out a ha) o e; rw [z] at q; cases q
    · exact g a ha
  · rcases List.mem_append.mp ha with ha | ha
    · obtain ⟨N, e, _, f, _⟩ := t
      intro z
      rw [e] at z
      rcases List.mem_append.mp z with z | z
      · exact n.out a ha z
      · exact n.th a ha (f a (List.mem_append_left _ z))
    · exact t.out n.sr a ha
theorem Now.less (n : Now Z ρ H ρ₁ st₁ H₁ F) (h : G.Sublist F) : Now Z ρ H ρ₁ st₁ H₁ G :=
  ⟨n.stp.less h, n.sr, fun a ha => n.th a (h.subset ha), fun a ha => n.out a (h.subset ha), n.nd.sublist h⟩
theorem Post.mono {r : R α} {Q Q' : β → Hp → Prop} (h : Post rel Z W r ρ σ H Q) (q : ∀ v H', Q v H' → Q' v H') : Post rel Z W r ρ σ H Q' := by
  cases r with
  | ok d s => exact fun ρ' H' v F a b c => q v H' (h ρ' H' v F a b c)
  | exc e s => exact h
  | bad => exact h
/-- the first of two: behind it stands where we are, and what is left to be shown -/
theorem Post.seq (ok : RelOk Z rel₁) {m : M γ} {f : γ → M α} {Q : β → Hp → Prop} (n : Now Z ρ H ρ₁ st₁ H₁ F) (s : SR Z ρ st H) (h : Post rel Z W (bnd m f st₁) ρ σ H Q) :
    Post rel₁ Z W (m st₁) ρ₁ σ H₁ (fun v H' => ∃ ρ' d st' G, Now Z ρ H ρ' st' H' (F ++ G) ∧ Stp ρ₁ H₁ ρ' H' G ∧ rel₁ ρ' H' d v G ∧ Post rel Z W (f d st') ρ σ H Q) := by
  unfold bnd at h
  cases e : m st₁ with
  | ok d s' =>
    rw [e] at h
    exact fun ρ' H' v G t sr r => ⟨ρ', d, s', G, n.more s t sr (ok.there r), t, r, h⟩
  | exc x s' =>
    rw [e] at h
    exact fun ρ' H' cls dx t sr r => h ρ' H' cls dx (n.more s t sr (by simp)).stp.none sr r
  | bad => rw [e] at h; exact h
/-- the rest is the whole -/
theorem Post.tail (ok : RelOk Z rel) {r : R α} {Q : β → Hp → Prop} (n : Now Z ρ H ρ₁ st₁ H₁ F) (s : SR Z ρ st H) (h : Post rel Z W r ρ σ H Q) : Post rel Z W r ρ₁ σ H₁ Q := by
  cases r with
  | ok d s' => exact fun ρ' H' v G t sr q => h ρ' H' v G ((n.more s t sr (ok.there q)).stp.less (List.sublist_append_right _ _)) sr q
  | exc x s' => exact fun ρ' H' cls dx t sr q => h ρ' H' cls dx (n.more s t sr (by simp)).stp.none sr q
  | bad => exact h
theorem Post.ret {d : α} {v : β} {Q : β → Hp → Prop} (h : Post rel Z W (ret d st') ρ σ H Q) (n : Now Z ρ H ρ' st' H' F) (r : rel ρ' H' d v F) : Q v H' := h ρ' H' v F n.stp n.sr r
theorem Post.ok {d : α} {v : β} {Q : β → Hp → Prop} (h : Post rel Z W (.ok d st') ρ σ H Q) (n : Now Z ρ H ρ' st' H' F) (r : rel ρ' H' d v F) : Q v H' := h ρ' H' v F n.stp n.sr r
/-- a new thing at p, tracked beside -/
theorem Now.new (n : Now Z ρ H ρ' st' H' F) (s : SR Z ρ st H) {p : Addr} {o : HO} (hp : H' p = none) : Now Z ρ H ρ' st' (upd H' p o) (p :: F) := by
  have hpr : p ∉ ρ' := n.sr.fresh hp
  have hpF : p ∉ F := fun z => n.th p z hp
  have up : ∀ a u, H' a = some u → upd H' p o a = some u := fun a u e => by rw [upd_ne (fun z => by rw [z, hp] at e; cases e)]; exact e
  obtain ⟨N, rfl, nd, f, k⟩ := n.stp
  have h0 : H p = none := by
    cases e : H p with
    | none => rfl
    | some u =>
      have := k p u e (fun z => hpr (List.mem_append_left _ z))
      rw [hp] at this; cases this
  refine ⟨⟨N, rfl, ?_, ?_, fun a u e z => up a u (k a u e z)⟩, ?_, ?_, ?_, List.nodup_cons.mpr ⟨hpF, n.nd⟩⟩
  · have q := List.nodup_append.mp nd
    refine List.nodup_append.mpr ⟨q.1, List.nodup_cons.mpr ⟨hpF, n.nd⟩, ?_⟩
    intro a ha b hb e
    subst e
    rcases List.mem_cons.mp hb with rfl | hb
    · exact hpr (List.mem_append_right _ ha)
    · exact q.2.2 a ha a hb rfl
  · intro a ha
    rcases List.mem_append.mp ha with ha | ha
    · exact f a (List.mem_append_left _ ha)
    · rcases List.mem_cons.mp ha with rfl | ha
      · exact h0
      · exact f a (List.mem_append_right _ ha)
  · refine ⟨n.sr.len, n.sr.nd, n.sr.kind, fun l c a h1 h2 => ?_⟩
    exact Rp.stay (fun _ _ e => e) (fun a u e _ => up a u e) (fun b _ u e => up b u e) (n.sr.cell l c a h1 h2)
  · intro a ha
    rcases List.mem_cons.mp ha with rfl | ha
    · rw [upd_same]; exact nofun
    · intro z
      cases e : H' a with
      | none => exact n.th a ha e
      | some u => rw [up a u e] at z; cases z
  · intro a ha
    rcases List.mem_cons.mp ha with rfl | ha
    · exact hpr
    · exact n.out a ha
theorem rp_up {p : Addr} {o : HO} (hp : H' p = none) {d : D} {v : V} (h : Rp Z ρ' H' d v F) : Rp Z ρ' (upd H' p o) d v F := by
  have up : ∀ a u, H' a = some u → upd H' p o a = some u := fun a u e => by rw [upd_ne (fun z => by rw [z, hp] at e; cases e)]; exact e
  exact Rp.stay (fun _ _ e => e) (fun a u e _ => up a u e) (fun b _ u e => up b u e) h
theorem rps_up {p : Addr} {o : HO} (hp : H' p = none) {d : List D} {v : List V} (h : Rps Z ρ' H' d v F) : Rps Z ρ' (upd H' p o) d v F := by
  have up : ∀ a u, H' a = some u → upd H' p o a = some u := fun a u e => by rw [upd_ne (fun z => by rw [z, hp] at e; cases e)]; exact e
  exact Rps.stay (fun _ _ e => e) (fun a u e _ => up a u e) (fun b _ u e => up b u e) h
theorem Rps.append : ∀ {xs ys : List D} {vs ws : List V} {F G : List Addr}, Rps Z ρ H xs vs F → Rps Z ρ H ys ws G → Rps Z ρ H (xs ++ ys) (vs ++ ws) (F ++ G)
  | [], ys, vs, ws, F, G, h, k => by obtain ⟨rfl, rfl⟩ := h; exact k
  | x :: xs, ys, vs, ws, F, G, h, k => by
    obtain ⟨v, ws', F1, F2, rfl, h1, h2, rfl⟩ := h
    exact ⟨v, ws' ++ ws, F1, F2 ++ G, rfl, h1, Rps.append h2 k, by simp [List.append_assoc]⟩

/-! ### lists and tuples as they are read -/
/-- a list of these items lies at a; what is fresh of it: F -/
theorem lstv_ok {d : D} {x : V} {xs : List D} (s : SR Z ρ st H) (r : Rp Z ρ H d x F) (e : lstv st d = some xs) :
    ∃ a vs G, x = .ref a ∧ H a = some (.lst vs) ∧ Rps Z ρ H xs vs G ∧ G.Sublist F := by
  cases d with
  | lst ds =>
    cases e
    obtain ⟨a, vs, G, rfl, h, r', rfl⟩ := r
    exact ⟨a, vs, G, rfl, h, r', List.sublist_cons_self _ _⟩
  | ref l =>
    obtain ⟨a, hl, rfl, rfl⟩ := r
    cases hc : st[l]? with
    | none => simp [lstv, hc] at e
    | some c =>
      have rc := s.cell l c a hc hl
      cases c with
      | lst ds =>
        simp only [lstv, hc, Option.some.injEq] at e
        subst e
        obtain ⟨a', vs, G, z, h, r', f⟩ := rc
        cases z
        obtain rfl : G = [] := by injection f with _ f; exact f.symm
        exact ⟨a, vs, [], rfl, h, r', List.Sublist.refl _⟩
      | _ => simp [lstv, hc] at e
  | _ => simp [lstv] at e
theorem seqv_ok {d : D} {x : V} {xs : List D} (s : SR Z ρ st H) (r : Rp Z ρ H d x F) (e : seqv st d = some xs) :
    ∃ a vs G, x = .ref a ∧ (SqL Z.K H a vs ∨ SqT Z.K H a vs) ∧ Rps Z ρ H xs vs G ∧ G.Sublist F := by
  by_cases ht : ∃ ys, d = .tup ys
  · obtain ⟨ys, rfl⟩ := ht
    cases e
    obtain ⟨a, vs, rfl, h, r'⟩ := r
    exact ⟨a, vs, F, rfl, .inr h, r', List.Sublist.refl _⟩
  · by_cases hf : ∃ l ys, d = .ref l ∧ st[l]? = some (.frl ys)
    · obtain ⟨l, ys, rfl, hc⟩ := hf
      obtain ⟨a, hl, rfl, rfl⟩ := r
      have rc := s.cell l _ a hc hl
      simp only [seqv, hc, Option.some.injEq] at e
      subst e
      obtain ⟨a', o, vs, G, z, h, r', f⟩ := rc
      cases z
      obtain rfl : G = [] := by injection f with _ f; exact f.symm
      exact ⟨a, vs, [], rfl, .inl (.inl (.inr ⟨o, h⟩)), r', List.Sublist.refl _⟩
    · have e' : lstv st d = some xs := by
        cases d with
        | tup ys => exact (ht ⟨ys, rfl⟩).elim
        | ref l =>
          cases hc : st[l]? with
          | none => simp [seqv, hc] at e
          | some c => cases c with
            | frl ys => exact (hf ⟨l, ys, rfl, hc⟩).elim
            | lst ys => simpa [seqv, lstv, hc] using e
            | _ => simp [seqv, hc] at e
        | _ => simpa [seqv, lstv] using e
      obtain ⟨a, vs, G, rfl, h, r', f⟩ := lstv_ok s r e'
      exact ⟨a, vs, G, rfl, .inl (SqL.of h), r', f⟩
theorem Rps.get : ∀ {xs : List D} {vs : List V} {F : List Addr} {i : Nat} {y : D}, Rps Z ρ H xs vs F → xs[i]? = some y → ∃ v G, vs[i]? = some v ∧ Rp Z ρ H y v G ∧ G.Sublist F
  | [], vs, F, i, y, h, e => by simp at e
  | x :: xs, vs, F, 0, y, h, e => by
    obtain ⟨v, ws, F1, F2, rfl, h1, h2, rfl⟩ := h
    cases e
    exact ⟨v, F1, rfl, h1, List.sublist_append_left _ _⟩
  | x :: xs, vs, F, i + 1, y, h, e => by
    obtain ⟨v, ws, F1, F2, rfl, h1, h2, rfl⟩ := h
    obtain ⟨u, G, a, b, c⟩ := Rps.get (i := i) h2 (by simpa using e)
    exact ⟨u, G, by simpa using a, b, c.trans (List.sublist_append_right _ _)⟩
theorem Rps.take : ∀ {xs : List D} {vs : List V} {F : List Addr} (n : Nat), Rps Z ρ H xs vs F → ∃ G, Rps Z ρ H (xs.take n) (vs.take n) G ∧ G.Sublist F
  | xs, vs, F, 0, h => ⟨[], by simp [Rps], List.nil_sublist _⟩
  | [], vs, F, n + 1, h => by obtain ⟨rfl, rfl⟩ := h; exact ⟨[], by simp [Rps], List.nil_sublist _⟩
  | x :: xs, vs, F, n + 1, h => by
    obtain ⟨v, ws, F1, F2, rfl, h1, h2, rfl⟩ := h
    obtain ⟨G, a, b⟩ := Rps.take n h2
    exact ⟨F1 ++ G, ⟨v, ws.take n, F1, G, rfl, h1, a, rfl⟩, List.Sublist.append (List.Sublist.refl _) b⟩
theorem Rps.drop : ∀ {xs : List D} {vs : List V} {F : List Addr} (n : Nat), Rps Z ρ H xs vs F → ∃ G, Rps Z ρ H (xs.drop n) (vs.drop n) G ∧ G.Sublist F
  | xs, vs, F, 0, h => ⟨F, h, List.Sublist.refl _⟩
  | [], vs, F, n + 1, h => by obtain ⟨rfl, rfl⟩ := h; exact ⟨[], by simp [Rps], List.nil_sublist _⟩
  | x :: xs, vs, F, n + 1, h => by
    obtain ⟨v, ws, F1, F2, rfl, h1, h2, rfl⟩ := h
    obtain ⟨G, a, b⟩ := Rps.drop n h2
    exact ⟨G, a, b.trans (List.sublist_append_right _ _)⟩
theorem Rps.reverse : ∀ {xs : List D} {vs : List V} {F : List Addr}, Rps Z ρ H xs vs F → ∃ G, Rps Z ρ H xs.reverse vs.reverse G ∧ G.Perm F
  | [], vs, F, h => by obtain ⟨rfl, rfl⟩ := h; exact ⟨[], by simp [Rps], List.Perm.refl _⟩
  | x :: xs, vs, F, h => by
    obtain ⟨v, ws, F1, F2, rfl, h1, h2, rfl⟩ := h
    obtain ⟨G, a, b⟩ := Rps.reverse h2
    refine ⟨G ++ F1, ?_, (b.append_right F1).trans List.perm_append_comm⟩
    rw [List.reverse_cons, List.reverse_cons]
    exact a.append ⟨v, [], F1, [], rfl, h1, ⟨rfl, rfl⟩, by simp⟩
mutual
/-- a value without fresh things -/
theorem Rp.pure : ∀ {d : D} {v : V} {F : List Addr}, D.pur d = true → Rp Z ρ H d v F → F = []
  | .non, v, F, p, h => h.2
  | .bl b, v, F, p, h => h.2
  | .int i, v, F, p, h => h.2
  | .str s, v, F, p, h => h.2
  | .ref l, v, F, p, h => by obtain ⟨_, _, _, f⟩ := h; exact f
  | .tup ds, v, F, p, h => by obtain ⟨a, vs, _, _, r⟩ := h; exact Rps.pure (by simpa [D.pur] using p) r
  | .exc c fs, v, F, p, h => by obtain ⟨_, _, _, _, _, f⟩ := h; exact f
  | .lst _, v, F, p, h => by simp [D.pur] at p
  | .frl _, v, F, p, h => by simp [D.pur] at p
  | .dic _, v, F, p, h => by simp [D.pur] at p
  | .set _, v, F, p, h => by simp [D.pur] at p
  | .lam _ _, v, F, p, h => h.elim
theorem Rps.pure : ∀ {ds : List D} {vs : List V} {F : List Addr}, D.purs ds = true → Rps Z ρ H ds vs F → F = []
  | [], vs, F, p, h => h.2
  | d :: ds, vs, F, p, h => by
    obtain ⟨v, ws, F1, F2, rfl, h1, h2, rfl⟩ := h
    simp only [D.purs, Bool.and_eq_true] at p
    rw [Rp.pure p.1 h1, Rps.pure p.2 h2]
    rfl
end
theorem Rps.rep {xs : List D} {vs : List V} (h : Rps Z ρ H xs vs []) : ∀ k : Nat, Rps Z ρ H (rep k xs) (List.replicate k vs).flatten []
  | 0 => by simp [Fs.rep, Rps]
  | k + 1 => by
    have := Rps.append h (Rps.rep h k)
    simpa [Fs.rep, List.replicate_succ] using this
end
end Fs
namespace Fs
open PySem L2
/-- an operation on two values does what f says -/
def rB (Z : Wc) (W : WX) (σ : L2.St) (f : D → D → M D) : R2 := fun x y H2 Q => ∃ ρ st H ρ2 st2 d1 d2 F1 F2, SR Z ρ st H ∧ Now Z ρ H ρ2 st2 H2 (F1 ++ F2) ∧ Rp Z ρ2 H2 d1 x F1 ∧ Rp Z ρ2 H2 d2 y F2 ∧ Post (Rp Z) Z W (f d1 d2 st2) ρ σ H Q
def pyB : Bop → Operator
  | .add => .Add | .sub => .Sub | .mul => .Mult | .fdiv => .FloorDiv | .mod => .Mod | .pow => .Pow | .shl => .LShift | .shr => .RShift | .band => .BitAnd | .bxor => .BitXor
section
variable {X : Cx} {Z : Wc} {W : WX} {σ0 : L2.St}
theorem op_fdivX : OpR X (binaryOp .FloorDiv) (rI (fun _ j => j ≠ 0 ∧ j.natAbs.log2 < 9000) fun i j => .int (i.fdiv j)) := opI fun i j _ _ _ _ _ hc q => PyProof.Rows.floordiv_int hc.1 q (.inl (PyProof.noPylong_of_log2 hc.2))
theorem int_ok {op : Bop} {i j r : Int} (e : intOp op i j = some r) {pins : List (Addr × Obj)} {s : Shared} {σ : L2.St} {H : Hp} {Q : VK} {v u : Value} (I : Inv X pins σ H s) (rx : RelV (.int i) v) (ry : RelV (.int j) u) (q : Q (.int r) H) :
    wpAny (model X.prog X.w) X.A (binaryOp (pyB op) v u) (EP X pins σ Q) X.xe s := by
  cases op with
  | add => cases e; exact op_add pins s σ H _ _ v u Q I rx ry ⟨i, j, rfl, rfl, q⟩
  | sub => cases e; exact op_sub pins s σ H _ _ v u Q I rx ry ⟨i, j, rfl, rfl, q⟩
  | mul =>
    simp only [intOp] at e
    split at e
    · cases e; rename_i c; exact op_mulW pins s σ H _ _ v u Q I rx ry ⟨i, j, rfl, rfl, c, q⟩
    · cases e
  | fdiv =>
    simp only [intOp] at e
    split at e
    · cases e; rename_i c; exact op_fdivX pins s σ H _ _ v u Q I rx ry ⟨i, j, rfl, rfl, c, q⟩
    · cases e
  | mod =>
    simp only [intOp] at e
    split at e
    · cases e; rename_i c; exact op_modN pins s σ H _ _ v u Q I rx ry ⟨i, j, rfl, rfl, c, q⟩
    · cases e
  | pow =>
    simp only [intOp] at e
    split at e
    · cases e; rename_i c; exact op_pow pins s σ H _ _ v u Q I rx ry ⟨i, j, rfl, rfl, c, q⟩
    · cases e
  | shl =>
    simp only [intOp] at e
    split at e
    · cases e; rename_i c; exact op_shl pins s σ H _ _ v u Q I rx ry ⟨i, j, rfl, rfl, c, q⟩
    · cases e
  | shr =>
    simp only [intOp] at e
    split at e
    · cases e; rename_i c; exact op_shr pins s σ H _ _ v u Q I rx ry ⟨i, j, rfl, rfl, c, q⟩
    · cases e
  | band => cases e; exact op_and pins s σ H _ _ v u Q I rx ry ⟨i, j, rfl, rfl, q⟩
  | bxor => cases e; exact op_xor pins s σ H _ _ v u Q I rx ry ⟨i, j, rfl, rfl, q⟩
end
end Fs
namespace Fs
open PySem L2
section
variable (T : Tbl) (Z : Wc) (W : WX)
def iE (e : Ex) : TE := fun σ H Q => ∃ ρ env st, ER Z ρ H env σ ∧ SR Z ρ st H ∧ Post (Rp Z) Z W (ev T e env st) ρ σ H Q
def iEs (es : List Ex) : TA := fun σ H Q => ∃ ρ env st, ER Z ρ H env σ ∧ SR Z ρ st H ∧ Post (Rps Z) Z W (evs T es env st) ρ σ H Q
def iT (c : Cn) : TT := fun σ H Q => ∃ ρ env st, ER Z ρ H env σ ∧ SR Z ρ st H ∧ Post (RelEq Bool) Z W (evT T c env st) ρ σ H Q
end
section
variable {X : Cx} {T : Tbl} {Z : Wc} {W : WX} {a b c e : Expr} {A B C : Ex} {pos : Pos}
theorem pe_weak {t t' : TE} (h : PE X e t) (w : ∀ σ H Q, t' σ H Q → t σ H Q) : PE X e t' := ⟨fun pins s σ H Q I q => h.run pins s σ H Q I (w σ H Q q)⟩
theorem pt_weak {t t' : TT} (h : PT X e t) (w : ∀ σ H Q, t' σ H Q → t σ H Q) : PT X e t' := ⟨fun pins s σ H Q I q => h.run pins s σ H Q I (w σ H Q q)⟩
theorem pa_weak {es : List Expr} {t t' : TA} (h : PA X es t) (w : ∀ σ H Q, t' σ H Q → t σ H Q) : PA X es t' := ⟨fun p pins s σ H Q I q => h.run p pins s σ H Q I (w σ H Q q)⟩

/-! names and constants -/
theorem se_loc {i : Nat} {x : Str} (hN : X.N[i]? = some x) (hv : Vis X.env.scope x) (hd : (x == ("__debug__" : Str)) = false) (hcd : (x == ("__classdict__" : Str)) = false) : PE X (.Name x pos) (iE T Z W (.loc i)) := by
  refine pe_weak (pe_var hN hv hd hcd) fun σ H Q ⟨ρ, env, st, er, sr, h⟩ => ?_
  simp only [ev] at h
  cases ei : env[i]? with
  | none => rw [ei] at h; exact h.elim
  | some o => cases o with
    | none => rw [ei] at h; exact h.elim
    | some d =>
      rw [ei] at h
      obtain ⟨v, hv, rv⟩ := er.2 i d ei
      exact ⟨v, hv, h.ret (Now.start sr) rv⟩
theorem con_ok {d : D} {v : V} (hr : ∀ ρ H, Rp Z ρ H d v []) {σ : L2.St} {H : Hp} {Q : VK} (h : iE T Z W (.con d) σ H Q) : tC v σ H Q := by
  obtain ⟨ρ, env, st, er, sr, h⟩ := h
  exact Post.ret (d := d) (by simpa only [ev] using h) (Now.start sr) (hr ρ H)
theorem se_int {i : Int} {j : Nat} : PE X (.Constant (.int i) j pos) (iE T Z W (.con (.int i))) := pe_weak pe_int fun _ _ _ => con_ok (d := .int i) fun _ _ => by exact ⟨rfl, rfl⟩
theorem se_bl {i : Bool} {j : Nat} : PE X (.Constant (.bool i) j pos) (iE T Z W (.con (.bl i))) := pe_weak pe_bl fun _ _ _ => con_ok (d := .bl i) fun _ _ => by exact ⟨rfl, rfl⟩
theorem se_str {i : Str} {j : Nat} : PE X (.Constant (.str i) j pos) (iE T Z W (.con (.str i))) := pe_weak pe_str fun _ _ _ => con_ok (d := .str i) fun _ _ => by exact ⟨rfl, rfl⟩
theorem se_non {j : Nat} : PE X (.Constant .none j pos) (iE T Z W (.con .non)) := pe_weak pe_non fun _ _ _ => con_ok (d := .non) fun _ _ => by exact ⟨rfl, rfl⟩
theorem se_glob {x : Str} {d : D} {v : V} {u : Value} (hg : Gl X x) (hm : X.mg x = some u) (r : RelV v u) (hr : ∀ ρ H, Rp Z ρ H d v []) (hd : (x == ("__debug__" : Str)) = false) : PE X (.Name x pos) (iE T Z W (.con d)) :=
  pe_weak (pe_glob hg hm r hd) fun _ _ _ => con_ok hr

/-! two values, then an operation -/
theorem two_ok {f : D → D → M D} {σ : L2.St} {H : Hp} {Q : VK} (h : ∃ ρ env st, ER Z ρ H env σ ∧ SR Z ρ st H ∧ Post (Rp Z) Z W (bnd (ev T A env) (fun x => bnd (ev T B env) fun y => f x y) st) ρ σ H Q) :
    tOp (rB Z W σ f) (iE T Z W A) (iE T Z W B) σ H Q := by
  obtain ⟨ρ, env, st, er, sr, h⟩ := h
  refine ⟨ρ, env, st, er, sr, (Post.seq rpOk (Now.start sr) sr h).mono ?_⟩
  rintro x H1 ⟨ρ1, d1, st1, F1, n1, t1, r1, h1⟩
  refine ⟨ρ1, env, st1, t1.env sr er, n1.sr, (Post.seq rpOk n1 sr h1).mono ?_⟩
  rintro y H2 ⟨ρ2, d2, st2, F2, n2, t2, r2, h2⟩
  exact ⟨ρ, st, H, ρ2, st2, d1, d2, F1, F2, sr, n2, t2.val n1.sr (fun a ha => n1.out a (List.mem_append_right _ ha)) r1, r2, h2⟩
theorem se_op {op : Operator} {f : D → D → M D} {E : Ex} (ho : ∀ σ, OpR X (binaryOp op) (rB Z W σ f)) (ha : PE X a (iE T Z W A)) (hb : PE X b (iE T Z W B))
    (he : ∀ env, ev T E env = bnd (ev T A env) (fun x => bnd (ev T B env) fun y => f x y)) : PE X (.BinOp a op b pos) (iE T Z W E) :=
  ⟨fun pins s σ H Q I q => by
    refine (pe_op (ho σ) ha hb).run pins s σ H Q I ?_
    obtain ⟨ρ, env, st, er, sr, h⟩ := q
    rw [he env] at h
    exact two_ok ⟨ρ, env, st, er, sr, h⟩⟩
theorem se_cmp {op : CmpOp} {f : D → D → M D} {E : Ex} (ho : ∀ σ, OpR X (compareOp op) (rB Z W σ f)) (ha : PE X a (iE T Z W A)) (hb : PE X b (iE T Z W B)) (hm : behindInMarks op b = false)
    (he : ∀ env, ev T E env = bnd (ev T A env) (fun x => bnd (ev T B env) fun y => f x y)) : PE X (.Compare a [op] [b] pos) (iE T Z W E) :=
  ⟨fun pins s σ H Q I q => by
    refine (pe_cmpR (ho σ) ha hb hm).run pins s σ H Q I ?_
    obtain ⟨ρ, env, st, er, sr, h⟩ := q
    rw [he env] at h
    exact two_ok ⟨ρ, env, st, er, sr, h⟩⟩
/-- one value, then an operation -/
def rU1 (Z : Wc) (W : WX) (σ : L2.St) (f : D → M D) : V → Hp → VK → Prop := fun x H2 Q => ∃ ρ st H ρ2 st2 d F, SR Z ρ st H ∧ Now Z ρ H ρ2 st2 H2 F ∧ Rp Z ρ2 H2 d x F ∧ Post (Rp Z) Z W (f d st2) ρ σ H Q
theorem one_ok {f : D → M D} {σ : L2.St} {H : Hp} {Q : VK} (h : ∃ ρ env st, ER Z ρ H env σ ∧ SR Z ρ st H ∧ Post (Rp Z) Z W (bnd (ev T A env) (fun x => f x) st) ρ σ H Q) :
    tUn (rU1 Z W σ f) (iE T Z W A) σ H Q := by
  obtain ⟨ρ, env, st, er, sr, h⟩ := h
  refine ⟨ρ, env, st, er, sr, (Post.seq rpOk (Now.start sr) sr h).mono ?_⟩
  rintro x H1 ⟨ρ1, d1, st1, F1, n1, t1, r1, h1⟩
  exact ⟨ρ, st, H, ρ1, st1, d1, F1, sr, n1, r1, h1⟩
theorem se_neg (ha : PE X a (iE T Z W A)) : PE X (.UnaryOp .USub a pos) (iE T Z W (.neg A)) :=
  ⟨fun pins s σ H Q I q => by
    have h := one_ok (f := fun x => opt (intv x) fun i => ret (.int (-i))) (A := A) (by simpa only [iE, ev] using q)
    refine (pe_un un_neg ha).run pins s σ H Q I ?_
    obtain ⟨ρ, env, st, er, sr, q⟩ := q
    simp only [ev] at q
    refine ⟨ρ, env, st, er, sr, (Post.seq rpOk (Now.start sr) sr q).mono ?_⟩
    rintro x H1 ⟨ρ1, d1, st1, F1, n1, t1, r1, h1⟩
    cases d1 with
    | int i =>
      obtain ⟨rfl, rfl⟩ := r1
      exact ⟨i, rfl, Post.ret h1 n1 ⟨rfl, rfl⟩⟩
    | _ => exact h1.elim⟩

/-! displays -/
theorem sa_nil : PA X [] (iEs T Z W []) := pa_weak pa_nil fun σ H Q ⟨ρ, env, st, er, sr, h⟩ => by
  simp only [evs] at h
  exact Post.ret h (Now.start sr) ⟨rfl, rfl⟩
theorem sa_cons {es : List Expr} {As : List Ex} (ha : PE X e (iE T Z W A)) (hr : PA X es (iEs T Z W As)) (hs : starEach (e :: es) X.env = (false, eval e X.env) :: starEach es X.env) : PA X (e :: es) (iEs T Z W (A :: As)) := by
  refine pa_weak (pa_cons ha hr hs) fun σ H Q ⟨ρ, env, st, er, sr, h⟩ => ?_
  simp only [evs] at h
  refine ⟨ρ, env, st, er, sr, (Post.seq rpOk (Now.start sr) sr h).mono ?_⟩
  rintro x H1 ⟨ρ1, d1, st1, F1, n1, t1, r1, h1⟩
  refine ⟨ρ1, env, st1, t1.env sr er, n1.sr, (Post.seq rpsOk n1 sr h1).mono ?_⟩
  rintro xs H2 ⟨ρ2, d2, st2, F2, n2, t2, r2, h2⟩
  exact Post.ret h2 n2 ⟨x, xs, F1, F2, rfl, t2.val n1.sr (fun a ha => n1.out a (List.mem_append_right _ ha)) r1, r2, rfl⟩
theorem se_tup {es : List Expr} {As : List Ex} {k : Nat} (ha : PA X es (iEs T Z W As)) : PE X (.Tuple es k pos) (iE T Z W (.tup As)) := by
  refine pe_weak (pe_tup ha) fun σ H Q ⟨ρ, env, st, er, sr, h⟩ => ?_
  simp only [ev] at h
  refine ⟨ρ, env, st, er, sr, (Post.seq rpsOk (Now.start sr) sr h).mono ?_⟩
  rintro xs H1 ⟨ρ1, d1, st1, F1, n1, t1, r1, h1⟩
  cases hz : decide (d1.length ≤ sizeLine) with
  | false => rw [hz] at h1; exact h1.elim
  | true =>
    rw [hz] at h1
    refine ⟨by rw [← r1.length]; exact of_decide_eq_true hz, fun p hp => ?_⟩
    exact Post.ret h1 ((n1.new sr hp).less (List.sublist_cons_self p _)) ⟨p, xs, rfl, SqT.of upd_same, rps_up hp r1⟩
theorem se_lst {es : List Expr} {As : List Ex} (ha : PA X es (iEs T Z W As)) : PE X (.List es pos) (iE T Z W (.lst As)) := by
  refine pe_weak (pe_lst ha) fun σ H Q ⟨ρ, env, st, er, sr, h⟩ => ?_
  simp only [ev] at h
  refine ⟨ρ, env, st, er, sr, (Post.seq rpsOk (Now.start sr) sr h).mono ?_⟩
  rintro xs H1 ⟨ρ1, d1, st1, F1, n1, t1, r1, h1⟩
  cases hz : decide (d1.length ≤ sizeLine) with
  | false => rw [hz] at h1; exact h1.elim
  | true =>
    rw [hz] at h1
    refine ⟨by rw [← r1.length]; exact of_decide_eq_true hz, fun p hp => ?_⟩
    exact Post.ret h1 (n1.new sr hp) ⟨p, xs, F1, rfl, upd_same, rps_up hp r1, rfl⟩

/-! tests -/
theorem st_not {C1 : Cn} (ha : PT X a (iT T Z W C1)) : PT X (.UnaryOp .Not a pos) (iT T Z W (.nt C1)) := by
  refine pt_weak (pt_not ha) fun σ H Q ⟨ρ, env, st, er, sr, h⟩ => ?_
  simp only [evT] at h
  refine ⟨ρ, env, st, er, sr, (Post.seq reqOk (Now.start sr) sr h).mono ?_⟩
  rintro c H1 ⟨ρ1, d1, st1, F1, n1, t1, ⟨rfl, rfl⟩, h1⟩
  exact Post.ret h1 n1 ⟨rfl, rfl⟩
theorem sw_val {C1 : Cn} (h : PT X a (iT T Z W C1)) (hw : ∀ whole, isTrue a X.env whole = isTrue a X.env (eval a X.env)) : PW X a (iT T Z W C1) := ⟨fun whole pins s σ H Q I q => by rw [hw whole]; exact h.run pins s σ H Q I q⟩
theorem sw_and1 {C1 : Cn} (ha : PT X a (iT T Z W C1)) : PW X (.BoolOp .And [a] pos) (iT T Z W C1) := pw_and1 ha
theorem sw_or1 {C1 : Cn} (ha : PT X a (iT T Z W C1)) : PW X (.BoolOp .Or [a] pos) (iT T Z W C1) := pw_or1 ha
theorem sw_and {C1 C2 : Cn} {rest : List Expr} (ha : PT X a (iT T Z W C1)) (hb : PW X (.BoolOp .And (b :: rest) pos) (iT T Z W C2)) : PW X (.BoolOp .And (a :: b :: rest) pos) (iT T Z W (.and2 C1 C2)) := by
  have w := pw_and ha hb
  refine ⟨fun whole pins s σ H Q I h => w.run whole pins s σ H Q I ?_⟩
  obtain ⟨ρ, env, st, er, sr, h⟩ := h
  simp only [evT] at h
  refine ⟨ρ, env, st, er, sr, (Post.seq reqOk (Now.start sr) sr h).mono ?_⟩
  rintro c H1 ⟨ρ1, d1, st1, F1, n1, t1, ⟨rfl, rfl⟩, h1⟩
  cases d1 with
  | true => exact ⟨ρ1, env, st1, t1.env sr er, n1.sr, h1.tail reqOk n1 sr⟩
  | false => exact Post.ret h1 n1 ⟨rfl, rfl⟩
theorem sw_or {C1 C2 : Cn} {rest : List Expr} (ha : PT X a (iT T Z W C1)) (hb : PW X (.BoolOp .Or (b :: rest) pos) (iT T Z W C2)) : PW X (.BoolOp .Or (a :: b :: rest) pos) (iT T Z W (.or2 C1 C2)) := by
  have w := pw_or ha hb
  refine ⟨fun whole pins s σ H Q I h => w.run whole pins s σ H Q I ?_⟩
  obtain ⟨ρ, env, st, er, sr, h⟩ := h
  simp only [evT] at h
  refine ⟨ρ, env, st, er, sr, (Post.seq reqOk (Now.start sr) sr h).mono ?_⟩
  rintro c H1 ⟨ρ1, d1, st1, F1, n1, t1, ⟨rfl, rfl⟩, h1⟩
  cases d1 with
  | false => exact ⟨ρ1, env, st1, t1.env sr er, n1.sr, h1.tail reqOk n1 sr⟩
  | true => exact Post.ret h1 n1 ⟨rfl, rfl⟩
theorem st_ife {C1 C2 C3 : Cn} (hc : PT X c (iT T Z W C1)) (ha : PT X a (iT T Z W C2)) (hb : PT X b (iT T Z W C3)) : PT X (.IfExp c a b pos) (iT T Z W (.ife C1 C2 C3)) := by
  refine ⟨fun pins s σ H Q I h => ?_⟩
  obtain ⟨ρ, env, st, er, sr, h⟩ := h
  simp only [evT] at h
  have w := hc.run pins s σ H (fun k H1 => if k = true then iT T Z W C2 σ H1 Q else iT T Z W C3 σ H1 Q) I ?_
  · refine PyProof.Rows.isTrue_IfExp (thn w fun k s1 ⟨H1, I1, q⟩ => ?_)
    cases k with
    | true => exact ha.run pins s1 σ H1 Q I1 (by simpa using q)
    | false => exact hb.run pins s1 σ H1 Q I1 (by simpa using q)
  · refine ⟨ρ, env, st, er, sr, (Post.seq reqOk (Now.start sr) sr h).mono ?_⟩
    rintro k H1 ⟨ρ1, d1, st1, F1, n1, t1, ⟨rfl, rfl⟩, h1⟩
    cases d1 with
    | true => exact ⟨ρ1, env, st1, t1.env sr er, n1.sr, h1.tail reqOk n1 sr⟩
    | false => exact ⟨ρ1, env, st1, t1.env sr er, n1.sr, h1.tail reqOk n1 sr⟩
theorem se_ife {C1 : Cn} (hc : PT X c (iT T Z W C1)) (ha : PE X a (iE T Z W A)) (hb : PE X b (iE T Z W B)) : PE X (.IfExp c a b pos) (iE T Z W (.ife C1 A B)) := by
  refine pe_weak (pe_ifExp hc ha hb) fun σ H Q ⟨ρ, env, st, er, sr, h⟩ => ?_
  simp only [ev] at h
  refine ⟨ρ, env, st, er, sr, (Post.seq reqOk (Now.start sr) sr h).mono ?_⟩
  rintro k H1 ⟨ρ1, d1, st1, F1, n1, t1, ⟨rfl, rfl⟩, h1⟩
  cases d1 with
  | true => exact ⟨ρ1, env, st1, t1.env sr er, n1.sr, h1.tail rpOk n1 sr⟩
  | false => exact ⟨ρ1, env, st1, t1.env sr er, n1.sr, h1.tail rpOk n1 sr⟩
/-- a bool's test -/
theorem st_val (ha : PE X a (iE T Z W A)) (he : ∀ whole, isTrue a X.env whole = (do let v ← whole; standAt a.pos; holding [v] (truthy v))) (hK : X.K = Z.K) : PT X a (iT T Z W (.val A)) := by
  refine pt_weak (pt_truth ha he) fun σ H Q ⟨ρ, env, st, er, sr, h⟩ => ?_
  simp only [evT] at h
  refine ⟨ρ, env, st, er, sr, (Post.seq rpOk (Now.start sr) sr h).mono ?_⟩
  rintro x H1 ⟨ρ1, d1, st1, F1, n1, t1, r1, h1⟩
  cases e : truth st1 d1 with
  | none => simp only [e] at h1; exact h1.elim
  | some k =>
    simp only [e] at h1
    have fin : Q k H1 := Post.ret h1 (n1.less (List.nil_sublist _)) ⟨rfl, rfl⟩
    refine ⟨k, ?_, fin⟩
    rw [hK]
    cases d1 with
    | non => obtain ⟨rfl, _⟩ := r1; simp only [truth, Option.some.injEq] at e; exact e.symm
    | bl b => obtain ⟨rfl, _⟩ := r1; simp only [truth, Option.some.injEq] at e; exact e.symm
    | int i => obtain ⟨rfl, _⟩ := r1; simp only [truth, Option.some.injEq] at e; exact e.symm
    | str z =>
      obtain ⟨rfl, _⟩ := r1
      simp only [truth] at e
      split at e
      · rename_i hz; cases e; exact ⟨hz, rfl⟩
      · cases e
    | tup ds =>
      obtain ⟨p, vs, rfl, hp, r⟩ := r1
      simp only [truth, Option.some.injEq] at e
      exact .inr (.inl ⟨vs, hp, by rw [← e]; cases ds <;> cases vs <;> simp_all [Rps]⟩)
    | lst ds =>
      obtain ⟨p, vs, G, rfl, hp, r, _⟩ := r1
      simp only [truth, Option.some.injEq] at e
      exact .inl ⟨vs, SqL.of hp, by rw [← e]; cases ds <;> cases vs <;> simp_all [Rps]⟩
    | ref l =>
      obtain ⟨p, hl, rfl, _⟩ := r1
      cases hc : st1[l]? with
      | none => simp [truth, hc] at e
      | some cc =>
        have rc := n1.sr.cell l cc p hc hl
        cases cc with
        | lst ds =>
          simp only [truth, hc, Option.some.injEq] at e
          obtain ⟨p', vs, G, z, hp, r, _⟩ := rc
          cases z
          exact .inl ⟨vs, SqL.of hp, by rw [← e]; cases ds <;> cases vs <;> simp_all [Rps]⟩
        | frl ds =>
          simp only [truth, hc, Option.some.injEq] at e
          obtain ⟨p', o, vs, G, z, hp, r, _⟩ := rc
          cases z
          exact .inl ⟨vs, .inl (.inr ⟨o, hp⟩), by rw [← e]; cases ds <;> cases vs <;> simp_all [Rps]⟩
        | _ => simp [truth, hc] at e
    | _ => simp [truth] at e
end
end Fs
namespace Fs
open PySem L2
section
variable {Z : Wc} {H : Hp}
theorem get_append {ρ N : List Addr} : ∀ (l : Nat) (a : Addr), ρ[l]? = some a → (ρ ++ N)[l]? = some a := fun l a h => by
  rw [List.getElem?_append_left (List.getElem?_eq_some_iff.mp h).1]; exact h
theorem Rp.wide {ρ N : List Addr} {d : D} {v : V} {F : List Addr} (h : Rp Z ρ H d v F) : Rp Z (ρ ++ N) H d v F := Rp.stay get_append (fun _ _ e _ => e) (fun _ _ _ e => e) h
theorem Rps.wide {ρ N : List Addr} {d : List D} {v : List V} {F : List Addr} (h : Rps Z ρ H d v F) : Rps Z (ρ ++ N) H d v F := Rps.stay get_append (fun _ _ e _ => e) (fun _ _ _ e => e) h
theorem RpK.wide {ρ N : List Addr} {d : List (Ky × D)} {v : List (L2.Key × V)} {F : List Addr} (h : RpK Z ρ H d v F) : RpK Z (ρ ++ N) H d v F := RpK.stay get_append (fun _ _ e _ => e) (fun _ _ _ e => e) h
theorem RpT.wide {ρ N : List Addr} {d : List (Ky × D)} {v : List (List L2.Key × V)} {F : List Addr} (h : RpT Z ρ H d v F) : RpT Z (ρ ++ N) H d v F := RpT.stay get_append (fun _ _ e _ => e) (fun _ _ _ e => e) h
theorem SR.push {ρ : List Addr} {st : Sto} {a : Addr} {c : D} (s : SR Z ρ st H) (ha : a ∉ ρ) (k : isCell c = true) (r : Rp Z ρ H c (.ref a) [a]) : SR Z (ρ ++ [a]) (st ++ [c]) H := by
  refine ⟨by simp [s.len], ?_, ?_, ?_⟩
  · refine List.nodup_append.mpr ⟨s.nd, by simp, ?_⟩
    intro x hx y hy e
    subst e
    cases List.mem_singleton.mp hy
    exact ha hx
  · intro l d h
    by_cases hl : l < st.length
    · rw [List.getElem?_append_left hl] at h; exact s.kind l d h
    · rw [List.getElem?_append_right (Nat.le_of_not_lt hl)] at h
      rcases hh : l - st.length with _ | n
      · rw [hh] at h; cases h; exact k
      · rw [hh] at h; simp at h
  · intro l d b h1 h2
    by_cases hl : l < st.length
    · rw [List.getElem?_append_left hl] at h1
      rw [List.getElem?_append_left (by rw [s.len]; exact hl)] at h2
      exact (s.cell l d b h1 h2).wide
    · have hl' := Nat.le_of_not_lt hl
      rw [List.getElem?_append_right hl'] at h1
      rw [List.getElem?_append_right (by rw [s.len]; exact hl'), s.len] at h2
      rcases hh : l - st.length with _ | n
      · rw [hh] at h1 h2; cases h1; cases h2; exact r.wide
      · rw [hh] at h1; simp at h1
theorem disj_step {ρ N F1 F2 : List Addr} (nd : (F1 ++ F2).Nodup) (fo : ∀ a ∈ F1 ++ F2, a ∉ ρ) (p : N.Perm F1) : ∀ a ∈ F2, a ∉ ρ ++ N := fun a ha z => by
  rcases List.mem_append.mp z with z | z
  · exact fo a (List.mem_append_right _ ha) z
  · exact (List.nodup_append.mp nd).2.2 a (p.mem_iff.mp z) a ha rfl
mutual
theorem land_ok : ∀ (d : D) {st : Sto} {ρ : List Addr} {v : V} {F : List Addr}, SR Z ρ st H → Rp Z ρ H d v F → (∀ a ∈ F, a ∉ ρ) → F.Nodup →
    ∃ N, N.Perm F ∧ SR Z (ρ ++ N) (land d st).2 H ∧ Rp Z (ρ ++ N) H (land d st).1 v []
  | .non, st, ρ, v, F, s, r, fo, nd => by obtain ⟨rfl, rfl⟩ := r; exact ⟨[], .refl _, by simpa [land] using s, by simp [land, Rp]⟩
  | .bl b, st, ρ, v, F, s, r, fo, nd => by obtain ⟨rfl, rfl⟩ := r; exact ⟨[], .refl _, by simpa [land] using s, by simp [land, Rp]⟩
  | .int b, st, ρ, v, F, s, r, fo, nd => by obtain ⟨rfl, rfl⟩ := r; exact ⟨[], .refl _, by simpa [land] using s, by simp [land, Rp]⟩
  | .str b, st, ρ, v, F, s, r, fo, nd => by obtain ⟨rfl, rfl⟩ := r; exact ⟨[], .refl _, by simpa [land] using s, by simp [land, Rp]⟩
  | .ref l, st, ρ, v, F, s, r, fo, nd => by
    obtain ⟨a, h1, rfl, rfl⟩ := r
    exact ⟨[], .refl _, by simpa [land] using s, ⟨a, by simpa using h1, rfl, rfl⟩⟩
  | .exc c fs, st, ρ, v, F, s, r, fo, nd => by
    have e : F = [] := by obtain ⟨_, _, _, _, _, f⟩ := r; exact f
    subst e
    exact ⟨[], .refl _, by simpa [land] using s, by simpa [land] using r⟩
  | .lam c fs, st, ρ, v, F, s, r, fo, nd => r.elim
  | .tup ds, st, ρ, v, F, s, r, fo, nd => by
    obtain ⟨a, vs, rfl, h, r'⟩ := r
    obtain ⟨N, p, s', q⟩ := lands_ok ds s r' fo nd
    exact ⟨N, p, by simpa [land] using s', ⟨a, vs, rfl, h, q⟩⟩
  | .lst ds, st, ρ, v, F, s, r, fo, nd => by
    obtain ⟨a, vs, G, rfl, h, r', rfl⟩ := r
    obtain ⟨N, p, s', q⟩ := lands_ok ds s r' (fun b hb => fo b (List.mem_cons_of_mem _ hb)) (List.nodup_cons.mp nd).2
    have na : a ∉ ρ ++ N := fun z => by
      rcases List.mem_append.mp z with z | z
      · exact fo a List.mem_cons_self z
      · exact (List.nodup_cons.mp nd).1 (p.mem_iff.mp z)
    have s2 := s'.push (c := .lst (lands ds st).1) na rfl ⟨a, vs, [], rfl, h, q, rfl⟩
    refine ⟨N ++ [a], (p.append_right [a]).trans List.perm_append_comm, by rw [← List.append_assoc]; exact s2, ⟨a, ?_, rfl, rfl⟩⟩
    rw [← List.append_assoc, List.getElem?_append_right (by rw [s'.len]; exact Nat.le_refl _), s'.len]
    simp
  | .frl ds, st, ρ, v, F, s, r, fo, nd => by
    obtain ⟨a, o, vs, G, rfl, h, r', rfl⟩ := r
    obtain ⟨N, p, s', q⟩ := lands_ok ds s r' (fun b hb => fo b (List.mem_cons_of_mem _ hb)) (List.nodup_cons.mp nd).2
    have na : a ∉ ρ ++ N := fun z => by
      rcases List.mem_append.mp z with z | z
      · exact fo a List.mem_cons_self z
      · exact (List.nodup_cons.mp nd).1 (p.mem_iff.mp z)
    have s2 := s'.push (c := .frl (lands ds st).1) na rfl ⟨a, o, vs, [], rfl, h, q, rfl⟩
    refine ⟨N ++ [a], (p.append_right [a]).trans List.perm_append_comm, by rw [← List.append_assoc]; exact s2, ⟨a, ?_, rfl, rfl⟩⟩
    rw [← List.append_assoc, List.getElem?_append_right (by rw [s'.len]; exact Nat.le_refl _), s'.len]
    simp
  | .dic kvs, st, ρ, v, F, s, r, fo, nd => by
    obtain ⟨a, G, rfl, rfl, hh⟩ := r
    rcases hh with ⟨ws, h, r'⟩ | ⟨ws, h, r'⟩
    · obtain ⟨N, p, s', q⟩ := landK_ok kvs s r' (fun b hb => fo b (List.mem_cons_of_mem _ hb)) (List.nodup_cons.mp nd).2
      have na : a ∉ ρ ++ N := fun z => by
        rcases List.mem_append.mp z with z | z
        · exact fo a List.mem_cons_self z
        · exact (List.nodup_cons.mp nd).1 (p.mem_iff.mp z)
      have s2 := s'.push (c := .dic (landk kvs st).1) na rfl ⟨a, [], rfl, rfl, .inl ⟨ws, h, q⟩⟩
      refine ⟨N ++ [a], (p.append_right [a]).trans List.perm_append_comm, by rw [← List.append_assoc]; exact s2, ⟨a, ?_, rfl, rfl⟩⟩
      rw [← List.append_assoc, List.getElem?_append_right (by rw [s'.len]; exact Nat.le_refl _), s'.len]
      simp
    · obtain ⟨N, p, s', q⟩ := landT_ok kvs s r' (fun b hb => fo b (List.mem_cons_of_mem _ hb)) (List.nodup_cons.mp nd).2
      have na : a ∉ ρ ++ N := fun z => by
        rcases List.mem_append.mp z with z | z
        · exact fo a List.mem_cons_self z
        · exact (List.nodup_cons.mp nd).1 (p.mem_iff.mp z)
      have s2 := s'.push (c := .dic (landk kvs st).1) na rfl ⟨a, [], rfl, rfl, .inr ⟨ws, h, q⟩⟩
      refine ⟨N ++ [a], (p.append_right [a]).trans List.perm_append_comm, by rw [← List.append_assoc]; exact s2, ⟨a, ?_, rfl, rfl⟩⟩
      rw [← List.append_assoc, List.getElem?_append_right (by rw [s'.len]; exact Nat.le_refl _), s'.len]
      simp
  | .set xs, st, ρ, v, F, s, r, fo, nd => by
    obtain ⟨a, S, rfl, h, n, z, rfl⟩ := r
    have na : a ∉ ρ := fo a List.mem_cons_self
    have s2 := s.push (c := .set xs) na rfl ⟨a, S, rfl, h, n, z, rfl⟩
    refine ⟨[a], .refl _, s2, ⟨a, ?_, rfl, rfl⟩⟩
    rw [List.getElem?_append_right (by rw [s.len]; exact Nat.le_refl _), s.len]
    simp
theorem lands_ok : ∀ (ds : List D) {st : Sto} {ρ : List Addr} {vs : List V} {F : List Addr}, SR Z ρ st H → Rps Z ρ H ds vs F → (∀ a ∈ F, a ∉ ρ) → F.Nodup →
    ∃ N, N.Perm F ∧ SR Z (ρ ++ N) (lands ds st).2 H ∧ Rps Z (ρ ++ N) H (lands ds st).1 vs []
  | [], st, ρ, v, F, s, r, fo, nd => by obtain ⟨rfl, rfl⟩ := r; exact ⟨[], .refl _, by simpa [lands] using s, by simp [lands, Rps]⟩
  | d :: ds, st, ρ, v, F, s, r, fo, nd => by
    obtain ⟨u, ws, F1, F2, rfl, r1, r2, rfl⟩ := r
    obtain ⟨N1, p1, s1, q1⟩ := land_ok d s r1 (fun a ha => fo a (List.mem_append_left _ ha)) (List.nodup_append.mp nd).1
    obtain ⟨N2, p2, s2, q2⟩ := lands_ok ds s1 r2.wide (disj_step nd fo p1) (List.nodup_append.mp nd).2.1
    refine ⟨N1 ++ N2, p1.append p2, by rw [← List.append_assoc]; exact s2, ?_⟩
    rw [← List.append_assoc]
    exact ⟨u, ws, [], [], rfl, q1.wide, q2, rfl⟩
theorem landK_ok : ∀ (ds : List (Ky × D)) {st : Sto} {ρ : List Addr} {vs : List (L2.Key × V)} {F : List Addr}, SR Z ρ st H → RpK Z ρ H ds vs F → (∀ a ∈ F, a ∉ ρ) → F.Nodup →
    ∃ N, N.Perm F ∧ SR Z (ρ ++ N) (landk ds st).2 H ∧ RpK Z (ρ ++ N) H (landk ds st).1 vs []
  | [], st, ρ, v, F, s, r, fo, nd => by obtain ⟨rfl, rfl⟩ := r; exact ⟨[], .refl _, by simpa [landk] using s, by simp [landk, RpK]⟩
  | (k, d) :: ds, st, ρ, v, F, s, r, fo, nd => by
    obtain ⟨j, u, ws, F1, F2, rfl, rfl, r1, r2, rfl⟩ := r
    obtain ⟨N1, p1, s1, q1⟩ := land_ok d s r1 (fun a ha => fo a (List.mem_append_left _ ha)) (List.nodup_append.mp nd).1
    obtain ⟨N2, p2, s2, q2⟩ := landK_ok ds s1 r2.wide (disj_step nd fo p1) (List.nodup_append.mp nd).2.1
    refine ⟨N1 ++ N2, p1.append p2, by rw [← List.append_assoc]; exact s2, ?_⟩
    rw [← List.append_assoc]
    exact ⟨j, u, ws, [], [], rfl, rfl, q1.wide, q2, rfl⟩
theorem landT_ok : ∀ (ds : List (Ky × D)) {st : Sto} {ρ : List Addr} {vs : List (List L2.Key × V)} {F : List Addr}, SR Z ρ st H → RpT Z ρ H ds vs F → (∀ a ∈ F, a ∉ ρ) → F.Nodup →
    ∃ N, N.Perm F ∧ SR Z (ρ ++ N) (landk ds st).2 H ∧ RpT Z (ρ ++ N) H (landk ds st).1 vs []
  | [], st, ρ, v, F, s, r, fo, nd => by obtain ⟨rfl, rfl⟩ := r; exact ⟨[], .refl _, by simpa [landk] using s, by simp [landk, RpT]⟩
  | (k, d) :: ds, st, ρ, v, F, s, r, fo, nd => by
    obtain ⟨j, u, ws, F1, F2, rfl, rfl, r1, r2, rfl⟩ := r
    obtain ⟨N1, p1, s1, q1⟩ := land_ok d s r1 (fun a ha => fo a (List.mem_append_left _ ha)) (List.nodup_append.mp nd).1
    obtain ⟨N2, p2, s2, q2⟩ := landT_ok ds s1 r2.wide (disj_step nd fo p1) (List.nodup_append.mp nd).2.1
    refine ⟨N1 ++ N2, p1.append p2, by rw [← List.append_assoc]; exact s2, ?_⟩
    rw [← List.append_assoc]
    exact ⟨j, u, ws, [], [], rfl, rfl, q1.wide, q2, rfl⟩
end
/-- landed: nothing fresh is left -/
theorem Now.landed {ρ ρ' N : List Addr} {H0 : Hp} {st st' : Sto} {F G : List Addr} (n : Now Z ρ H0 ρ' st H (F ++ G)) (p : N.Perm G) (s : SR Z (ρ' ++ N) st' H) : Now Z ρ H0 (ρ' ++ N) st' H F := by
  obtain ⟨M, rfl, nd, f, k⟩ := n.stp
  have pm : (M ++ N ++ F).Perm (M ++ (F ++ G)) := by
    rw [List.append_assoc]
    exact List.Perm.append_left M ((List.perm_append_comm (l₁ := N)).trans (List.Perm.append_left F p))
  have st1 : Stp ρ H0 (ρ ++ M ++ N) H F := ⟨M ++ N, by simp [List.append_assoc], pm.nodup_iff.mpr nd, fun a ha => f a (pm.mem_iff.mp ha), k⟩
  refine ⟨st1, s, fun a ha => n.th a (List.mem_append_left _ ha), fun a ha z => ?_, (List.nodup_append.mp n.nd).1⟩
  rcases List.mem_append.mp z with z | z
  · exact n.out a (List.mem_append_left _ ha) z
  · exact (List.nodup_append.mp n.nd).2.2 a ha a (p.mem_iff.mp z) rfl
end
end Fs
namespace Fs
open PySem L2
theorem perm4 {α : Type} (A B C E : List α) : ((A ++ B) ++ (C ++ E)).Perm ((A ++ C) ++ (E ++ B)) := by
  rw [List.append_assoc, List.append_assoc]
  refine List.Perm.append_left A ?_
  rw [← List.append_assoc, ← List.append_assoc]
  have h1 : (B ++ C ++ E).Perm (C ++ B ++ E) := List.Perm.append_right E List.perm_append_comm
  refine h1.trans ?_
  rw [List.append_assoc, List.append_assoc]
  exact List.Perm.append_left C List.perm_append_comm
section
variable {Z : Wc} {H : Hp} {ρ : List Addr} {st : Sto} {b : Nat}
/-- the places of locations -/
def locs (ρ : List Addr) (L : List Nat) : List Addr := L.filterMap fun m => ρ[m]?
theorem nodup_locs (n : ρ.Nodup) : ∀ {L : List Nat}, L.Nodup → (locs ρ L).Nodup
  | [], _ => List.nodup_nil
  | l :: L, h => by
    have ih := nodup_locs n (List.nodup_cons.mp h).2
    unfold locs at ih ⊢
    cases e : ρ[l]? with
    | none => simpa [List.filterMap_cons, e] using ih
    | some a =>
      simp only [List.filterMap_cons, e]
      refine List.nodup_cons.mpr ⟨fun z => ?_, ih⟩
      obtain ⟨m, hm, em⟩ := List.mem_filterMap.mp z
      have := (List.getElem?_inj (List.getElem?_eq_some_iff.mp e).1 n).mp (e.trans em.symm)
      subst this
      exact (List.nodup_cons.mp h).1 hm
theorem locs_append (L M : List Nat) : locs ρ (L ++ M) = locs ρ L ++ locs ρ M := List.filterMap_append
def RbG (Z : Wc) (ρ : List Addr) (H : Hp) (b : Nat) (g : Nat → List Nat → Option (D × List Nat)) : Prop := ∀ (l : Nat) (vis : List Nat) (d' : D) (vis' : List Nat), g l vis = some (d', vis') → b ≤ l →
  ∃ (L : List Nat) (G : List Addr), vis'.Perm (L ++ vis) ∧ L.Nodup ∧ (∀ m ∈ L, b ≤ m ∧ m ∉ vis) ∧ G.Perm (locs ρ L) ∧ ∀ a, ρ[l]? = some a → Rp Z (ρ.take b) H d' (.ref a) G
theorem vis_step {vis vis1 vis2 L1 L2 : List Nat} (p1 : vis1.Perm (L1 ++ vis)) (n1 : L1.Nodup) (o1 : ∀ m ∈ L1, b ≤ m ∧ m ∉ vis) (p2 : vis2.Perm (L2 ++ vis1)) (n2 : L2.Nodup) (o2 : ∀ m ∈ L2, b ≤ m ∧ m ∉ vis1) :
    vis2.Perm ((L2 ++ L1) ++ vis) ∧ (L2 ++ L1).Nodup ∧ ∀ m ∈ L2 ++ L1, b ≤ m ∧ m ∉ vis := by
  refine ⟨p2.trans (by rw [List.append_assoc]; exact List.Perm.append_left L2 p1), List.nodup_append.mpr ⟨n2, n1, ?_⟩, ?_⟩
  · intro x hx y hy e
    subst e
    exact (o2 x hx).2 (p1.mem_iff.mpr (List.mem_append_left _ hy))
  · intro m hm
    rcases List.mem_append.mp hm with hm | hm
    · exact ⟨(o2 m hm).1, fun z => (o2 m hm).2 (p1.mem_iff.mpr (List.mem_append_right _ z))⟩
    · exact o1 m hm
mutual
theorem clsRp : ∀ (d : D) {v : V} {F : List Addr}, D.cls b d = true → Rp Z ρ H d v F → Rp Z (ρ.take b) H d v F
  | .non, v, F, c, r => r
  | .bl _, v, F, c, r => r
  | .int _, v, F, c, r => r
  | .str _, v, F, c, r => r
  | .ref l, v, F, c, r => by
    obtain ⟨a, h, e, f⟩ := r
    simp only [D.cls, decide_eq_true_eq] at c
    exact ⟨a, by rw [List.getElem?_take_of_lt c]; exact h, e, f⟩
  | .tup ds, v, F, c, r => by
    obtain ⟨a, vs, e, h, r⟩ := r
    exact ⟨a, vs, e, h, clsRps ds (by simpa [D.cls] using c) r⟩
  | .exc k fs, v, F, c, r => by
    obtain ⟨a, dx, e, h, r, f⟩ := r
    exact ⟨a, dx, e, h, clsRpX fs (by simpa [D.cls] using c) r, f⟩
  | .lst _, v, F, c, r => by simp [D.cls] at c
  | .frl _, v, F, c, r => by simp [D.cls] at c
  | .dic _, v, F, c, r => by simp [D.cls] at c
  | .set _, v, F, c, r => by simp [D.cls] at c
  | .lam _ _, v, F, c, r => r.elim
theorem clsRpX : ∀ (ds : List D) {f : Option Str} {dx : Option Addr}, D.clss b ds = true → RpX Z ρ H f dx ds → RpX Z (ρ.take b) H f dx ds
  | [], f, dx, c, r => r
  | d :: ds, f, dx, c, r => by
    obtain ⟨e, n, x, u, h1, h2, h3, r⟩ := r
    simp only [D.clss, Bool.and_eq_true] at c
    exact ⟨e, n, x, u, h1, h2, h3, clsRp d c.1 r⟩
theorem clsRps : ∀ (ds : List D) {v : List V} {F : List Addr}, D.clss b ds = true → Rps Z ρ H ds v F → Rps Z (ρ.take b) H ds v F
  | [], v, F, c, r => r
  | d :: ds, v, F, c, r => by
    obtain ⟨u, ws, F1, F2, e, r1, r2, f⟩ := r
    simp only [D.clss, Bool.and_eq_true] at c
    exact ⟨u, ws, F1, F2, e, clsRp d c.1 r1, clsRps ds c.2 r2, f⟩
theorem clsRpK : ∀ (ds : List (Ky × D)) {v : List (L2.Key × V)} {F : List Addr}, D.clsk b ds = true → RpK Z ρ H ds v F → RpK Z (ρ.take b) H ds v F
  | [], v, F, c, r => r
  | (k, d) :: ds, v, F, c, r => by
    obtain ⟨j, u, ws, F1, F2, z, e, r1, r2, f⟩ := r
    simp only [D.clsk, Bool.and_eq_true] at c
    exact ⟨j, u, ws, F1, F2, z, e, clsRp d c.1 r1, clsRpK ds c.2 r2, f⟩
theorem clsRpT : ∀ (ds : List (Ky × D)) {v : List (List L2.Key × V)} {F : List Addr}, D.clsk b ds = true → RpT Z ρ H ds v F → RpT Z (ρ.take b) H ds v F
  | [], v, F, c, r => r
  | (k, d) :: ds, v, F, c, r => by
    obtain ⟨j, u, ws, F1, F2, z, e, r1, r2, f⟩ := r
    simp only [D.clsk, Bool.and_eq_true] at c
    exact ⟨j, u, ws, F1, F2, z, e, clsRp d c.1 r1, clsRpT ds c.2 r2, f⟩
end
mutual
/-- what is held has its references below -/
theorem cls_of : ∀ (d : D) {v : V}, Rp Z ρ H d v [] → D.cls ρ.length d = true
  | .non, v, r => rfl
  | .bl _, v, r => rfl
  | .int _, v, r => rfl
  | .str _, v, r => rfl
  | .ref l, v, r => by
    obtain ⟨a, h, _, _⟩ := r
    simpa [D.cls] using (List.getElem?_eq_some_iff.mp h).1
  | .tup ds, v, r => by obtain ⟨_, _, _, _, r⟩ := r; simpa [D.cls] using clss_of ds r
  | .exc c fs, v, r => by obtain ⟨_, _, _, _, r, _⟩ := r; simpa [D.cls] using clsX_of fs r
  | .lst ds, v, r => by obtain ⟨_, _, _, _, _, _, z⟩ := r; cases z
  | .frl ds, v, r => by obtain ⟨_, _, _, _, _, _, _, z⟩ := r; cases z
  | .dic ds, v, r => by obtain ⟨_, _, _, z, _⟩ := r; cases z
  | .set ds, v, r => by obtain ⟨_, _, _, _, _, _, z⟩ := r; cases z
  | .lam _ _, v, r => r.elim
theorem clsX_of : ∀ (ds : List D) {f : Option Str} {dx : Option Addr}, RpX Z ρ H f dx ds → D.clss ρ.length ds = true
  | [], f, dx, r => rfl
  | d :: ds, f, dx, r => by
    obtain ⟨rfl, n, x, u, _, _, _, r⟩ := r
    simp [D.clss, cls_of d r]
theorem clss_of : ∀ (ds : List D) {vs : List V}, Rps Z ρ H ds vs [] → D.clss ρ.length ds = true
  | [], vs, r => rfl
  | d :: ds, vs, r => by
    obtain ⟨u, ws, F1, F2, _, r1, r2, f⟩ := r
    obtain ⟨rfl, rfl⟩ := List.append_eq_nil_iff.mp f.symm
    simp [D.clss, cls_of d r1, clss_of ds r2]
theorem clsK_of : ∀ (ds : List (Ky × D)) {vs : List (L2.Key × V)}, RpK Z ρ H ds vs [] → D.clsk ρ.length ds = true
  | [], vs, r => rfl
  | (k, d) :: ds, vs, r => by
    obtain ⟨j, u, ws, F1, F2, _, _, r1, r2, f⟩ := r
    obtain ⟨rfl, rfl⟩ := List.append_eq_nil_iff.mp f.symm
    simp [D.clsk, cls_of d r1, clsK_of ds r2]
theorem clsT_of : ∀ (ds : List (Ky × D)) {vs : List (List L2.Key × V)}, RpT Z ρ H ds vs [] → D.clsk ρ.length ds = true
  | [], vs, r => rfl
  | (k, d) :: ds, vs, r => by
    obtain ⟨j, u, ws, F1, F2, _, _, r1, r2, f⟩ := r
    obtain ⟨rfl, rfl⟩ := List.append_eq_nil_iff.mp f.symm
    simp [D.clsk, cls_of d r1, clsT_of ds r2]
end
theorem cellCl_of {c : D} {a : Addr} (k : isCell c = true) (r : Rp Z ρ H c (.ref a) [a]) : cellCl ρ.length c = true := by
  cases c with
  | lst ds =>
    obtain ⟨b, vs, G, e, h1, r, f⟩ := r
    obtain rfl : G = [] := by injection f with _ f; exact f.symm
    simpa [cellCl] using clss_of ds r
  | frl ds =>
    obtain ⟨b, o, vs, G, e, h1, r, f⟩ := r
    obtain rfl : G = [] := by injection f with _ f; exact f.symm
    simpa [cellCl] using clss_of ds r
  | dic kvs =>
    obtain ⟨b, G, e, f, hh⟩ := r
    obtain rfl : G = [] := by injection f with _ f; exact f.symm
    rcases hh with ⟨ws, h1, r⟩ | ⟨ws, h1, r⟩
    · simpa [cellCl] using clsK_of kvs r
    · simpa [cellCl] using clsT_of kvs r
  | set xs => rfl
  | _ => cases k
theorem clsCell {c : D} {v : V} {F : List Addr} (h : cellCl b c = true) (r : Rp Z ρ H c v F) : Rp Z (ρ.take b) H c v F := by
  cases c with
  | lst ds =>
    obtain ⟨a, vs, G, e, h1, r, f⟩ := r
    exact ⟨a, vs, G, e, h1, clsRps ds (by simpa [cellCl] using h) r, f⟩
  | frl ds =>
    obtain ⟨a, o, vs, G, e, h1, r, f⟩ := r
    exact ⟨a, o, vs, G, e, h1, clsRps ds (by simpa [cellCl] using h) r, f⟩
  | dic kvs =>
    obtain ⟨a, G, e, f, hh⟩ := r
    have h' : D.clsk b kvs = true := by simpa [cellCl] using h
    refine ⟨a, G, e, f, ?_⟩
    rcases hh with ⟨ws, h1, r⟩ | ⟨ws, h1, r⟩
    · exact .inl ⟨ws, h1, clsRpK kvs h' r⟩
    · exact .inr ⟨ws, h1, clsRpT kvs h' r⟩
  | set xs => exact r
  | _ => simp [cellCl] at h
mutual
theorem rb_ok {g : Nat → List Nat → Option (D × List Nat)} (hg : RbG Z ρ H b g) : ∀ (d : D) {vis vis' : List Nat} {d' : D} {v : V} {F : List Addr}, rbD g b d vis = some (d', vis') → Rp Z ρ H d v F →
    ∃ (L : List Nat) (G : List Addr), vis'.Perm (L ++ vis) ∧ L.Nodup ∧ (∀ m ∈ L, b ≤ m ∧ m ∉ vis) ∧ G.Perm (F ++ locs ρ L) ∧ Rp Z (ρ.take b) H d' v G
  | .non, vis, vis', d', v, F, e, r => by
    simp only [rbD, Option.some.injEq, Prod.mk.injEq] at e
    obtain ⟨rfl, rfl⟩ := e
    exact ⟨[], F, .refl _, .nil, by simp, by simp [locs], r⟩
  | .bl _, vis, vis', d', v, F, e, r => by
    simp only [rbD, Option.some.injEq, Prod.mk.injEq] at e
    obtain ⟨rfl, rfl⟩ := e
    exact ⟨[], F, .refl _, .nil, by simp, by simp [locs], r⟩
  | .int _, vis, vis', d', v, F, e, r => by
    simp only [rbD, Option.some.injEq, Prod.mk.injEq] at e
    obtain ⟨rfl, rfl⟩ := e
    exact ⟨[], F, .refl _, .nil, by simp, by simp [locs], r⟩
  | .str _, vis, vis', d', v, F, e, r => by
    simp only [rbD, Option.some.injEq, Prod.mk.injEq] at e
    obtain ⟨rfl, rfl⟩ := e
    exact ⟨[], F, .refl _, .nil, by simp, by simp [locs], r⟩
  | .set _, vis, vis', d', v, F, e, r => by
    simp only [rbD, Option.some.injEq, Prod.mk.injEq] at e
    obtain ⟨rfl, rfl⟩ := e
    exact ⟨[], F, .refl _, .nil, by simp, by simp [locs], r⟩
  | .ref l, vis, vis', d', v, F, e, r => by
    simp only [rbD] at e
    cases hl : decide (l < b) with
    | true =>
      rw [hl] at e
      simp only [Option.some.injEq, Prod.mk.injEq] at e
      obtain ⟨rfl, rfl⟩ := e
      exact ⟨[], F, .refl _, .nil, by simp, by simp [locs], clsRp (b := b) (.ref l) (by simpa [D.cls] using hl) r⟩
    | false =>
      rw [hl] at e
      obtain ⟨a, h1, rfl, rfl⟩ := r
      obtain ⟨L, G, p, n, o, q, k⟩ := hg l vis d' vis' e (by simpa using hl)
      exact ⟨L, G, p, n, o, by simpa using q, k a h1⟩
  | .tup ds, vis, vis', d', v, F, e, r => by
    obtain ⟨a, vs, rfl, h, r⟩ := r
    simp only [rbD, Option.map_eq_some_iff] at e
    obtain ⟨⟨x, y⟩, e1, e2⟩ := e
    cases e2
    obtain ⟨L, G, p, n, o, q, k⟩ := rbs_ok hg ds e1 r
    exact ⟨L, G, p, n, o, q, ⟨a, vs, rfl, h, k⟩⟩
  | .lst ds, vis, vis', d', v, F, e, r => by
    obtain ⟨a, vs, G0, rfl, h, r, rfl⟩ := r
    simp only [rbD, Option.map_eq_some_iff] at e
    obtain ⟨⟨x, y⟩, e1, e2⟩ := e
    cases e2
    obtain ⟨L, G, p, n, o, q, k⟩ := rbs_ok hg ds e1 r
    exact ⟨L, a :: G, p, n, o, List.Perm.cons a q, ⟨a, vs, G, rfl, h, k, rfl⟩⟩
  | .dic kvs, vis, vis', d', v, F, e, r => by
    obtain ⟨a, G0, rfl, rfl, hh⟩ := r
    simp only [rbD, Option.map_eq_some_iff] at e
    obtain ⟨⟨x, y⟩, e1, e2⟩ := e
    cases e2
    rcases hh with ⟨ws, h, r⟩ | ⟨ws, h, r⟩
    · obtain ⟨L, G, p, n, o, q, k⟩ := rbK_ok hg kvs e1 r
      exact ⟨L, a :: G, p, n, o, List.Perm.cons a q, ⟨a, G, rfl, rfl, .inl ⟨ws, h, k⟩⟩⟩
    · obtain ⟨L, G, p, n, o, q, k⟩ := rbT_ok hg kvs e1 r
      exact ⟨L, a :: G, p, n, o, List.Perm.cons a q, ⟨a, G, rfl, rfl, .inr ⟨ws, h, k⟩⟩⟩
  | .exc c fs, vis, vis', d', v, F, e, r => by
    simp only [rbD] at e
    cases hc : D.clss b fs with
    | false => rw [hc] at e; cases e
    | true =>
      rw [hc] at e
      simp only [Option.some.injEq, Prod.mk.injEq] at e
      obtain ⟨rfl, rfl⟩ := e
      exact ⟨[], F, .refl _, .nil, by simp, by simp [locs], clsRp (b := b) (.exc c fs) (by simpa [D.cls] using hc) r⟩
  | .lam c fs, vis, vis', d', v, F, e, r => r.elim
  | .frl ds, vis, vis', d', v, F, e, r => by simp [rbD] at e
theorem rbs_ok {g : Nat → List Nat → Option (D × List Nat)} (hg : RbG Z ρ H b g) : ∀ (ds : List D) {vis vis' : List Nat} {ds' : List D} {vs : List V} {F : List Addr}, rbDs g b ds vis = some (ds', vis') → Rps Z ρ H ds vs F →
    ∃ (L : List Nat) (G : List Addr), vis'.Perm (L ++ vis) ∧ L.Nodup ∧ (∀ m ∈ L, b ≤ m ∧ m ∉ vis) ∧ G.Perm (F ++ locs ρ L) ∧ Rps Z (ρ.take b) H ds' vs G
  | [], vis, vis', d', v, F, e, r => by
    simp only [rbDs, Option.some.injEq, Prod.mk.injEq] at e
    obtain ⟨rfl, rfl⟩ := e
    exact ⟨[], F, .refl _, .nil, by simp, by simp [locs], r⟩
  | d :: ds, vis, vis', d', v, F, e, r => by
    obtain ⟨u, ws, F1, F2, rfl, r1, r2, rfl⟩ := r
    simp only [rbDs, Option.bind_eq_some_iff, Option.map_eq_some_iff] at e
    obtain ⟨⟨x, y⟩, e1, ⟨x2, y2⟩, e2, e3⟩ := e
    cases e3
    obtain ⟨L1, G1, p1, n1, o1, q1, k1⟩ := rb_ok hg d e1 r1
    obtain ⟨L2, G2, p2, n2, o2, q2, k2⟩ := rbs_ok hg ds e2 r2
    obtain ⟨p, n, o⟩ := vis_step p1 n1 o1 p2 n2 o2
    refine ⟨L2 ++ L1, G1 ++ G2, p, n, o, ?_, ⟨u, ws, G1, G2, rfl, k1, k2, rfl⟩⟩
    rw [locs_append]
    exact (q1.append q2).trans (perm4 _ _ _ _)
theorem rbK_ok {g : Nat → List Nat → Option (D × List Nat)} (hg : RbG Z ρ H b g) : ∀ (ds : List (Ky × D)) {vis vis' : List Nat} {ds' : List (Ky × D)} {vs : List (L2.Key × V)} {F : List Addr}, rbDk g b ds vis = some (ds', vis') → RpK Z ρ H ds vs F →
    ∃ (L : List Nat) (G : List Addr), vis'.Perm (L ++ vis) ∧ L.Nodup ∧ (∀ m ∈ L, b ≤ m ∧ m ∉ vis) ∧ G.Perm (F ++ locs ρ L) ∧ RpK Z (ρ.take b) H ds' vs G
  | [], vis, vis', d', v, F, e, r => by
    simp only [rbDk, Option.some.injEq, Prod.mk.injEq] at e
    obtain ⟨rfl, rfl⟩ := e
    exact ⟨[], F, .refl _, .nil, by simp, by simp [locs], r⟩
  | (k, d) :: ds, vis, vis', d', v, F, e, r => by
    obtain ⟨j, u, ws, F1, F2, rfl, rfl, r1, r2, rfl⟩ := r
    simp only [rbDk, Option.bind_eq_some_iff, Option.map_eq_some_iff] at e
    obtain ⟨⟨x, y⟩, e1, ⟨x2, y2⟩, e2, e3⟩ := e
    cases e3
    obtain ⟨L1, G1, p1, n1, o1, q1, k1⟩ := rb_ok hg d e1 r1
    obtain ⟨L2, G2, p2, n2, o2, q2, k2⟩ := rbK_ok hg ds e2 r2
    obtain ⟨p, n, o⟩ := vis_step p1 n1 o1 p2 n2 o2
    refine ⟨L2 ++ L1, G1 ++ G2, p, n, o, ?_, ⟨j, u, ws, G1, G2, rfl, rfl, k1, k2, rfl⟩⟩
    rw [locs_append]
    exact (q1.append q2).trans (perm4 _ _ _ _)
theorem rbT_ok {g : Nat → List Nat → Option (D × List Nat)} (hg : RbG Z ρ H b g) : ∀ (ds : List (Ky × D)) {vis vis' : List Nat} {ds' : List (Ky × D)} {vs : List (List L2.Key × V)} {F : List Addr}, rbDk g b ds vis = some (ds', vis') → RpT Z ρ H ds vs F →
    ∃ (L : List Nat) (G : List Addr), vis'.Perm (L ++ vis) ∧ L.Nodup ∧ (∀ m ∈ L, b ≤ m ∧ m ∉ vis) ∧ G.Perm (F ++ locs ρ L) ∧ RpT Z (ρ.take b) H ds' vs G
  | [], vis, vis', d', v, F, e, r => by
    simp only [rbDk, Option.some.injEq, Prod.mk.injEq] at e
    obtain ⟨rfl, rfl⟩ := e
    exact ⟨[], F, .refl _, .nil, by simp, by simp [locs], r⟩
  | (k, d) :: ds, vis, vis', d', v, F, e, r => by
    obtain ⟨j, u, ws, F1, F2, rfl, rfl, r1, r2, rfl⟩ := r
    simp only [rbDk, Option.bind_eq_some_iff, Option.map_eq_some_iff] at e
    obtain ⟨⟨x, y⟩, e1, ⟨x2, y2⟩, e2, e3⟩ := e
    cases e3
    obtain ⟨L1, G1, p1, n1, o1, q1, k1⟩ := rb_ok hg d e1 r1
    obtain ⟨L2, G2, p2, n2, o2, q2, k2⟩ := rbT_ok hg ds e2 r2
    obtain ⟨p, n, o⟩ := vis_step p1 n1 o1 p2 n2 o2
    refine ⟨L2 ++ L1, G1 ++ G2, p, n, o, ?_, ⟨j, u, ws, G1, G2, rfl, rfl, k1, k2, rfl⟩⟩
    rw [locs_append]
    exact (q1.append q2).trans (perm4 _ _ _ _)
end
theorem rbC_ok (s : SR Z ρ st H) : ∀ n, RbG Z ρ H b (rbC st b n)
  | 0 => fun l vis d' vis' e _ => by simp [rbC] at e
  | n + 1 => fun l vis d' vis' e hb => by
    simp only [rbC] at e
    cases hv : vis.contains l with
    | true => rw [hv] at e; cases e
    | false =>
      rw [hv] at e
      have nv : l ∉ vis := by simpa using hv
      cases hc : st[l]? with
      | none => rw [hc] at e; cases e
      | some c =>
        rw [hc] at e
        obtain ⟨a, ha, k, r⟩ := s.at hc
        have go : ∀ (d : D), c = d → rbD (rbC st b n) b d (l :: vis) = some (d', vis') → ∃ (L : List Nat) (G : List Addr), vis'.Perm (L ++ vis) ∧ L.Nodup ∧ (∀ m ∈ L, b ≤ m ∧ m ∉ vis) ∧ G.Perm (locs ρ L) ∧ ∀ a, ρ[l]? = some a → Rp Z (ρ.take b) H d' (.ref a) G := by
          intro d hd e
          rw [hd] at r
          obtain ⟨L, G, p, nd, o, q, kk⟩ := rb_ok (rbC_ok s n) d e r
          refine ⟨L ++ [l], G, ?_, ?_, ?_, ?_, ?_⟩
          · rw [List.append_assoc]; exact p
          · refine List.nodup_append.mpr ⟨nd, by simp, ?_⟩
            intro x hx y hy z
            subst z
            have ey := List.mem_singleton.mp hy
            exact (o _ hx).2 (by rw [ey]; exact List.mem_cons_self)
          · intro m hm
            rcases List.mem_append.mp hm with hm | hm
            · exact ⟨(o m hm).1, fun z => (o m hm).2 (List.mem_cons_of_mem _ z)⟩
            · cases List.mem_singleton.mp hm; exact ⟨hb, nv⟩
          · rw [locs_append]
            refine q.trans ?_
            have el : locs ρ [l] = [a] := by simp [locs, ha]
            rw [el]
            exact List.perm_append_comm
          · intro a' ha'
            rw [ha] at ha'
            cases ha'
            exact kk
        cases c with
        | lst ds => exact go _ rfl e
        | dic kvs => exact go _ rfl e
        | set xs =>
          have e' : rbD (rbC st b n) b (.set xs) (l :: vis) = some (d', vis') := by simpa [rbD] using e
          exact go _ rfl e'
        | _ => cases e
/-- the store cut back -/
theorem cut_ok {st0 : Sto} {ρ0 : List Addr} {H0 : Hp} (s0 : SR Z ρ0 st0 H0) (s : SR Z ρ st H) (hp : ρ.take st0.length = ρ0) (ok : okPre st0 st st0.length = true) : SR Z ρ0 (st.take st0.length) H := by
  have hl : st0.length ≤ st.length := by
    have : ρ0.length = st0.length := s0.len
    rw [← hp, List.length_take, s.len] at this
    omega
  have pre : ∀ (cs cs' : Sto) (l : Nat) (c c' : D), okPre cs cs' st0.length = true → cs[l]? = some c → cs'[l]? = some c' → c = c' ∨ cellCl st0.length c' = true := by
    intro cs
    induction cs with
    | nil => intro cs' l c c' _ h; simp at h
    | cons x xs ih =>
      intro cs' l c c' h h1 h2
      cases cs' with
      | nil => simp [okPre] at h
      | cons y ys =>
        simp only [okPre, Bool.and_eq_true, Bool.or_eq_true, decide_eq_true_eq] at h
        cases l with
        | zero => cases h1; cases h2; exact h.1
        | succ l => exact ih ys l c c' h.2 (by simpa using h1) (by simpa using h2)
  refine ⟨by rw [List.length_take, s0.len, Nat.min_eq_left hl], s0.nd, fun l c h => ?_, fun l c a h1 h2 => ?_⟩
  · rw [List.getElem?_take] at h
    split at h
    · exact s.kind l c h
    · cases h
  · rw [List.getElem?_take] at h1
    split at h1
    · rename_i hlt
      have h2' : ρ[l]? = some a := by
        rw [← hp, List.getElem?_take_of_lt hlt] at h2; exact h2
      have r := s.cell l c a h1 h2'
      have h0 : st0[l]? = some st0[l] := List.getElem?_eq_getElem hlt
      rcases pre st0 st l _ c ok h0 h1 with e | e
      · have r0 := s0.cell l _ a h0 h2
        rw [e] at r0
        have cl := cellCl_of (s.kind l c h1) r0
        rw [s0.len] at cl
        have := clsCell (b := st0.length) cl r
        rw [hp] at this; exact this
      · have := clsCell (b := st0.length) e r
        rw [hp] at this; exact this
    · cases h1

/-- what a callee is asked for, begun at an earlier place -/
def spI (Z : Wc) (g : List D → M D) (np : Nat) : Sp := fun vs H Q E => vs.length = np ∧ ∃ ρ0 st0 H0 ρ st ds F, SR Z ρ0 st0 H0 ∧ Now Z ρ0 H0 ρ st H F ∧ Rps Z ρ H ds vs F ∧ Post (Rp Z) Z (fun cls dx _ H' => E cls dx H') (g ds st) ρ0 [] H0 Q
/-- behind a def's body: what it made and nobody holds is let go -/
theorem leave_ok {ρ0 ρ ρ1 : List Addr} {st0 stc st1 st2 : Sto} {H0 Hc H2 : Hp} {W : WX} {d : D} {v : V} {F G N : List Addr} {σ : L2.St} {Q : VK} (s0 : SR Z ρ0 st0 H0) (n : Now Z ρ0 H0 ρ stc Hc F)
    (n2 : Now Z ρ0 H0 ρ1 st2 H2 G) (hp : ρ1.take stc.length = ρ) (r : Rp Z ρ1 H2 d v G)
    (h : Post (Rp Z) Z W (leaveD stc (.ok d st2)) ρ0 σ H0 Q) : Q v H2 := by
  unfold leaveD at h
  cases e1 : okPre stc st2 stc.length with
  | false =>
    simp only [e1] at h
    exact h ρ1 H2 v G n2.stp n2.sr r
  | true =>
    cases e2 : rback st2 stc.length d with
    | none =>
      simp only [e1, e2] at h
      exact h ρ1 H2 v G n2.stp n2.sr r
    | some d' =>
      simp only [e1, e2] at h
      unfold rback at e2
      simp only [Option.map_eq_some_iff] at e2
      obtain ⟨⟨x, vis'⟩, e3, rfl⟩ := e2
      obtain ⟨L, G', p, nd, o, q, k⟩ := rb_ok (rbC_ok (b := stc.length) n2.sr 8) d e3 r
      rw [hp] at k
      refine h ρ H2 v G' ?_ (cut_ok n.sr n2.sr hp e1) k
      obtain ⟨M, eM, ndM, fM, kM⟩ := n2.stp
      obtain ⟨M0, eM0, _, _, _⟩ := n.stp
      have sub : ∀ a ∈ locs ρ1 L, a ∈ M ∧ a ∉ M0 := by
        intro a ha
        obtain ⟨l, hl, el⟩ := List.mem_filterMap.mp ha
        have hge := (o l hl).1
        have lenρ : ρ.length = stc.length := n.sr.len
        have len0 : ρ0.length ≤ ρ.length := by rw [eM0]; simp
        constructor
        · rw [eM, List.getElem?_append_right (by omega)] at el
          exact List.mem_of_getElem? el
        · intro z
          have z1 : a ∈ ρ := by rw [eM0]; exact List.mem_append_right _ z
          obtain ⟨i, hi⟩ := List.mem_iff_getElem?.mp z1
          have hil : i < stc.length := by rw [← lenρ]; exact (List.getElem?_eq_some_iff.mp hi).1
          have hi' : ρ1[i]? = some a := by
            rw [← hp, List.getElem?_take_of_lt hil] at hi; exact hi
          have nd1 := n2.sr.nd
          have := (List.getElem?_inj (by exact (List.getElem?_eq_some_iff.mp hi').1) nd1).mp (hi'.trans el.symm)
          omega
      have m0 : ∀ a ∈ M0, a ∈ M := by
        intro a ha
        have z1 : a ∈ ρ := by rw [eM0]; exact List.mem_append_right _ ha
        have z2 : a ∈ ρ1 := by rw [← hp] at z1; exact List.mem_of_mem_take z1
        rw [eM] at z2
        rcases List.mem_append.mp z2 with z2 | z2
        · have nd0 := n.sr.nd
          rw [eM0] at nd0
          exact ((List.nodup_append.mp nd0).2.2 a z2 a ha rfl).elim
        · exact z2
      refine ⟨M0, eM0, ?_, ?_, kM⟩
      · have nd0 := n.sr.nd
        rw [eM0] at nd0
        have ndG := List.nodup_append.mp ndM
        refine List.nodup_append.mpr ⟨(List.nodup_append.mp nd0).2.1, ?_, ?_⟩
        · refine q.nodup_iff.mpr (List.nodup_append.mpr ⟨n2.nd, ?_, ?_⟩)
          · exact nodup_locs n2.sr.nd nd
          · intro a ha b hb z
            subst z
            exact ndG.2.2 a (sub a hb).1 a ha rfl
        · intro a ha b hb z
          subst z
          rcases List.mem_append.mp (q.mem_iff.mp hb) with hb | hb
          · exact ndG.2.2 a (m0 a ha) a hb rfl
          · exact (sub a hb).2 ha
      · intro a ha
        rcases List.mem_append.mp ha with ha | ha
        · exact fM a (List.mem_append_left _ (m0 a ha))
        · rcases List.mem_append.mp (q.mem_iff.mp ha) with ha | ha
          · exact fM a (List.mem_append_right _ ha)
          · exact fM a (List.mem_append_left _ (sub a ha).1)
/-- behind a def that an exception leaves -/
theorem leaveX_ok {ρ0 ρ ρ1 : List Addr} {st0 stc st1 st2 : Sto} {H0 Hc H2 : Hp} {W : WX} {e : D} {cls : Value} {dx : Option Addr} {F : List Addr} {σ : L2.St} {Q : VK} (n : Now Z ρ0 H0 ρ stc Hc F)
    (n2 : Now Z ρ0 H0 ρ1 st2 H2 []) (hp : ρ1.take stc.length = ρ) (r : XcR Z ρ1 H2 e cls dx)
    (h : Post (Rp Z) Z W (leaveD stc (.exc e st2)) ρ0 σ H0 Q) : W cls dx σ H2 := by
  unfold leaveD at h
  cases e1 : okPre stc st2 stc.length with
  | false =>
    simp only [e1, Bool.false_and] at h
    exact h ρ1 H2 cls dx n2.stp n2.sr r
  | true =>
    cases e2 : D.cls stc.length e with
    | false =>
      simp only [e1, e2, Bool.and_false] at h
      exact h ρ1 H2 cls dx n2.stp n2.sr r
    | true =>
      simp only [e1, e2, Bool.and_self] at h
      obtain ⟨c, fs, rfl, hc, rx⟩ := r
      have rx' := clsRpX (b := stc.length) fs (by simpa [D.cls] using e2) rx
      rw [hp] at rx'
      refine h ρ H2 cls dx ?_ (cut_ok n.sr n2.sr hp e1) ⟨c, fs, rfl, hc, rx'⟩
      obtain ⟨M, eM, ndM, fM, kM⟩ := n2.stp
      obtain ⟨M0, eM0, nd0, f0, _⟩ := n.stp
      exact ⟨M0, eM0, by simpa using (List.nodup_append.mp nd0).1, fun a ha => f0 a (List.mem_append_left _ (by simpa using ha)), kM⟩
end
end Fs
namespace Fs
open PySem L2 PyProof.Rows PySem.Spec
/-- the def at f keeps sp wherever nothing guards a repr -/
structure FgOk (P : Program) (w : World) (K : PySem.W.Frag) (mg : Str → Option Value) (base : Heap) (k : Nat) (f : Addr) (fd : FuncData) (ps : List Str) (sp : Sp) : Prop where
  len : ∀ vs H Q E, sp vs H Q E → vs.length = ps.length
  run : ∀ (A : Around) (outer : List PySem.Env) (s : Shared) (H : Hp) (args : Args) (us : List Value) (vs : List V) (Q : VK) (E : XK), Room k A → A.guards = some [] → Env0 P w K mg base A outer s H → BindsTo s fd args (ps.zip us) → Vals vs us → sp vs H Q E →
    codeAny (model P w) A (.call (.ref f) args) (CR (L2.CX P w) outer P w H s Q E) s
section
variable {P : Program} {w : World} {K : PySem.W.Frag} {mg : Str → Option Value} {base : Heap}
theorem FgOk.of {k : Nat} {f : Addr} {fd : FuncData} {ps : List Str} {sp : Sp} (F : FgOk P w K mg base k f fd ps sp) (g : ∀ A, Room k A → A.guards = some []) : FnOk P w K mg base (L2.CX P w) k f fd ps sp :=
  ⟨F.len, fun A outer s H args us vs Q E hr e0 hb r h => F.run A outer s H args us vs Q E hr (g A hr) e0 hb r h⟩
theorem fg_of {k : Nat} {f : Addr} {name qual : Str} {params : Arguments} {body : List Stmt} {scope : Scope} {dV kV doc pm cdv ct oc : Value} {an od : Option Addr}
    {osl : Array (Option Value)} {N ps : List Str} {sp : Sp} (lk : K.lookup f = some ⟨oc, od, .func (PySem.W.fnOf name qual params body scope dV kV doc pm an cdv ct), osl⟩) (hcd : PySem.W.codeIn K cdv qual = true) (S : FnScope N ps scope)
    (len : ∀ vs H Q E, sp vs H Q E → vs.length = ps.length)
    (hbody : ∀ (A : Around) (outer : List PySem.Env) (s : Shared) (H : Hp) (vs : List V) (Q : VK) (E : XK), Room k (A.deeper (envOfC qual scope s.heap.objs.size f cdv)) → A.guards = some [] → sp vs H Q E →
      ∃ t, PSs (cxOf (L2.CX P w) P w K mg base N qual scope f cdv A outer s H E) body t ∧ t { nx := fun _ H' => Q .non H', rt := Q } (start N vs) H) :
    FgOk P w K mg base (k + 1) f (PySem.W.fnOf name qual params body scope dV kV doc pm an cdv ct) ps sp := by
  refine ⟨len, fun A outer s H args us vs Q E hr hgd e0 hb r hsp => ?_⟩
  have KX : K.In s.heap := e0.mod.kin.keeps fun b o e => (e0.bs b o e).1
  have lim : s.heap.NoLimit := e0.mod.nolimit.keeps fun b o e => (e0.bs b o e).1
  have hkind : ∀ y ∈ ps.zip us, scope.names.lookup y.1 = some .local ∨ (scope.names.lookup y.1 = some .cell ∧ ((cellsFrom (s.heap.objs.size + 1) scope.names []).lookup y.1).isSome = true) := fun y hy => by
    rcases S.par y.1 (List.of_mem_zip hy).1 with q | q
    · exact Or.inl q
    · exact Or.inr ⟨q, PySem.W.cellsFrom_some _ _ _ (Or.inl q)⟩
  have hl := len _ _ _ _ hsp
  refine codeAny_call_function hr.depth (KX _ _ lk) rfl S.co S.gen rfl (PySem.W.codeRec_of KX hcd) (hb _ _ _ _ (wpAny_newFunctionEnv_cells S.kind hkind fun env he s1 x => ?_))
  cases he
  refine ⟨lim.keeps x.toInCall.keep, codeAny_func ?_⟩
  obtain ⟨t, ht, hq⟩ := hbody A outer s H vs Q E (hr.deeper _) hgd hsp
  have I := inv_start (CX := L2.CX P w) (E := E) S hr.hd e0 hl r x
  refine wpAny_mono (ht.run [] s1 (start N vs) H _ I hq) (fun fl s' hs => ?_) fun e s' hs => hs
  cases fl with
  | ret u => exact let ⟨v, σ', H', J, rv, q⟩ := hs; ⟨v, H', J.os, J.bare, J.base, J.hok, rv, q⟩
  | next => exact let ⟨σ', H', J, q⟩ := hs; ⟨V.non, H', J.os, J.bare, J.base, J.hok, rfl, q⟩
  | brk => exact let ⟨_, _, _, q⟩ := hs; q.elim
  | cont => exact let ⟨_, _, _, q⟩ := hs; q.elim
end
section
variable {X : L2.Cx} {Z : Wc} {T : Tbl} {W : WX} {k : Nat} {f : Addr} {fd : FuncData} {ps : List Str} {x : Str} {p pos : Pos} {e : Expr} {es : List Expr} {As : List Ex} {A : Ex}
/-- a callee runs -/
theorem run_fg {sp : Sp} {E : XK} {pins : List (Addr × Obj)} {σ : L2.St} {H : Hp} {s : Shared} {Q : VK} {us : List Value} {vs : List V} {args : Args} (F : FgOk X.prog X.w X.K X.mg X.base k f fd ps sp) (hr : Room k X.A) (hgd : X.A.guards = some [])
    (hx : ∀ e s', L2.CX X.prog X.w X.stack H s E e s' → X.xe e s') (I : Inv X pins σ H s) (hb : BindsTo s fd args (ps.zip us)) (r : Vals vs us) (h : sp vs H Q E) :
    codeAny (model X.prog X.w) X.A (.call (.ref f) args) (fun r s' => match r with
      | .ok (.ret u) => EP X pins σ Q u s'
      | .ok _ => False
      | .error e => X.xe e s') s := by
  refine codeAny_mono (F.run X.A X.stack s H args us vs Q E hr hgd I.env0 hb r h) fun r s' hq => ?_
  cases r with
  | error e => exact hx e s' hq
  | ok fl => cases fl with
    | ret u => exact I.after hq
    | next => exact hq.elim
    | brk => exact hq.elim
    | cont => exact hq.elim
/-- what a call hands to the callee -/
theorem give_ok {g : List D → M D} {np : Nat} {σ : L2.St} {H : Hp} {Q : VK} {As : List Ex} (h : ∃ ρ env st, ER Z ρ H env σ ∧ SR Z ρ st H ∧ Post (Rp Z) Z W (bnd (evs T As env) (fun ds => g ds) st) ρ σ H Q)
    (hlen : As.length = np) : iEs T Z W As σ H (fun vs H1 => spI Z g np vs H1 Q (fun cls dx H' => W cls dx σ H')) := by
  obtain ⟨ρ, env, st, er, sr, h⟩ := h
  refine ⟨ρ, env, st, er, sr, ?_⟩
  have hl : ∀ {ds st'}, evs T As env st = .ok ds st' → ds.length = As.length := by
    intro ds st'
    clear h hlen sr
    induction As generalizing st ds st' with
    | nil => intro e; simp only [evs, ret] at e; cases e; rfl
    | cons a as ih =>
      intro e
      simp only [evs, bnd] at e
      cases e1 : ev T a env st with
      | ok d s1 =>
        rw [e1] at e
        simp only at e
        cases e2 : evs T as env s1 with
        | ok ds2 s2 =>
          rw [e2] at e
          simp only [ret] at e
          cases e
          simp [ih _ e2]
        | exc _ _ => rw [e2] at e; cases e
        | bad => rw [e2] at e; cases e
      | exc _ _ => rw [e1] at e; cases e
      | bad => rw [e1] at e; cases e
  have sq := Post.seq rpsOk (Now.start sr) sr h
  cases e1 : evs T As env st with
  | ok ds st1 =>
    rw [e1] at sq
    intro ρ' H' v F a b c
    obtain ⟨ρ1, d1, st2, F1, n1, t1, r1, h1⟩ := sq ρ' H' v F a b c
    have e0 := sq ρ' H' v F a b c
    refine ⟨?_, ρ, st, H, ρ', st1, ds, F, sr, ⟨a, b, fun z hz => c.there z hz, fun z hz => a.out sr z hz, a.nodup⟩, c, ?_⟩
    · rw [← c.length, hl e1, hlen]
    · unfold bnd at h
      rw [e1] at h
      exact h
  | exc x st1 => rw [e1] at sq; exact sq
  | bad => rw [e1] at sq; exact sq
theorem se_call {i : Nat} (F : FgOk X.prog X.w X.K X.mg X.base k f fd ps (spI Z (T.fn i) ps.length)) (hr : Room k X.A) (hgd : X.A.guards = some []) (tk : Takes X W) (hg : Gl X x) (hm : X.mg x = some (.ref f)) (hk : PySem.W.keepIn X.K (.ref f) = true) (hb : Binds X.K fd ps [])
    (ha : PA X (e :: es) (iEs T Z W As)) (hlen : As.length = ps.length) (hdb : (x == ("__debug__" : Str)) = false) (he : starEach (e :: es) X.env = (false, eval e X.env) :: starEach es X.env) (hpl : (backTo pos (starEach es X.env)).any (·.1) = false) :
    PE X (.Call (.Name x p) (e :: es) [] pos) (iE T Z W (.call i As)) := by
  refine ⟨fun pins s σ H Q I h => ?_⟩
  have h' := give_ok (g := T.fn i) (np := ps.length) (As := As) (by simpa only [iE, ev] using h) hlen
  refine wpAny_Call_Name_kw (ld_glob I hg hm ?_ hdb)
  refine PySem.W.callWith_K (h₀ := X.base) I.ok.mod.kin hk (thn (ha.run pos pins s σ H _ I h') fun us s1 ⟨vs, H1, I1, r, q⟩ => ⟨I1.kIn, ?_⟩) he hpl
  have hl : us.length = ps.length := by rw [← r.length]; exact q.1
  refine wpAny_call (codeAny_mono (run_fg (us := us) F hr hgd (fun e s' c => tk e s' (XE.of_call I1 (fun _ _ _ z => z) c)) I1 (by have := hb s1 us I1.kIn (by simpa using hl); simpa using this) r q) fun rr s' hq => ?_)
  cases rr with
  | error e => exact hq
  | ok fl => cases fl with
    | ret u => exact hq
    | next => exact hq
    | brk => exact hq
    | cont => exact hq
theorem se_call0 {i : Nat} (F : FgOk X.prog X.w X.K X.mg X.base k f fd ps (spI Z (T.fn i) ps.length)) (hr : Room k X.A) (hgd : X.A.guards = some []) (tk : Takes X W) (hg : Gl X x) (hm : X.mg x = some (.ref f)) (hk : PySem.W.keepIn X.K (.ref f) = true) (hb : Binds X.K fd ps [])
    (hlen : ps.length = 0) (hdb : (x == ("__debug__" : Str)) = false) :
    PE X (.Call (.Name x p) [] [] pos) (iE T Z W (.call i [])) := by
  refine ⟨fun pins s σ H Q I h => ?_⟩
  obtain ⟨ρ, env, st, er, sr, q0⟩ := give_ok (g := T.fn i) (np := ps.length) (As := []) (by simpa only [iE, ev] using h) (by simpa using hlen.symm)
  simp only [evs] at q0
  have q := Post.ret (d := ([] : List D)) (v := ([] : List V)) q0 (Now.start sr) (by exact ⟨rfl, rfl⟩)
  refine wpAny_Call_Name_kw (ld_glob I hg hm ?_ hdb)
  refine PySem.W.callWith_K0 I.kIn hk ?_
  refine wpAny_call (codeAny_mono (run_fg (us := []) F hr hgd (fun e s' c => tk e s' (XE.of_call I (fun _ _ _ z => z) c)) I (by have := hb s [] I.kIn (by simpa using hlen.symm); simpa using this) .nil q) fun rr s' hq => ?_)
  cases rr with
  | error e => exact hq
  | ok fl => cases fl with
    | ret u => exact hq
    | next => exact hq
    | brk => exact hq
    | cont => exact hq
end
end Fs
namespace Fs
open PySem L2 PyProof.Rows PySem.Spec
/-- what is to be shown behind a statement, begun at (ρ, H) -/
def PostS (Z : Wc) (W : WX) (r : R Fl) (ρ : List Addr) (H : Hp) (Dn : Ends) : Prop := match r with
  | .ok (.nx env') st' => ∀ ρ' H' σ', Stp ρ H ρ' H' [] → SR Z ρ' st' H' → ER Z ρ' H' env' σ' → Dn.nx σ' H'
  | .ok (.br env') st' => ∀ ρ' H' σ', Stp ρ H ρ' H' [] → SR Z ρ' st' H' → ER Z ρ' H' env' σ' → Dn.bk σ' H'
  | .ok (.ct env') st' => ∀ ρ' H' σ', Stp ρ H ρ' H' [] → SR Z ρ' st' H' → ER Z ρ' H' env' σ' → Dn.ct σ' H'
  | .ok (.rt d) st' => ∀ ρ' H' v F, Stp ρ H ρ' H' F → SR Z ρ' st' H' → Rp Z ρ' H' d v F → Dn.rt v H'
  | .ok (.ex env' e) st' => ∀ ρ' H' σ' cls dx, Stp ρ H ρ' H' [] → SR Z ρ' st' H' → ER Z ρ' H' env' σ' → XcR Z ρ' H' e cls dx → W cls dx σ' H'
  | _ => False
/-- a step that may land the fresh things F in hand -/
def StpF (ρ : List Addr) (H : Hp) (F ρ' : List Addr) (H' : Hp) : Prop := ∃ N, ρ' = ρ ++ N ∧ N.Nodup ∧ (∀ a ∈ N, a ∈ F ∨ H a = none) ∧ ∀ a o, H a = some o → a ∉ ρ → a ∉ F → H' a = some o
mutual
def tgN : Tg → List Nat
  | .nm i => [i]
  | .tup ts => tgNs ts
  | .sub _ _ => []
  | .attr _ _ => []
def tgNs : List Tg → List Nat
  | [] => []
  | t :: ts => tgN t ++ tgNs ts
end
/-- σ' is σ but for the names in L -/
def Sm (L : List Nat) (σ σ' : L2.St) : Prop := σ'.length = σ.length ∧ ∀ i, i ∉ L → σ'[i]? = σ[i]?
theorem Sm.id {L : List Nat} {σ : L2.St} : Sm L σ σ := ⟨rfl, fun _ _ => rfl⟩
theorem Sm.trans {L M : List Nat} {σ σ1 σ2 : L2.St} (a : Sm L σ σ1) (b : Sm M σ1 σ2) : Sm (L ++ M) σ σ2 := ⟨b.1.trans a.1, fun i h => (b.2 i fun z => h (List.mem_append_right _ z)).trans (a.2 i fun z => h (List.mem_append_left _ z))⟩
theorem Sm.set {i : Nat} {σ : L2.St} {v : Option V} : Sm [i] σ (σ.set i v) := ⟨by simp, fun j h => List.getElem?_set_ne (fun e => h (by simp [e]))⟩
theorem Sm.less {L M : List Nat} {σ σ1 : L2.St} (a : Sm L σ σ1) (h : ∀ i ∈ L, i ∈ M) : Sm M σ σ1 := ⟨a.1, fun i z => a.2 i fun y => z (h i y)⟩
def PostA (Z : Wc) (r : R Env) (ρ : List Addr) (H : Hp) (F : List Addr) (L : List Nat) (σ : L2.St) (Q : L2.St → Hp → Prop) : Prop := match r with
  | .ok env' st' => ∀ ρ' H' σ', StpF ρ H F ρ' H' → SR Z ρ' st' H' → ER Z ρ' H' env' σ' → Sm L σ σ' → Q σ' H'
  | _ => False
/-- fresh things in hand -/
structure Hand (Z : Wc) (ρ : List Addr) (st : Sto) (H : Hp) (F : List Addr) : Prop where
  sr : SR Z ρ st H
  nd : F.Nodup
  out : ∀ a ∈ F, a ∉ ρ
  th : ∀ a ∈ F, H a ≠ none
section
variable (T : Tbl) (Z : Wc) (W : WX)
def iS (s : Sx) : TS := fun Dn σ H => ∃ ρ env st, ER Z ρ H env σ ∧ SR Z ρ st H ∧ PostS Z W (exS T s env st) ρ H Dn
def iL (s : List Sx) : TS := fun Dn σ H => ∃ ρ env st, ER Z ρ H env σ ∧ SR Z ρ st H ∧ PostS Z W (exL T s env st) ρ H Dn
def iG (t : Tg) : TG := fun v σ H Q => ∃ ρ env st d F, Hand Z ρ st H F ∧ ER Z ρ H env σ ∧ Rp Z ρ H d v F ∧ PostA Z (asgT T t d env st) ρ H F (tgN t) σ Q
def iGs (ts : List Tg) : TGs := fun vs σ H Q => ∃ ρ env st ds F, Hand Z ρ st H F ∧ ER Z ρ H env σ ∧ Rps Z ρ H ds vs F ∧ PostA Z (asgTs T ts ds env st) ρ H F (tgNs ts) σ Q
end
section
variable {Z : Wc} {W : WX} {ρ ρ' ρ₁ ρ₂ : List Addr} {H H' H₁ H₂ : Hp} {st st' st₁ : Sto} {F F' F₁ F₂ G : List Addr} {σ : L2.St} {α β γ δ : Type} {rel : Rel α β} {rel₁ : Rel γ δ} {env : Env} {Dn Dn' : Ends}
theorem PostS.tail {r : R Fl} (n : Now Z ρ H ρ₁ st₁ H₁ F) (s : SR Z ρ st H) (h : PostS Z W r ρ H Dn) : PostS Z W r ρ₁ H₁ Dn := by
  cases r with
  | exc x s' => exact h
  | bad => exact h
  | ok f s' => cases f with
    | nx e' => exact fun ρ' H' σ' t sr er => h ρ' H' σ' (n.more s t sr (by simp)).stp.none sr er
    | br e' => exact fun ρ' H' σ' t sr er => h ρ' H' σ' (n.more s t sr (by simp)).stp.none sr er
    | ct e' => exact fun ρ' H' σ' t sr er => h ρ' H' σ' (n.more s t sr (by simp)).stp.none sr er
    | rt d => exact fun ρ' H' v G t sr q => h ρ' H' v G ((n.more s t sr (fun a ha => q.there a ha)).stp.less (List.sublist_append_right _ _)) sr q
    | ex e' e => exact fun ρ' H' σ' cls dx t sr er q => h ρ' H' σ' cls dx (n.more s t sr (by simp)).stp.none sr er q
theorem PostS.mono {r : R Fl} (h : PostS Z W r ρ H Dn) (hn : ∀ σ H, Dn.nx σ H → Dn'.nx σ H) (hr : ∀ v H, Dn.rt v H → Dn'.rt v H) (hb : ∀ σ H, Dn.bk σ H → Dn'.bk σ H) (hc : ∀ σ H, Dn.ct σ H → Dn'.ct σ H) : PostS Z W r ρ H Dn' := by
  cases r with
  | exc x s' => exact h
  | bad => exact h
  | ok f s' => cases f with
    | nx e' => exact fun ρ' H' σ' t sr er => hn _ _ (h ρ' H' σ' t sr er)
    | br e' => exact fun ρ' H' σ' t sr er => hb _ _ (h ρ' H' σ' t sr er)
    | ct e' => exact fun ρ' H' σ' t sr er => hc _ _ (h ρ' H' σ' t sr er)
    | rt d => exact fun ρ' H' v G t sr q => hr _ _ (h ρ' H' v G t sr q)
    | ex e' e => exact h
/-- an expression ahead of the rest -/
theorem PostS.lft (ok : RelOk Z rel₁) {m : M γ} {f : γ → M Fl} (n : Now Z ρ H ρ₁ st₁ H₁ F) (s : SR Z ρ st H) (er : ER Z ρ₁ H₁ env σ) (h : PostS Z W (lft env m f st₁) ρ H Dn) :
    Post rel₁ Z W (m st₁) ρ₁ σ H₁ (fun v H' => ∃ ρ' d st' G, Now Z ρ H ρ' st' H' (F ++ G) ∧ Stp ρ₁ H₁ ρ' H' G ∧ ER Z ρ' H' env σ ∧ rel₁ ρ' H' d v G ∧ PostS Z W (f d st') ρ H Dn) := by
  unfold Fs.lft at h
  cases e : m st₁ with
  | ok d s' =>
    rw [e] at h
    exact fun ρ' H' v G t sr r => ⟨ρ', d, s', G, n.more s t sr (ok.there r), t, t.env n.sr er, r, h⟩
  | exc x s' =>
    rw [e] at h
    exact fun ρ' H' cls dx t sr r => h ρ' H' σ cls dx (n.more s t sr (by simp)).stp.none sr (t.env n.sr er) r
  | bad => rw [e] at h; exact h
theorem ER.set {i : Nat} {d : D} {v : V} (er : ER Z ρ H env σ) (r : Rp Z ρ H d v []) : ER Z ρ H (env.set i (some d)) (σ.set i (some v)) := by
  refine ⟨by simp [er.1], fun j x hx => ?_⟩
  by_cases hj : i = j
  · subst hj
    have hl : i < env.length := by
      have := (List.getElem?_eq_some_iff.mp hx).1
      simpa using this
    rw [List.getElem?_set_self hl] at hx
    cases hx
    exact ⟨v, by rw [List.getElem?_set_self (by rw [← er.1]; exact hl)], r⟩
  · rw [List.getElem?_set_ne hj] at hx
    obtain ⟨u, h1, h2⟩ := er.2 j x hx
    exact ⟨u, by rw [List.getElem?_set_ne hj]; exact h1, h2⟩
theorem ER.gone {i : Nat} (er : ER Z ρ H env σ) : ER Z ρ H (env.set i none) (σ.set i none) := by
  refine ⟨by simp [er.1], fun j x hx => ?_⟩
  by_cases hj : i = j
  · subst hj
    rw [List.getElem?_set] at hx
    simp only [if_true] at hx
    split at hx <;> cases hx
  · rw [List.getElem?_set_ne hj] at hx
    obtain ⟨u, h1, h2⟩ := er.2 j x hx
    exact ⟨u, by rw [List.getElem?_set_ne hj]; exact h1, h2⟩
theorem Now.hand (n : Now Z ρ H ρ₁ st₁ H₁ F) : Hand Z ρ₁ st₁ H₁ F := ⟨n.sr, n.nd, n.out, n.th⟩
theorem Hand.less (n : Hand Z ρ st H F) (h : G.Sublist F) : Hand Z ρ st H G := ⟨n.sr, n.nd.sublist h, fun a ha => n.out a (h.subset ha), fun a ha => n.th a (h.subset ha)⟩
/-- from an earlier place on, the fresh things landed -/
theorem Now.land (n : Now Z ρ H ρ₁ st₁ H₁ F) (s : SR Z ρ st H) (t : StpF ρ₁ H₁ F ρ₂ H₂) : Stp ρ H ρ₂ H₂ [] := by
  obtain ⟨M, rfl, nd, f, k⟩ := n.stp
  obtain ⟨N, rfl, nn, fn, kn⟩ := t
  have old : ∀ a ∈ N, H a = none := fun a ha => by
    rcases fn a ha with z | z
    · exact f a (List.mem_append_right _ z)
    · cases e : H a with
      | none => rfl
      | some o =>
        have nr : a ∉ ρ := fun y => n.sr.has (List.mem_append_left _ y) z
        have := k a o e nr
        rw [z] at this; cases this
  refine ⟨M ++ N, by simp [List.append_assoc], ?_, ?_, fun a o e z => ?_⟩
  · rw [List.append_nil]
    refine List.nodup_append.mpr ⟨(List.nodup_append.mp nd).1, nn, ?_⟩
    intro a ha b hb e
    subst e
    rcases fn a hb with z | z
    · exact (List.nodup_append.mp nd).2.2 a ha a z rfl
    · exact n.sr.has (List.mem_append_right _ ha) z
  · intro a ha
    rw [List.append_nil] at ha
    rcases List.mem_append.mp ha with ha | ha
    · exact f a (List.mem_append_left _ ha)
    · exact old a ha
  · have h1 := k a o e z
    refine kn a o h1 (fun y => ?_) fun y => ?_
    · rcases List.mem_append.mp y with y | y
      · exact z y
      · rw [f a (List.mem_append_left _ y)] at e; cases e
    · rw [f a (List.mem_append_right _ y)] at e; cases e
theorem StpF.pre (s : StpF ρ H F ρ' H') : ∀ (l : Nat) (a : Addr), ρ[l]? = some a → ρ'[l]? = some a := by
  obtain ⟨N, rfl, _⟩ := s
  exact fun l a h => get_append l a h
/-- what stands beside the things in hand -/
theorem StpF.vals {ds : List D} {vs : List V} (s : StpF ρ H F ρ' H') (h : Hand Z ρ st H (F ++ G)) (hF : ∀ a ∈ F, ∃ o, H a = some o ∧ HCell o = true) (r : Rps Z ρ H ds vs G) : Rps Z ρ' H' ds vs G := by
  obtain ⟨N, rfl, nn, fn, kn⟩ := s
  refine Rps.stay get_append (fun a o e k => kn a o e (h.sr.not_cell e k) fun z => ?_) (fun a ha o e => kn a o e (h.out a (List.mem_append_right _ ha)) fun z => (List.nodup_append.mp h.nd).2.2 a z a ha rfl) r
  obtain ⟨u, e', k'⟩ := hF a z
  rw [e] at e'; cases e'; rw [k] at k'; cases k'
theorem Hand.step (h : Hand Z ρ st H (F ++ G)) (s : StpF ρ H F ρ' H') (sr : SR Z ρ' st' H') : Hand Z ρ' st' H' G := by
  obtain ⟨N, rfl, nn, fn, kn⟩ := s
  refine ⟨sr, (List.nodup_append.mp h.nd).2.1, fun a ha z => ?_, fun a ha => ?_⟩
  · rcases List.mem_append.mp z with z | z
    · exact h.out a (List.mem_append_right _ ha) z
    · rcases fn a z with y | y
      · exact (List.nodup_append.mp h.nd).2.2 a y a ha rfl
      · exact h.th a (List.mem_append_right _ ha) y
  · cases e : H a with
    | none => exact (h.th a (List.mem_append_right _ ha) e).elim
    | some o =>
      rw [kn a o e (h.out a (List.mem_append_right _ ha)) fun z => (List.nodup_append.mp h.nd).2.2 a z a ha rfl]
      exact nofun
theorem StpF.trans (h : Hand Z ρ st H (F ++ G)) (s : StpF ρ H F ρ₁ H₁) (sr : SR Z ρ₁ st₁ H₁) (t : StpF ρ₁ H₁ G ρ₂ H₂) : StpF ρ H (F ++ G) ρ₂ H₂ := by
  have h1 := h.step s sr
  obtain ⟨N, rfl, nn, fn, kn⟩ := s
  obtain ⟨M, rfl, nm, fm, km⟩ := t
  have kk : ∀ a o, H a = some o → a ∉ ρ → a ∉ F → a ∉ ρ ++ N := fun a o e z y w => by
    rcases List.mem_append.mp w with w | w
    · exact z w
    · rcases fn a w with q | q
      · exact y q
      · rw [q] at e; cases e
  refine ⟨N ++ M, by simp [List.append_assoc], List.nodup_append.mpr ⟨nn, nm, ?_⟩, ?_, fun a o e z y => ?_⟩
  · intro a ha b hb e
    subst e
    rcases fm a hb with q | q
    · exact h1.out a q (List.mem_append_right _ ha)
    · exact sr.has (List.mem_append_right _ ha) q
  · intro a ha
    rcases List.mem_append.mp ha with ha | ha
    · rcases fn a ha with q | q
      · exact .inl (List.mem_append_left _ q)
      · exact .inr q
    · rcases fm a ha with q | q
      · exact .inl (List.mem_append_right _ q)
      · cases e : H a with
        | none => exact .inr rfl
        | some o =>
          by_cases hF : a ∈ F
          · exact .inl (List.mem_append_left _ hF)
          · have nr : a ∉ ρ := fun y => sr.has (List.mem_append_left _ y) q
            rw [kn a o e nr hF] at q; cases q
  · have yF : a ∉ F := fun q => y (List.mem_append_left _ q)
    have yG : a ∉ G := fun q => y (List.mem_append_right _ q)
    exact km a o (kn a o e z yF) (kk a o e z yF) yG
mutual
/-- fresh things are cells' content -/
theorem Rp.hcells : ∀ {d : D} {v : V} {F : List Addr}, Rp Z ρ H d v F → ∀ a ∈ F, ∃ o, H a = some o ∧ HCell o = true
  | .non, v, F, h, a, ha => by obtain ⟨_, rfl⟩ := h; cases ha
  | .bl b, v, F, h, a, ha => by obtain ⟨_, rfl⟩ := h; cases ha
  | .int i, v, F, h, a, ha => by obtain ⟨_, rfl⟩ := h; cases ha
  | .str s, v, F, h, a, ha => by obtain ⟨_, rfl⟩ := h; cases ha
  | .tup ds, v, F, h, a, ha => by obtain ⟨_, _, _, _, h3⟩ := h; exact Rps.hcells h3 a ha
  | .ref l, v, F, h, a, ha => by obtain ⟨_, _, _, rfl⟩ := h; cases ha
  | .lst ds, v, F, h, a, ha => by
    obtain ⟨b, vs, G, _, hb, h3, rfl⟩ := h
    rcases List.mem_cons.mp ha with rfl | ha
    · exact ⟨_, hb, rfl⟩
    · exact Rps.hcells h3 a ha
  | .frl ds, v, F, h, a, ha => by
    obtain ⟨b, o, vs, G, _, hb, h3, rfl⟩ := h
    rcases List.mem_cons.mp ha with rfl | ha
    · exact ⟨_, hb, rfl⟩
    · exact Rps.hcells h3 a ha
  | .dic kvs, v, F, h, a, ha => by
    obtain ⟨b, G, _, rfl, h3⟩ := h
    rcases h3 with ⟨ws, hb, h4⟩ | ⟨ws, hb, h4⟩
    · rcases List.mem_cons.mp ha with rfl | ha
      · exact ⟨_, hb, rfl⟩
      · exact RpK.hcells h4 a ha
    · rcases List.mem_cons.mp ha with rfl | ha
      · exact ⟨_, hb, rfl⟩
      · exact RpT.hcells h4 a ha
  | .set xs, v, F, h, a, ha => by
    obtain ⟨b, S, _, hb, _, _, rfl⟩ := h
    rcases List.mem_cons.mp ha with rfl | ha
    · exact ⟨_, hb, rfl⟩
    · cases ha
  | .exc _ _, v, F, h, a, ha => by obtain ⟨_, _, _, _, _, rfl⟩ := h; cases ha
  | .lam _ _, v, F, h, a, ha => h.elim
theorem Rps.hcells : ∀ {ds : List D} {vs : List V} {F : List Addr}, Rps Z ρ H ds vs F → ∀ a ∈ F, ∃ o, H a = some o ∧ HCell o = true
  | [], vs, F, h, a, ha => by obtain ⟨_, rfl⟩ := h; cases ha
  | d :: ds, vs, F, h, a, ha => by
    obtain ⟨v, ws, F1, F2, rfl, h1, h2, rfl⟩ := h
    rcases List.mem_append.mp ha with ha | ha
    · exact Rp.hcells h1 a ha
    · exact Rps.hcells h2 a ha
theorem RpK.hcells : ∀ {ds : List (Ky × D)} {vs : List (L2.Key × V)} {F : List Addr}, RpK Z ρ H ds vs F → ∀ a ∈ F, ∃ o, H a = some o ∧ HCell o = true
  | [], vs, F, h, a, ha => by obtain ⟨_, rfl⟩ := h; cases ha
  | (k, d) :: ds, vs, F, h, a, ha => by
    obtain ⟨j, v, ws, F1, F2, _, rfl, h1, h2, rfl⟩ := h
    rcases List.mem_append.mp ha with ha | ha
    · exact Rp.hcells h1 a ha
    · exact RpK.hcells h2 a ha
theorem RpT.hcells : ∀ {ds : List (Ky × D)} {vs : List (List L2.Key × V)} {F : List Addr}, RpT Z ρ H ds vs F → ∀ a ∈ F, ∃ o, H a = some o ∧ HCell o = true
  | [], vs, F, h, a, ha => by obtain ⟨_, rfl⟩ := h; cases ha
  | (k, d) :: ds, vs, F, h, a, ha => by
    obtain ⟨j, v, ws, F1, F2, _, rfl, h1, h2, rfl⟩ := h
    rcases List.mem_append.mp ha with ha | ha
    · exact Rp.hcells h1 a ha
    · exact RpT.hcells h2 a ha
end
end
section
variable {X : L2.Cx} {T : Tbl} {Z : Wc} {W : WX} {a b c e o : Expr} {A B C : Ex} {pos p : Pos}
/-! targets -/
theorem sg_nm {i : Nat} {x : Str} (hN : X.N.Nodup) (hi : X.N[i]? = some x) (hx : Loc X.env.scope x) (hf : X.fn x = true ∨ X.env.scope.names.lookup x = some .local) : PG X (.Name x pos) (iG T Z (.nm i)) := by
  have g := pg_name (pos := pos) hN hi hx hf
  refine ⟨fun pins s σ H v u Q I r h => g.run pins s σ H v u Q I r ?_⟩
  obtain ⟨ρ, env, st, d, F, n, er, rd, h⟩ := h
  obtain ⟨N, p, s', q⟩ := land_ok d n.sr rd n.out n.nd
  simp only [asgT, bnd, landM, ret] at h
  refine h _ H _ ⟨N, rfl, p.nodup_iff.mpr n.nd, fun a ha => .inl (p.mem_iff.mp ha), fun _ _ e _ _ => e⟩ s' (ER.set ?_ q) Sm.set
  exact ⟨er.1, fun j x hx => let ⟨u, h1, h2⟩ := er.2 j x hx; ⟨u, h1, h2.wide⟩⟩
theorem sgs_nil : PGs X [] (iGs T Z []) := by
  refine ⟨fun pins s σ H vs us Q I r h => pgs_nil.run pins s σ H vs us Q I r ?_⟩
  obtain ⟨ρ, env, st, ds, F, n, er, rd, h⟩ := h
  cases ds with
  | nil =>
    obtain ⟨rfl, rfl⟩ := rd
    exact ⟨rfl, by simp only [asgTs, ret] at h; exact h _ _ _ ⟨[], by simp, .nil, by simp, fun _ _ e _ _ => e⟩ n.sr er Sm.id⟩
  | cons d ds => simp only [asgTs, bad] at h; exact h.elim
theorem sgs_cons {es : List Expr} {t : Tg} {ts : List Tg} (h1 : PG X e (iG T Z t)) (h2 : PGs X es (iGs T Z ts)) (hs : (assignEach (e :: es) X.env).map (·.2) = assign e X.env :: (assignEach es X.env).map (·.2)) : PGs X (e :: es) (iGs T Z (t :: ts)) := by
  have g := pgs_cons h1 h2 hs
  refine ⟨fun pins s σ H vs us Q I r h => g.run pins s σ H vs us Q I r ?_⟩
  obtain ⟨ρ, env, st, ds, F, n, er, rd, h⟩ := h
  cases ds with
  | nil => simp only [asgTs, bad] at h; exact h.elim
  | cons d ds =>
    obtain ⟨v, ws, F1, F2, rfl, r1, r2, rfl⟩ := rd
    simp only [asgTs] at h
    refine ⟨v, ws, rfl, ρ, env, st, d, F1, n.less (List.sublist_append_left _ _), er, r1, ?_⟩
    unfold bnd at h
    cases e1 : asgT T t d env st with
    | ok env' st' =>
      rw [e1] at h
      intro ρ' H' σ' t1 sr1 er1 m1
      refine ⟨ρ', env', st', ds, F2, n.step t1 sr1, er1, t1.vals n r1.hcells r2, ?_⟩
      show PostA Z (asgTs T ts ds env' st') ρ' H' F2 (tgNs ts) σ' Q
      have h' : PostA Z (asgTs T ts ds env' st') ρ H (F1 ++ F2) (tgN t ++ tgNs ts) σ Q := h
      cases e2 : asgTs T ts ds env' st' with
      | ok env2 st2 =>
        rw [e2] at h'
        exact fun ρ2 H2 σ2 t2 sr2 er2 m2 => h' ρ2 H2 σ2 (StpF.trans n t1 sr1 t2) sr2 er2 (m1.trans m2)
      | exc _ _ => rw [e2] at h'; exact h'.elim
      | bad => rw [e2] at h'; exact h'.elim
    | exc x s' => rw [e1] at h; exact h.elim
    | bad => rw [e1] at h; exact h.elim
theorem sg_tup {es : List Expr} {ts : List Tg} {k : Nat} (hK : X.K = Z.K) (hc : X.calm = true) (h : PGs X es (iGs T Z ts)) (hl : es.length = ts.length) (hn : (assignEach es X.env).length = es.length) (hst : (assignEach es X.env).findIdx? (·.1) = none) : PG X (.Tuple es k pos) (iG T Z (.tup ts)) := by
  have g := pg_tup (k := k) (pos := pos) hc h hn hst
  have g2 := pg_unl (k := k) (pos := pos) hc h rfl hst
  have len : ∀ {ρ : List Addr} {H : Hp} {F : List Addr} {Q : L2.St → Hp → Prop} (ts : List Tg) (ds : List D) (env : Env) (st : Sto) {L : List Nat} {σ : L2.St}, PostA Z (asgTs T ts ds env st) ρ H F L σ Q → ds.length = ts.length := by
    intro ρ H F Q ts
    induction ts with
    | nil => intro ds env st L σ h; cases ds with
      | nil => rfl
      | cons d ds => simp only [asgTs, bad] at h; exact h.elim
    | cons t ts ih =>
      intro ds env st L σ h
      cases ds with
      | nil => simp only [asgTs, bad] at h; exact h.elim
      | cons d ds =>
        simp only [asgTs, bnd] at h
        cases e1 : asgT T t d env st with
        | ok env' st' => rw [e1] at h; simp [ih ds env' st' h]
        | exc x s' => rw [e1] at h; exact h.elim
        | bad => rw [e1] at h; exact h.elim
  refine ⟨fun pins s σ H v u Q I r q => ?_⟩
  obtain ⟨ρ, env, st, d, F, n, er, rd, q⟩ := q
  simp only [asgT] at q
  have less : ∀ {ds : List D} {G : List Addr}, (∀ a ∈ G, a ∈ F) → PostA Z (asgTs T ts ds env st) ρ H F (tgNs ts) σ Q → PostA Z (asgTs T ts ds env st) ρ H G (tgNs ts) σ Q := by
    intro ds G hG h
    cases e : asgTs T ts ds env st with
    | ok env' st' =>
      rw [e] at h
      rintro ρ' H' σ' ⟨N, e1, e2, e3, e4⟩
      exact h ρ' H' σ' ⟨N, e1, e2, fun a ha => (e3 a ha).imp (hG a) id, fun a o q1 q2 q3 => e4 a o q1 q2 fun z => q3 (hG a z)⟩
    | exc _ _ => rw [e] at h; exact h.elim
    | bad => rw [e] at h; exact h.elim
  cases d with
  | tup ds =>
    obtain ⟨a, vs, rfl, hv, rs⟩ := rd
    simp only [ofTup] at q
    exact g.run pins s σ H _ u Q I r ⟨a, vs, rfl, by rw [hK]; exact hv, by rw [← rs.length, len ts ds env st q, hl], ρ, env, st, ds, F, n, er, rs, q⟩
  | lst ds =>
    obtain ⟨a, vs, G, rfl, hv, rs, rfl⟩ := rd
    simp only [ofTup] at q
    have q2 := less (fun x hx => List.mem_cons_of_mem _ hx) q
    exact g2.run pins s σ H _ u Q I r ⟨a, vs, rfl, by rw [hK]; exact SqL.of hv, by rw [← rs.length, len ts ds env st q, ← hl, hn], ρ, env, st, ds, G, ⟨n.sr, (List.nodup_cons.1 n.nd).2, fun x hx => n.out x (List.mem_cons_of_mem _ hx), fun x hx => n.th x (List.mem_cons_of_mem _ hx)⟩, er, rs, q2⟩
  | ref l =>
    obtain ⟨a, ha, rfl, rfl⟩ := rd
    simp only [ofTup] at q
    cases e : st[l]? with
    | none => rw [e] at q; exact q.elim
    | some c =>
      rw [e] at q
      cases c with
      | lst ds =>
        obtain ⟨b, vs, G, z, hv, rs, hG⟩ := n.sr.cell l _ a e ha
        cases z
        have hG2 : G = [] := by
          have := congrArg List.length hG
          simp only [List.length_cons, List.length_nil] at this
          exact List.eq_nil_of_length_eq_zero (by omega)
        subst hG2
        exact g2.run pins s σ H _ u Q I r ⟨a, vs, rfl, by rw [hK]; exact SqL.of hv, by rw [← rs.length, len ts ds env st q, ← hl, hn], ρ, env, st, ds, [], n, er, rs, q⟩
      | _ => exact q.elim
  | _ => simp only [ofTup] at q; exact q.elim
end
end Fs
namespace Fs
open PySem L2 PyProof.Rows PySem.Spec
section
variable {X : L2.Cx} {T : Tbl} {Z : Wc} {W : WX} {a b c e : Expr} {A B C : Ex} {pos p : Pos} {s1 s2 : Stmt} {q1 q2 : Sx}
theorem ps_weak {s : Stmt} {t t' : TS} (h : PS X s t) (w : ∀ D σ H, t' D σ H → t D σ H) : PS X s t' := ⟨fun pins s σ H D I q => h.run pins s σ H D I (w D σ H q)⟩
theorem pss_weak {s : List Stmt} {t t' : TS} (h : PSs X s t) (w : ∀ D σ H, t' D σ H → t D σ H) : PSs X s t' := ⟨fun pins s σ H D I q => h.run pins s σ H D I (w D σ H q)⟩
theorem ss_pass : PS X (.Pass pos) (iS T Z W .pas) := ps_weak ps_pass fun D σ H ⟨ρ, env, st, er, sr, h⟩ => by
  simp only [exS, ret] at h
  exact h _ _ _ Stp.id sr er
theorem ss_brk : PS X (.Break pos) (iS T Z W .brk) := ps_weak ps_break fun D σ H ⟨ρ, env, st, er, sr, h⟩ => by
  simp only [exS, ret] at h
  exact h _ _ _ Stp.id sr er
theorem ss_cnt : PS X (.Continue pos) (iS T Z W .cnt) := ps_weak ps_continue fun D σ H ⟨ρ, env, st, er, sr, h⟩ => by
  simp only [exS, ret] at h
  exact h _ _ _ Stp.id sr er
theorem ss_ret0 : PS X (.Return none pos) (iS T Z W .ret0) := ps_weak ps_retN fun D σ H ⟨ρ, env, st, er, sr, h⟩ => by
  simp only [exS, ret] at h
  exact h _ _ _ _ Stp.id sr ⟨rfl, rfl⟩
theorem ss_ret (ha : PE X a (iE T Z W A)) : PS X (.Return (some a) pos) (iS T Z W (.ret A)) := ps_weak (ps_ret ha) fun D σ H ⟨ρ, env, st, er, sr, h⟩ => by
  simp only [exS] at h
  refine ⟨ρ, env, st, er, sr, (PostS.lft rpOk (Now.start sr) sr er h).mono ?_⟩
  rintro v H1 ⟨ρ1, d, st1, G, n, t, er1, r, h1⟩
  simp only [ret] at h1
  exact h1 _ _ _ _ n.stp n.sr r
theorem ss_xpr (ha : PE X a (iE T Z W A)) (hs : swapsWith a none pos.line X.env = pure false) : PS X (.Expr a pos) (iS T Z W (.xpr A)) := ps_weak (ps_expr ha hs) fun D σ H ⟨ρ, env, st, er, sr, h⟩ => by
  simp only [exS] at h
  refine ⟨ρ, env, st, er, sr, (PostS.lft rpOk (Now.start sr) sr er h).mono ?_⟩
  rintro v H1 ⟨ρ1, d, st1, G, n, t, er1, r, h1⟩
  simp only [ret] at h1
  exact h1 _ _ _ n.stp.none n.sr er1
theorem asg_ok {t : Tg} {D : Ends} {σ : L2.St} {H : Hp} (h : iS T Z W (.asg t A) D σ H) : iE T Z W A σ H (fun x H1 => iG T Z t x σ H1 D.nx) := by
  obtain ⟨ρ, env, st, er, sr, h⟩ := h
  simp only [exS] at h
  refine ⟨ρ, env, st, er, sr, (PostS.lft rpOk (Now.start sr) sr er h).mono ?_⟩
  rintro v H1 ⟨ρ1, d, st1, G, n, t1, er1, r, h1⟩
  have n' : Now Z ρ H ρ1 st1 H1 G := n
  refine ⟨ρ1, env, st1, d, G, n'.hand, er1, r, ?_⟩
  unfold bnd noX at h1
  cases e1 : asgT T t d env st1 with
  | ok env' st' =>
    rw [e1] at h1
    exact fun ρ' H' σ' t2 sr2 er2 _ => h1 ρ' H' σ' (n'.land sr t2) sr2 er2
  | exc _ _ => rw [e1] at h1; exact h1.elim
  | bad => rw [e1] at h1; exact h1.elim
theorem ss_asg {tg : Expr} {t : Tg} (ha : PE X e (iE T Z W A)) (hg : PG X tg (iG T Z t)) (hs : swapsWithSole [tg] e pos.line X.env = pure false) (hw : swappedStores [tg] e X.env = pure none) (h1 : (assignEach [tg] X.env).map (·.2) = [assign tg X.env]) :
    PS X (.Assign [tg] e pos) (iS T Z W (.asg t A)) := ps_weak (ps_asg ha hg hs hw h1) fun D σ H h => asg_ok h
theorem ss_if {as bs : List Stmt} {As Bs : List Sx} {C1 : Cn} (hc : PT X c (iT T Z W C1)) (ha : PSs X as (iL T Z W As)) (hb : PSs X bs (iL T Z W Bs)) : PS X (.If c as bs pos) (iS T Z W (.iff C1 As Bs)) := ps_weak (ps_if hc ha hb) fun D σ H ⟨ρ, env, st, er, sr, h⟩ => by
  simp only [exS] at h
  refine ⟨ρ, env, st, er, sr, (PostS.lft reqOk (Now.start sr) sr er h).mono ?_⟩
  rintro k H1 ⟨ρ1, d, st1, G, n, t, er1, ⟨rfl, rfl⟩, h1⟩
  cases d with
  | true => exact ⟨ρ1, env, st1, er1, n.sr, h1.tail n sr⟩
  | false => exact ⟨ρ1, env, st1, er1, n.sr, h1.tail n sr⟩
theorem ssl_nil : PSs X [] (iL T Z W []) := pss_weak pss_nil fun D σ H ⟨ρ, env, st, er, sr, h⟩ => by
  simp only [exL, ret] at h
  exact h _ _ _ Stp.id sr er
theorem ssl_cons {ss : List Stmt} {qs : List Sx} (h1 : PS X s1 (iS T Z W q1)) (h2 : PSs X ss (iL T Z W qs)) : PSs X (s1 :: ss) (iL T Z W (q1 :: qs)) := pss_weak (pss_cons h1 h2) fun D σ H ⟨ρ, env, st, er, sr, h⟩ => by
  simp only [exL] at h
  refine ⟨ρ, env, st, er, sr, ?_⟩
  unfold seqF at h
  cases e1 : exS T q1 env st with
  | exc _ _ => rw [e1] at h; exact h.elim
  | bad => rw [e1] at h; exact h.elim
  | ok f s' =>
    rw [e1] at h
    cases f with
    | nx e' => exact fun ρ' H' σ' t sr' er' => ⟨ρ', e', s', er', sr', PostS.tail (F := []) (⟨t, sr', by simp, by simp, .nil⟩ : Now Z ρ H ρ' s' H' []) sr h⟩
    | br e' => exact h
    | ct e' => exact h
    | rt d => exact h
    | ex e' x => exact h
/-! while -/
theorem ss_whl {bs : List Stmt} {Bs : List Sx} {C1 : Cn} (hp : PassesOwn (model X.prog X.w) X.A X.env X.xe) (hc : PT X c (iT T Z W C1)) (hb : PSs X bs (iL T Z W Bs)) : PS X (.While c bs [] pos) (iS T Z W (.whl C1 Bs)) := ps_weak (ps_while hp hc hb) fun D σ H ⟨ρ, env, st, er, sr, h⟩ => by
  simp only [exS] at h
  refine ⟨fun m σ H => ∃ ρ env st, ER Z ρ H env σ ∧ SR Z ρ st H ∧ PostS Z W (whLoop (fun σ => evT T C1 σ) (fun σ => exL T Bs σ) m env st) ρ H D, ⟨wfuel, ρ, env, st, er, sr, h⟩, ?_⟩
  rintro m σ H ⟨ρ, env, st, er, sr, h⟩
  cases m with
  | zero => exact h.elim
  | succ m =>
    simp only [whLoop] at h
    refine ⟨ρ, env, st, er, sr, (PostS.lft reqOk (Now.start sr) sr er h).mono ?_⟩
    rintro k H1 ⟨ρ1, d, st1, G, n, t, er1, ⟨rfl, rfl⟩, h1⟩
    cases d with
    | false => simp only [ret] at h1; exact h1 _ _ _ n.stp n.sr er1
    | true =>
      refine ⟨fun σ' H' => ∃ ρ env st, ER Z ρ H' env σ' ∧ SR Z ρ st H' ∧ PostS Z W (whLoop (fun σ => evT T C1 σ) (fun σ => exL T Bs σ) m env st) ρ H' D, fun σ' H' hN => ⟨m, Nat.lt_succ_self m, hN⟩, ρ1, env, st1, er1, n.sr, ?_⟩
      have h2 := PostS.tail n sr h1
      simp only at h2
      cases e1 : exL T Bs env st1 with
      | exc _ _ => rw [e1] at h2; exact h2.elim
      | bad => rw [e1] at h2; exact h2.elim
      | ok f s' =>
        rw [e1] at h2
        cases f with
        | nx e' => exact fun ρ' H' σ' t sr' er' => ⟨ρ', e', s', er', sr', PostS.tail (F := []) (⟨t, sr', by simp, by simp, .nil⟩ : Now Z ρ1 H1 ρ' s' H' []) n.sr h2⟩
        | ct e' => exact fun ρ' H' σ' t sr' er' => ⟨ρ', e', s', er', sr', PostS.tail (F := []) (⟨t, sr', by simp, by simp, .nil⟩ : Now Z ρ1 H1 ρ' s' H' []) n.sr h2⟩
        | br e' => exact h2
        | rt d => exact h2
        | ex e' x => exact h2
end
end Fs
namespace Fs
open PySem L2 PyProof.Rows PySem.Spec
/-- the walk J draws what t draws; I i ρ H F: what holds ahead of turn i, F the fresh things left -/
structure Fol (Z : Wc) (t : Fs.It) (J : L2.It) (I : Nat → List Addr → Hp → List Addr → Prop) : Prop where
  there : ∀ {i ρ H F}, I i ρ H F → ∀ a ∈ F, H a ≠ none
  stay : ∀ {i ρ H F ρ' H'}, (∀ (l : Nat) (a : Addr), ρ[l]? = some a → ρ'[l]? = some a) → (∀ a o, H a = some o → HCell o = false → H' a = some o) → (∀ a ∈ F, ∀ o, H a = some o → H' a = some o) → I i ρ H F → I i ρ' H' F
  stop : ∀ {i ρ st H F}, SR Z ρ st H → I i ρ H F → t.next i st = some none → J.stop i H
  item : ∀ {i ρ st H F d}, SR Z ρ st H → I i ρ H F → t.next i st = some (some d) → J.go i H ∧ ∀ x H', J.yld i H x H' → (H' = H ∨ ∃ T vs, H T = none ∧ H' = upd H T (.tup vs)) ∧ ∃ F1 F2, (F1 ++ F2).Perm F ∧ Rp Z ρ H' d x F1 ∧ I (i + 1) ρ H' F2
def relI (Z : Wc) : Rel Fs.It L2.It := fun ρ H t J F => ∃ I, Fol Z t J I ∧ I 0 ρ H F
theorem relI_ok {Z : Wc} : RelOk Z (relI Z) := ⟨fun ⟨I, f, h⟩ => f.there h, fun hr ht hk ⟨I, f, h⟩ => ⟨I, f, f.stay hr ht hk h⟩⟩
def iI (T : Tbl) (Z : Wc) (W : WX) (it : Ix) : TI := fun σ H R => ∃ ρ env st, ER Z ρ H env σ ∧ SR Z ρ st H ∧ Post (relI Z) Z W (evI T it env st) ρ σ H R
section
variable {Z : Wc} {W : WX} {ρ ρ' ρ₁ ρ₂ : List Addr} {H H' H₁ H₂ : Hp} {st st' st₁ : Sto} {F F' F₁ F₂ G : List Addr} {σ : L2.St} {env : Env}
theorem Stp.perm (s : Stp ρ H ρ' H' F) (p : G.Perm F) : Stp ρ H ρ' H' G := by
  obtain ⟨N, rfl, n, f, k⟩ := s
  have q : (N ++ G).Perm (N ++ F) := List.Perm.append_left N p
  exact ⟨N, rfl, q.nodup_iff.mpr n, fun a ha => f a (q.mem_iff.mp ha), k⟩
theorem Now.perm (n : Now Z ρ H ρ₁ st₁ H₁ F) (p : G.Perm F) : Now Z ρ H ρ₁ st₁ H₁ G :=
  ⟨n.stp.perm p, n.sr, fun a ha => n.th a (p.mem_iff.mp ha), fun a ha => n.out a (p.mem_iff.mp ha), p.nodup_iff.mpr n.nd⟩
/-- the first part landed, the rest in hand -/
theorem Now.landR (n : Now Z ρ H ρ₁ st₁ H₁ (F ++ G)) (s : SR Z ρ st H) (t : StpF ρ₁ H₁ F ρ₂ H₂) (sr : SR Z ρ₂ st' H₂) : Now Z ρ H ρ₂ st' H₂ G := by
  have hd := n.hand.step t sr
  have h0 := (n.less (List.sublist_append_left F G)).land s t
  refine ⟨?_, sr, hd.th, hd.out, hd.nd⟩
  obtain ⟨M, eM, nd, f, k⟩ := h0
  obtain ⟨M1, e1, nd1, f1, k1⟩ := n.stp
  refine ⟨M, eM, ?_, fun a ha => ?_, k⟩
  · refine List.nodup_append.mpr ⟨by simpa using nd, hd.nd, fun a ha b hb e => ?_⟩
    subst e
    exact hd.out a hb (by rw [eM]; exact List.mem_append_right _ ha)
  · rcases List.mem_append.mp ha with ha | ha
    · exact f a (by simpa using ha)
    · exact f1 a (List.mem_append_right _ (List.mem_append_right _ ha))
theorem StpF.kept (s : StpF ρ H F ρ' H') (h : Hand Z ρ st H (F ++ G)) (hF : ∀ a ∈ F, ∃ o, H a = some o ∧ HCell o = true) :
    (∀ (l : Nat) (a : Addr), ρ[l]? = some a → ρ'[l]? = some a) ∧ (∀ a o, H a = some o → HCell o = false → H' a = some o) ∧ ∀ a ∈ G, ∀ o, H a = some o → H' a = some o := by
  have pre := s.pre
  obtain ⟨N, rfl, nn, fn, kn⟩ := s
  refine ⟨pre, fun a o e k => kn a o e (h.sr.not_cell e k) fun z => ?_, fun a ha o e => kn a o e (h.out a (List.mem_append_right _ ha)) fun z => (List.nodup_append.mp h.nd).2.2 a z a ha rfl⟩
  obtain ⟨u, e', k'⟩ := hF a z
  rw [e] at e'; cases e'; rw [k] at k'; cases k'
theorem Stp.kept (s : Stp ρ H ρ' H' F) (r : SR Z ρ st H) (hG : ∀ a ∈ G, a ∉ ρ) : (∀ (l : Nat) (a : Addr), ρ[l]? = some a → ρ'[l]? = some a) ∧ (∀ a o, H a = some o → HCell o = false → H' a = some o) ∧ ∀ a ∈ G, ∀ o, H a = some o → H' a = some o :=
  ⟨s.pre, s.tup r, fun a ha => s.keep (hG a ha)⟩
/-- a tuple made beside -/
theorem Now.tupd (n : Now Z ρ H ρ₁ st₁ H₁ F) (s : SR Z ρ st H) (h : H' = H₁ ∨ ∃ T vs, H₁ T = none ∧ H' = upd H₁ T (.tup vs)) : Now Z ρ H ρ₁ st₁ H' F ∧ ∀ {e : Env} {σ : L2.St}, ER Z ρ₁ H₁ e σ → ER Z ρ₁ H' e σ := by
  rcases h with rfl | ⟨T, vs, hT, rfl⟩
  · exact ⟨n, fun e => e⟩
  · refine ⟨(n.new s hT).less (List.sublist_cons_self T F), fun {e σ} er => ⟨er.1, fun i d z => ?_⟩⟩
    obtain ⟨v, a, b⟩ := er.2 i d z
    exact ⟨v, a, rp_up hT b⟩
end
section
variable {X : L2.Cx} {T : Tbl} {Z : Wc} {W : WX} {pos : Pos}
theorem ss_for {tg iter : Expr} {bs : List Stmt} {Bs : List Sx} {it : Ix} {t : Tg} (hp : PassesOwn (model X.prog X.w) X.A X.env X.xe) (hc : X.calm = true) (hi : PI X tg iter (iI T Z W it)) (hg : PG X tg (iG T Z t)) (hb : PSs X bs (iL T Z W Bs))
    (hs : ∀ x, foldedSetIterable iter X.env x = pure x) : PS X (.For tg iter bs [] pos) (iS T Z W (.forr it t Bs)) := ps_weak (ps_for hp hc hi hg hb hs) fun Dn σ H ⟨ρ, env, st, er, sr, h⟩ => by
  simp only [exS] at h
  refine ⟨ρ, env, st, er, sr, (PostS.lft relI_ok (Now.start sr) sr er h).mono ?_⟩
  rintro J H1 ⟨ρ1, w, st1, G, n1, t1, er1, ⟨I, fol, hI⟩, h1⟩
  refine ⟨fun i m σ' H' => ∃ ρ' env' st' F, Now Z ρ H ρ' st' H' F ∧ ER Z ρ' H' env' σ' ∧ I i ρ' H' F ∧ PostS Z W (forLoop w (fun d σ => asgT T t d σ) (fun σ => exL T Bs σ) m i env' st') ρ H Dn, ⟨w.len st1 + 1, ρ1, env, st1, G, n1, er1, hI, h1⟩, ?_⟩
  rintro i m σ' H' ⟨ρ', env', st', F, n, er', hI', h'⟩
  cases m with
  | zero => exact h'.elim
  | succ m =>
    simp only [forLoop] at h'
    cases e1 : w.next i st' with
    | none => rw [e1] at h'; exact h'.elim
    | some o => cases o with
      | none =>
        rw [e1] at h'
        exact .inl ⟨fol.stop n.sr hI' e1, h' _ _ _ n.stp.none n.sr er'⟩
      | some d =>
        rw [e1] at h'
        obtain ⟨hgo, hy⟩ := fol.item n.sr hI' e1
        refine .inr ⟨hgo, fun σ2 H2 => ∃ ρ2 env2 st2 F2, Now Z ρ H ρ2 st2 H2 F2 ∧ ER Z ρ2 H2 env2 σ2 ∧ I (i + 1) ρ2 H2 F2 ∧ PostS Z W (forLoop w (fun d σ => asgT T t d σ) (fun σ => exL T Bs σ) m (i + 1) env2 st2) ρ H Dn, fun σ2 H2 hN => ⟨m, Nat.lt_succ_self m, hN⟩, fun x Hx hyl => ?_⟩
        obtain ⟨hH, F1, F2, hperm, rx, hI2⟩ := hy x Hx hyl
        obtain ⟨nx, erx⟩ := (n.perm hperm).tupd sr hH
        refine ⟨ρ', env', st', d, F1, (nx.less (List.sublist_append_left _ _)).hand, erx er', rx, ?_⟩
        unfold noX at h'
        cases e2 : asgT T t d env' st' with
        | exc _ _ => simp only [e2] at h'; exact h'.elim
        | bad => simp only [e2] at h'; exact h'.elim
        | ok env3 st3 =>
          simp only [e2] at h'
          intro ρ3 H3 σ3 t3 sr3 er3 _
          have n3 := nx.landR sr t3 sr3
          obtain ⟨k1, k2, k3⟩ := t3.kept nx.hand rx.hcells
          have hI3 : I (i + 1) ρ3 H3 F2 := fol.stay k1 k2 k3 hI2
          refine ⟨ρ3, env3, st3, er3, sr3, ?_⟩
          cases e3 : exL T Bs env3 st3 with
          | exc _ _ => rw [e3] at h'; exact h'.elim
          | bad => rw [e3] at h'; exact h'.elim
          | ok f st4 =>
            rw [e3] at h'
            have go : ∀ e4, PostS Z W (forLoop w (fun d σ => asgT T t d σ) (fun σ => exL T Bs σ) m (i + 1) e4 st4) ρ H Dn → ∀ ρ4 H4 σ4, Stp ρ3 H3 ρ4 H4 [] → SR Z ρ4 st4 H4 → ER Z ρ4 H4 e4 σ4 →
                ∃ ρ2 env2 st2 F2, Now Z ρ H ρ2 st2 H4 F2 ∧ ER Z ρ2 H4 env2 σ4 ∧ I (i + 1) ρ2 H4 F2 ∧ PostS Z W (forLoop w (fun d σ => asgT T t d σ) (fun σ => exL T Bs σ) m (i + 1) env2 st2) ρ H Dn := by
              intro e4 h4 ρ4 H4 σ4 t4 sr4 er4
              obtain ⟨q1, q2, q3⟩ := t4.kept sr3 n3.out
              have n4 := n3.more sr t4 sr4 (by simp)
              exact ⟨ρ4, e4, st4, F2, by simpa using n4, er4, fol.stay q1 q2 q3 hI3, h4⟩
            cases f with
            | nx e4 => exact fun ρ4 H4 σ4 t4 sr4 er4 => go e4 h' ρ4 H4 σ4 t4 sr4 er4
            | ct e4 => exact fun ρ4 H4 σ4 t4 sr4 er4 => go e4 h' ρ4 H4 σ4 t4 sr4 er4
            | br e4 => exact fun ρ4 H4 σ4 t4 sr4 er4 => h' ρ4 H4 σ4 (n3.more sr t4 sr4 (by simp)).stp.none sr4 er4
            | rt d4 => exact fun ρ4 H4 v G4 t4 sr4 r4 => h' ρ4 H4 v G4 ((n3.more sr t4 sr4 (fun a ha => r4.there a ha)).stp.less (List.sublist_append_right _ _)) sr4 r4
            | ex e4 x4 => exact fun ρ4 H4 σ4 cls dx t4 sr4 er4 r4 => h' ρ4 H4 σ4 cls dx (n3.more sr t4 sr4 (by simp)).stp.none sr4 er4 r4
end
end Fs
namespace Fs
open PySem L2 PyProof.Rows PySem.Spec
section
variable {Z : Wc}
theorem drop_cons {α : Type} {xs : List α} {i : Nat} {d : α} (h : xs[i]? = some d) : xs.drop i = d :: xs.drop (i + 1) := by
  obtain ⟨hl, e⟩ := List.getElem?_eq_some_iff.mp h
  rw [← e]; exact List.drop_eq_getElem_cons hl
theorem rps_turn {ρ : List Addr} {H : Hp} {xs : List D} {vs : List V} {i : Nat} {d : D} {F : List Addr} (h : xs[i]? = some d) (r : Rps Z ρ H (xs.drop i) (vs.drop i) F) :
    ∃ x F1 F2, vs[i]? = some x ∧ F = F1 ++ F2 ∧ Rp Z ρ H d x F1 ∧ Rps Z ρ H (xs.drop (i + 1)) (vs.drop (i + 1)) F2 := by
  rw [drop_cons h] at r
  obtain ⟨v, ws, F1, F2, e, r1, r2, rfl⟩ := r
  have hv : vs[i]? = some v := by
    have : (vs.drop i)[0]? = some v := by rw [e]; rfl
    simpa using this
  have hw : ws = vs.drop (i + 1) := by
    have := drop_cons hv
    rw [e] at this
    injection this
  rw [hw] at r2
  exact ⟨v, F1, F2, hv, rfl, r1, r2⟩
theorem fol_tup {xs : List D} (a : Addr) : Fol Z (.one (.items xs)) (Itt Z.K a) (fun i ρ H F => ∃ vs, SqT Z.K H a vs ∧ vs.length = xs.length ∧ Rps Z ρ H (xs.drop i) (vs.drop i) F) where
  there := fun ⟨vs, _, _, r⟩ => r.there
  stay := fun hr ht hk ⟨vs, h, l, r⟩ => ⟨vs, SqT.stay ht h, l, r.stay hr ht hk⟩
  stop := fun {i ρ st H F} s ⟨vs, h, l, r⟩ e => by
    simp only [It.next, Src.at, Option.some.injEq] at e
    exact ⟨vs, h, by rw [l]; exact List.getElem?_eq_none_iff.mp e⟩
  item := fun {i ρ st H F d} s ⟨vs, h, l, r⟩ e => by
    simp only [It.next, Src.at, Option.some.injEq] at e
    obtain ⟨x, F1, F2, hx, rfl, r1, r2⟩ := rps_turn e r
    refine ⟨⟨vs, x, h, hx⟩, fun y H' hy => ?_⟩
    obtain ⟨rfl, hy⟩ := hy
    have := hy vs h
    rw [hx] at this
    cases this
    exact ⟨.inl rfl, F1, F2, .refl _, r1, vs, h, l, r2⟩
theorem fol_lst {xs : List D} (a : Addr) : Fol Z (.one (.items xs)) (Itl Z.K a) (fun i ρ H F => ∃ vs G, H a = some (.lst vs) ∧ vs.length = xs.length ∧ Rps Z ρ H (xs.drop i) (vs.drop i) G ∧ F = a :: G) where
  there := fun ⟨vs, G, h, _, r, f⟩ b hb => by
    subst f
    rcases List.mem_cons.mp hb with rfl | hb
    · rw [h]; exact nofun
    · exact r.there b hb
  stay := fun hr ht hk ⟨vs, G, h, l, r, f⟩ => by
    subst f
    exact ⟨vs, G, hk a List.mem_cons_self _ h, l, r.stay hr ht (fun b hb => hk b (List.mem_cons_of_mem _ hb)), rfl⟩
  stop := fun {i ρ st H F} s ⟨vs, G, h, l, r, f⟩ e => by
    simp only [It.next, Src.at, Option.some.injEq] at e
    exact ⟨vs, SqL.of h, by rw [l]; exact List.getElem?_eq_none_iff.mp e⟩
  item := fun {i ρ st H F d} s ⟨vs, G, h, l, r, f⟩ e => by
    simp only [It.next, Src.at, Option.some.injEq] at e
    obtain ⟨x, F1, F2, hx, rfl, r1, r2⟩ := rps_turn e r
    refine ⟨⟨vs, x, SqL.of h, hx⟩, fun y H' hy => ?_⟩
    obtain ⟨rfl, hy⟩ := hy
    have := hy vs (SqL.of h)
    rw [hx] at this
    cases this
    subst f
    exact ⟨.inl rfl, F1, a :: F2, List.perm_middle, r1, vs, F2, h, l, r2, rfl⟩
/-- a cell's list as it stands -/
theorem SR.list {ρ : List Addr} {st : Sto} {H : Hp} {l : Nat} {a : Addr} {xs : List D} (s : SR Z ρ st H) (ha : ρ[l]? = some a) (h : st[l]? = some (.lst xs) ∨ st[l]? = some (.frl xs)) : ∃ vs, SqL Z.K H a vs ∧ Rps Z ρ H xs vs [] := by
  rcases h with h | h
  · obtain ⟨b, vs, G, z, h1, r, f⟩ := s.cell l _ a h ha
    cases z
    obtain rfl : G = [] := by injection f with _ f; exact f.symm
    exact ⟨vs, SqL.of h1, r⟩
  · obtain ⟨b, o, vs, G, z, h1, r, f⟩ := s.cell l _ a h ha
    cases z
    obtain rfl : G = [] := by injection f with _ f; exact f.symm
    exact ⟨vs, .inl (.inr ⟨o, h1⟩), r⟩
theorem src_cell {l i : Nat} {st : Sto} {o : Option D} (e : Src.at (.cell l) i st = some o) : ∃ xs, (st[l]? = some (.lst xs) ∨ st[l]? = some (.frl xs)) ∧ xs[i]? = o := by
  simp only [Src.at] at e
  split at e
  · rename_i xs h; cases e; exact ⟨xs, .inl h, rfl⟩
  · rename_i xs h; cases e; exact ⟨xs, .inr h, rfl⟩
  · cases e
theorem fol_cell {l : Nat} (a : Addr) : Fol Z (.one (.cell l)) (Itl Z.K a) (fun i ρ H F => ρ[l]? = some a ∧ F = []) where
  there := fun ⟨_, f⟩ b hb => by rw [f] at hb; cases hb
  stay := fun hr _ _ ⟨h, f⟩ => ⟨hr l a h, f⟩
  stop := fun {i ρ st H F} s ⟨h, f⟩ e => by
    obtain ⟨xs, hc, hx⟩ := src_cell e
    obtain ⟨vs, hv, r⟩ := s.list h hc
    exact ⟨vs, hv, by rw [← r.length]; exact List.getElem?_eq_none_iff.mp hx⟩
  item := fun {i ρ st H F d} s ⟨h, f⟩ e => by
    obtain ⟨xs, hc, hx⟩ := src_cell e
    obtain ⟨vs, hv, r⟩ := s.list h hc
    obtain ⟨x, G, ex, rx, hG⟩ := r.get hx
    obtain rfl : G = [] := List.sublist_nil.mp hG
    refine ⟨⟨vs, x, hv, ex⟩, fun y H' hy => ?_⟩
    obtain ⟨rfl, hy⟩ := hy
    have := hy vs hv
    rw [ex] at this
    cases this
    exact ⟨.inl rfl, [], [], by rw [f]; exact .refl _, rx, h, rfl⟩
theorem rng_at {a c : Int} {n i : Nat} {o : Option D} (e : (rngN a c n)[i]? = o) : (o = none → n ≤ i) ∧ ∀ d, o = some d → i < n ∧ d = .int (a + (i : Int) * c) := by
  unfold rngN at e
  rw [List.getElem?_map] at e
  by_cases h : i < n
  · rw [List.getElem?_range h] at e
    subst e
    exact ⟨fun z => (by cases z), fun d z => (by cases z; exact ⟨h, rfl⟩)⟩
  · rw [List.getElem?_eq_none (by simpa using h)] at e
    subst e
    exact ⟨fun _ => Nat.le_of_not_lt h, fun d z => (by cases z)⟩
theorem fol_rngC (lo c : Int) (n : Nat) : Fol Z (.one (.items (rngN lo c n))) (Itc lo c n) (fun _ _ _ F => F = []) where
  there := fun f b hb => by rw [f] at hb; cases hb
  stay := fun _ _ _ h => h
  stop := fun {i ρ st H F} s f e => by
    simp only [It.next, Src.at, Option.some.injEq] at e
    exact (rng_at e).1 rfl
  item := fun {i ρ st H F d} s f e => by
    simp only [It.next, Src.at, Option.some.injEq] at e
    obtain ⟨hl, rfl⟩ := (rng_at e).2 d rfl
    refine ⟨hl, fun y H' hy => ?_⟩
    obtain ⟨rfl, rfl⟩ := hy
    exact ⟨.inl rfl, [], [], by rw [f]; exact .refl _, ⟨rfl, rfl⟩, rfl⟩
theorem fol_rng1 (lo : Int) (n : Nat) : Fol Z (.one (.items (rngN lo 1 n))) (Itr lo n) (fun _ _ _ F => F = []) where
  there := fun f b hb => by rw [f] at hb; cases hb
  stay := fun _ _ _ h => h
  stop := fun {i ρ st H F} s f e => by
    simp only [It.next, Src.at, Option.some.injEq] at e
    exact (rng_at e).1 rfl
  item := fun {i ρ st H F d} s f e => by
    simp only [It.next, Src.at, Option.some.injEq] at e
    obtain ⟨hl, rfl⟩ := (rng_at e).2 d rfl
    refine ⟨hl, fun y H' hy => ?_⟩
    obtain ⟨rfl, rfl⟩ := hy
    exact ⟨.inl rfl, [], [], by rw [f]; exact .refl _, ⟨by simp, rfl⟩, rfl⟩
end
section
variable {X : L2.Cx} {T : Tbl} {Z : Wc} {W : WX} {pos p : Pos} {tg e : Expr} {A : Ex}
theorem si_val (hK : X.K = Z.K) (ha : PE X e (iE T Z W A)) : PI X tg e (iI T Z W (.val A)) := by
  refine ⟨fun pins s σ H R I h => ?_⟩
  obtain ⟨ρ, env, st, er, sr, h⟩ := h
  simp only [evI] at h
  have bad : (∀ d s1, ev T A env st ≠ .ok d s1) → Post (Rp Z) Z W (ev T A env st) ρ σ H (fun _ _ => False) := by
    intro hn
    unfold bnd at h
    cases e1 : ev T A env st with
    | ok d s1 => exact (hn d s1 e1).elim
    | exc x s1 => rw [e1] at h; exact h
    | bad => rw [e1] at h; exact h
  cases e1 : ev T A env st with
  | exc x s1 => exact (pi_tup (tg := tg) ha).run pins s σ H R I ⟨ρ, env, st, er, sr, (bad (by rw [e1]; exact nofun)).mono fun _ _ z => z.elim⟩
  | bad => exact (pi_tup (tg := tg) ha).run pins s σ H R I ⟨ρ, env, st, er, sr, (bad (by rw [e1]; exact nofun)).mono fun _ _ z => z.elim⟩
  | ok d s1 =>
    unfold bnd at h
    rw [e1] at h
    cases d with
    | tup xs =>
      refine (pi_tup (tg := tg) ha).run pins s σ H R I ⟨ρ, env, st, er, sr, ?_⟩
      rw [e1]
      rintro ρ' H' v F t sr' ⟨a, vs, rfl, hv, rs⟩
      refine ⟨a, rfl, ⟨vs, by rw [hK]; exact hv⟩, ?_⟩
      rw [hK]
      exact h ρ' H' (Itt Z.K a) F t sr' ⟨_, fol_tup a, vs, hv, rs.length.symm, by simpa using rs⟩
    | lst xs =>
      refine (pi_list (tg := tg) ha).run pins s σ H R I ⟨ρ, env, st, er, sr, ?_⟩
      rw [e1]
      rintro ρ' H' v F t sr' ⟨a, vs, G, rfl, hv, rs, rfl⟩
      refine ⟨a, rfl, ⟨vs, SqL.of hv⟩, ?_⟩
      rw [hK]
      exact h ρ' H' (Itl Z.K a) _ t sr' ⟨_, fol_lst a, vs, G, hv, rs.length.symm, by simpa using rs, rfl⟩
    | ref l =>
      simp only [srcOf] at h
      have go : ∀ xs, (s1[l]? = some (.lst xs) ∨ s1[l]? = some (.frl xs)) → Post (relI Z) Z W (.ok (Fs.It.one (.cell l)) s1) ρ σ H R → wpAny (model X.prog X.w) X.A (eval e X.env) (fun v s1 => wpAny (model X.prog X.w) X.A (pyIter v) (PIE X pins σ tg R) X.xe s1) X.xe s := by
        intro xs hx h
        refine (pi_list (tg := tg) ha).run pins s σ H R I ⟨ρ, env, st, er, sr, ?_⟩
        rw [e1]
        rintro ρ' H' v F t sr' ⟨a, hl, rfl, rfl⟩
        obtain ⟨vs, hv, rs⟩ := sr'.list hl hx
        refine ⟨a, rfl, ⟨vs, by rw [hK]; exact hv⟩, ?_⟩
        rw [hK]
        exact h ρ' H' (Itl Z.K a) _ t sr' ⟨_, fol_cell a, hl, rfl⟩
      cases hc : s1[l]? with
      | none => rw [hc] at h; exact h.elim
      | some c =>
        rw [hc] at h
        cases c with
        | lst xs => exact go xs (.inl hc) h
        | frl xs => exact go xs (.inr hc) h
        | _ => exact h.elim
    | _ => exact h.elim
theorem evs_one {env : Env} {A : Ex} {σ : L2.St} {ρ : List Addr} {st : Sto} {H : Hp} {α β : Type} {rel : Rel α β} {f : List D → M α} {Q : β → Hp → Prop} (h : Post rel Z W (bnd (evs T [A] env) f st) ρ σ H Q) : Post rel Z W (bnd (ev T A env) (fun x => f [x]) st) ρ σ H Q := by
  simp only [evs, bnd, ret] at h ⊢
  cases e : ev T A env st with
  | ok d s => simpa only [e] using h
  | exc x s => simpa only [e] using h
  | bad => simpa only [e] using h
theorem rng_post {ds : List D} {st : Sto} {ρ : List Addr} {σ : L2.St} {H : Hp} {R : L2.It → Hp → Prop} (h : Post (relI Z) Z W (opt (rngL ds) (fun xs => ret (Fs.It.one (.items xs))) st) ρ σ H R) : ∃ xs, rngL ds = some xs ∧ Post (relI Z) Z W (.ok (Fs.It.one (.items xs)) st) ρ σ H R := by
  cases e : rngL ds with
  | none => rw [e] at h; exact h.elim
  | some xs => rw [e] at h; exact ⟨xs, rfl, h⟩
theorem evs_two {env : Env} {A B : Ex} {σ : L2.St} {ρ : List Addr} {st : Sto} {H : Hp} {α β : Type} {rel : Rel α β} {f : List D → M α} {Q : β → Hp → Prop} (h : Post rel Z W (bnd (evs T [A, B] env) f st) ρ σ H Q) : Post rel Z W (bnd (ev T A env) (fun x => bnd (ev T B env) (fun y => f [x, y])) st) ρ σ H Q := by
  simp only [evs, bnd, ret] at h ⊢
  cases e : ev T A env st with
  | ok d s =>
    simp only [e] at h ⊢
    cases e2 : ev T B env s with
    | ok d s => simpa only [e2] using h
    | exc x s => simpa only [e2] using h
    | bad => simpa only [e2] using h
  | exc x s => simpa only [e] using h
  | bad => simpa only [e] using h
theorem evs_three {env : Env} {A B C : Ex} {σ : L2.St} {ρ : List Addr} {st : Sto} {H : Hp} {α β : Type} {rel : Rel α β} {f : List D → M α} {Q : β → Hp → Prop} (h : Post rel Z W (bnd (evs T [A, B, C] env) f st) ρ σ H Q) : Post rel Z W (bnd (ev T A env) (fun x => bnd (ev T B env) (fun y => bnd (ev T C env) (fun z => f [x, y, z]))) st) ρ σ H Q := by
  simp only [evs, bnd, ret] at h ⊢
  cases e : ev T A env st with
  | ok d s =>
    simp only [e] at h ⊢
    cases e2 : ev T B env s with
    | ok d s =>
      simp only [e2] at h ⊢
      cases e3 : ev T C env s with
      | ok d s => simpa only [e3] using h
      | exc x s => simpa only [e3] using h
      | bad => simpa only [e3] using h
    | exc x s => simpa only [e2] using h
    | bad => simpa only [e2] using h
  | exc x s => simpa only [e] using h
  | bad => simpa only [e] using h
theorem si_rng1 {a : Expr} {A : Ex} (hg : Gl X "range") (hm : X.mg "range" = none) (ha : PE X a (iE T Z W A)) (hs : starEach [a] X.env = [(false, eval a X.env)]) : PI X tg (.Call (.Name "range" p) [a] [] pos) (iI T Z W (.rng [A])) := by
  have w := pi_range1 (tg := tg) (p := p) (pos := pos) hg hm (pa_cons ha pa_nil hs) hs
  refine ⟨fun pins s σ H R I h => w.run pins s σ H R I ?_⟩
  obtain ⟨ρ, env, st, er, sr, h⟩ := h
  simp only [evI] at h
  refine ⟨ρ, env, st, er, sr, (Post.seq rpOk (Now.start sr) sr (evs_one h)).mono ?_⟩
  rintro v H1 ⟨ρ1, d, st1, F1, n1, t1, r1, h1⟩
  obtain ⟨xs, e, h2⟩ := rng_post h1
  cases d with
  | int b =>
    obtain ⟨rfl, rfl⟩ := r1
    simp only [rngL] at e
    split at e
    · rename_i hb
      cases e
      exact ⟨b, rfl, hb.1, hb.2, h2 ρ1 H1 _ [] n1.stp n1.sr ⟨_, fol_rng1 0 b.toNat, rfl⟩⟩
    · cases e
  | _ => simp [rngL] at e
theorem si_rng2 {a b : Expr} {A B : Ex} (hg : Gl X "range") (hm : X.mg "range" = none) (ha : PE X a (iE T Z W A)) (hb : PE X b (iE T Z W B)) (hs : starEach [a, b] X.env = [(false, eval a X.env), (false, eval b X.env)]) (hs2 : starEach [b] X.env = [(false, eval b X.env)]) : PI X tg (.Call (.Name "range" p) [a, b] [] pos) (iI T Z W (.rng [A, B])) := by
  have w := pi_range2 (tg := tg) (p := p) (pos := pos) hg hm (pa_cons ha (pa_cons hb pa_nil hs2) (by rw [hs, hs2])) hs hs2
  refine ⟨fun pins s σ H R I h => w.run pins s σ H R I ?_⟩
  obtain ⟨ρ, env, st, er, sr, h⟩ := h
  simp only [evI] at h
  refine ⟨ρ, env, st, er, sr, (Post.seq rpOk (Now.start sr) sr (evs_two h)).mono ?_⟩
  rintro v H1 ⟨ρ1, d, st1, F1, n1, t1, r1, h1⟩
  refine ⟨ρ1, env, st1, t1.env sr er, n1.sr, (Post.seq rpOk n1 sr h1).mono ?_⟩
  rintro u H2 ⟨ρ2, d2, st2, F2, n2, t2, r2, h2⟩
  obtain ⟨xs, e, h3⟩ := rng_post h2
  cases d with
  | int i =>
    cases d2 with
    | int j =>
      obtain ⟨rfl, rfl⟩ := r1
      obtain ⟨rfl, rfl⟩ := r2
      simp only [rngL] at e
      split at e
      · rename_i hb
        cases e
        exact ⟨i, j, rfl, hb, h3 ρ2 H2 _ [] n2.stp n2.sr ⟨_, fol_rng1 i (j - i).toNat, rfl⟩⟩
      · cases e
    | _ => simp [rngL] at e
  | _ => simp [rngL] at e
theorem si_rng3 {a b c : Expr} {A B C : Ex} (hg : Gl X "range") (hm : X.mg "range" = none) (ha : PE X a (iE T Z W A)) (hb : PE X b (iE T Z W B)) (hc : PE X c (iE T Z W C)) (hs : starEach [a, b, c] X.env = (false, eval a X.env) :: starEach [b, c] X.env) (hs2 : starEach [b, c] X.env = (false, eval b X.env) :: starEach [c] X.env) (hs3 : starEach [c] X.env = (false, eval c X.env) :: starEach [] X.env)
    (hpl : (backTo pos (starEach [b, c] X.env)).any (·.1) = false) : PI X tg (.Call (.Name "range" p) [a, b, c] [] pos) (iI T Z W (.rng [A, B, C])) := by
  have w := pi_range3 (tg := tg) (p := p) (pos := pos) hg hm (pa_cons ha (pa_cons hb (pa_cons hc pa_nil hs3) hs2) hs) hs hpl
  refine ⟨fun pins s σ H R I h => w.run pins s σ H R I ?_⟩
  obtain ⟨ρ, env, st, er, sr, h⟩ := h
  simp only [evI] at h
  refine ⟨ρ, env, st, er, sr, (Post.seq rpOk (Now.start sr) sr (evs_three h)).mono ?_⟩
  rintro v H1 ⟨ρ1, d, st1, F1, n1, t1, r1, h1⟩
  refine ⟨ρ1, env, st1, t1.env sr er, n1.sr, (Post.seq rpOk n1 sr h1).mono ?_⟩
  rintro u H2 ⟨ρ2, d2, st2, F2, n2, t2, r2, h2⟩
  refine ⟨ρ2, env, st2, t2.env n1.sr (t1.env sr er), n2.sr, (Post.seq rpOk n2 sr h2).mono ?_⟩
  rintro w H3 ⟨ρ3, d3, st3, F3, n3, t3, r3, h3⟩
  obtain ⟨xs, e, h4⟩ := rng_post h3
  cases d with
  | int i =>
    cases d2 with
    | int j =>
      cases d3 with
      | int k =>
        obtain ⟨rfl, rfl⟩ := r1
        obtain ⟨rfl, rfl⟩ := r2
        obtain ⟨rfl, rfl⟩ := r3
        simp only [rngL] at e
        split at e
        · rename_i hb
          cases e
          have hn : (0 : Int) ≤ Builtin.Range.rangeSize i j k := by
            unfold Builtin.Range.rangeSize
            split
            · split
              · have := Int.ediv_nonneg (a := j - i - 1) (b := k) (by omega) (by omega)
                omega
              · omega
            · split
              · have := Int.ediv_nonneg (a := i - j - 1) (b := -k) (by omega) (by omega)
                omega
              · omega
          refine ⟨i, j, k, (Builtin.Range.rangeSize i j k).toNat, rfl, ⟨hb.1, hb.2.1, hb.2.2, (Int.toNat_of_nonneg hn).symm⟩, ?_⟩
          exact h4 ρ3 H3 _ [] n3.stp n3.sr ⟨_, fol_rngC i k _, rfl⟩
        · cases e
      | _ => simp [rngL] at e
    | _ => simp [rngL] at e
  | _ => simp [rngL] at e
end
end Fs
namespace Fs
open PySem L2 PyProof.Rows PySem.Spec
/-- nothing is raised -/
abbrev WF : WX := fun _ _ _ _ => False
section
variable {Z : Wc} {W : WX} {ρ ρ' ρ₁ ρ₂ : List Addr} {H H' H₁ H₂ : Hp} {st st' st₁ : Sto} {F F' F₁ F₂ G : List Addr} {σ : L2.St} {env : Env} {D : Addr} {o o' : HO}
theorem upd_keep (h : H D = some o) (hc : HCell o = true) : ∀ a u, H a = some u → HCell u = false → upd H D o' a = some u := fun a u e k => by
  rw [upd_ne (fun z => by rw [z, h] at e; cases e; rw [hc] at k; cases k)]; exact e
theorem upd_off (hF : D ∉ F) : ∀ a ∈ F, ∀ u, H a = some u → upd H D o' a = some u := fun a ha u e => by
  rw [upd_ne (fun z => hF (by rw [← z]; exact ha))]; exact e
theorem Rp.updF {d : Fs.D} {v : V} (h : H D = some o) (hc : HCell o = true) (hF : D ∉ F) (r : Rp Z ρ H d v F) : Rp Z ρ (upd H D o') d v F := r.stay (fun _ _ e => e) (upd_keep h hc) (upd_off hF)
theorem Rps.updF {d : List Fs.D} {v : List V} (h : H D = some o) (hc : HCell o = true) (hF : D ∉ F) (r : Rps Z ρ H d v F) : Rps Z ρ (upd H D o') d v F := r.stay (fun _ _ e => e) (upd_keep h hc) (upd_off hF)
theorem SR.updF (s : SR Z ρ st H) (h : H D = some o) (hc : HCell o = true) (hD : D ∉ ρ) : SR Z ρ st (upd H D o') :=
  ⟨s.len, s.nd, s.kind, fun l c a h1 h2 => (s.cell l c a h1 h2).updF h hc (fun z => hD (by rw [List.mem_singleton.mp z]; exact List.mem_of_getElem? h2))⟩
theorem Now.updF (n : Now Z ρ H ρ' st' H' F) (s : SR Z ρ st H) (hD : D ∈ F) (h : H' D = some o) (hc : HCell o = true) : Now Z ρ H ρ' st' (upd H' D o') F := by
  have hf : H D = none := by obtain ⟨N, _, _, f, _⟩ := n.stp; exact f D (List.mem_append_right _ hD)
  refine ⟨?_, n.sr.updF h hc (n.out D hD), fun a ha => ?_, n.out, n.nd⟩
  · obtain ⟨N, e, nd, f, k⟩ := n.stp
    exact ⟨N, e, nd, f, fun a u q z => by rw [upd_ne (fun y => by rw [y, hf] at q; cases q)]; exact k a u q z⟩
  · by_cases e : a = D
    · rw [e, upd_same]; exact nofun
    · rw [upd_ne e]; exact n.th a ha
theorem wipe_get {σ : L2.St} {i : Nat} : ∀ {vs : List Nat}, (L2.wipe σ vs)[i]? = if i ∈ vs then (σ[i]?).map (fun _ => none) else σ[i]?
  | [] => by simp [L2.wipe]
  | v :: vs => by
    unfold L2.wipe
    by_cases h : v = i
    · subst h
      rw [List.getElem?_set]
      by_cases hl : v < σ.length
      · simp [hl, wipe_length]
      · simp [hl, wipe_length]
    · rw [List.getElem?_set_ne h, wipe_get]
      have : (i ∈ v :: vs) ↔ i ∈ vs := by simp [Ne.symm h]
      simp only [this]
theorem wipe_sm {σ σ' : L2.St} {L vs : List Nat} (m : Sm L (L2.wipe σ vs) σ') (h : ∀ i ∈ L, i ∈ vs) : L2.wipe σ' vs = L2.wipe σ vs := by
  apply List.ext_getElem?
  intro i
  rw [wipe_get, wipe_get]
  by_cases hi : i ∈ vs
  · simp only [hi, if_true]
    have l : σ'.length = σ.length := by rw [m.1, wipe_length]
    by_cases hl : i < σ.length
    · rw [List.getElem?_eq_getElem hl, List.getElem?_eq_getElem (by rw [l]; exact hl)]; rfl
    · rw [List.getElem?_eq_none (by omega), List.getElem?_eq_none (by omega)]
  · simp only [hi, if_false]
    rw [m.2 i (fun z => hi (h i z)), wipe_get, if_neg hi]
theorem ER.wipe (er : ER Z ρ H env σ) : ∀ vs : List Nat, ER Z ρ H (Fs.wipe env vs) (L2.wipe σ vs)
  | [] => er
  | v :: vs => (ER.wipe er vs).gone
end
section
variable (T : Tbl) (Z : Wc) (W : WX)
def iTs (cs : List Cn) : TT := fun σ H Q => ∃ ρ env st, ER Z ρ H env σ ∧ SR Z ρ st H ∧ Post (RelEq Bool) Z W (evTs T cs env st) ρ σ H Q
end
section
variable {X : L2.Cx} {T : Tbl} {Z : Wc} {W : WX} {pos p : Pos} {tg e c : Expr} {A : Ex}
theorem sts_nil : PTs X [] (iTs T Z W []) := ⟨fun pins s σ H Q I h => pts_nil.run pins s σ H Q I (by
  obtain ⟨ρ, env, st, er, sr, h⟩ := h
  simp only [evTs] at h
  exact Post.ret h (Now.start sr) ⟨rfl, rfl⟩)⟩
theorem sts_one {C : Cn} (h : PT X c (iT T Z W C)) : PTs X [c] (iTs T Z W [C]) := ⟨fun pins s σ H Q I q => (pts_one h).run pins s σ H Q I (by
  obtain ⟨ρ, env, st, er, sr, h⟩ := q
  simp only [evTs] at h
  refine ⟨ρ, env, st, er, sr, ?_⟩
  unfold bnd at h
  cases e1 : evT T C env st with
  | ok b s1 => rw [e1] at h; cases b <;> exact h
  | exc x s1 => rw [e1] at h; exact h
  | bad => rw [e1] at h; exact h)⟩
theorem post_ok {α β : Type} {rel : Rel α β} {r : R α} {ρ : List Addr} {σ : L2.St} {H : Hp} {Q : β → Hp → Prop} {d : α} {s : Sto} (e : r = .ok d s) (h : ∀ ρ' H' v F, Stp ρ H ρ' H' F → SR Z ρ' s H' → rel ρ' H' d v F → Q v H') : Post rel Z W r ρ σ H Q := by rw [e]; exact h
theorem lc_ok {own : List Nat} {it : Ix} {t : Tg} {ifs : List Cn} (hsub : ∀ i ∈ tgN t, i ∈ own) {σ : L2.St} {H : Hp} {Q : VK} (h : iE T Z W (.lc own it t ifs A) σ H Q) :
    tLc (iI T Z W it) (iG T Z t) (iTs T Z WF ifs) (iE T Z WF A) own σ H Q := by
  obtain ⟨ρ, env, st, er, sr, h⟩ := h
  simp only [ev] at h
  refine ⟨ρ, env, st, er, sr, (Post.seq relI_ok (Now.start sr) sr h).mono ?_⟩
  rintro J H1 ⟨ρ1, w, st1, G, n1, t1, ⟨I, fol, hI⟩, h1⟩ D hD
  have up : ∀ a u, H1 a = some u → upd H1 D (.lst []) a = some u := fun a u e => by rw [upd_ne (fun z => by rw [z, hD] at e; cases e)]; exact e
  generalize hturn : (fun d => bnd (asgT T t d (Fs.wipe env own)) fun σ' => bnd (evTs T ifs σ') fun b => match b with
        | true => bnd (ev T A σ') fun y => ret (some y)
        | false => ret none : Fs.D → Sto → R (Option Fs.D)) = turn at h1
  refine ⟨fun i m H' => ∃ ρ' st' Fi ys vs Fy, Now Z ρ H ρ' st' H' (D :: (Fy ++ Fi)) ∧ H' D = some (.lst vs) ∧ Rps Z ρ' H' ys vs Fy ∧ I i ρ' H' Fi ∧ Post (Rp Z) Z W (bnd (lcLoop w turn m i ys) (fun ys => ret (.lst ys)) st') ρ σ H Q,
    ⟨w.len st1 + 1, ρ1, st1, G, [], [], [], n1.new sr hD, upd_same, ⟨rfl, rfl⟩, fol.stay (fun _ _ e => e) (fun a u e _ => up a u e) (fun a _ u e => up a u e) hI, h1⟩, ?_⟩
  rintro i m H' ⟨ρ', st', Fi, ys, vs, Fy, n, hDv, rys, hI', h'⟩
  cases m with
  | zero => exact h'.elim
  | succ m =>
    unfold bnd at h'
    simp only [lcLoop] at h'
    cases e1 : w.next i st' with
    | none => rw [e1] at h'; exact h'.elim
    | some o => cases o with
      | none =>
        rw [e1] at h'
        refine .inl ⟨fol.stop n.sr hI' e1, ?_⟩
        exact Post.ok h' (n.less (List.cons_sublist_cons.mpr (List.sublist_append_left _ _))) ⟨D, vs, Fy, rfl, hDv, rys, rfl⟩
      | some d =>
        rw [e1] at h'
        simp only at h'
        obtain ⟨hgo, hy⟩ := fol.item n.sr hI' e1
        refine .inr ⟨hgo, fun H2 => ∃ ρ' st' Fi ys vs Fy, Now Z ρ H ρ' st' H2 (D :: (Fy ++ Fi)) ∧ H2 D = some (.lst vs) ∧ Rps Z ρ' H2 ys vs Fy ∧ I (i + 1) ρ' H2 Fi ∧ Post (Rp Z) Z W (bnd (lcLoop w turn m (i + 1) ys) (fun ys => ret (.lst ys)) st') ρ σ H Q,
          fun H2 hN => ⟨m, Nat.lt_succ_self m, hN⟩, fun x Hx hyl => ?_⟩
        obtain ⟨hH, F1, F2, hperm, rx, hI2⟩ := hy x Hx hyl
        have perm : (F1 ++ (D :: (Fy ++ F2))).Perm (D :: (Fy ++ Fi)) := by
          refine (List.perm_middle).trans (List.Perm.cons D ?_)
          refine List.Perm.trans ?_ (List.Perm.append_left Fy hperm)
          rw [← List.append_assoc, ← List.append_assoc]
          exact List.Perm.append_right F2 List.perm_append_comm
        obtain ⟨nx, erx⟩ := (n.perm perm).tupd sr hH
        have stx : (∀ a u, H' a = some u → Hx a = some u) := by
          rcases hH with rfl | ⟨T0, vs0, hT, rfl⟩
          · exact fun a u e => e
          · exact fun a u e => by rw [upd_ne (fun z => by rw [z, hT] at e; cases e)]; exact e
        have rysx : Rps Z ρ' Hx ys vs Fy := rys.stay (fun _ _ e => e) (fun a u e _ => stx a u e) (fun a _ u e => stx a u e)
        refine ⟨ρ', Fs.wipe env own, st', d, F1, (nx.less (List.sublist_append_left _ _)).hand, (erx (n.stp.env sr er)).wipe own, rx, ?_⟩
        have et : turn d st' = bnd (asgT T t d (Fs.wipe env own)) (fun σ' => bnd (evTs T ifs σ') fun b => match b with
            | true => bnd (ev T A σ') fun y => ret (some y)
            | false => ret none) st' := by rw [← hturn]
        rw [et] at h'
        simp only [bnd] at h'
        cases e2 : asgT T t d (Fs.wipe env own) st' with
        | exc _ _ => simp only [e2] at h'; exact h'.elim
        | bad => simp only [e2] at h'; exact h'.elim
        | ok env3 st3 =>
          simp only [e2] at h'
          intro ρ3 H3 σ3 t3 sr3 er3 m3
          have n3 := nx.landR sr t3 sr3
          obtain ⟨k1, k2, k3⟩ := t3.kept nx.hand rx.hcells
          refine ⟨wipe_sm m3 hsub, ρ3, env3, st3, er3, sr3, ?_⟩
          cases e3 : evTs T ifs env3 st3 with
          | exc _ _ => simp only [e3] at h'; exact h'.elim
          | bad => simp only [e3] at h'; exact h'.elim
          | ok b st4 =>
            simp only [e3] at h'
            rintro ρ4 H4 bb F t4 sr4 ⟨rfl, rfl⟩
            have n4 := n3.more sr t4 sr4 (by simp)
            rw [List.append_nil] at n4
            obtain ⟨q1, q2, q3⟩ := t4.kept sr3 n3.out
            have hD4 : H4 D = some (.lst vs) := q3 D List.mem_cons_self _ (k3 D List.mem_cons_self _ (stx _ _ hDv))
            have rys4 : Rps Z ρ4 H4 ys vs Fy := (rysx.stay k1 k2 (fun a ha => k3 a (List.mem_cons_of_mem _ (List.mem_append_left _ ha)))).stay q1 q2 (fun a ha => q3 a (List.mem_cons_of_mem _ (List.mem_append_left _ ha)))
            have hI4 : I (i + 1) ρ4 H4 F2 := fol.stay q1 q2 (fun a ha => q3 a (List.mem_cons_of_mem _ (List.mem_append_right _ ha))) (fol.stay k1 k2 (fun a ha => k3 a (List.mem_cons_of_mem _ (List.mem_append_right _ ha))) hI2)
            cases b with
            | false =>
              simp only [ret] at h'
              exact ⟨ρ4, st4, F2, ys, vs, Fy, n4, hD4, rys4, hI4, h'⟩
            | true =>
              refine ⟨ρ4, env3, st4, t4.env sr3 er3, sr4, ?_⟩
              cases e4 : ev T A env3 st4 with
              | exc _ _ => simp only [bnd, e4, ret] at h'; exact h'.elim
              | bad => simp only [bnd, e4, ret] at h'; exact h'.elim
              | ok y st5 =>
                simp only [bnd, e4, ret] at h'
                intro ρ5 H5 v G5 t5 sr5 r5
                by_cases hz : ys.length < sizeLine
                · rw [if_pos hz] at h'
                  have n5 := n4.more sr t5 sr5 r5.there
                  obtain ⟨u1, u2, u3⟩ := t5.kept sr4 n4.out
                  have hD5 := u3 D List.mem_cons_self _ hD4
                  refine ⟨vs, hD5, by rw [← rys4.length]; exact hz, ρ5, st5, F2, ys ++ [y], vs ++ [v], Fy ++ G5, ?_, upd_same, ?_, ?_, h'⟩
                  · refine (n5.perm ?_).updF sr List.mem_cons_self hD5 rfl
                    refine List.Perm.cons D ?_
                    show (Fy ++ G5 ++ F2).Perm (Fy ++ F2 ++ G5)
                    rw [List.append_assoc, List.append_assoc]
                    exact List.Perm.append_left Fy List.perm_append_comm
                  · have nd5 := n5.nd
                    simp only [List.cons_append, List.nodup_cons, List.mem_append, not_or] at nd5
                    exact Rps.append (Rps.updF hD5 rfl nd5.1.1.1 (rys4.stay u1 u2 (fun a ha => u3 a (List.mem_cons_of_mem _ (List.mem_append_left _ ha))))) ⟨v, [], G5, [], rfl, r5.updF hD5 rfl nd5.1.2, ⟨rfl, rfl⟩, by simp⟩
                  · have nd5 := n5.nd
                    simp only [List.cons_append, List.nodup_cons, List.mem_append, not_or] at nd5
                    exact fol.stay (fun _ _ e => e) (upd_keep hD5 rfl) (upd_off nd5.1.1.2) (fol.stay u1 u2 (fun a ha => u3 a (List.mem_cons_of_mem _ (List.mem_append_right _ ha))) hI4)
                · rw [if_neg hz] at h'; exact h'.elim
theorem ig_nm {i : Nat} {v : V} {σ : L2.St} {H : Hp} {Q : L2.St → Hp → Prop} (h : iG T Z (.nm i) v σ H Q) : gName i v σ H Q := by
  obtain ⟨ρ, env, st, d, F, n, er, rd, h⟩ := h
  obtain ⟨N, p, s', q⟩ := land_ok d n.sr rd n.out n.nd
  simp only [asgT, bnd, landM, ret] at h
  refine h _ H _ ⟨N, rfl, p.nodup_iff.mpr n.nd, fun a ha => .inl (p.mem_iff.mp ha), fun _ _ e _ _ => e⟩ s' (ER.set ?_ q) Sm.set
  exact ⟨er.1, fun j x hx => let ⟨u, h1, h2⟩ := er.2 j x hx; ⟨u, h1, h2.wide⟩⟩
theorem subN {t : Tg} {own : List Nat} (h : (tgN t).all (own.contains ·) = true) : ∀ i ∈ tgN t, i ∈ own := fun i hi => by simpa using List.all_eq_true.mp h i hi
theorem se_lc {elt iter : Expr} {ifs : List Expr} {scope : Scope} {own : List (Str × Nat)} {it : Ix} {t : Tg} {Cs : List Cn} (hc : X.calm = true) (hN : X.N.Nodup) (ok : blkC X.N X.env.scope scope own = true) (hsub : (tgN t).all ((own.map (·.2)).contains ·) = true)
    (hi : PI X tg iter (iI T Z W it)) (hg : ∀ (s : Shared) (H : Hp) (C : Addr) (cl : List (Str × Addr)) (fp : List Addr), PG (X.blk s H scope (compEnvC scope cl C X.env) fp) tg (iG T Z t))
    (ht : ∀ (s : Shared) (H : Hp) (C : Addr) (cl : List (Str × Addr)) (fp : List Addr), PTs (X.blk s H scope (compEnvC scope cl C X.env) fp) ifs (iTs T Z WF Cs))
    (he : ∀ (s : Shared) (H : Hp) (C : Addr) (cl : List (Str × Addr)) (fp : List Addr), PE (X.blk s H scope (compEnvC scope cl C X.env) fp) elt (iE T Z WF A)) (hs : ∀ x, foldedSetIterable iter X.env x = pure x := by intro _; rfl) :
    PE X (.ListComp elt [⟨tg, iter, ifs, 0⟩] scope pos) (iE T Z W (.lc (own.map (·.2)) it t Cs A)) :=
  pe_weak (pe_lc hc hN hi (blkOk_by ok) hg ht he hs) fun σ H Q h => lc_ok (subN hsub) h
/-- name = [..] on one line -/
theorem ss_setLc {i : Nat} {y : Str} {py spos : Pos} {elt iter : Expr} {ifs : List Expr} {scope : Scope} {own : List (Str × Nat)} {it : Ix} {t : Tg} {Cs : List Cn} (hc : X.calm = true) (hN : X.N.Nodup) (hy : X.N[i]? = some y) (hyl : X.env.scope.names.lookup y = some .local)
    (hsw : swapsWith (.ListComp elt [⟨tg, iter, ifs, 0⟩] scope pos) (some (.Name y py)) spos.line X.env = pure true) (ok : blkC X.N X.env.scope scope own = true) (hsub : (tgN t).all ((own.map (·.2)).contains ·) = true)
    (hi : PI X tg iter (iI T Z W it)) (hg : ∀ (s : Shared) (H : Hp) (C : Addr) (cl : List (Str × Addr)) (fp : List Addr), PG (X.blk s H scope (compEnvC scope cl C X.env) fp) tg (iG T Z t))
    (ht : ∀ (s : Shared) (H : Hp) (C : Addr) (cl : List (Str × Addr)) (fp : List Addr), PTs (X.blk s H scope (compEnvC scope cl C X.env) fp) ifs (iTs T Z WF Cs))
    (he : ∀ (s : Shared) (H : Hp) (C : Addr) (cl : List (Str × Addr)) (fp : List Addr), PE (X.blk s H scope (compEnvC scope cl C X.env) fp) elt (iE T Z WF A)) (hs : ∀ x, foldedSetIterable iter X.env x = pure x := by intro _; rfl) :
    PS X (.Assign [.Name y py] (.ListComp elt [⟨tg, iter, ifs, 0⟩] scope pos) spos) (iS T Z W (.asg (.nm i) (.lc (own.map (·.2)) it t Cs A))) :=
  ps_weak (ps_setLc hc hN hy hyl hsw hi (blkOk_by ok) hg ht he hs) fun Dn σ H h => by
    obtain ⟨ρ, env, st, er, sr, h2⟩ := asg_ok h
    exact lc_ok (subN hsub) ⟨ρ, env, st, er, sr, h2.mono fun v H1 q => ig_nm q⟩
end
end Fs
namespace Fs
open PySem L2 PyProof.Rows PySem.Spec
section
variable {X : L2.Cx} {Z : Wc} {W : WX} {σ0 : L2.St}
theorem Now.newS {ρ ρ' : List Addr} {H H' : Hp} {st st' : Sto} {F : List Addr} (n : Now Z ρ H ρ' st' H' F) (s : SR Z ρ st H) {p : Addr} {o : HO} (hp : H' p = none) : Now Z ρ H ρ' st' (upd H' p o) F := (n.new s hp).less (List.sublist_cons_self p F)
theorem bin_ok (hK : X.K = Z.K) {op : Bop} : OpR X (binaryOp (pyB op)) (rB Z W σ0 (binD op)) := by
  intro pins s σ H x y v u Q I rx ry h
  obtain ⟨ρ, st, H0, ρ2, st2, d1, d2, F1, F2, sr, n, r1, r2, h⟩ := h
  unfold binD at h
  split at h
  · rename_i i j
    obtain ⟨rfl, rfl⟩ := r1
    obtain ⟨rfl, rfl⟩ := r2
    cases e : intOp op i j with
    | none => rw [e] at h; exact h.elim
    | some r =>
      rw [e] at h
      exact int_ok e I rx ry (Post.ok h n ⟨rfl, rfl⟩)
  · rename_i a b
    obtain ⟨rfl, rfl⟩ := r1
    obtain ⟨rfl, rfl⟩ := r2
    cases op with
    | add =>
      simp only at h
      split at h
      · rename_i hz
        exact op_add_str pins s σ H _ _ v u Q I rx ry ⟨a, b, rfl, rfl, hz, Post.ok h n ⟨rfl, rfl⟩⟩
      · exact h.elim
    | _ => exact h.elim
  · rename_i xs ys
    obtain ⟨a, vs, rfl, ha, rx'⟩ := r1
    obtain ⟨b, ws, rfl, hb, ry'⟩ := r2
    cases op with
    | add =>
      simp only at h
      split at h
      · rename_i hz
        refine op_catA pins s σ H _ _ v u Q I rx ry ⟨a, b, vs, ws, rfl, rfl, by rw [hK]; exact ha, by rw [hK]; exact hb, by rw [← rx'.length, ← ry'.length]; exact hz, fun e => ?_, fun _ e => ?_, fun _ _ p hp => ?_⟩
        · subst e
          exact Post.ok h n ⟨b, ws, rfl, hb, by have := rx'.append ry'; simpa using this⟩
        · subst e
          exact Post.ok h n ⟨a, vs, rfl, ha, by have := rx'.append ry'; simpa using this⟩
        · exact Post.ok h (n.newS sr hp) ⟨p, vs ++ ws, rfl, SqT.of upd_same, rps_up hp (rx'.append ry')⟩
      · exact h.elim
    | _ => exact h.elim
  · rename_i xs k
    obtain ⟨a, vs, rfl, ha, rx'⟩ := r1
    obtain ⟨rfl, rfl⟩ := r2
    cases op with
    | mul =>
      simp only at h
      split at h
      · rename_i hz
        obtain rfl := rx'.pure hz.1
        have ne : vs ≠ [] := fun q => by
          have hl := rx'.length
          rw [q] at hl
          have h2 : xs = [] := List.length_eq_zero_iff.1 hl
          have h3 := hz.2.1
          rw [h2] at h3
          cases h3
        refine op_repT pins s σ H _ _ v u Q I rx ry ⟨a, k, vs, rfl, rfl, by rw [hK]; exact ha, ne, hz.2.2.1, hz.2.2.2.1, by rw [← rx'.length]; exact hz.2.2.2.2, fun p hp => ?_⟩
        exact Post.ok h (n.newS sr hp) ⟨p, _, rfl, SqT.of upd_same, rps_up hp (rx'.rep k.toNat)⟩
      · exact h.elim
    | _ => exact h.elim
  · rename_i k _ _
    obtain ⟨rfl, rfl⟩ := r2
    split at h
    · rename_i xs hx
      split at h
      · rename_i hz
        obtain ⟨a, vs, G, rfl, ha, rs, sub⟩ := lstv_ok n.sr r1 hx
        obtain rfl := rs.pure hz.1
        refine op_rep pins s σ H _ _ v u Q I rx ry ⟨a, k, vs, rfl, rfl, ha, hz.2.2.1, hz.2.1, by rw [← rs.length]; exact hz.2.2.2, fun p hp => ?_⟩
        exact Post.ok h ((n.new sr hp).less (List.cons_sublist_cons.mpr (List.nil_sublist _))) ⟨p, _, [], rfl, upd_same, rps_up hp (rs.rep k.toNat), rfl⟩
      · exact h.elim
    · exact h.elim
  · split at h
    · rename_i xs ys hx hy
      split at h
      · rename_i hz
        obtain ⟨a, vs, G, rfl, ha, rs, sub⟩ := lstv_ok n.sr r1 hx
        obtain ⟨b, ws, G2, rfl, hb, rt, sub2⟩ := lstv_ok n.sr r2 hy
        refine op_cat pins s σ H _ _ v u Q I rx ry ⟨a, b, vs, ws, rfl, rfl, ha, hb, by rw [← rs.length, ← rt.length]; exact hz, fun p hp => ?_⟩
        exact Post.ok h ((n.new sr hp).less (List.cons_sublist_cons.mpr (List.Sublist.append sub sub2))) ⟨p, _, G ++ G2, rfl, upd_same, rps_up hp (rs.append rt), rfl⟩
      · exact h.elim
    · exact h.elim
end
end Fs
namespace Fs
open PySem L2 PyProof.Rows PySem.Spec
section
variable {Z : Wc} {W : WX} {ρ : List Addr} {H : Hp} {st : Sto}
/-! data -/
theorem dpAll_ok {f : D → Option PyData} (hf : ∀ d v F p, Rp Z ρ H d v F → f d = some p → Dp Z.K H v p) : ∀ {ds : List D} {vs : List V} {F : List Addr} {ps : List PyData}, Rps Z ρ H ds vs F → optL f ds = some ps → DpAll Z.K H vs ps
  | [], vs, F, ps, r, e => by
    obtain ⟨rfl, _⟩ := r
    cases e
    exact .nil
  | d :: ds, vs, F, ps, r, e => by
    obtain ⟨v, ws, F1, F2, rfl, r1, r2, _⟩ := r
    simp only [optL] at e
    cases e1 : f d with
    | none => rw [e1] at e; cases e
    | some p =>
      rw [e1] at e
      cases e2 : optL f ds with
      | none => rw [e2] at e; cases e
      | some qs =>
        rw [e2] at e
        cases e
        exact .cons (hf d v F1 p r1 e1) (dpAll_ok hf r2 e2)
theorem toP_ok (s : SR Z ρ st H) : ∀ (n : Nat) (d : D) (v : V) (F : List Addr) (p : PyData), Rp Z ρ H d v F → toP false st n d = some p → Dp Z.K H v p
  | 0, d, v, F, p, r, e => by simp [toP] at e
  | n + 1, d, v, F, p, r, e => by
    have ih := toP_ok s n
    cases d with
    | non => obtain ⟨rfl, _⟩ := r; simp only [toP, Option.some.injEq] at e; subst e; exact .non
    | bl b => obtain ⟨rfl, _⟩ := r; simp only [toP, Option.some.injEq] at e; subst e; exact .bl b
    | int i => obtain ⟨rfl, _⟩ := r; simp only [toP, Option.some.injEq] at e; subst e; exact .int i
    | str z => obtain ⟨rfl, _⟩ := r; simp only [toP, Option.some.injEq] at e; subst e; exact .str z
    | tup ds =>
      obtain ⟨a, vs, rfl, h, r⟩ := r
      simp only [toP, Option.map_eq_some_iff] at e
      obtain ⟨ps, e, rfl⟩ := e
      exact .tup h (dpAll_ok ih r e)
    | lst ds =>
      obtain ⟨a, vs, G, rfl, h, r, _⟩ := r
      simp only [toP, Option.map_eq_some_iff] at e
      obtain ⟨ps, e, rfl⟩ := e
      exact .lst (SqL.of h) (dpAll_ok ih r e)
    | frl ds =>
      obtain ⟨a, o, vs, G, rfl, h, r, _⟩ := r
      simp only [toP, Option.map_eq_some_iff] at e
      obtain ⟨ps, e, rfl⟩ := e
      exact .lst (.inl (.inr ⟨o, h⟩)) (dpAll_ok ih r e)
    | ref l =>
      obtain ⟨a, hl, rfl, _⟩ := r
      simp only [toP] at e
      split at e
      · rename_i xs hc
        simp only [Option.map_eq_some_iff] at e
        obtain ⟨ps, e, rfl⟩ := e
        obtain ⟨vs, hv, rs⟩ := s.list hl (.inl hc)
        exact .lst hv (dpAll_ok ih rs e)
      · rename_i xs hc
        simp only [Option.map_eq_some_iff] at e
        obtain ⟨ps, e, rfl⟩ := e
        obtain ⟨vs, hv, rs⟩ := s.list hl (.inr hc)
        exact .lst hv (dpAll_ok ih rs e)
      · cases e
      · cases e
    | dic kvs => cases kvs <;> simp [toP] at e
    | _ => simp [toP] at e
theorem flat_ok : ∀ {d : D} {v : V} {F : List Addr}, flatD d = true → Rp Z ρ H d v F → flatV v = true
  | .non, v, F, f, r => by obtain ⟨rfl, _⟩ := r; rfl
  | .bl _, v, F, f, r => by obtain ⟨rfl, _⟩ := r; rfl
  | .int _, v, F, f, r => by obtain ⟨rfl, _⟩ := r; rfl
  | .str _, v, F, f, r => by obtain ⟨rfl, _⟩ := r; rfl
  | .tup _, v, F, f, r => by simp [flatD] at f
  | .ref _, v, F, f, r => by simp [flatD] at f
  | .lst _, v, F, f, r => by simp [flatD] at f
  | .frl _, v, F, f, r => by simp [flatD] at f
  | .dic _, v, F, f, r => by simp [flatD] at f
  | .set _, v, F, f, r => by simp [flatD] at f
  | .exc _ _, v, F, f, r => by simp [flatD] at f
  | .lam _ _, v, F, f, r => by simp [flatD] at f
theorem eqF_ok {d e : D} {v u : V} {F G : List Addr} (fd : flatD d = true) (fe : flatD e = true) (r : Rp Z ρ H d v F) (q : Rp Z ρ H e u G) : eqV v u = eqF d e := by
  cases d <;> first | (exfalso; simp [flatD] at fd; done) | skip
  all_goals cases e <;> first | (exfalso; simp [flatD] at fe; done) | skip
  all_goals (obtain ⟨rfl, _⟩ := r; obtain ⟨rfl, _⟩ := q; rfl)
theorem flats_ok : ∀ {ds : List D} {vs : List V} {F : List Addr}, ds.all flatD = true → Rps Z ρ H ds vs F → vs.all flatV = true
  | [], vs, F, f, r => by obtain ⟨rfl, _⟩ := r; rfl
  | d :: ds, vs, F, f, r => by
    obtain ⟨v, ws, F1, F2, rfl, r1, r2, _⟩ := r
    rw [List.all_cons, Bool.and_eq_true] at f ⊢
    exact ⟨flat_ok f.1 r1, flats_ok f.2 r2⟩
theorem inV_ok {x : D} {u : V} {G : List Addr} (fx : flatD x = true) (q : Rp Z ρ H x u G) : ∀ {ds : List D} {vs : List V} {F : List Addr}, ds.all flatD = true → Rps Z ρ H ds vs F → inV u vs = ds.any fun z => eqF z x
  | [], vs, F, f, r => by obtain ⟨rfl, _⟩ := r; rfl
  | d :: ds, vs, F, f, r => by
    obtain ⟨v, ws, F1, F2, rfl, r1, r2, _⟩ := r
    rw [List.all_cons, Bool.and_eq_true] at f
    have ih := inV_ok fx q f.2 r2
    unfold inV at ih ⊢
    rw [List.any_cons, List.any_cons, eqF_ok f.1 fx r1 q, ih]
/-! dicts -/
theorem dget_ok : ∀ {kvs : List (Ky × D)} {ws : List (L2.Key × V)} {F : List Addr} {k : L2.Key}, RpK Z ρ H kvs ws F → match dget (.k k) kvs with
    | some d => ∃ v G, valV ws k = some v ∧ Rp Z ρ H d v G ∧ G.Sublist F
    | none => valV ws k = none
  | [], ws, F, k, r => by obtain ⟨rfl, _⟩ := r; rfl
  | (q, d) :: kvs, ws, F, k, r => by
    obtain ⟨j, v, ws', F1, F2, rfl, rfl, r1, r2, rfl⟩ := r
    simp only [dget]
    by_cases h : j = k
    · subst h
      rw [if_pos rfl]
      exact ⟨v, F1, valV_pos rfl, r1, List.sublist_append_left _ _⟩
    · rw [if_neg (by simpa using h)]
      have ih := dget_ok (k := k) r2
      rw [valV_neg h]
      split
      · rename_i d' e
        rw [e] at ih
        obtain ⟨v', G, a, b, c⟩ := ih
        exact ⟨v', G, a, b, c.trans (List.sublist_append_right _ _)⟩
      · rename_i e
        rw [e] at ih
        exact ih
theorem RpT.keys : ∀ {kvs : List (Ky × D)} {ws : List (List L2.Key × V)} {F : List Addr} {k : L2.Key}, RpT Z ρ H kvs ws F → okKeys (.k k) kvs = true → kvs = []
  | [], _, _, _, _, _ => rfl
  | (q, d) :: kvs, ws, F, k, r, h => by
    obtain ⟨j, v, ws', F1, F2, rfl, rfl, r1, r2, rfl⟩ := r
    simp [okKeys, kyK] at h
/-- a dict as it is read -/
theorem dicv_ok {d : D} {x : V} {kvs : List (Ky × D)} {F : List Addr} (s : SR Z ρ st H) (r : Rp Z ρ H d x F) (e : dicv st d = some kvs) :
    ∃ a G, x = .ref a ∧ ((∃ ws, H a = some (.dK ws) ∧ RpK Z ρ H kvs ws G) ∨ ∃ ws, H a = some (.dT ws) ∧ RpT Z ρ H kvs ws G) ∧ G.Sublist F := by
  cases d with
  | dic ds =>
    cases e
    obtain ⟨a, G, rfl, rfl, h⟩ := r
    exact ⟨a, G, rfl, h, List.sublist_cons_self _ _⟩
  | ref l =>
    obtain ⟨a, hl, rfl, rfl⟩ := r
    cases hc : st[l]? with
    | none => simp [dicv, hc] at e
    | some c =>
      have rc := s.cell l c a hc hl
      cases c with
      | dic ds =>
        simp only [dicv, hc, Option.some.injEq] at e
        subst e
        obtain ⟨a', G, z, f, h⟩ := rc
        cases z
        obtain rfl : G = [] := by injection f with _ f; exact f.symm
        exact ⟨a, [], rfl, h, List.Sublist.refl _⟩
      | _ => simp [dicv, hc] at e
  | _ => simp [dicv] at e
theorem key_ok {d : D} {v : V} {q : Ky} {F : List Addr} (r : Rp Z ρ H d v F) (e : keyOf d = some q) : ∃ k, q = .k k ∧ v = kV k ∧ F = [] := by
  cases d with
  | int i => obtain ⟨rfl, rfl⟩ := r; cases e; exact ⟨_, rfl, rfl, rfl⟩
  | str i => obtain ⟨rfl, rfl⟩ := r; cases e; exact ⟨_, rfl, rfl, rfl⟩
  | _ => simp [keyOf] at e
/-- where a dict of such keys lies -/
theorem dK_of {a : Addr} {kvs : List (Ky × D)} {G : List Addr} {k : L2.Key} (h : (∃ ws, H a = some (.dK ws) ∧ RpK Z ρ H kvs ws G) ∨ ∃ ws, H a = some (.dT ws) ∧ RpT Z ρ H kvs ws G) (ok : okKeys (.k k) kvs = true) :
    (∃ ws, H a = some (.dK ws) ∧ RpK Z ρ H kvs ws G) ∨ (H a = some (.dT []) ∧ kvs = [] ∧ G = []) := by
  rcases h with h | ⟨ws, h, r⟩
  · exact .inl h
  · obtain rfl := r.keys ok
    obtain ⟨rfl, rfl⟩ := r
    exact .inr ⟨h, rfl, rfl⟩
end
end Fs
namespace Fs
open PySem L2 PyProof.Rows PySem.Spec
section
variable {Z : Wc} {ρ ρ' : List Addr} {H H' : Hp} {st st' : Sto} {F : List Addr} {l : Nat} {a : Addr} {c' : D} {o' : HO}
theorem nd_inj {α : Type} {a : α} : ∀ {l : List α} {i j : Nat}, l.Nodup → l[i]? = some a → l[j]? = some a → i = j
  | [], i, j, n, h, k => by simp at h
  | x :: r, 0, 0, n, h, k => rfl
  | x :: r, 0, j + 1, n, h, k => by
    have e : x = a := by simpa using h
    have m : a ∈ r := List.mem_of_getElem? (by simpa using k)
    exact absurd (e ▸ m) (List.nodup_cons.mp n).1
  | x :: r, i + 1, 0, n, h, k => by
    have e : x = a := by simpa using k
    have m : a ∈ r := List.mem_of_getElem? (by simpa using h)
    exact absurd (e ▸ m) (List.nodup_cons.mp n).1
  | x :: r, i + 1, j + 1, n, h, k => congrArg (· + 1) (nd_inj (List.nodup_cons.mp n).2 (by simpa using h) (by simpa using k))
/-! a cell is written -/
theorem SR.wr (s : SR Z ρ st H) (ha : ρ[l]? = some a) (hc : isCell c' = true) (r : Rp Z ρ (upd H a o') c' (.ref a) [a]) : SR Z ρ (st.set l c') (upd H a o') := by
  obtain ⟨o, ho, hk⟩ := s.hcell (List.mem_of_getElem? ha)
  refine ⟨by rw [List.length_set]; exact s.len, s.nd, fun m c h => ?_, fun m c b h1 h2 => ?_⟩
  · by_cases e : l = m
    · subst e
      have hl : l < st.length := by simpa using (List.getElem?_eq_some_iff.mp h).1
      rw [List.getElem?_set_self hl] at h
      cases h
      exact hc
    · rw [List.getElem?_set_ne e] at h; exact s.kind m c h
  · by_cases e : l = m
    · subst e
      have hl : l < st.length := by simpa using (List.getElem?_eq_some_iff.mp h1).1
      rw [List.getElem?_set_self hl] at h1
      cases h1
      rw [ha] at h2
      cases h2
      exact r
    · rw [List.getElem?_set_ne e] at h1
      refine (s.cell m c b h1 h2).updF ho hk fun z => ?_
      rw [List.mem_singleton] at z
      subst z
      exact e (nd_inj s.nd ha h2)
theorem Now.wr (n : Now Z ρ H ρ' st' H' F) (s : SR Z ρ st H) (ha : ρ'[l]? = some a) (hc : isCell c' = true) (r : Rp Z ρ' (upd H' a o') c' (.ref a) [a]) : Now Z ρ H ρ' (st'.set l c') (upd H' a o') F := by
  have hm : a ∈ ρ' := List.mem_of_getElem? ha
  refine ⟨?_, n.sr.wr ha hc r, fun b hb => ?_, n.out, n.nd⟩
  · obtain ⟨N, e, nd, f, k⟩ := n.stp
    refine ⟨N, e, nd, f, fun b u q z => ?_⟩
    rw [upd_ne (fun y => ?_)]
    · exact k b u q z
    · subst y
      rw [e] at hm
      rcases List.mem_append.mp hm with w | w
      · exact z w
      · rw [f b (List.mem_append_left _ w)] at q; cases q
  · by_cases e : b = a
    · rw [e, upd_same]; exact nofun
    · rw [upd_ne e]; exact n.th b hb
theorem set_same {st : Sto} {l : Nat} {c : D} (h : st[l]? = some c) : st.set l c = st := by
  obtain ⟨hl, e⟩ := List.getElem?_eq_some_iff.mp h
  rw [← e]
  exact List.set_getElem_self hl
end
section
variable {X : L2.Cx} {Z : Wc} {pins : List (Addr × Obj)} {σ : L2.St} {H : Hp} {s : Shared} {a : Addr}
/-- an empty dict of tuples' keys is one of plain keys -/
theorem retag (I : Inv X pins σ H s) (h : H a = some (.dT [])) : Inv X pins σ (upd H a (.dK [])) s := by
  obtain ⟨h1, h2, xs, h3, o, es, ep, h4, h5, h6, h7, h8⟩ := I.hok a _ h
  cases h3
  obtain rfl : es = #[] := by cases es; simp_all
  exact Inv.write (t' := s.toks) (h' := s.heap) I (by rw [h]; trivial) (.inl rfl) (fun _ _ _ e => e) ⟨_, h4⟩ ⟨h1, h2, [], .nil, o, #[], ep, h4, h5, h6, fun e he => by simp at he, .nil, List.nodup_nil⟩
theorem dK_now {ρ0 ρ : List Addr} {st0 st : Sto} {H0 : Hp} {F F1 : List Addr} {d : D} {x : V} {kvs : List (Ky × D)} {k : L2.Key} (I : Inv X pins σ H s) (s0 : SR Z ρ0 st0 H0) (n : Now Z ρ0 H0 ρ st H F) (sub : ∀ b ∈ F1, b ∈ F) (r : Rp Z ρ H d x F1)
    (e : dicv st d = some kvs) (ok : okKeys (.k k) kvs = true) :
    ∃ H' a ws G, x = .ref a ∧ Inv X pins σ H' s ∧ Now Z ρ0 H0 ρ st H' F ∧ H' a = some (.dK ws) ∧ RpK Z ρ H' kvs ws G ∧ G.Sublist F1 ∧ Rp Z ρ H' d x F1 ∧ ∀ d v G', Rp Z ρ H d v G' → a ∉ G' → Rp Z ρ H' d v G' := by
  obtain ⟨a, G, rfl, h, hs⟩ := dicv_ok n.sr r e
  rcases dK_of h ok with ⟨ws, h1, h2⟩ | ⟨h1, rfl, rfl⟩
  · exact ⟨H, a, ws, G, rfl, I, n, h1, h2, hs, r, fun _ _ _ h _ => h⟩
  · have I' := retag I h1
    refine ⟨upd H a (.dK []), a, [], [], rfl, I', ?_, upd_same, ⟨rfl, rfl⟩, List.nil_sublist _, ?_, fun d v G' h hg => h.updF h1 rfl hg⟩
    · cases d with
      | dic kvs =>
        obtain ⟨b, G2, z, f, _⟩ := r
        cases z
        exact n.updF s0 (sub a (by rw [f]; exact List.mem_cons_self)) h1 rfl
      | ref l =>
        obtain ⟨b, hl, z, f⟩ := r
        cases z
        have hc : st[l]? = some (.dic []) := by
          simp only [dicv] at e
          split at e
          · rename_i q; cases e; exact q
          · cases e
        have := n.wr (l := l) (c' := .dic []) (o' := .dK []) s0 hl rfl ⟨a, [], rfl, rfl, .inl ⟨[], upd_same, ⟨rfl, rfl⟩⟩⟩
        rwa [set_same hc] at this
      | _ => simp [dicv] at e
    · cases d with
      | dic kvs =>
        obtain ⟨b, G2, z, f, h⟩ := r
        cases z
        cases e
        have hg : G2 = [] := by
          rcases h with ⟨_, _, q⟩ | ⟨_, _, q⟩ <;> exact q.2
        subst hg
        exact ⟨a, [], rfl, f, .inl ⟨[], upd_same, ⟨rfl, rfl⟩⟩⟩
      | ref l => exact r
      | _ => simp [dicv] at e
end
end Fs
namespace Fs
open PySem L2 PyProof.Rows PySem.Spec
def pyC : Cop → CmpOp
  | .eq => .Eq | .ne => .NotEq | .lt => .Lt | .le => .LtE | .gt => .Gt | .ge => .GtE | .isN => .Is | .ntN => .IsNot | .inn => .In | .nin => .NotIn
section
variable {X : L2.Cx} {Z : Wc} {W : WX} {σ0 : L2.St}
/-- a comparison's answer -/
abbrev fC (op : Cop) : D → D → M D := fun x y st => opt (cmpD op x y st) (fun c => ret (.bl c)) st
theorem eq_is {st : Sto} {a b : D} {c : Bool} (e : eqD st a b = some c) : ∃ p q, toP false st 66 a = some p ∧ toP false st 66 b = some q ∧ SeqAt.shaped p = true ∧ SeqAt.shaped q = true ∧ c = PyData.eqv p q := by
  unfold eqD at e
  split at e
  · rename_i p q hp hq
    split at e
    · rename_i hs
      cases e
      exact ⟨p, q, hp, hq, hs.1, hs.2, rfl⟩
    · cases e
  · cases e
theorem rp_non {ρ : List Addr} {H : Hp} {d : D} {v : V} {F : List Addr} (r : Rp Z ρ H d v F) : decide (v = .non) = isNon d := by
  cases d with
  | non => obtain ⟨rfl, _⟩ := r; rfl
  | bl b => obtain ⟨rfl, _⟩ := r; rfl
  | int i => obtain ⟨rfl, _⟩ := r; rfl
  | str z => obtain ⟨rfl, _⟩ := r; rfl
  | tup ds => obtain ⟨a, vs, rfl, _⟩ := r; rfl
  | ref l => obtain ⟨a, _, rfl, _⟩ := r; rfl
  | lst ds => obtain ⟨a, vs, G, rfl, _⟩ := r; rfl
  | frl ds => obtain ⟨a, o, vs, G, rfl, _⟩ := r; rfl
  | dic ds => obtain ⟨a, G, rfl, _⟩ := r; rfl
  | set ds => obtain ⟨a, S, rfl, _⟩ := r; rfl
  | exc c ds => obtain ⟨a, dx, rfl, _⟩ := r; rfl
  | lam c ds => exact r.elim
theorem opt_ok {α β : Type} {rel : Rel α β} {γ : Type} {o : Option γ} {f : γ → M α} {st : Sto} {ρ : List Addr} {H : Hp} {Q : β → Hp → Prop} (h : Post rel Z W (opt o f st) ρ σ0 H Q) : ∃ c, o = some c ∧ Post rel Z W (f c st) ρ σ0 H Q := by
  cases o with
  | none => exact h.elim
  | some c => exact ⟨c, rfl, h⟩
theorem in_ok (hK : X.K = Z.K) (hu : X.A.units + 65 < cLine) (neg : Bool) : OpR X (compareOp (if neg then .NotIn else .In)) (rB Z W σ0 fun x y st => opt (inD st x y) (fun c => ret (.bl (if neg then !c else c))) st) := by
  intro pins s σ H x y v u Q I rx ry h
  obtain ⟨ρ, st, H0, ρ2, st2, d1, d2, F1, F2, sr, n, r1, r2, h⟩ := h
  obtain ⟨c, e, h⟩ := opt_ok h
  have fin : Q (.bl (if neg then !c else c)) H := Post.ret h (n.less (List.nil_sublist _)) ⟨rfl, rfl⟩
  have dict : ∀ kvs k, dicv st2 d2 = some kvs → keyOf d1 = some k → okKeys k kvs = true → (dget k kvs).isSome = c → wpAny (model X.prog X.w) X.A (compareOp (if neg then .NotIn else .In) v u) (EP X pins σ Q) X.xe s := by
    intro kvs k hd hk ok hc
    obtain ⟨j, rfl, rfl, rfl⟩ := key_ok r1 hk
    obtain ⟨H', a, ws, G, rfl, I', n', ha, rk, hs, _, _⟩ := dK_now I sr n (fun b hb => by simpa using hb) r2 hd ok
    obtain rfl : u = Value.ref a := ry
    have fin' : Q (.bl (if neg then !c else c)) H' := Post.ret h (n'.less (List.nil_sublist _)) ⟨rfl, rfl⟩
    have hv := dget_ok (k := j) rk
    have hsome : (valV ws j).isSome = c := by
      rw [← hc]
      cases hg : dget (.k j) kvs with
      | none => rw [hg] at hv; rw [hv]; rfl
      | some d => rw [hg] at hv; obtain ⟨v', G', e1, _⟩ := hv; rw [e1]; rfl
    cases neg with
    | true => exact d_notIn (A := X.A) (by omega) I' (DGet.k ha) rx fun s' I2 => ⟨.bl (!(valV ws j).isSome), H', I2, rfl, by rw [hsome]; exact fin'⟩
    | false => exact d_in (A := X.A) (by omega) I' (DGet.k ha) rx fun s' I2 => ⟨.bl (valV ws j).isSome, H', I2, rfl, by rw [hsome]; exact fin'⟩
  unfold inD at e
  split at e
  · rename_i z
    split at e
    · rename_i t
      cases e
      obtain ⟨rfl, rfl⟩ := r1
      obtain ⟨rfl, rfl⟩ := r2
      cases neg with
      | true => exact op_notin_str pins s σ H _ _ v u Q I rx ry ⟨t, z, rfl, rfl, fin⟩
      | false => exact op_in_str pins s σ H _ _ v u Q I rx ry ⟨t, z, rfl, rfl, fin⟩
    · cases e
  · split at e
    · rename_i kvs hd
      split at e
      · rename_i k hk
        split at e
        · rename_i ok
          cases e
          exact dict kvs k hd hk ok rfl
        · cases e
      · cases e
    · split at e
      · rename_i ys _ _ _
        split at e
        · rename_i hf
          cases e
          obtain ⟨a, vs, rfl, ha, rs⟩ := r2
          have iv := inV_ok hf.1 r1 hf.2 rs
          have fx := flat_ok hf.1 r1
          have fs := flats_ok hf.2 rs
          cases neg with
          | true => exact op_notIn_seq pins s σ H _ _ v u Q I rx ry ⟨a, vs, rfl, .inr (by rw [hK]; exact ha), fx, fs, by rw [iv]; exact fin⟩
          | false => exact op_in_seq pins s σ H _ _ v u Q I rx ry ⟨a, vs, rfl, .inr (by rw [hK]; exact ha), fx, fs, by rw [iv]; exact fin⟩
        · cases e
      · split at e
        · rename_i hnt _ ys' hy'
          split at e
          · rename_i p qs hp hq
            split at e
            · rename_i hz
              cases e
              have dp := toP_ok n.sr _ _ _ _ _ r1 hp
              have dl : Dp Z.K H y (.list qs) := by
                cases d2 with
                | tup xs => exact absurd rfl (hnt xs)
                | lst xs =>
                  obtain ⟨a, vs, G, rfl, ha, rs, _⟩ := r2
                  cases hy'
                  exact .lst (SqL.of ha) (dpAll_ok (toP_ok n.sr 65) rs hq)
                | ref l =>
                  obtain ⟨a, hl, rfl, _⟩ := r2
                  simp only [seqv] at hy'
                  split at hy'
                  · rename_i xs hc
                    cases hy'
                    obtain ⟨vs, hv, rs⟩ := n.sr.list hl (.inl hc)
                    exact .lst hv (dpAll_ok (toP_ok n.sr 65) rs hq)
                  · rename_i xs hc
                    cases hy'
                    obtain ⟨vs, hv, rs⟩ := n.sr.list hl (.inr hc)
                    exact .lst hv (dpAll_ok (toP_ok n.sr 65) rs hq)
                  · cases hy'
                | _ => simp [seqv] at hy'
              cases neg with
              | true => exact op_notInD hu pins s σ H _ _ v u Q I rx ry ⟨p, qs, by rw [hK]; exact dp, by rw [hK]; exact dl, hz.1, hz.2, fin⟩
              | false => exact op_inD hu pins s σ H _ _ v u Q I rx ry ⟨p, qs, by rw [hK]; exact dp, by rw [hK]; exact dl, hz.1, hz.2, fin⟩
            · cases e
          · cases e
        · cases e
theorem cmp_ok (hK : X.K = Z.K) (hu : X.A.units + 65 < cLine) {op : Cop} : OpR X (compareOp (pyC op)) (rB Z W σ0 (fC op)) := by
  cases op with
  | inn =>
    have h := in_ok (W := W) (σ0 := σ0) hK hu false
    intro pins s σ H x y v u Q I rx ry q
    exact h pins s σ H x y v u Q I rx ry q
  | nin =>
    have h := in_ok (W := W) (σ0 := σ0) hK hu true
    intro pins s σ H x y v u Q I rx ry q
    obtain ⟨ρ, st, H0, ρ2, st2, d1, d2, F1, F2, sr, n, r1, r2, q⟩ := q
    refine h pins s σ H x y v u Q I rx ry ⟨ρ, st, H0, ρ2, st2, d1, d2, F1, F2, sr, n, r1, r2, ?_⟩
    simp only [fC, cmpD] at q
    cases e : inD st2 d1 d2 with
    | none => rw [e] at q; exact q.elim
    | some c => rw [e] at q; simpa only [opt, Option.map_some, e, if_true] using q
  | eq =>
    intro pins s σ H x y v u Q I rx ry q
    obtain ⟨ρ, st, H0, ρ2, st2, d1, d2, F1, F2, sr, n, r1, r2, q⟩ := q
    obtain ⟨c, e, q⟩ := opt_ok q
    obtain ⟨p1, p2, e1, e2, z1, z2, rfl⟩ := eq_is e
    exact op_eqD (by omega) pins s σ H x y v u Q I rx ry ⟨p1, p2, by rw [hK]; exact toP_ok n.sr _ _ _ _ _ r1 e1, by rw [hK]; exact toP_ok n.sr _ _ _ _ _ r2 e2, z1, z2, Post.ret q (n.less (List.nil_sublist _)) ⟨rfl, rfl⟩⟩
  | ne =>
    intro pins s σ H x y v u Q I rx ry q
    obtain ⟨ρ, st, H0, ρ2, st2, d1, d2, F1, F2, sr, n, r1, r2, q⟩ := q
    obtain ⟨c, e, q⟩ := opt_ok q
    simp only [cmpD, Option.map_eq_some_iff] at e
    obtain ⟨b, e, rfl⟩ := e
    obtain ⟨p1, p2, e1, e2, z1, z2, rfl⟩ := eq_is e
    exact op_neD (by omega) pins s σ H x y v u Q I rx ry ⟨p1, p2, by rw [hK]; exact toP_ok n.sr _ _ _ _ _ r1 e1, by rw [hK]; exact toP_ok n.sr _ _ _ _ _ r2 e2, z1, z2, Post.ret q (n.less (List.nil_sublist _)) ⟨rfl, rfl⟩⟩
  | isN =>
    intro pins s σ H x y v u Q I rx ry q
    obtain ⟨ρ, st, H0, ρ2, st2, d1, d2, F1, F2, sr, n, r1, r2, q⟩ := q
    obtain ⟨c, e, q⟩ := opt_ok q
    have fin : Q (.bl c) H := Post.ret q (n.less (List.nil_sublist _)) ⟨rfl, rfl⟩
    simp only [cmpD, isD] at e
    split at e
    · cases e
      obtain ⟨rfl, _⟩ := r2
      exact op_isN pins s σ H _ _ v u Q I rx ry ⟨rfl, by rw [rp_non r1]; exact fin⟩
    · split at e
      · rename_i b _ d
        cases e
        obtain ⟨rfl, _⟩ := r1
        obtain ⟨rfl, _⟩ := r2
        refine op_isBl pins s σ H _ _ v u Q I rx ry ⟨d, b, rfl, rfl, ?_⟩
        have : decide (d = b) = (d == b) := by cases d <;> cases b <;> rfl
        rw [this]; exact fin
      · cases e
    · cases e
  | ntN =>
    intro pins s σ H x y v u Q I rx ry q
    obtain ⟨ρ, st, H0, ρ2, st2, d1, d2, F1, F2, sr, n, r1, r2, q⟩ := q
    obtain ⟨c, e, q⟩ := opt_ok q
    have fin : Q (.bl c) H := Post.ret q (n.less (List.nil_sublist _)) ⟨rfl, rfl⟩
    simp only [cmpD, isD, Option.map_eq_some_iff] at e
    obtain ⟨c', e, rfl⟩ := e
    split at e
    · cases e
      obtain ⟨rfl, _⟩ := r2
      exact op_notN pins s σ H _ _ v u Q I rx ry ⟨rfl, by rw [rp_non r1]; exact fin⟩
    · split at e
      · rename_i b _ d
        cases e
        obtain ⟨rfl, _⟩ := r1
        obtain ⟨rfl, _⟩ := r2
        refine op_notBl pins s σ H _ _ v u Q I rx ry ⟨d, b, rfl, rfl, ?_⟩
        have : decide (d = b) = (d == b) := by cases d <;> cases b <;> rfl
        rw [this]; exact fin
      · cases e
    · cases e
  | lt =>
    intro pins s σ H x y v u Q I rx ry q
    obtain ⟨ρ, st, H0, ρ2, st2, d1, d2, F1, F2, sr, n, r1, r2, q⟩ := q
    obtain ⟨c, e, q⟩ := opt_ok q
    have fin : Q (.bl c) H := Post.ret q (n.less (List.nil_sublist _)) ⟨rfl, rfl⟩
    simp only [cmpD] at e
    split at e
    · rename_i i j
      obtain ⟨rfl, _⟩ := r1
      obtain ⟨rfl, _⟩ := r2
      cases e
      exact op_lt pins s σ H _ _ v u Q I rx ry ⟨i, j, rfl, rfl, fin⟩
    · cases e
  | le =>
    intro pins s σ H x y v u Q I rx ry q
    obtain ⟨ρ, st, H0, ρ2, st2, d1, d2, F1, F2, sr, n, r1, r2, q⟩ := q
    obtain ⟨c, e, q⟩ := opt_ok q
    have fin : Q (.bl c) H := Post.ret q (n.less (List.nil_sublist _)) ⟨rfl, rfl⟩
    simp only [cmpD] at e
    split at e
    · rename_i i j
      obtain ⟨rfl, _⟩ := r1
      obtain ⟨rfl, _⟩ := r2
      cases e
      exact op_le pins s σ H _ _ v u Q I rx ry ⟨i, j, rfl, rfl, fin⟩
    · cases e
  | gt =>
    intro pins s σ H x y v u Q I rx ry q
    obtain ⟨ρ, st, H0, ρ2, st2, d1, d2, F1, F2, sr, n, r1, r2, q⟩ := q
    obtain ⟨c, e, q⟩ := opt_ok q
    have fin : Q (.bl c) H := Post.ret q (n.less (List.nil_sublist _)) ⟨rfl, rfl⟩
    simp only [cmpD] at e
    split at e
    · rename_i i j
      obtain ⟨rfl, _⟩ := r1
      obtain ⟨rfl, _⟩ := r2
      cases e
      exact op_gt pins s σ H _ _ v u Q I rx ry ⟨i, j, rfl, rfl, fin⟩
    · cases e
  | ge =>
    intro pins s σ H x y v u Q I rx ry q
    obtain ⟨ρ, st, H0, ρ2, st2, d1, d2, F1, F2, sr, n, r1, r2, q⟩ := q
    obtain ⟨c, e, q⟩ := opt_ok q
    have fin : Q (.bl c) H := Post.ret q (n.less (List.nil_sublist _)) ⟨rfl, rfl⟩
    simp only [cmpD] at e
    split at e
    · rename_i i j
      obtain ⟨rfl, _⟩ := r1
      obtain ⟨rfl, _⟩ := r2
      cases e
      exact op_ge pins s σ H _ _ v u Q I rx ry ⟨i, j, rfl, rfl, fin⟩
    · cases e
end
end Fs
namespace Fs
open PySem L2 PyProof.Rows PySem.Spec
section
variable {X : L2.Cx} {T : Tbl} {Z : Wc} {W : WX} {σ0 : L2.St} {a b c e o i : Expr} {A B C : Ex} {pos p2 : Pos}
/-! subscripts -/
theorem ix_ok (hK : X.K = Z.K) (hu : X.A.units + 1 < cLine) : IxR X (rB Z W σ0 getI) := by
  intro value slice pins s σ H x y v u Q I rx ry h hs
  obtain ⟨ρ, st, H0, ρ2, st2, d1, d2, F1, F2, sr, n, r1, r2, h⟩ := h
  have dict : ∀ kvs k y', dicv st2 d1 = some kvs → keyOf d2 = some k → okKeys k kvs = true → dget k kvs = some y' → Post (Rp Z) Z W (.ok y' st2) ρ σ0 H0 Q → wpAny (model X.prog X.w) X.A (subscriptTail value slice v u) (EP X pins σ Q) X.xe s := by
    intro kvs k y' hd hk ok hg h
    obtain ⟨j, rfl, rfl, rfl⟩ := key_ok r2 hk
    obtain ⟨H', a, ws, G, rfl, I', n', ha, rk, hs', _, _⟩ := dK_now I sr n (fun b hb => by simpa using hb) r1 hd ok
    obtain rfl : v = Value.ref a := rx
    have hv := dget_ok (k := j) rk
    rw [hg] at hv
    obtain ⟨v', G', e1, r', hs2⟩ := hv
    have g : DGet H' a (kV j) (some v') := by rw [← e1]; exact DGet.k ha
    refine tail_any (dict_typeIs I' g) PySem.F.slot_dict_getitem.lookup (d_getItem hu I' g ry fun w' s' I2 rw' => ⟨v', H', I2, rw', ?_⟩) hs
    exact Post.ok h (n'.less (by rw [List.append_nil]; exact hs2.trans hs')) r'
  unfold getI at h
  split at h
  · rename_i k
    obtain ⟨rfl, rfl⟩ := r2
    split at h
    · rename_i z
      obtain ⟨rfl, rfl⟩ := r1
      split at h
      · rename_i hz
        split at h
        · rename_i c hc
          exact ix_seq value slice pins s σ H _ _ v u Q I rx ry (.inr (.inr ⟨z, k, c, rfl, rfl, hz, hc, Post.ok h n ⟨rfl, rfl⟩⟩)) hs
        · exact h.elim
      · exact h.elim
    · split at h
      · rename_i xs hx
        split at h
        · rename_i y' hy
          obtain ⟨a, vs, G, rfl, ha, rs, sub⟩ := seqv_ok n.sr r1 hx
          have hat : ∃ v' G', atI vs k = some v' ∧ Rp Z ρ2 H y' v' G' ∧ G'.Sublist G := by
            unfold atI at hy ⊢
            rw [← rs.length]
            cases hj : ixN xs.length k with
            | none => simp [hj] at hy
            | some j =>
              simp only [hj, Option.bind_some] at hy ⊢
              exact rs.get hy
          obtain ⟨v', G', hv, r', sub'⟩ := hat
          have fin : Q v' H := Post.ok h (n.less (by rw [List.append_nil]; exact sub'.trans sub)) r'
          rcases ha with ha | ha
          · exact ix_seq value slice pins s σ H _ _ v u Q I rx ry (.inl ⟨a, vs, k, v', rfl, rfl, by rw [hK]; exact ha, hv, fin⟩) hs
          · exact ix_seq value slice pins s σ H _ _ v u Q I rx ry (.inr (.inl ⟨a, vs, k, v', rfl, rfl, by rw [hK]; exact ha, hv, fin⟩)) hs
        · exact h.elim
      · split at h
        · rename_i kvs hd
          split at h
          · rename_i ok
            split at h
            · rename_i y' hg
              exact dict kvs _ y' hd rfl ok hg h
            · exact h.elim
          · exact h.elim
        · exact h.elim
  · split at h
    · rename_i q kvs hk hd
      split at h
      · rename_i ok
        split at h
        · rename_i y' hg
          exact dict kvs q y' hd hk ok hg h
        · exact h.elim
      · exact h.elim
    · exact h.elim
theorem se_sub (hK : X.K = Z.K) (hu : X.A.units + 1 < cLine) (ha : PE X a (iE T Z W A)) (hb : PE X b (iE T Z W B)) (hs : PlainIx b) : PE X (.Subscript a b pos) (iE T Z W (.sub A B)) :=
  ⟨fun pins s σ H Q I q => by
    refine (pe_ix (ix_ok (W := W) (σ0 := σ) hK hu) ha hb hs).run pins s σ H Q I ?_
    obtain ⟨ρ, env, st, er, sr, h⟩ := q
    simp only [ev] at h
    exact two_ok ⟨ρ, env, st, er, sr, h⟩⟩
/-! slices -/
def iO (T : Tbl) (Z : Wc) (W : WX) (o : Option Ex) : TO := fun σ H Q => ∃ ρ env st, ER Z ρ H env σ ∧ SR Z ρ st H ∧ Post (RelEq (Option Int)) Z W (evo T o env st) ρ σ H Q
theorem so_none : PO X none (iO T Z W none) := ⟨fun pins s σ H Q I h => po_none.run pins s σ H Q I (by
  obtain ⟨ρ, env, st, er, sr, h⟩ := h
  simp only [evo] at h
  exact Post.ret h (Now.start sr) ⟨rfl, rfl⟩)⟩
theorem so_some (ha : PE X a (iE T Z W A)) : PO X (some a) (iO T Z W (some A)) := ⟨fun pins s σ H Q I h => (po_some ha).run pins s σ H Q I (by
  obtain ⟨ρ, env, st, er, sr, h⟩ := h
  simp only [evo] at h
  refine ⟨ρ, env, st, er, sr, (Post.seq rpOk (Now.start sr) sr h).mono ?_⟩
  rintro x H1 ⟨ρ1, d1, st1, F1, n1, t1, r1, h1⟩
  cases d1 with
  | int i =>
    obtain ⟨rfl, rfl⟩ := r1
    exact ⟨i, rfl, Post.ret h1 n1 ⟨rfl, rfl⟩⟩
  | _ => exact h1.elim)⟩
/-- what a slice is asked for -/
def rSlc (Z : Wc) (W : WX) (σ : L2.St) : V → Option Int → Option Int → Hp → VK → Prop := fun x lo hi H2 Q => ∃ ρ st H ρ2 st2 d F, SR Z ρ st H ∧ Now Z ρ H ρ2 st2 H2 F ∧ Rp Z ρ2 H2 d x F ∧ Post (Rp Z) Z W (slcD d lo hi st2) ρ σ H Q
theorem rps_cut {ρ : List Addr} {H : Hp} {xs : List D} {vs : List V} {F : List Addr} (r : Rps Z ρ H xs vs F) (lo hi : Option Int) : ∃ G, Rps Z ρ H (cutD xs lo hi) (cutV vs lo hi) G ∧ G.Sublist F := by
  unfold cutD cutV
  rw [← r.length]
  obtain ⟨G1, r1, s1⟩ := r.drop (HT.sIx xs.length 0 lo)
  obtain ⟨G2, r2, s2⟩ := r1.take (HT.sIx xs.length xs.length hi - HT.sIx xs.length 0 lo)
  exact ⟨G2, r2, s2.trans s1⟩
theorem slc_ok (hK : X.K = Z.K) : SlR X (rSlc Z W σ0) := by
  intro pins s σ H x v vl vu lo hi sl Q I rx hs pl pu h
  obtain ⟨ρ, st, H0, ρ2, st2, d, F, sr, n, r, h⟩ := h
  unfold slcD at h
  split at h
  · rename_i xs
    obtain ⟨a, vs, rfl, ha, rs⟩ := r
    obtain ⟨G, rc, sub⟩ := rps_cut rs lo hi
    refine sl_tupA pins s σ H _ v vl vu lo hi sl Q I rx hs pl pu ⟨a, vs, rfl, by rw [hK]; exact ha, fun e => ?_, fun _ p hp => ?_⟩
    · refine Post.ok h (n.less sub) ⟨a, _, rfl, ?_, rc⟩
      have : cutV vs lo hi = vs := by
        unfold cutV
        rw [e.1, e.2]
        simp
      rw [this]; exact ha
    · exact Post.ok h ((n.newS sr hp).less sub) ⟨p, _, rfl, SqT.of upd_same, rps_up hp rc⟩
  · split at h
    · rename_i xs hx
      obtain ⟨a, vs, G, rfl, ha, rs, sub⟩ := lstv_ok n.sr r hx
      obtain ⟨G2, rc, sub2⟩ := rps_cut rs lo hi
      refine sl_list pins s σ H _ v vl vu lo hi sl Q I rx hs pl pu ⟨a, vs, rfl, SqL.of ha, fun p hp => ?_⟩
      exact Post.ok h ((n.new sr hp).less (List.cons_sublist_cons.mpr (sub2.trans sub))) ⟨p, _, G2, rfl, upd_same, rps_up hp rc, rfl⟩
    · exact h.elim
theorem se_slc {lo hi : Option Expr} {L U : Option Ex} (hK : X.K = Z.K) (ha : PE X a (iE T Z W A)) (hl : PO X lo (iO T Z W L)) (hu : PO X hi (iO T Z W U)) : PE X (.Subscript a (.Slice lo hi none p2) pos) (iE T Z W (.slc A L U)) :=
  ⟨fun pins s σ H Q I q => by
    refine (pe_slice (slc_ok (W := W) (σ0 := σ) hK) ha hl hu).run pins s σ H Q I ?_
    obtain ⟨ρ, env, st, er, sr, h⟩ := q
    simp only [ev] at h
    refine ⟨ρ, env, st, er, sr, (Post.seq rpOk (Now.start sr) sr h).mono ?_⟩
    rintro x H1 ⟨ρ1, d1, st1, F1, n1, t1, r1, h1⟩
    refine ⟨ρ1, env, st1, t1.env sr er, n1.sr, (Post.seq reqOk n1 sr h1).mono ?_⟩
    rintro l H2 ⟨ρ2, d2, st2, F2, n2, t2, ⟨rfl, rfl⟩, h2⟩
    refine ⟨ρ2, env, st2, t2.env n1.sr (t1.env sr er), n2.sr, (Post.seq reqOk n2 sr h2).mono ?_⟩
    rintro u H3 ⟨ρ3, d3, st3, F3, n3, t3, ⟨rfl, rfl⟩, h3⟩
    refine ⟨ρ, st, H, ρ3, st3, d1, F1, sr, by simpa using n3, ?_, h3⟩
    exact t3.val n2.sr (fun a ha => n2.out a (List.mem_append_left _ (List.mem_append_right _ ha))) (t2.val n1.sr (fun a ha => n1.out a (List.mem_append_right _ ha)) r1)⟩
theorem se_rev {k : Nat} {q1 q2 q3 : Pos} (ha : PE X a (iE T Z W A)) : PE X (.Subscript a (.Slice none none (some (.UnaryOp .USub (.Constant (.int 1) k q1) q2)) q3) pos) (iE T Z W (.rev A)) :=
  ⟨fun pins s σ H Q I q => by
    refine (pe_revL ha).run pins s σ H Q I ?_
    obtain ⟨ρ, env, st, er, sr, h⟩ := q
    simp only [ev] at h
    refine ⟨ρ, env, st, er, sr, (Post.seq rpOk (Now.start sr) sr h).mono ?_⟩
    rintro x H1 ⟨ρ1, d1, st1, F1, n1, t1, r1, h1⟩
    unfold revD at h1
    split at h1
    · rename_i xs hx
      obtain ⟨a, vs, G, rfl, ha, rs, sub⟩ := lstv_ok n1.sr r1 hx
      obtain ⟨G2, rc, pm⟩ := rs.reverse
      refine ⟨a, vs, rfl, SqL.of ha, fun p hp => ?_⟩
      have n2 := (n1.new (o := .lst vs.reverse) sr hp).less (List.cons_sublist_cons.mpr sub)
      exact Post.ok h1 (n2.perm (List.Perm.cons p pm)) ⟨p, _, G2, rfl, upd_same, rps_up hp rc, rfl⟩
    · exact h1.elim⟩
/-! bools as values -/
theorem tru_is {ρ : List Addr} {H : Hp} {st : Sto} {d : D} {x : V} {F : List Addr} {k : Bool} (s : SR Z ρ st H) (r : Rp Z ρ H d x F) (e : truth st d = some k) : TruV Z.K x H k := by
  cases d with
  | non => obtain ⟨rfl, _⟩ := r; simp only [truth, Option.some.injEq] at e; exact e.symm
  | bl b => obtain ⟨rfl, _⟩ := r; simp only [truth, Option.some.injEq] at e; exact e.symm
  | int i => obtain ⟨rfl, _⟩ := r; simp only [truth, Option.some.injEq] at e; exact e.symm
  | str z =>
    obtain ⟨rfl, _⟩ := r
    simp only [truth] at e
    split at e
    · rename_i hz; cases e; exact ⟨hz, rfl⟩
    · cases e
  | tup ds =>
    obtain ⟨p, vs, rfl, hp, r⟩ := r
    simp only [truth, Option.some.injEq] at e
    exact .inr (.inl ⟨vs, hp, by rw [← e]; cases ds <;> cases vs <;> simp_all [Rps]⟩)
  | lst ds =>
    obtain ⟨p, vs, G, rfl, hp, r, _⟩ := r
    simp only [truth, Option.some.injEq] at e
    exact .inl ⟨vs, SqL.of hp, by rw [← e]; cases ds <;> cases vs <;> simp_all [Rps]⟩
  | ref l =>
    obtain ⟨p, hl, rfl, _⟩ := r
    cases hc : st[l]? with
    | none => simp [truth, hc] at e
    | some cc =>
      have rc := s.cell l cc p hc hl
      cases cc with
      | lst ds =>
        simp only [truth, hc, Option.some.injEq] at e
        obtain ⟨p', vs, G, z, hp, r, _⟩ := rc
        cases z
        exact .inl ⟨vs, SqL.of hp, by rw [← e]; cases ds <;> cases vs <;> simp_all [Rps]⟩
      | frl ds =>
        simp only [truth, hc, Option.some.injEq] at e
        obtain ⟨p', o, vs, G, z, hp, r, _⟩ := rc
        cases z
        exact .inl ⟨vs, .inl (.inr ⟨o, hp⟩), by rw [← e]; cases ds <;> cases vs <;> simp_all [Rps]⟩
      | _ => simp [truth, hc] at e
  | _ => simp [truth] at e
theorem se_nt {C1 : Ex} (hK : X.K = Z.K) (ha : PE X a (iE T Z W C1)) : PE X (.UnaryOp .Not a pos) (iE T Z W (.nt (.val C1))) :=
  ⟨fun pins s σ H Q I q => by
    refine (pe_notT ha).run pins s σ H Q I ?_
    obtain ⟨ρ, env, st, er, sr, h⟩ := q
    simp only [ev, evT] at h
    refine ⟨ρ, env, st, er, sr, ?_⟩
    have h' : Post (Rp Z) Z W (bnd (ev T C1 env) (fun x st => bnd (fun st => opt (truth st x) ret st) (fun c => ret (.bl (!c))) st) st) ρ σ H Q := by
      unfold bnd at h ⊢
      cases e : ev T C1 env st <;> simpa only [e] using h
    refine (Post.seq rpOk (Now.start sr) sr h').mono ?_
    rintro x H1 ⟨ρ1, d1, st1, F1, n1, t1, r1, h1⟩
    unfold bnd at h1
    cases e : truth st1 d1 with
    | none => simp only [e, opt, bad] at h1; exact h1.elim
    | some k =>
      simp only [e, opt, ret] at h1
      exact ⟨k, by rw [hK]; exact tru_is n1.sr r1 e, Post.ok h1 (n1.less (List.nil_sublist _)) ⟨rfl, rfl⟩⟩⟩
theorem se_one {op : BoolOp} (ha : PE X a (iE T Z W A)) : PE X (.BoolOp op [a] pos) (iE T Z W A) := pe_one ha
theorem se_and {rest : List Expr} (ha : PE X a (iE T Z W A)) (hb : PE X (.BoolOp .And (b :: rest) pos) (iE T Z W B)) : PE X (.BoolOp .And (a :: b :: rest) pos) (iE T Z W (.and2 A B)) :=
  ⟨fun pins s σ H Q I q => by
    refine (pe_and ha hb).run pins s σ H Q I ?_
    obtain ⟨ρ, env, st, er, sr, h⟩ := q
    simp only [ev] at h
    refine ⟨ρ, env, st, er, sr, (Post.seq rpOk (Now.start sr) sr h).mono ?_⟩
    rintro x H1 ⟨ρ1, d1, st1, F1, n1, t1, r1, h1⟩
    cases d1 with
    | bl c =>
      obtain ⟨rfl, rfl⟩ := r1
      refine ⟨c, rfl, ?_⟩
      cases c with
      | true => exact ⟨ρ1, env, st1, t1.env sr er, n1.sr, h1.tail rpOk n1 sr⟩
      | false => exact Post.ok h1 n1 ⟨rfl, rfl⟩
    | _ => exact h1.elim⟩
theorem se_or {rest : List Expr} (ha : PE X a (iE T Z W A)) (hb : PE X (.BoolOp .Or (b :: rest) pos) (iE T Z W B)) : PE X (.BoolOp .Or (a :: b :: rest) pos) (iE T Z W (.or2 A B)) :=
  ⟨fun pins s σ H Q I q => by
    refine (pe_or ha hb).run pins s σ H Q I ?_
    obtain ⟨ρ, env, st, er, sr, h⟩ := q
    simp only [ev] at h
    refine ⟨ρ, env, st, er, sr, (Post.seq rpOk (Now.start sr) sr h).mono ?_⟩
    rintro x H1 ⟨ρ1, d1, st1, F1, n1, t1, r1, h1⟩
    cases d1 with
    | bl c =>
      obtain ⟨rfl, rfl⟩ := r1
      refine ⟨c, rfl, ?_⟩
      cases c with
      | false => exact ⟨ρ1, env, st1, t1.env sr er, n1.sr, h1.tail rpOk n1 sr⟩
      | true => exact Post.ok h1 n1 ⟨rfl, rfl⟩
    | _ => exact h1.elim⟩
/-- ints compared -/
theorem cmpI_op {op : Cop} : OpR X (compareOp (pyC op)) (fun x y H Q => ∃ i j b, x = .int i ∧ y = .int j ∧ cmpI op i j = some b ∧ Q (.bl b) H) := by
  intro pins s σ H x y v u Q I rx ry ⟨i, j, b, ex, ey, e, q⟩
  subst ex ey
  cases op with
  | lt => cases e; exact op_lt pins s σ H _ _ v u Q I rx ry ⟨i, j, rfl, rfl, q⟩
  | le => cases e; exact op_le pins s σ H _ _ v u Q I rx ry ⟨i, j, rfl, rfl, q⟩
  | gt => cases e; exact op_gt pins s σ H _ _ v u Q I rx ry ⟨i, j, rfl, rfl, q⟩
  | ge => cases e; exact op_ge pins s σ H _ _ v u Q I rx ry ⟨i, j, rfl, rfl, q⟩
  | _ => cases e
/-- a op1 b op2 c -/
theorem se_chn {o1 o2 : Cop} (ha : PE X a (iE T Z W A)) (hb : PE X b (iE T Z W B)) (hc : PE X c (iE T Z W C)) (hm : lastMarks [pyC o1, pyC o2] [b, c] = false) : PE X (.Compare a [pyC o1, pyC o2] [b, c] pos) (iE T Z W (.chn o1 o2 A B C)) :=
  ⟨fun pins s σ H Q I q => by
    refine (pe_chain cmpI_op cmpI_op ha hb hc hm).run pins s σ H Q I ?_
    obtain ⟨ρ, env, st, er, sr, h⟩ := q
    simp only [ev] at h
    refine ⟨ρ, env, st, er, sr, (Post.seq rpOk (Now.start sr) sr h).mono ?_⟩
    rintro x H1 ⟨ρ1, d1, st1, F1, n1, t1, r1, h1⟩
    cases d1 with
    | int i =>
      obtain ⟨rfl, rfl⟩ := r1
      refine ⟨ρ1, env, st1, t1.env sr er, n1.sr, (Post.seq rpOk n1 sr (by simpa only [intv, opt] using h1)).mono ?_⟩
      rintro y H2 ⟨ρ2, d2, st2, F2, n2, t2, r2, h2⟩
      cases d2 with
      | int j =>
        obtain ⟨rfl, rfl⟩ := r2
        simp only [intv, opt] at h2
        cases e : cmpI o1 i j with
        | none => rw [e] at h2; exact h2.elim
        | some k =>
          rw [e] at h2
          refine ⟨i, j, k, rfl, rfl, e, k, rfl, ?_⟩
          cases k with
          | false => exact Post.ok h2 n2 ⟨rfl, rfl⟩
          | true =>
            rw [if_pos rfl]
            refine ⟨ρ2, env, st2, t2.env n1.sr (t1.env sr er), n2.sr, (Post.seq rpOk n2 sr h2).mono ?_⟩
            rintro z H3 ⟨ρ3, d3, st3, F3, n3, t3, r3, h3⟩
            cases d3 with
            | int m =>
              obtain ⟨rfl, rfl⟩ := r3
              simp only [intv, opt] at h3
              cases e2 : cmpI o2 j m with
              | none => rw [e2] at h3; exact h3.elim
              | some k2 => rw [e2] at h3; exact ⟨j, m, k2, rfl, rfl, e2, Post.ok h3 n3 ⟨rfl, rfl⟩⟩
            | _ => exact h3.elim
      | _ => exact h2.elim
    | _ => exact h1.elim⟩
/-! stores -/
theorem postA_seq {m : M D} {f : D → M Env} {st : Sto} {ρ : List Addr} {H : Hp} {F : List Addr} {L : List Nat} {σ : L2.St} {Q : L2.St → Hp → Prop} (h : PostA Z (bnd m f st) ρ H F L σ Q) : ∃ d st', m st = .ok d st' ∧ PostA Z (f d st') ρ H F L σ Q := by
  unfold bnd at h
  cases e : m st with
  | ok d s' => rw [e] at h; exact ⟨d, s', rfl, h⟩
  | exc x s' => rw [e] at h; exact h.elim
  | bad => rw [e] at h; exact h.elim
end
end Fs
namespace Fs
open PySem L2 PyProof.Rows PySem.Spec
section
variable {Z : Wc} {ρ : List Addr} {H : Hp}
/-! a dict's entry is written -/
theorem putK_cons {j k : L2.Key} {u v : V} {r : List (L2.Key × V)} (nd : j = k → valV r k = none) : putK ((j, u) :: r) k v = if j = k then (j, v) :: r else (j, u) :: putK r k v := by
  unfold putK
  rw [List.any_cons, valV_any]
  by_cases h : j = k
  · subst h
    have : r.map (fun kv => if kv.1 = j then (kv.1, v) else kv) = r := by
      have nn := nd rfl
      have : ∀ kv ∈ r, kv.1 ≠ j := fun kv hm e => by
        have h2 : (r.any fun kv => decide (kv.1 = j)) = true := List.any_eq_true.mpr ⟨kv, hm, by simpa using e⟩
        rw [valV_any, nn] at h2
        cases h2
      conv => rhs; rw [← List.map_id r]
      exact List.map_congr_left fun kv hm => by simp [this kv hm]
    simp [this]
  · simp only [h, decide_false, Bool.false_or, if_false]
    split
    · simp [h]
    · rfl
theorem dput_ok {k : L2.Key} {d : D} {v : V} (r0 : Rp Z ρ H d v []) : ∀ {kvs : List (Ky × D)} {ws : List (L2.Key × V)} {F : List Addr}, (kvs.map (·.1)).Nodup → RpK Z ρ H kvs ws F → ∃ G, RpK Z ρ H (dput (.k k) d kvs) (putK ws k v) G ∧ G.Sublist F
  | [], ws, F, nd, r => by
    obtain ⟨rfl, rfl⟩ := r
    exact ⟨[], ⟨k, v, [], [], [], rfl, rfl, r0, ⟨rfl, rfl⟩, rfl⟩, List.Sublist.refl _⟩
  | (q, x) :: kvs, ws, F, nd, r => by
    obtain ⟨j, u, ws', F1, F2, rfl, rfl, r1, r2, rfl⟩ := r
    have nd' := List.nodup_cons.mp (show (Ky.k j :: kvs.map (·.1)).Nodup from nd)
    rw [putK_cons (fun e => ?_)]
    · simp only [dput]
      by_cases h : j = k
      · subst h
        rw [if_pos rfl, if_pos rfl]
        exact ⟨F2, ⟨j, v, ws', [], F2, rfl, rfl, r0, r2, rfl⟩, List.sublist_append_right _ _⟩
      · rw [if_neg (by simpa using h), if_neg h]
        obtain ⟨G, a, b⟩ := dput_ok (k := k) r0 nd'.2 r2
        exact ⟨F1 ++ G, ⟨j, u, _, F1, G, rfl, rfl, r1, a, rfl⟩, List.Sublist.append (List.Sublist.refl _) b⟩
    · subst e
      have h := dget_ok (k := j) r2
      cases hg : dget (.k j) kvs with
      | none => rw [hg] at h; exact h
      | some y =>
        exfalso
        apply nd'.1
        clear h nd nd' r2
        induction kvs with
        | nil => simp [dget] at hg
        | cons p t ih =>
          obtain ⟨a, b⟩ := p
          simp only [dget] at hg
          split at hg
          · rename_i e; simp [e]
          · simp only [List.map_cons, List.mem_cons]
            exact .inr (ih hg)
/-- a held dict has each key once -/
theorem RpK.keysEq : ∀ {kvs : List (Ky × D)} {ws : List (L2.Key × V)} {F : List Addr}, RpK Z ρ H kvs ws F → kvs.map (·.1) = ws.map (fun p => Ky.k p.1)
  | [], _, _, r => by obtain ⟨rfl, _⟩ := r; rfl
  | (q, d) :: kvs, _, _, r => by
    obtain ⟨j, u, ws', F1, F2, rfl, rfl, r1, r2, rfl⟩ := r
    simp [RpK.keysEq r2]
end
section
variable {X : L2.Cx} {pins : List (Addr × Obj)} {σ : L2.St} {H : Hp} {s : Shared} {a : Addr} {ws : List (L2.Key × V)}
theorem KV.keys : ∀ {ws : List (L2.Key × V)} {vs : List (L2.Key × Value)}, L2.KV ws vs → ws.map (·.1) = vs.map (·.1)
  | _, _, .nil => rfl
  | _, _, .cons r t => by
    have := KV.keys t
    simp_all
theorem dK_nodup (I : Inv X pins σ H s) (h : H a = some (.dK ws)) : (ws.map (·.1)).Nodup := by
  obtain ⟨_, _, vs, kv, o, es, ep, _, _, _, _, _, nd⟩ := I.hok a _ h
  rw [KV.keys kv]
  exact nd
theorem ky_nodup {l : List L2.Key} (h : l.Nodup) : (l.map Ky.k).Nodup := by
  refine List.pairwise_map.mpr (h.imp ?_)
  intro a b hab e
  exact hab (by injection e)
end
section
variable {X : L2.Cx} {T : Tbl} {Z : Wc} {W : WX} {o i : Expr} {A B : Ex} {pos : Pos}
theorem rps_set {ρ : List Addr} {H : Hp} {d : D} {v : V} (rl : Rp Z ρ H d v []) : ∀ {xs : List D} {vs : List V} {j : Nat}, Rps Z ρ H xs vs [] → Rps Z ρ H (xs.set j d) (vs.set j v) []
  | [], vs, j, h => by obtain ⟨rfl, _⟩ := h; simp [Rps]
  | x :: xs, vs, j, h => by
    obtain ⟨v1, ws, F1, F2, rfl, q1, q2, f⟩ := h
    obtain ⟨rfl, rfl⟩ := List.append_eq_nil_iff.mp f.symm
    cases j with
    | zero => exact ⟨v, ws, [], [], rfl, rl, q2, rfl⟩
    | succ j => exact ⟨v1, ws.set j v, [], [], rfl, q1, rps_set rl q2, rfl⟩
/-- what a store is asked for -/
def rSt (Z : Wc) : TSet := fun x y v H2 Q => ∃ ρ st d1 d2 d F G1 G2, Hand Z ρ st H2 F ∧ Rp Z ρ H2 d1 x G1 ∧ Rp Z ρ H2 d2 y G2 ∧ Rp Z ρ H2 d v F ∧ ∃ st', setI d1 d2 d st = .ok () st' ∧
  ∀ ρ' H', StpF ρ H2 F ρ' H' → SR Z ρ' st' H' → (∃ N a o, ρ' = ρ ++ N ∧ a ∈ ρ ∧ H' = upd H2 a o) → Q H'
theorem StpF.wr {ρ N F : List Addr} {H : Hp} {st' : Sto} {a : Addr} {o' : HO} (h : StpF ρ H F (ρ ++ N) H) (ha : a ∈ ρ) : StpF ρ H F (ρ ++ N) (upd H a o') := by
  obtain ⟨M, e, nd, f, k⟩ := h
  exact ⟨M, e, nd, f, fun b u q z y => by rw [upd_ne (fun w => z (by rw [w]; exact ha))]; exact k b u q z y⟩
theorem set_ok (hu : X.A.units + 1 < cLine) : PSet X (rSt Z) := by
  intro pins s σ H x y v xv yv u Q I rx ry rv h
  obtain ⟨ρ, st, d1, d2, d, F, G1, G2, hd, r1, r2, r, st', e0, h⟩ := h
  obtain ⟨N, pm, sr', rl⟩ := land_ok d hd.sr r hd.out hd.nd
  have stp : StpF ρ H F (ρ ++ N) H := ⟨N, rfl, pm.nodup_iff.mpr hd.nd, fun b hb => .inl (pm.mem_iff.mp hb), fun _ _ e _ _ => e⟩
  unfold setI at e0
  split at e0
  · rename_i l
    obtain ⟨a, hl, rfl, _⟩ := r1
    have hm : a ∈ ρ := List.mem_of_getElem? hl
    have hl' : (ρ ++ N)[l]? = some a := get_append l a hl
    split at e0
    · rename_i xs hc
      split at e0
      · rename_i k
        obtain ⟨rfl, _⟩ := r2
        split at e0
        · rename_i j hj
          obtain ⟨b, vs, G, z, ha, rs, f⟩ := hd.sr.cell l _ a hc hl
          cases z
          obtain rfl : G = [] := by injection f with _ f; exact f.symm
          refine set_list pins s σ H _ _ _ xv yv u Q I rx ry rv ⟨a, vs, k, j, rfl, rfl, ha, by rw [← rs.length]; exact hj, ?_⟩
          cases e0
          refine h (ρ ++ N) _ (stp.wr (st' := st) hm) (sr'.wr hl' rfl ?_) ⟨N, a, _, rfl, hm, rfl⟩
          refine ⟨a, vs.set j v, [], rfl, upd_same, ?_, rfl⟩
          refine Rps.updF ha rfl (by simp) ?_
          exact rps_set rl rs.wide
        · exact nomatch e0
      · exact nomatch e0
    · rename_i kvs hc
      split at e0
      · rename_i q hk
        split at e0
        · rename_i hz
          obtain ⟨k, rfl, rfl, _⟩ := key_ok r2 hk
          have hcell := hd.sr.cell l _ a hc hl
          cases e0
          have fin : ∀ H1, Inv X pins σ H1 s → (∃ ws, H1 a = some (.dK ws) ∧ RpK Z (ρ ++ N) H1 kvs ws []) → (∀ ws, upd H1 a (.dK ws) = upd H a (.dK ws)) → Rp Z (ρ ++ N) H1 (land d st).1 v [] → wpAny (model X.prog X.w) X.A (setItem xv yv u) (fun _ s' => ∃ H', Inv X pins σ H' s' ∧ Q H') X.xe s := by
            intro H1 I1 ⟨ws, ha, rk⟩ hup rl1
            have nd := dK_nodup I1 ha
            have nd2 : (kvs.map (·.1)).Nodup := by
              rw [rk.keysEq]
              have := ky_nodup nd
              rwa [List.map_map] at this
            obtain ⟨G, rp, hs⟩ := dput_ok (k := k) rl1 nd2 rk
            obtain rfl := List.sublist_nil.mp hs
            have hlen : kvs.length = ws.length := by
              have := congrArg List.length rk.keysEq
              simpa using this
            refine set_dict hu pins s σ H1 _ _ _ xv yv u Q I1 rx ry rv ⟨a, _, rfl, DPut.k ha (by rw [← hlen]; exact hz.2), ?_⟩
            rw [hup]
            refine h (ρ ++ N) _ (stp.wr (st' := st) hm) (sr'.wr hl' rfl ⟨a, [], rfl, rfl, .inl ⟨_, upd_same, ?_⟩⟩) ⟨N, a, _, rfl, hm, rfl⟩
            have := RpK.stay (ρ' := ρ ++ N) (H' := upd H1 a (.dK (putK ws k v))) (fun _ _ e => e) (upd_keep ha rfl) (by simp) rp
            rwa [hup] at this
          obtain ⟨b, G, z, f, hh⟩ := hcell
          cases z
          obtain rfl : G = [] := by injection f with _ f; exact f.symm
          rcases dK_of hh hz.1 with ⟨ws, ha, rk⟩ | ⟨ha, rfl, _⟩
          · exact fin H I ⟨ws, ha, rk.wide⟩ (fun _ => rfl) rl
          · exact fin _ (retag I ha) ⟨[], upd_same, ⟨rfl, rfl⟩⟩ (fun _ => upd_upd) (rl.updF ha rfl (by simp))
        · exact nomatch e0
      · exact nomatch e0
    · exact nomatch e0
  · exact nomatch e0
theorem sg_sub (hu : X.A.units + 1 < cLine) (ho : PE X o (iE T Z W A)) (hi : PE X i (iE T Z W B)) (ha : ∀ v, assign (.Subscript o i pos) X.env v = (do
      let ov ← holding [v] (eval o X.env)
      let iv ← holding [v, ov] (eval i X.env)
      standAt pos
      holding [v, ov, iv] (setItem ov iv v)
      release [v, ov, iv] [])) : PG X (.Subscript o i pos) (iG T Z (.sub A B)) :=
  ⟨fun pins s σ H v u Q I r q => by
    refine (pg_sub ho hi (set_ok (Z := Z) hu) ha).run pins s σ H v u Q I r ?_
    obtain ⟨ρ, env, st, d, F, hd, er, rd, h⟩ := q
    simp only [asgT] at h
    obtain ⟨d1, st1, e1, h⟩ := postA_seq h
    obtain ⟨d2, st2, e2, h⟩ := postA_seq h
    refine ⟨ρ, env, st, er, hd.sr, post_ok e1 ?_⟩
    intro ρ1 H1 x G1 t1 sr1 r1
    refine ⟨ρ1, env, st1, t1.env hd.sr er, sr1, post_ok e2 ?_⟩
    intro ρ2 H2 y G2 t2 sr2 r2
    have n1 : Now Z ρ H ρ1 st1 H1 G1 := ⟨t1, sr1, fun a ha => r1.there a ha, t1.out hd.sr, t1.nodup⟩
    have n2 : Now Z ρ H ρ2 st2 H2 (G1 ++ G2) := n1.more hd.sr t2 sr2 r2.there
    have r1' := t2.val sr1 n1.out r1
    have rd1 : Rp Z ρ1 H1 d v F := t1.val hd.sr hd.out rd
    have off1 : ∀ a ∈ F, a ∉ ρ1 := fun a ha z => by
      obtain ⟨N, e, _, f, _⟩ := t1
      rw [e] at z
      rcases List.mem_append.mp z with z | z
      · exact hd.out a ha z
      · exact hd.th a ha (f a (List.mem_append_left _ z))
    have rd2 : Rp Z ρ2 H2 d v F := t2.val sr1 off1 rd1
    have off2 : ∀ a ∈ F, a ∉ ρ2 := fun a ha z => by
      obtain ⟨N, e, _, f, _⟩ := n2.stp
      rw [e] at z
      rcases List.mem_append.mp z with z | z
      · exact hd.out a ha z
      · exact hd.th a ha (f a (List.mem_append_left _ z))
    obtain ⟨st', e3, h⟩ : ∃ st', setI d1 d2 d st2 = .ok () st' ∧ PostA Z (.ok env st') ρ H F (tgN (.sub A B)) σ Q := by
      unfold bnd at h
      cases e : setI d1 d2 d st2 with
      | ok u s' => rw [e] at h; exact ⟨s', rfl, h⟩
      | exc x s' => rw [e] at h; exact h.elim
      | bad => rw [e] at h; exact h.elim
    refine ⟨ρ2, st2, d1, d2, d, F, G1, G2, ⟨sr2, hd.nd, off2, rd2.there⟩, r1', r2, rd2, st', e3, fun ρ' H' t3 sr3 w => ?_⟩
    have er2 := n2.stp.env hd.sr er
    obtain ⟨N, a, o', rfl, ha, rfl⟩ := w
    refine h _ _ σ ?_ sr3 ?_ Sm.id
    · obtain ⟨M, eM, nd, f, k⟩ := n2.stp
      obtain ⟨N', e', nN, fN, kN⟩ := t3
      obtain rfl : N = N' := List.append_cancel_left e'
      subst eM
      refine ⟨M ++ N, by simp [List.append_assoc], ?_, ?_, fun b o q z y => ?_⟩
      · refine List.nodup_append.mpr ⟨(List.nodup_append.mp nd).1, nN, fun b hb c hc e => ?_⟩
        subst e
        rcases fN b hc with z | z
        · exact hd.th b z (f b (List.mem_append_left _ hb))
        · exact sr2.has (List.mem_append_right _ hb) z
      · intro b hb
        rcases List.mem_append.mp hb with hb | hb
        · exact .inr (f b (List.mem_append_left _ hb))
        · rcases fN b hb with z | z
          · exact .inl z
          · by_cases hr : b ∈ ρ
            · exact absurd z (sr2.has (List.mem_append_left _ hr))
            · cases e : H b with
              | none => exact .inr rfl
              | some o => have := k b o e hr; rw [z] at this; cases this
      · refine kN b o (k b o q z) (fun w => ?_) y
        rcases List.mem_append.mp w with w | w
        · exact z w
        · rw [f b (List.mem_append_left _ w)] at q; cases q
    · refine ⟨er2.1, fun j dj hj => ?_⟩
      obtain ⟨vj, hv, rj⟩ := er2.2 j dj hj
      obtain ⟨oa, hoa, hka⟩ := sr2.hcell ha
      exact ⟨vj, hv, (rj.updF hoa hka (by simp)).wide⟩⟩
end
end Fs
namespace Fs
open PySem PySem.Spec PyProof.Rows Srt
section
variable {prog : Program} {w : World} {A : Around} {s : Shared}
theorem swo_lexL (k : Value → List Int) : SrtO.Swo fun v u => lexL (k v) (k u) :=
  ⟨fun x y h => lex_asym h, fun x y z h1 h2 => lexLe_trans h1 h2⟩
def lexF (fin : Bool) : List Int → List Int → Bool
  | x :: xs, y :: ys => if x = y then lexF fin xs ys else decide (x < y)
  | _, _ => fin
theorem lexF_eq : ∀ {a b : List Int} {fin : Bool}, (fin = decide (a.length < b.length)) → lexF fin a b = lexL a b
  | [], [], fin, h => by simp [lexF, lexL, h]
  | [], _ :: _, fin, h => by simp [lexF, lexL, h]
  | _ :: _, [], fin, h => by simp [lexF, lexL, h]
  | x :: a, y :: b, fin, h => by
    have ih := lexF_eq (a := a) (b := b) (fin := fin) (by rw [h]; simp)
    simp only [lexF, lexL, ih]
theorem kat_ints {b fin : Bool} : ∀ {ms ns : List Int} {us vs : List Value}, IntsAre us ms → IntsAre vs ns → ∀ i : Nat, PySem.W.KatLex prog w A b fin (fun r s' => s' = s ∧ r = lexF fin ms ns) (us.zip vs) i s
  | [], _, _, _, .nil, _, i => PySem.W.kat_nil ⟨rfl, by simp [lexF]⟩
  | _ :: _, [], _, _, .cons .., .nil, i => PySem.W.kat_nil ⟨rfl, by simp [lexF]⟩
  | x :: ms, y :: ns, _, _, .cons _ t hu, .cons _ t' hv, i => by
    refine PySem.W.kat_cons (SeqAt.EqAt.int_int x t y t' prog w _ _ ?_)
    refine PySem.W.kat_go (fun e1 => ?_) (fun e1 => ?_)
    · have ex : x = y := by simpa using e1
      have e3 : lexF fin (x :: ms) (y :: ns) = lexF fin ms ns := by simp only [lexF, if_pos ex]
      rw [e3]
      exact PySem.W.kat_yes (kat_ints hu hv (i + 1))
    · have ex : ¬ x = y := by simpa using e1
      have e3 : lexF fin (x :: ms) (y :: ns) = decide (x < y) := by simp only [lexF, if_neg ex]
      rw [e3]
      exact PySem.W.kat_no (TS.oneLt_ints _ ⟨rfl, rfl⟩)
theorem tups_cmp {vs : List Value} {k : Value → List Int} (hp : ∀ v ∈ vs, TS.TupInts s.heap v (k v)) : SrtO.Cmp prog w A s (tuples' true) (fun p => p.1 ∈ vs) (SrtO.lt2 fun v u => lexL (k v) (k u)) := by
  intro p q hm hm'
  obtain ⟨a, xs, e, ⟨o, ho, hc, n, hd⟩, i⟩ := hp _ hm
  obtain ⟨a', xs', e', ⟨o', ho', hc', n', hd'⟩, i'⟩ := hp _ hm'
  show wpAny (model prog w) A (keyLt' (tuples' true) p.1 q.1) (fun r s' => s' = s ∧ r = lexL (k p.1) (k q.1)) (fun _ _ => False) s
  generalize k p.1 = m at i ⊢
  generalize k q.1 = m' at i' ⊢
  rw [e, e']
  refine PySem.W.kat_lt ho hd ho' hd' ?_
  have hl : m.length = xs.size := by have := i.length; simpa using this.symm
  have hl' : m'.length = xs'.size := by have := i'.length; simpa using this.symm
  have := kat_ints (prog := prog) (w := w) (A := A) (s := s) (b := true) (fin := decide (xs.size < xs'.size)) i i' 0
  rw [lexF_eq (by rw [hl, hl'])] at this
  exact this
theorem firsts_any {h : Heap} {k : Value → List Int} : ∀ {vs : List Value}, (∀ v ∈ vs, TS.TupInts h v (k v) ∧ k v ≠ []) → ∃ fs : List Value, PySem.W.KatTups h vs fs ∧ fs.length = vs.length ∧ ∀ f ∈ fs, ∃ x t, f = Value.int x t
  | [], _ => ⟨[], PySem.W.KatTups.nil, rfl, fun f hf => by simp at hf⟩
  | v :: vs, hp => by
    obtain ⟨fs, h1, h2, h3⟩ := firsts_any (vs := vs) fun v' hm => hp v' (List.mem_cons_of_mem _ hm)
    obtain ⟨⟨a, xs, e, ⟨o, ho, hc, n, hd⟩, i⟩, hne⟩ := hp v List.mem_cons_self
    generalize k v = m at i hne
    cases m with
    | nil => exact absurd rfl hne
    | cons x m =>
      have hx0 : ∃ t, xs[0]? = some (.int x t) := by
        obtain ⟨t, ht⟩ := IntsAre.int_at i 0 (xs.toList.getD 0 .none) (by
          have hl := i.length
          simp only [List.length_cons] at hl
          rw [List.getD_eq_getElem?_getD, List.getElem?_eq_getElem (by omega)]; rfl)
        have hl := i.length
        simp only [List.length_cons, Array.length_toList] at hl
        refine ⟨t, ?_⟩
        rw [← Array.getElem?_toList]
        rw [List.getD_eq_getElem?_getD, List.getElem?_eq_getElem (by rw [Array.length_toList]; omega)] at ht
        rw [List.getElem?_eq_getElem (by rw [Array.length_toList]; omega)]
        simpa using ht
      obtain ⟨t, ht⟩ := hx0
      rw [e]
      refine ⟨.int x t :: fs, PySem.W.KatTups.cons ho hc hd ht h1, by rw [List.length_cons, List.length_cons, h2], ?_⟩
      intro f hf
      rcases List.mem_cons.1 hf with rfl | hf
      · exact ⟨x, t, rfl⟩
      · exact h3 f hf
theorem tups_sortableO {a : Addr} {vs : List Value} {k : Value → List Int} (h0 : 0 < vs.length) (hp : ∀ v ∈ vs, TS.TupInts s.heap v (k v) ∧ k v ≠ []) (ha : ∀ o, s.heap.get? a = some o → o.cls ≠ .type "tuple") : SrtO.SortableO prog w A s a vs fun v u => lexL (k v) (k u) := by
  intro h' keep
  have hp' : ∀ v ∈ vs, TS.TupInts h' v (k v) ∧ k v ≠ [] := fun v hm => ⟨(hp v hm).1.keeps fun b o e c => keep b o (fun z => by subst z; exact ha o e c) e, (hp v hm).2⟩
  obtain ⟨fs, h1, h2, h3⟩ := firsts_any hp'
  refine ⟨tuples' true, fun Q E hq => ?_, tups_cmp (s := { s with heap := h' }) fun v hm => (hp' v hm).1⟩
  refine PySem.W.kat_kind (T := .type "int") h1 (by omega) (fun f hm => ?_) (by rfl) ?_
  · obtain ⟨x, t, rfl⟩ := h3 f hm
    exact PySem.W.Looks.now
  · have e : (Value.type "int" != Value.type "tuple") = true := by first | decide +kernel | rfl | decide
    rw [e]
    exact hq
end
end Fs
namespace Fs
open PySem PySem.Spec PyProof.Rows L2
/-- an empty set, newly made -/
abbrev eSet (w : World) : Obj := { cls := .type "set", dict := none, data := .set #[] 0 (.fresh 0 0 (!w.params.followText "set-order")) }
section
variable {P : Program} {w : World} {A : Around} {E : Value → Shared → Prop} {s : Shared}
set_option maxHeartbeats 3200000 in
theorem call_set_lst {b : Addr} {its : Array Value} (ks : List Int) {Q : Value → Shared → Prop} (h0 : A.handled = none) (hb : s.heap.IsList b its) (hi : IntsAre its.toList ks) (hB : ks.length + 1 < scanBound)
    (fin : ∀ (h2 : Heap) (tk c : Nat), SetR w h2 s.heap.objs.size (fun j => decide (j ∈ ks)) c → c ≤ ks.length → (∀ b o, s.heap.get? b = some o → h2.get? b = some o) → Q (.ref s.heap.objs.size) { s with heap := h2, toks := tk }) :
    wpAny (model P w) A (PySem.call (.type "set") [.ref b]) Q E s := by
  have hn : its.size = ks.length := by have q := IntsAre.length hi; rwa [Array.length_toList] at q
  obtain ⟨c0, tl0, z1⟩ := F.called_set.mro
  have z2 := F.called_set.made; have z3 := F.called_set.sub
  refine wpAny_call (codeAny_of_tree ?_)
  show wpAny _ _ (callAny (.type "set") _) _ _ _
  refine wpAny_pure ⟨Code.quiet_builtin _ (by decide +kernel), codeAny_builtin F.entry_type_call ?_⟩
  rw [Around.under_plain (weight_type_call_type "set" [.ref b] []) rfl]
  have z4 := F.called_set.notType; have z5 := F.called_set.canCreate; have z6 := F.typeCall_set_1 (.ref b)
  repeat (any_goals (first | assumption | wp_step))
  refine codeAny_mono (code_set_led1 (.ref b) (E := E) (Q₁ := fun v s1 => v = .ref s.heap.objs.size ∧ s1 = { s with heap := s.heap.push (eSet w) }) ⟨rfl, rfl⟩) fun r1 s1 e1 => ?_
  cases r1 with
  | error x => exact e1
  | ok fl =>
    cases fl with
    | ret v0 =>
      obtain ⟨rfl, rfl⟩ := e1
      have k1 : (s.heap.push (eSet w)).get? s.heap.objs.size = some (eSet w) := Heap.get?_push_size _ rfl
      have k2 : Shared.TypeIs { s with heap := s.heap.push (eSet w) } (.ref s.heap.objs.size) "set" := ⟨_, k1, rfl⟩
      have z7 := F.called_set.init.lookup; have z8 := F.called_set.init.bind (.ref s.heap.objs.size)
      repeat (any_goals (first | assumption | wp_step))
      refine codeAny_mono (codeAny_call_builtin (R := wants (fun r s2 => r = .none ∧ ∃ h2 tk c, s2 = { s with heap := h2, toks := tk } ∧ SetR w h2 s.heap.objs.size (fun j => decide (j ∈ ks)) c ∧ c ≤ ks.length ∧ (∀ b o, s.heap.get? b = some o → h2.get? b = some o)) E) F.called_set.init.plain F.entry_set_init (check_set_init_1 k2 ?_)) fun r2 s2 e2 => ?_
      · obtain ⟨⟨ocls, odict, odata, oslots⟩, ho, hc, m, hd⟩ := hb
        simp only at hc hd
        subst hc; subst hd
        have k3 : (s.heap.push (eSet w)).get? b = some { cls := .type "list", dict := odict, data := .seq its m, slots := oslots } := Heap.get?_push_of_some _ ho
        have y1 := F.sub_list_set; have y2 := F.sub_list_frozenset
        have y3 : (Value.type "list" == Value.type "dict") = false := by decide
        have k4 : (s.heap.push (eSet w)).IsList b its := ⟨_, k3, rfl, m, rfl⟩
        unfold Builtin.«set.__init__» noKeywords Builtin.Frozenset.updateFrom
        generalize hPI : pyIter = PI
        wp_walk
        subst hPI
        refine wpAny_pyIter_list k4 (wpAny_bind (wpAny_runValue ?_))
        have k5 : b < s.heap.objs.size := Heap.lt_size ho
        have y4 : A.in1.in1.in1.handled = none := by simp [h0]
        have y5 : b ≠ (s.heap.push (eSet w)).objs.size := by rw [Heap.size_push]; exact Nat.ne_of_lt (Nat.lt_succ_of_lt k5)
        have y6 : s.heap.objs.size ∉ [(s.heap.push (eSet w)).objs.size, b] := by
          rw [Heap.size_push]; simp only [List.mem_cons, List.mem_singleton, List.not_mem_nil, or_false, not_or]
          exact And.intro (Nat.ne_of_lt (Nat.lt_succ_self _)) (Nat.ne_of_gt k5)
        have y7 : ∀ (i : Nat) (v : Value), its[i]? = some v → ∃ k t, ks[i]? = some k ∧ v = .int k t := by
          intro i v hv
          have hlt : i < ks.length := by rw [← hn]; exact (Array.getElem?_eq_some_iff.mp hv).1
          obtain ⟨t, e⟩ := PyProof.Rows.IntsAre.int_at hi i v (by rw [Array.getElem?_toList]; exact hv)
          exact ⟨ks[i], t, List.getElem?_eq_getElem hlt, by rw [e, List.getD_eq_getElem?_getD, List.getElem?_eq_getElem hlt]; rfl⟩
        refine set_update_ints ((Walks.list y4 _ b y5 its).toS) s.heap.objs.size y6 ks hn hB y7 (its.size - 0) 0 _ (by omega) (Nat.zero_le _) ⟨⟨_, Heap.get?_push_size _ rfl, rfl, rfl⟩, (k4.push _)⟩ ?hA ?hZ
        case hA =>
          have k6 : ((s.heap.push (eSet w)).push { cls := .type "list_iterator", data := .fields #[.ref b, .int 0 0] }).get? s.heap.objs.size = some (eSet w) := Heap.get?_push_of_some _ k1
          exact ⟨0, Nat.le_refl 0, setR_new_at k6⟩
        case hZ =>
          rintro ⟨h2, g2, d2, t2, o2⟩ c2 hm hc2 hS2
          obtain rfl : g2 = s.gens := hm.gens
          obtain rfl : d2 = s.drawn := hm.drawn
          obtain rfl : o2 = s.os := hm.os
          show wpAny _ _ _ _ _ _
          refine wpAny_pure ?_
          show wpAny _ _ (PySem.ret Value.none) _ _ _
          rw [hn] at hc2
          refine wpAny_pure ⟨rfl, h2, t2, c2, rfl, hS2, hc2, fun x o e => ?_⟩
          have x0 : x < s.heap.objs.size := Heap.lt_size e
          have x1 : x ≠ s.heap.objs.size := Nat.ne_of_lt x0
          have x2 : x ≠ (s.heap.push (eSet w)).objs.size := by rw [Heap.size_push]; exact Nat.ne_of_lt (Nat.lt_succ_of_lt x0)
          refine hm.heap x o ?_ (Heap.get?_push_of_some _ (Heap.get?_push_of_some _ e))
          simp only [List.mem_cons, List.mem_singleton, List.not_mem_nil, or_false, not_or]
          exact ⟨x1, x2⟩
      · cases r2 with
        | error x => exact e2
        | ok f2 =>
          cases f2 with
          | ret v2 =>
            obtain ⟨rfl, h2, tk, c2, rfl, hS2, hc2, hk2⟩ := e2
            repeat (any_goals (first | assumption | wp_step))
            exact fin _ _ _ hS2 hc2 hk2
          | _ => exact e2.elim
    | _ => exact e1.elim
end
end Fs
namespace Fs
open PySem L2 PyProof.Rows PySem.Spec
/-- a call by values does what f says -/
def rL (Z : Wc) (W : WX) (σ : L2.St) (f : List D → M D) : List V → Hp → VK → Prop := fun vs H2 Q => ∃ ρ st H ρ2 st2 ds F, SR Z ρ st H ∧ Now Z ρ H ρ2 st2 H2 F ∧ Rps Z ρ2 H2 ds vs F ∧ Post (Rp Z) Z W (f ds st2) ρ σ H Q
section
variable {Z : Wc} {ρ : List Addr} {H : Hp} {st : Sto}
theorem ints_ok : ∀ {ds : List D} {vs : List V} {F : List Addr} {ns : List Int}, Rps Z ρ H ds vs F → optL intv ds = some ns → vs = ns.map V.int ∧ ds = ns.map D.int
  | [], vs, F, ns, r, e => by obtain ⟨rfl, _⟩ := r; cases e; exact ⟨rfl, rfl⟩
  | d :: ds, vs, F, ns, r, e => by
    obtain ⟨v, ws, F1, F2, rfl, r1, r2, _⟩ := r
    simp only [optL] at e
    cases d with
    | int i =>
      simp only [intv] at e
      cases e2 : optL intv ds with
      | none => rw [e2] at e; cases e
      | some ms =>
        rw [e2] at e
        cases e
        obtain ⟨rfl, rfl⟩ := ints_ok r2 e2
        obtain ⟨rfl, _⟩ := r1
        exact ⟨rfl, rfl⟩
    | _ => simp [intv] at e
theorem bls_ok : ∀ {ds : List D} {vs : List V} {F : List Addr} {ns : List Bool}, Rps Z ρ H ds vs F → optL blv ds = some ns → vs = ns.map V.bl
  | [], vs, F, ns, r, e => by obtain ⟨rfl, _⟩ := r; cases e; rfl
  | d :: ds, vs, F, ns, r, e => by
    obtain ⟨v, ws, F1, F2, rfl, r1, r2, _⟩ := r
    simp only [optL] at e
    cases d with
    | bl i =>
      simp only [blv] at e
      cases e2 : optL blv ds with
      | none => rw [e2] at e; cases e
      | some ms =>
        rw [e2] at e
        cases e
        obtain rfl := bls_ok r2 e2
        obtain ⟨rfl, _⟩ := r1
        rfl
    | _ => simp [blv] at e
theorem Rps.ofInts : ∀ ns : List Int, Rps Z ρ H (ns.map D.int) (ns.map V.int) []
  | [] => ⟨rfl, rfl⟩
  | n :: ns => ⟨.int n, ns.map V.int, [], [], rfl, ⟨rfl, rfl⟩, Rps.ofInts ns, rfl⟩
theorem insI_perm (i : Int) : ∀ r : List Int, (insI i r).Perm (i :: r)
  | [] => .refl _
  | j :: r => by
    simp only [insI]
    split
    · exact (List.Perm.cons j (insI_perm i r)).trans (List.Perm.swap i j r)
    · exact .refl _
theorem sortI_perm : ∀ l : List Int, (sortI l).Perm l
  | [] => .refl _
  | a :: l => (insI_perm a (sortI l)).trans (List.Perm.cons a (sortI_perm l))
theorem insI_sorted (i : Int) : ∀ r : List Int, r.Pairwise (· ≤ ·) → (insI i r).Pairwise (· ≤ ·)
  | [], _ => by simp [insI]
  | j :: r, h => by
    obtain ⟨h1, h2⟩ := List.pairwise_cons.mp h
    simp only [insI]
    split
    · rename_i hij
      refine List.pairwise_cons.mpr ⟨fun x hx => ?_, insI_sorted i r h2⟩
      rcases List.mem_cons.mp ((insI_perm i r).mem_iff.mp hx) with rfl | hx
      · exact hij
      · exact h1 x hx
    · rename_i hij
      refine List.pairwise_cons.mpr ⟨fun x hx => ?_, h⟩
      rcases List.mem_cons.mp hx with rfl | hx
      · omega
      · exact Int.le_trans (by omega) (h1 x hx)
theorem sortI_sorted : ∀ l : List Int, (sortI l).Pairwise (· ≤ ·)
  | [] => .nil
  | a :: l => insI_sorted a _ (sortI_sorted l)
theorem sorted_eq : ∀ {l m : List Int}, l.Perm m → l.Pairwise (· ≤ ·) → m.Pairwise (· ≤ ·) → l = m
  | [], m, p, _, _ => (List.nil_perm.mp p).symm
  | a :: l, [], p, _, _ => absurd (List.perm_nil.mp p) (by simp)
  | a :: l, b :: m, p, hl, hm => by
    obtain ⟨h1, h2⟩ := List.pairwise_cons.mp hl
    obtain ⟨h3, h4⟩ := List.pairwise_cons.mp hm
    have e : a = b := by
      have k1 : b ≤ a := by
        rcases List.mem_cons.mp (p.mem_iff.mp List.mem_cons_self) with e | e
        · omega
        · exact h3 a e
      have k2 : a ≤ b := by
        rcases List.mem_cons.mp (p.mem_iff.mpr List.mem_cons_self) with e | e
        · omega
        · exact h1 b e
      omega
    subst e
    rw [sorted_eq p.cons_inv h2 h4]
end
section
variable {X : L2.Cx} {T : Tbl} {Z : Wc} {W : WX} {σ0 : L2.St} {e : Expr} {es : List Expr} {As : List Ex} {pos p : Pos} {x : Str} {id : String}
theorem one1 {ρ : List Addr} {H : Hp} {vs : List V} {F : List Addr} {d : D} (r : Rps Z ρ H [d] vs F) : ∃ v, vs = [v] ∧ Rp Z ρ H d v F := by
  obtain ⟨v, ws, F1, F2, rfl, r1, ⟨rfl, rfl⟩, rfl⟩ := r
  exact ⟨v, rfl, by simpa using r1⟩
theorem opt_ok' {α β : Type} {rel : Rel α β} {γ : Type} {o : Option γ} {f : γ → M α} {st : Sto} {ρ : List Addr} {H : Hp} {Q : β → Hp → Prop} (h : Post rel Z W (opt o f st) ρ σ0 H Q) : ∃ c, o = some c ∧ Post rel Z W (f c st) ρ σ0 H Q := opt_ok h
theorem gd_ok {α β : Type} {rel : Rel α β} {b : Bool} {m : M α} {st : Sto} {ρ : List Addr} {H : Hp} {Q : β → Hp → Prop} (h : Post rel Z W (gd b m st) ρ σ0 H Q) : b = true ∧ Post rel Z W (m st) ρ σ0 H Q := by
  cases b with
  | true => exact ⟨rfl, h⟩
  | false => exact h.elim
/-- a call of one argument -/
theorem callOne {f : Value} {g : D → M D} (h : ∀ (pins : List (Addr × Obj)) (s : Shared) (σ : L2.St) (H : Hp) (x : V) (us : List Value) (Q : VK) (ρ : List Addr) (st : Sto) (H0 : Hp) (ρ2 : List Addr) (st2 : Sto) (d : D) (F : List Addr), Inv X pins σ H s → Vals [x] us → SR Z ρ st H0 → Now Z ρ H0 ρ2 st2 H F → Rp Z ρ2 H d x F → Post (Rp Z) Z W (g d st2) ρ σ0 H0 Q →
    wpAny (model X.prog X.w) X.A (PySem.call f us) (EP X pins σ Q) X.xe s) : CallR X f (rL Z W σ0 (b1 g)) := by
  intro pins s σ H vs us Q I rv ⟨ρ, st, H0, ρ2, st2, ds, F, sr, n, r, q⟩
  match ds, r, q with
  | [], _, q => exact q.elim
  | [d], r, q =>
    obtain ⟨v, rfl, r1⟩ := one1 r
    exact h pins s σ H v us Q ρ st H0 ρ2 st2 d F I rv sr n r1 q
  | _ :: _ :: _, _, q => exact q.elim
theorem callTwo {f : Value} {g : D → D → M D} (h : ∀ (pins : List (Addr × Obj)) (s : Shared) (σ : L2.St) (H : Hp) (x y : V) (us : List Value) (Q : VK) (ρ : List Addr) (st : Sto) (H0 : Hp) (ρ2 : List Addr) (st2 : Sto) (d e : D) (F G : List Addr), Inv X pins σ H s → Vals [x, y] us → SR Z ρ st H0 → Now Z ρ H0 ρ2 st2 H (F ++ G) → Rp Z ρ2 H d x F → Rp Z ρ2 H e y G → Post (Rp Z) Z W (g d e st2) ρ σ0 H0 Q →
    wpAny (model X.prog X.w) X.A (PySem.call f us) (EP X pins σ Q) X.xe s) : CallR X f (rL Z W σ0 (b2 g)) := by
  intro pins s σ H vs us Q I rv ⟨ρ, st, H0, ρ2, st2, ds, F, sr, n, r, q⟩
  match ds, r, q with
  | [], _, q => exact q.elim
  | [d], _, q => exact q.elim
  | [d, e], r, q =>
    obtain ⟨v, ws, F1, F2, rfl, r1, r2, rfl⟩ := r
    obtain ⟨u, rfl, r3⟩ := one1 r2
    exact h pins s σ H v u us Q ρ st H0 ρ2 st2 d e F1 F2 I rv sr n r1 r3 q
  | _ :: _ :: _ :: _, _, q => exact q.elim
theorem RpT.len {ρ : List Addr} {H : Hp} : ∀ {kvs : List (Ky × D)} {ws : List (List L2.Key × V)} {F : List Addr}, RpT Z ρ H kvs ws F → kvs.length = ws.length
  | [], ws, F, r => by obtain ⟨rfl, _⟩ := r; rfl
  | (k, d) :: kvs, ws, F, r => by
    obtain ⟨j, v, ws', F1, F2, _, rfl, _, h2, _⟩ := r
    rw [List.length_cons, List.length_cons, RpT.len h2]
theorem bi_len (hK : X.K = Z.K) : CallR X (.builtin "len") (rL Z W σ0 (b1 fLen)) := callOne fun pins s σ H x us Q ρ st H0 ρ2 st2 d F I rv sr n r h => by
  unfold fLen at h
  split at h
  · obtain ⟨hz, h⟩ := gd_ok h
    obtain ⟨rfl, rfl⟩ := r
    exact call_len_str pins s σ H _ us Q I rv ⟨_, rfl, of_decide_eq_true hz, Post.ok h n ⟨rfl, rfl⟩⟩
  · split at h
    · rename_i xs hx
      obtain ⟨a, vs, G, rfl, ha, rs, sub⟩ := seqv_ok n.sr r hx
      exact call_len_seq pins s σ H _ us Q I rv ⟨a, vs, rfl, by rw [hK]; exact ha, by rw [← rs.length]; exact Post.ok h (n.less (List.nil_sublist _)) ⟨rfl, rfl⟩⟩
    · split at h
      · rename_i kvs hd
        obtain ⟨a, G, rfl, hh, sub⟩ := dicv_ok n.sr r hd
        rcases hh with ⟨ws, ha, rk⟩ | ⟨ws, ha, rk⟩
        · have hlen : kvs.length = ws.length := by simpa using congrArg List.length rk.keysEq
          exact call_lenD pins s σ H _ us Q I rv ⟨a, ws, rfl, ha, by rw [← hlen]; exact Post.ok h (n.less (List.nil_sublist _)) ⟨rfl, rfl⟩⟩
        · have hlen : kvs.length = ws.length := rk.len
          exact L2.call_len_dT pins s σ H _ us Q I rv ⟨a, ws, rfl, ha, by rw [← hlen]; exact Post.ok h (n.less (List.nil_sublist _)) ⟨rfl, rfl⟩⟩
      · exact h.elim
/-- a list, held, known or fresh -/
theorem lseq_ok {ρ : List Addr} {H : Hp} {st : Sto} {d : D} {x : V} {F : List Addr} {xs : List D} (s : SR Z ρ st H) (r : Rp Z ρ H d x F) (e : seqv st d = some xs) (hnt : ∀ ys, d = .tup ys → False) : ∃ a vs G, x = .ref a ∧ SqL Z.K H a vs ∧ Rps Z ρ H xs vs G ∧ G.Sublist F := by
  cases d with
  | tup xs => exact (hnt xs rfl).elim
  | lst xs =>
    obtain ⟨b, vs2, G2, rfl, hb, rs, rfl⟩ := r
    cases e
    exact ⟨b, vs2, G2, rfl, SqL.of hb, rs, List.sublist_cons_self _ _⟩
  | ref l =>
    obtain ⟨b, hl, rfl, rfl⟩ := r
    simp only [seqv] at e
    split at e
    · rename_i hc
      cases e
      obtain ⟨ws, hw, rw'⟩ := s.list hl (.inl hc)
      exact ⟨b, ws, [], rfl, hw, rw', List.Sublist.refl _⟩
    · rename_i hc
      cases e
      obtain ⟨ws, hw, rw'⟩ := s.list hl (.inr hc)
      exact ⟨b, ws, [], rfl, hw, rw', List.Sublist.refl _⟩
    · cases e
  | _ => simp [seqv] at e
theorem lInt_ok {ρ : List Addr} {H : Hp} {st : Sto} {d : D} {x : V} {F : List Addr} {ns : List Int} (s : SR Z ρ st H) (r : Rp Z ρ H d x F) (e : lInt st d = some ns) : ∃ a, x = .ref a ∧ SqL Z.K H a (ns.map V.int) := by
  unfold lInt at e
  split at e
  · rename_i xs hx
    split at e
    · cases e
    · rename_i hnt
      obtain ⟨a, vs, G, rfl, ha, rs, sub⟩ := lseq_ok s r hx hnt
      obtain ⟨rfl, _⟩ := ints_ok rs e
      exact ⟨a, rfl, ha⟩
  · cases e
theorem lBl_ok {ρ : List Addr} {H : Hp} {st : Sto} {d : D} {x : V} {F : List Addr} {ns : List Bool} (s : SR Z ρ st H) (r : Rp Z ρ H d x F) (e : lBl st d = some ns) : ∃ a, x = .ref a ∧ SqL Z.K H a (ns.map V.bl) := by
  unfold lBl at e
  split at e
  · rename_i xs hx
    split at e
    · cases e
    · rename_i hnt
      obtain ⟨a, vs, G, rfl, ha, rs, sub⟩ := lseq_ok s r hx hnt
      obtain rfl := bls_ok rs e
      exact ⟨a, rfl, ha⟩
  · cases e
theorem bi_sum (hK : X.K = Z.K) (hc : X.calm = true) : CallR X (.builtin "sum") (rL Z W σ0 (b1 fSum)) := callOne fun pins s σ H x us Q ρ st H0 ρ2 st2 d F I rv sr n r h => by
  obtain ⟨ns, e, h⟩ := opt_ok h
  obtain ⟨a, rfl, ha⟩ := lInt_ok n.sr r e
  exact cr_sum hc pins s σ H _ us Q I rv ⟨a, ns, rfl, by rw [hK]; exact ha, Post.ret h (n.less (List.nil_sublist _)) ⟨rfl, rfl⟩⟩
theorem bi_all (hK : X.K = Z.K) (hc : X.calm = true) : CallR X (.builtin "all") (rL Z W σ0 (b1 fAll)) := callOne fun pins s σ H x us Q ρ st H0 ρ2 st2 d F I rv sr n r h => by
  obtain ⟨ns, e, h⟩ := opt_ok h
  obtain ⟨a, rfl, ha⟩ := lBl_ok n.sr r e
  exact cr_all hc pins s σ H _ us Q I rv ⟨a, ns, rfl, by rw [hK]; exact ha, Post.ret h (n.less (List.nil_sublist _)) ⟨rfl, rfl⟩⟩
theorem bi_any (hK : X.K = Z.K) (hc : X.calm = true) : CallR X (.builtin "any") (rL Z W σ0 (b1 fAny)) := callOne fun pins s σ H x us Q ρ st H0 ρ2 st2 d F I rv sr n r h => by
  obtain ⟨ns, e, h⟩ := opt_ok h
  obtain ⟨a, rfl, ha⟩ := lBl_ok n.sr r e
  exact cr_any hc pins s σ H _ us Q I rv ⟨a, ns, rfl, by rw [hK]; exact ha, Post.ret h (n.less (List.nil_sublist _)) ⟨rfl, rfl⟩⟩
theorem bi_abs : CallR X (.builtin "abs") (rL Z W σ0 (b1 fAbs)) := callOne fun pins s σ H x us Q ρ st H0 ρ2 st2 d F I rv sr n r h => by
  cases d with
  | int i =>
    obtain ⟨rfl, rfl⟩ := r
    exact call_abs pins s σ H _ us Q I rv ⟨i, rfl, Post.ret h n ⟨rfl, rfl⟩⟩
  | _ => exact h.elim
theorem bi_min2 (hc : X.calm = true) : CallR X (.builtin "min") (rL Z W σ0 (b2 fMin2)) := callTwo fun pins s σ H x y us Q ρ st H0 ρ2 st2 d e F G I rv sr n r1 r2 h => by
  unfold fMin2 at h
  split at h
  · obtain ⟨rfl, rfl⟩ := r1
    obtain ⟨rfl, rfl⟩ := r2
    exact call_min2 hc pins s σ H _ us Q I rv ⟨_, _, rfl, Post.ret h n ⟨rfl, rfl⟩⟩
  · exact h.elim
theorem bi_max2 (hc : X.calm = true) : CallR X (.builtin "max") (rL Z W σ0 (b2 fMax2)) := callTwo fun pins s σ H x y us Q ρ st H0 ρ2 st2 d e F G I rv sr n r1 r2 h => by
  unfold fMax2 at h
  split at h
  · obtain ⟨rfl, rfl⟩ := r1
    obtain ⟨rfl, rfl⟩ := r2
    exact call_max2 hc pins s σ H _ us Q I rv ⟨_, _, rfl, Post.ret h n ⟨rfl, rfl⟩⟩
  · exact h.elim
theorem bi_tuple (hK : X.K = Z.K) : CallR X (.type "tuple") (rL Z W σ0 (b1 fTuple)) := callOne fun pins s σ H x us Q ρ st H0 ρ2 st2 d F I rv sr n r h => by
  obtain ⟨xs, e, h⟩ := opt_ok h
  obtain ⟨a, vs, G, rfl, ha, rs, sub⟩ := seqv_ok n.sr r e
  rcases ha with ha | ha
  · exact call_tuple_of pins s σ H _ us Q I rv ⟨a, vs, rfl, .inl ⟨by rw [hK]; exact ha, fun p hp => Post.ret h ((n.newS sr hp).less sub) ⟨p, vs, rfl, SqT.of upd_same, rps_up hp rs⟩⟩⟩
  · exact call_tuple_of pins s σ H _ us Q I rv ⟨a, vs, rfl, .inr ⟨by rw [hK]; exact ha, Post.ret h (n.less sub) ⟨a, vs, rfl, ha, rs⟩⟩⟩
theorem bi_list (hK : X.K = Z.K) : CallR X (.type "list") (rL Z W σ0 (b1 fList)) := callOne fun pins s σ H x us Q ρ st H0 ρ2 st2 d F I rv sr n r h => by
  obtain ⟨xs, e, h⟩ := opt_ok h
  obtain ⟨a, vs, G, rfl, ha, rs, sub⟩ := seqv_ok n.sr r e
  exact call_list_of pins s σ H _ us Q I rv ⟨a, vs, rfl, by rw [hK]; exact ha, fun p hp => Post.ret h ((n.new sr hp).less (List.cons_sublist_cons.mpr sub)) ⟨p, vs, G, rfl, upd_same, rps_up hp rs, rfl⟩⟩
/-- the values are tuples of these ints -/
def TL (K : PySem.W.Frag) (H : Hp) : List V → List (List Int) → Prop
  | [], [] => True
  | x :: xs, l :: ls => TupI K H x l ∧ TL K H xs ls
  | _, _ => False
theorem tl_of {ρ : List Addr} {H : Hp} : ∀ {ds : List D} {vs : List V} {F : List Addr} {ls : List (List Int)}, Rps Z ρ H ds vs F → optL tupI ds = some ls → TL Z.K H vs ls
  | [], vs, F, ls, r, e => by obtain ⟨rfl, _⟩ := r; cases e; trivial
  | d :: ds, vs, F, ls, r, e => by
    obtain ⟨v, ws, F1, F2, rfl, r1, r2, _⟩ := r
    simp only [optL] at e
    cases d with
    | tup ys =>
      simp only [tupI] at e
      cases e1 : optL intv ys with
      | none => rw [e1] at e; cases e
      | some l =>
        rw [e1] at e
        cases e2 : optL tupI ds with
        | none => rw [e2] at e; cases e
        | some ms =>
          rw [e2] at e
          cases e
          obtain ⟨t, us, rfl, ht, rs⟩ := r1
          obtain ⟨rfl, _⟩ := ints_ok rs e1
          exact ⟨⟨t, rfl, ht⟩, tl_of r2 e2⟩
    | _ => simp [tupI] at e
theorem tl_rps {ρ : List Addr} {H : Hp} : ∀ {vs : List V} {ls : List (List Int)}, TL Z.K H vs ls → Rps Z ρ H (ls.map fun l => D.tup (l.map D.int)) vs []
  | [], [], _ => ⟨rfl, rfl⟩
  | x :: xs, l :: ls, h => by
    obtain ⟨⟨t, rfl, ht⟩, h2⟩ := h
    exact ⟨.ref t, xs, [], [], rfl, ⟨t, _, rfl, ht, Rps.ofInts l⟩, tl_rps h2, rfl⟩
  | [], _ :: _, h => h.elim
  | _ :: _, [], h => h.elim
theorem tl_vals {pins : List (Addr × Obj)} {σ : L2.St} {H : Hp} {s : Shared} (I : Inv X pins σ H s) : ∀ (vs : List V) (us : List Value) (ls : List (List Int)), Vals vs us → TL X.K H vs ls → us.map (TS.intsOf s.heap) = ls ∧ ∀ u ∈ us, TS.TupInts s.heap u (TS.intsOf s.heap u) ∧ TupI X.K H (bkV u) (TS.intsOf s.heap u) := by
  intro vs
  induction vs with
  | nil =>
    intro us ls r h
    cases ls with
    | nil =>
      cases r
      exact ⟨rfl, fun u hu => by simp at hu⟩
    | cons _ _ => exact h.elim
  | cons x xs ih =>
    intro us ls r h
    cases ls with
    | nil => exact h.elim
    | cons l ls =>
      cases r with
      | cons r t =>
        obtain ⟨⟨a, rfl, ha⟩, h2⟩ := h
        cases r
        have hr := tupI_raw I ha
        have hi := hr.ints
        obtain ⟨h3, h4⟩ := ih _ ls t h2
        refine ⟨by rw [List.map_cons, hi, h3], ?_⟩
        intro z hz
        rcases List.mem_cons.1 hz with rfl | hz
        · rw [hi]
          exact ⟨hr, a, rfl, ha⟩
        · exact h4 z hz
theorem tl_map {K : PySem.W.Frag} {H : Hp} {k : Value → List Int} : ∀ {us : List Value}, (∀ u ∈ us, TupI K H (bkV u) (k u)) → TL K H (us.map bkV) (us.map k)
  | [], _ => trivial
  | u :: us, h => ⟨h u List.mem_cons_self, tl_map fun z hz => h z (List.mem_cons_of_mem _ hz)⟩
/-- sorted(xs), xs a list of tuples of ints, none of them empty -/
theorem cr_sortL : CallR X (.builtin "sorted") (fun vs H Q => ∃ (a : Addr) (xs : List V) (ls : List (List Int)), vs = [V.ref a] ∧ SqL X.K H a xs ∧ TL X.K H xs ls ∧ (ls.all fun l => !l.isEmpty) = true ∧ ∀ (ys : List V) (p : Addr), TL X.K H ys (sortL ls) → H p = none → Q (.ref p) (upd H p (.lst ys))) := by
  intro pins s σ H vs us Q I r h
  obtain ⟨a, xs, ls, rfl, hs, ht, hne, q⟩ := h
  obtain ⟨its, rv, hl, hz⟩ := I.list hs
  rw [Vals.ref1 r]
  obtain ⟨e1, e2⟩ := tl_vals I _ _ _ rv ht
  have hk : ∀ v ∈ its, TS.TupInts s.heap v (TS.intsOf s.heap v) ∧ TS.intsOf s.heap v ≠ [] := fun v hv => by
    refine ⟨(e2 v hv).1, ?_⟩
    have hm : TS.intsOf s.heap v ∈ ls := by rw [← e1]; exact List.mem_map.2 ⟨v, hv, rfl⟩
    have := List.all_eq_true.1 hne _ hm
    intro hq
    rw [hq] at this
    cases this
  refine SrtO.sorted_ord (swo_lexL (TS.intsOf s.heap)) hl.isList (by rw [← rv.length]; exact hz) (fun h2 h₁ a' ha' kk => ?_) fun out h1 h2 => ?_
  · refine tups_sortableO (s := { s with heap := h₁ }) (by omega) (fun v hm => ⟨(hk v hm).1.keeps fun b o e _ => (kk b o e).2, (hk v hm).2⟩) fun o e => ?_
    have e' : some o = some (seqObj "list" its.toArray 0) := e.symm.trans ha'
    cases e'
    intro c
    exact absurd (Value.type.inj c) (by decide)
  · obtain ⟨ep, he'⟩ := PyProof.Rows.sortedAll_at s.heap its out.toArray
    have hso : out.map (TS.intsOf s.heap) = sortL ls := by
      refine (List.Perm.eq_of_pairwise (le := lexLe) (fun a b _ _ h1 h2 => (lex_tri h1 h2).symm) (sortL_sorted ls) ?_ ?_).symm
      · rw [List.pairwise_map]
        exact h1
      · refine (sortL_perm ls).trans ?_
        rw [← e1]
        exact (h2.perm.map _).symm
    have hr : ∀ u ∈ out, TupI X.K H (bkV u) (TS.intsOf s.heap u) := fun u hu => (e2 u (h2.perm.mem_iff.1 hu)).2
    have hrf : ∀ u ∈ out, ∃ a, u = Value.ref a := fun u hu => by
      obtain ⟨t, et, _⟩ := hr u hu
      exact ⟨t, bkV_ref et⟩
    have hlen : (out.map bkV).length ≤ sizeLine := by
      rw [List.length_map, h2.len, ← rv.length]; exact hz
    refine ⟨.ref _, upd H (s.heap.objs.size + 1) (.lst (out.map bkV)), I.laid (t' := s.toks) (fun _ _ => PyProof.Rows.sortedAll_old) (Nat.le_succ _) ⟨hlen, out, ep, bkV_vals hrf, he'⟩, rfl, q _ _ ?_ (I.hok.fresh (Nat.le_succ _))⟩
    rw [← hso]
    exact tl_map hr
theorem bi_sorted (hK : X.K = Z.K) : CallR X (.builtin "sorted") (rL Z W σ0 (b1 fSorted)) := callOne fun pins s σ H x us Q ρ st H0 ρ2 st2 d F I rv sr n r h => by
  unfold fSorted at h
  split at h
  · rename_i ns e
    obtain ⟨a, rfl, ha⟩ := lInt_ok n.sr r e
    refine cr_sortedI pins s σ H _ us Q I rv ⟨a, ns, rfl, by rw [hK]; exact ha, fun ns' p pm hs hp => ?_⟩
    obtain rfl := sorted_eq (pm.trans (sortI_perm ns).symm) hs (sortI_sorted ns)
    exact Post.ok h ((n.new sr hp).less (List.cons_sublist_cons.mpr (List.nil_sublist _))) ⟨p, _, [], rfl, upd_same, Rps.ofInts _, rfl⟩
  · split at h
    · rename_i ls e
      obtain ⟨hne, h⟩ := gd_ok h
      unfold lTups at e
      split at e
      · rename_i xs hx
        split at e
        · cases e
        · rename_i hnt
          obtain ⟨a, ts, G, rfl, ha, rs, _⟩ := lseq_ok n.sr r hx (fun ys q => hnt ys q)
          have ht := tl_of rs e
          rw [← hK] at ha ht
          refine cr_sortL pins s σ H _ us Q I rv ⟨a, ts, ls, rfl, ha, ht, hne, fun ys p ty hp => ?_⟩
          rw [hK] at ty
          exact Post.ret h ((n.new sr hp).less (List.cons_sublist_cons.mpr (List.nil_sublist _))) ⟨p, ys, [], rfl, upd_same, rps_up hp (tl_rps ty), rfl⟩
      · cases e
    · exact h.elim
theorem bi_int : CallR X (.type "int") (rL Z W σ0 (b1 fInt)) := callOne fun pins s σ H x us Q ρ st H0 ρ2 st2 d F I rv sr n r h => by
  cases d with
  | int i =>
    obtain ⟨rfl, rfl⟩ := r
    exact call_int1 pins s σ H _ us Q I rv (.inl ⟨i, rfl, Post.ret h n ⟨rfl, rfl⟩⟩)
  | bl c =>
    obtain ⟨rfl, rfl⟩ := r
    exact call_int1 pins s σ H _ us Q I rv (.inr ⟨c, rfl, Post.ret h n ⟨rfl, rfl⟩⟩)
  | str z =>
    obtain ⟨rfl, rfl⟩ := r
    obtain ⟨m, e, h⟩ := opt_ok h
    obtain ⟨hz, h⟩ := gd_ok h
    exact call_int_str pins s σ H _ us Q I rv ⟨z, m, rfl, e, of_decide_eq_true hz, Post.ret h n ⟨rfl, rfl⟩⟩
  | _ => exact h.elim
theorem bi_repr (hK : X.K = Z.K) (hg : X.A.guards = some []) (hu : X.A.units + 64 < cLine) : CallR X (.builtin "repr") (rL Z W σ0 (b1 fRepr)) := callOne fun pins s σ H x us Q ρ st H0 ρ2 st2 d F I rv sr n r h => by
  obtain ⟨p, e, h⟩ := opt_ok h
  obtain ⟨hz, h⟩ := gd_ok h
  obtain ⟨z1, z2, z3, z4⟩ := of_decide_eq_true hz
  have fin : Q (.str p.shown) H := Post.ret h (n.less (List.nil_sublist _)) ⟨rfl, rfl⟩
  have dp := toP_ok n.sr _ _ _ _ _ r e
  rw [← hK] at dp
  obtain ⟨u, rfl, ru⟩ := vals1 rv
  obtain ⟨as, rd⟩ := Dp.reads I p x u dp ru
  have ref : isDisplay p = true → wpAny (model X.prog X.w) X.A (PySem.call (.builtin "repr") [u]) (EP X pins σ Q) X.xe s := fun hd => by
    obtain ⟨a, rfl⟩ := isRef_of_reads rd hd
    exact repr_of_reads' rd z1 (PyData.noDict_hsm z4) hg (by omega) (fun _ _ e => e) (fun h' w tk hk => ⟨.str p.shown, H, I.kept hk, ⟨w, rfl⟩, fin⟩) z2
  cases dp with
  | non =>
    cases ru
    exact P.repr_of_none (show EP X pins σ Q _ _ from ⟨.str _, H, I.tok _, ⟨_, rfl⟩, fin⟩)
  | bl b =>
    cases ru
    exact P.repr_of_bool (show EP X pins σ Q _ _ from ⟨.str _, H, I.tok _, ⟨_, rfl⟩, by cases b <;> exact fin⟩)
  | int i =>
    obtain ⟨t, rfl⟩ := ru
    exact P.repr_of_int (of_decide_eq_true z1) (show EP X pins σ Q _ _ from ⟨.str _, H, I.tok _, ⟨_, rfl⟩, fin⟩)
  | str z =>
    obtain ⟨t, rfl⟩ := ru
    exact P.repr_of_str (show EP X pins σ Q _ _ from ⟨.str _, H, I.tok _, ⟨_, rfl⟩, fin⟩) z2
  | lst _ _ => exact ref rfl
  | tup _ _ => exact ref rfl
/-- f(e, ..), f a built-in function -/
theorem se_bi {b : Bi} (hc : ∀ σ, CallR X (.builtin id) (rL Z W σ (biD T b))) (hg : Gl X x) (hm : X.mg x = none) (hv : bootBuiltins x = some (.builtin id)) (ha : PA X (e :: es) (iEs T Z W As)) (hn : x ≠ "__name__" := by decide) (hdb : (x == ("__debug__" : Str)) = false := by decide)
    (he : starEach (e :: es) X.env = (false, eval e X.env) :: starEach es X.env := by rfl) (hpl : (backTo pos (starEach es X.env)).any (·.1) = false := by rfl) : PE X (.Call (.Name x p) (e :: es) [] pos) (iE T Z W (.bi b As)) :=
  ⟨fun pins s σ H Q I q => by
    refine (pe_callB (hc σ) hg hm hv ha hn hdb he hpl).run pins s σ H Q I ?_
    obtain ⟨ρ, env, st, er, sr, h⟩ := q
    simp only [ev] at h
    refine ⟨ρ, env, st, er, sr, (Post.seq rpsOk (Now.start sr) sr h).mono ?_⟩
    rintro vs H1 ⟨ρ1, ds, st1, F1, n1, t1, r1, h1⟩
    exact ⟨ρ, st, H, ρ1, st1, ds, F1, sr, n1, r1, h1⟩⟩
/-- T(e, ..), T a built-in type -/
theorem se_bt {b : Bi} {Ty : String} (hc : ∀ σ, CallR X (.type Ty) (rL Z W σ (biD T b))) (hg : Gl X x) (hm : X.mg x = none) (hv : bootBuiltins x = some (.type Ty)) (ha : PA X (e :: es) (iEs T Z W As)) (hn : x ≠ "__name__" := by decide) (hdb : (x == ("__debug__" : Str)) = false := by decide)
    (he : starEach (e :: es) X.env = (false, eval e X.env) :: starEach es X.env := by rfl) (hpl : (backTo pos (starEach es X.env)).any (·.1) = false := by rfl) : PE X (.Call (.Name x p) (e :: es) [] pos) (iE T Z W (.bi b As)) :=
  ⟨fun pins s σ H Q I q => by
    refine (pe_callTy (hc σ) hg hm hv ha hn hdb he hpl).run pins s σ H Q I ?_
    obtain ⟨ρ, env, st, er, sr, h⟩ := q
    simp only [ev] at h
    refine ⟨ρ, env, st, er, sr, (Post.seq rpsOk (Now.start sr) sr h).mono ?_⟩
    rintro vs H1 ⟨ρ1, ds, st1, F1, n1, t1, r1, h1⟩
    exact ⟨ρ, st, H, ρ1, st1, ds, F1, sr, n1, r1, h1⟩⟩
/-- isinstance(e, T) -/
def tyNs : List String := ["NoneType", "bool", "int", "str", "tuple", "list", "dict"]
def exT (t u : String) : Bool := if u = "NoneType" then false else if u = "bool" then t == "bool" || t == "int" else t == u
def okT (t : String) : Bool := tyNs.all fun u => kitB u t == some (exT t u)
theorem okT_int : okT "int" = true := by decide +kernel
theorem okT_bool : okT "bool" = true := by decide +kernel
theorem okT_str : okT "str" = true := by decide +kernel
theorem okT_tuple : okT "tuple" = true := by decide +kernel
theorem okT_list : okT "list" = true := by decide +kernel
theorem okT_dict : okT "dict" = true := by decide +kernel
theorem isTy_ok {ρ : List Addr} {H : Hp} {st : Sto} {d : D} {v : V} {F : List Addr} {t : String} {c : Bool} (s : SR Z ρ st H) (r : Rp Z ρ H d v F) (e : isTy st t d = some c) : ∃ u ∈ tyNs, TyX Z.K H v (.type u) ∧ c = exT t u := by
  have list : ∀ {a vs}, SqL Z.K H a vs → TyX Z.K H (.ref a) (.type "list") := fun {a vs} h => by
    rcases h with h | ⟨o, its, n, ho, hc, _⟩
    · rcases h with h | ⟨o, h⟩
      · exact .base (.lst h)
      · exact .base (.frz h)
    · exact .kList ho hc
  cases d with
  | non => obtain ⟨rfl, _⟩ := r; cases e; exact ⟨"NoneType", by decide, .base .non, rfl⟩
  | bl b => obtain ⟨rfl, _⟩ := r; cases e; exact ⟨"bool", by decide, .base (.bl b), rfl⟩
  | int b => obtain ⟨rfl, _⟩ := r; cases e; exact ⟨"int", by decide, .base (.int b), rfl⟩
  | str b => obtain ⟨rfl, _⟩ := r; cases e; exact ⟨"str", by decide, .base (.str b), rfl⟩
  | tup ds =>
    obtain ⟨a, vs, rfl, h, _⟩ := r
    cases e
    refine ⟨"tuple", by decide, ?_, rfl⟩
    rcases h with h | ⟨o, its, n, ho, hc, _⟩
    · rcases h with h | ⟨o, h⟩
      · exact .base (.tup h)
      · exact .fTuple h
    · exact .kTuple ho hc
  | lst ds => obtain ⟨a, vs, G, rfl, h, _⟩ := r; cases e; exact ⟨"list", by decide, .base (.lst h), rfl⟩
  | dic ds =>
    obtain ⟨a, G, rfl, _, h⟩ := r
    cases e
    rcases h with ⟨ws, h, _⟩ | ⟨ws, h, _⟩
    · exact ⟨"dict", by decide, .base (.dK h), rfl⟩
    · exact ⟨"dict", by decide, .base (.dT h), rfl⟩
  | ref l =>
    obtain ⟨a, hl, rfl, _⟩ := r
    simp only [isTy] at e
    split at e
    · rename_i xs hc
      cases e
      obtain ⟨vs, hv, _⟩ := s.list hl (.inl hc)
      exact ⟨"list", by decide, list hv, rfl⟩
    · rename_i xs hc
      cases e
      obtain ⟨vs, hv, _⟩ := s.list hl (.inr hc)
      exact ⟨"list", by decide, list hv, rfl⟩
    · rename_i xs hc
      cases e
      obtain ⟨b, G, z, _, h⟩ := s.cell l _ a hc hl
      cases z
      rcases h with ⟨ws, h, _⟩ | ⟨ws, h, _⟩
      · exact ⟨"dict", by decide, .base (.dK h), rfl⟩
      · exact ⟨"dict", by decide, .base (.dT h), rfl⟩
    · cases e
  | _ => simp [isTy] at e
theorem se_isT {t : String} {A : Ex} {p2 : Pos} (hK : X.K = Z.K) (ht : okT t = true) (hg : Gl X "isinstance") (hm : X.mg "isinstance" = none) (hgt : Gl X (Str.ofString t)) (hmt : X.mg (Str.ofString t) = none) (hvt : bootBuiltins (Str.ofString t) = some (.type t)) (ha : PE X e (iE T Z W A))
    (hn : Str.ofString t ≠ "__name__") (hdb : (Str.ofString t == ("__debug__" : Str)) = false)
    (he : starEach [e, .Name (Str.ofString t) p2] X.env = (false, eval e X.env) :: starEach [.Name (Str.ofString t) p2] X.env) (he2 : starEach [.Name (Str.ofString t) p2] X.env = (false, eval (.Name (Str.ofString t) p2) X.env) :: starEach [] X.env)
    (hpl : (backTo pos (starEach [.Name (Str.ofString t) p2] X.env)).any (·.1) = false) :
    PE X (.Call (.Name "isinstance" p) [e, .Name (Str.ofString t) p2] [] pos) (iE T Z W (.bi (.isT t) [A])) :=
  ⟨fun pins s σ H Q I q => by
    refine (pe_callB (call_isi (X := X)) hg hm (by decide +kernel) (pa_cons ha (pa_cons (pe_bltn (v := .ty t) hgt hmt hvt rfl hn hdb) pa_nil he2) he) (by decide) (by decide) he hpl).run pins s σ H Q I ?_
    obtain ⟨ρ, env, st, er, sr, h⟩ := q
    simp only [ev] at h
    refine ⟨ρ, env, st, er, sr, (Post.seq rpOk (Now.start sr) sr (evs_one h)).mono ?_⟩
    rintro x H1 ⟨ρ1, d, st1, F1, n1, t1, r1, h1⟩
    have h2 : Post (Rp Z) Z W (opt (isTy st1 t d) (fun c => ret (D.bl c)) st1) ρ σ H Q := h1
    obtain ⟨c, ec, h1⟩ := opt_ok h2
    obtain ⟨u, hu, ty, rfl⟩ := isTy_ok n1.sr r1 ec
    have hk : kitB u t = some (exT t u) := by
      have := List.all_eq_true.mp ht u hu
      exact eq_of_beq this
    refine ⟨x, .ty t, .type u, .type t, exT t u, rfl, .ty t, by rw [hK]; exact ty, kit_ty hk, ?_⟩
    exact Post.ret h1 (n1.less (List.nil_sublist _)) ⟨rfl, rfl⟩⟩
/-! list(range(..)), tuple(range(..)) -/
theorem rg_rps {ρ : List Addr} {H : Hp} (a b : Int) : Rps Z ρ H (rngN a 1 (b - a).toNat) (rgV a b) [] := by
  unfold rngN rgV
  generalize (b - a).toNat = n
  have go : ∀ l : List Nat, Rps Z ρ H (l.map fun (i : Nat) => D.int (a + (i : Int) * 1)) (l.map fun i => V.int (a + (i : Nat))) [] := by
    intro l
    induction l with
    | nil => exact ⟨rfl, rfl⟩
    | cons i l ih => exact ⟨_, _, [], [], rfl, ⟨by simp, rfl⟩, ih, rfl⟩
  exact go _
theorem se_lrng1 {a : Expr} {A : Ex} {p1 pos1 : Pos} (hc : X.calm = true) (hg : Gl X "list") (hm : X.mg "list" = none) (hg2 : Gl X "range") (hm2 : X.mg "range" = none) (ha : PE X a (iE T Z W A)) (na : starEach [a] X.env = (false, eval a X.env) :: starEach [] X.env)
    (nb : starEach [.Call (.Name "range" p1) [a] [] pos1] X.env = (false, eval (.Call (.Name "range" p1) [a] [] pos1) X.env) :: starEach [] X.env) :
    PE X (.Call (.Name "list" p) [.Call (.Name "range" p1) [a] [] pos1] [] pos) (iE T Z W (.bi .lrng [A])) :=
  ⟨fun pins s σ H Q I q => by
    refine (pe_listRg hc hg hm (prg_1 hg2 hm2 ha na) nb).run pins s σ H Q I ?_
    obtain ⟨ρ, env, st, er, sr, h⟩ := q
    simp only [ev] at h
    refine ⟨ρ, env, st, er, sr, (Post.seq rpOk (Now.start sr) sr (evs_one h)).mono ?_⟩
    rintro x H1 ⟨ρ1, d, st1, F1, n1, t1, r1, h1⟩
    cases d with
    | int i =>
      obtain ⟨rfl, rfl⟩ := r1
      have h2 : Post (Rp Z) Z W (gd (rgOk 0 i) (ret (D.lst (rngN 0 1 i.toNat))) st1) ρ σ H Q := h1
      obtain ⟨hz, h1⟩ := gd_ok h2
      unfold rgOk at hz
      refine ⟨i, rfl, by unfold RgOk; exact of_decide_eq_true hz, fun p hp => ?_⟩
      have rr := rg_rps (Z := Z) (ρ := ρ1) (H := H1) 0 i
      rw [Int.sub_zero] at rr
      exact Post.ret h1 (n1.new sr hp) ⟨p, _, [], rfl, upd_same, rps_up hp rr, rfl⟩
    | _ => exact h1.elim⟩
theorem se_trng1 {a : Expr} {A : Ex} {p1 pos1 : Pos} (hc : X.calm = true) (hg : Gl X "tuple") (hm : X.mg "tuple" = none) (hg2 : Gl X "range") (hm2 : X.mg "range" = none) (ha : PE X a (iE T Z W A)) (na : starEach [a] X.env = (false, eval a X.env) :: starEach [] X.env)
    (nb : starEach [.Call (.Name "range" p1) [a] [] pos1] X.env = (false, eval (.Call (.Name "range" p1) [a] [] pos1) X.env) :: starEach [] X.env) :
    PE X (.Call (.Name "tuple" p) [.Call (.Name "range" p1) [a] [] pos1] [] pos) (iE T Z W (.bi .trng [A])) :=
  ⟨fun pins s σ H Q I q => by
    refine (pe_tupRg hc hg hm (prg_1 hg2 hm2 ha na) nb).run pins s σ H Q I ?_
    obtain ⟨ρ, env, st, er, sr, h⟩ := q
    simp only [ev] at h
    refine ⟨ρ, env, st, er, sr, (Post.seq rpOk (Now.start sr) sr (evs_one h)).mono ?_⟩
    rintro x H1 ⟨ρ1, d, st1, F1, n1, t1, r1, h1⟩
    cases d with
    | int i =>
      obtain ⟨rfl, rfl⟩ := r1
      have h2 : Post (Rp Z) Z W (gd (rgOk 0 i) (ret (D.tup (rngN 0 1 i.toNat))) st1) ρ σ H Q := h1
      obtain ⟨hz, h1⟩ := gd_ok h2
      unfold rgOk at hz
      refine ⟨i, rfl, by unfold RgOk; exact of_decide_eq_true hz, fun p hp => ?_⟩
      have rr := rg_rps (Z := Z) (ρ := ρ1) (H := H1) 0 i
      rw [Int.sub_zero] at rr
      exact Post.ret h1 (n1.newS sr hp) ⟨p, _, rfl, SqT.of upd_same, rps_up hp rr⟩
    | _ => exact h1.elim⟩
end
end Fs
namespace Fs
open PySem L2 PyProof.Rows PySem.Spec
/-- a method by values -/
def rM (Z : Wc) (W : WX) (σ : L2.St) (m : Me) (k : Nat) : V → List V → Hp → VK → Prop := fun x xs H2 Q => ∃ ρ st H ρ2 st2 d ds F G, SR Z ρ st H ∧ Now Z ρ H ρ2 st2 H2 (F ++ G) ∧ Rp Z ρ2 H2 d x F ∧ Rps Z ρ2 H2 ds xs G ∧ kndD st2 d = k ∧ Post (Rp Z) Z W (meD m d ds st2) ρ σ H Q
def kT : Nat → String
  | 1 => "str" | 2 => "int" | 3 => "tuple" | 4 => "list" | 5 => "dict" | _ => ""
/-- the method m of kind k is there and does what it should -/
def MeK (X : L2.Cx) (Z : Wc) (m : Me) (name : Str) (k : Nat) : Prop := (k = 2 ∨ k = 4 ∨ k = 5) ∧ ∃ id, PlainAttrs (kT k) ∧ Slot (kT k) name id ∧ typeOf (.builtin id) = pure (.type "method_descriptor") ∧ ∀ W σ, MtR X id (rM Z W σ m k)
section
variable {X : L2.Cx} {T : Tbl} {Z : Wc} {W : WX} {σ0 : L2.St} {e o : Expr} {es : List Expr} {A : Ex} {As : List Ex} {apos cpos pos p : Pos} {name : Str}
theorem knd_ty {ρ : List Addr} {H : Hp} {st : Sto} {d : D} {x : V} {F : List Addr} {k : Nat} (hK : X.K = Z.K) (s : SR Z ρ st H) (r : Rp Z ρ H d x F) (e : kndD st d = k) (hk : k = 2 ∨ k = 4 ∨ k = 5) : tyV X.K (kT k) x H := by
  cases d with
  | int i => obtain ⟨rfl, _⟩ := r; cases e; rfl
  | lst ds => obtain ⟨a, vs, G, rfl, h, _⟩ := r; cases e; exact .inl ⟨rfl, vs, SqL.of h⟩
  | dic ds =>
    obtain ⟨a, G, rfl, _, h⟩ := r
    cases e
    refine .inr (.inr (.inl ⟨rfl, ?_⟩))
    rcases h with ⟨ws, h, _⟩ | ⟨ws, h, _⟩
    · exact .inl ⟨ws, h⟩
    · exact .inr ⟨ws, h⟩
  | ref l =>
    obtain ⟨a, hl, rfl, _⟩ := r
    simp only [kndD] at e
    split at e
    · rename_i xs hc
      subst e
      obtain ⟨vs, hv, _⟩ := s.list hl (.inl hc)
      exact .inl ⟨rfl, vs, by rw [hK]; exact hv⟩
    · rename_i xs hc
      subst e
      obtain ⟨vs, hv, _⟩ := s.list hl (.inr hc)
      exact .inl ⟨rfl, vs, by rw [hK]; exact hv⟩
    · rename_i xs hc
      subst e
      obtain ⟨b, G, z, _, h⟩ := s.cell l _ a hc hl
      cases z
      refine .inr (.inr (.inl ⟨rfl, ?_⟩))
      rcases h with ⟨ws, h, _⟩ | ⟨ws, h, _⟩
      · exact .inl ⟨ws, h⟩
      · exact .inr ⟨ws, h⟩
    · subst e; simp at hk
  | _ => subst e; simp [kndD] at hk
theorem me_pre {m : Me} {σ : L2.St} {H : Hp} {Q : VK} (h : iE T Z W (.me m A As) σ H Q) : iE T Z W A σ H (fun x H1 => ∃ ρ st ρ1 st1 d F env, ER Z ρ H env σ ∧ SR Z ρ st H ∧ Now Z ρ H ρ1 st1 H1 F ∧ Rp Z ρ1 H1 d x F ∧ ER Z ρ1 H1 env σ ∧ meK m (kndD st1 d) = true ∧
    Post (Rp Z) Z W (bnd (evs T As env) (fun ds => fun st2 => gd (kndD st1 d == kndD st2 d) (meD m d ds) st2) st1) ρ σ H Q) := by
  obtain ⟨ρ, env, st, er, sr, h⟩ := h
  simp only [ev] at h
  refine ⟨ρ, env, st, er, sr, (Post.seq rpOk (Now.start sr) sr h).mono ?_⟩
  rintro x H1 ⟨ρ1, d, st1, F1, n1, t1, r1, h1⟩
  obtain ⟨hk, h1⟩ := gd_ok h1
  exact ⟨ρ, st, ρ1, st1, d, F1, env, er, sr, n1, r1, t1.env sr er, hk, h1⟩
theorem se_me {m : Me} (hK : X.K = Z.K) (hm : ∀ k, meK m k = true → MeK X Z m name k) (ho : PE X o (iE T Z W A)) (ha : PA X (e :: es) (iEs T Z W As))
    (hbase : attributeBase o name X.env (eval o X.env) = eval o X.env := by rfl)
    (hfew : ((backTo cpos (starEach (e :: es) X.env)).all (fun x => !x.1) && (backToKw cpos (keywordEach [] X.env)).all (fun x => x.1.isSome)
      && decide ((e :: es).length + ([] : List Keyword).length + (if ([] : List Keyword).isEmpty then 0 else 1) < 30)) = true := by rfl)
    (hline : (apos.endLine == cpos.line) = true := by rfl) (hs : starEach (e :: es) X.env = (false, eval e X.env) :: starEach es X.env := by rfl) (hplain : (backTo cpos (starEach es X.env)).any (·.1) = false := by rfl) :
    PE X (.Call (.Attribute o name apos) (e :: es) [] cpos) (iE T Z W (.me m A As)) := by
  refine ⟨fun pins s σ H Q I h => ?_⟩
  refine wpAny_Call_method_late hbase hfew hline rfl (thn (ho.run pins s σ H _ I (me_pre h)) fun v s1 ⟨x, H1, I1, r1, ρ, st, ρ1, st1, d, F, env, er, sr, n, rd, er1, hk, q⟩ => ?_)
  obtain ⟨hk3, id, pa, slot, hty, mt⟩ := hm _ hk
  obtain ⟨h1, h2⟩ := tyV_is I1 r1 (knd_ty hK n.sr rd rfl hk3)
  refine ⟨kT (kndD st1 d), id, pa, slot, hty, h1, h2, ?_⟩
  have q' := Post.seq rpsOk n sr q
  have hA := ha.run cpos pins s1 σ H1 (fun us H2 => rM Z W σ m (kndD st1 d) x us H2 Q) I1 ⟨ρ1, env, st1, er1, n.sr, q'.mono fun us H2 ⟨ρ2, ds, st2, G, n2, t2, r2, h2⟩ => ?_⟩
  · rw [hs] at hA ⊢
    refine Calls.callWith_builtin (by show (false || (backTo cpos (starEach es X.env)).any (·.1)) = false; rw [hplain] <;> rfl) (Calls.evalArgs_plain ?_)
    exact thn hA fun us s2 ⟨vs, H2, I2, r2, q2⟩ => mt W σ pins s2 σ H2 x vs v us Q I2 r1 r2 q2
  · obtain ⟨hk2, h2⟩ := gd_ok h2
    exact ⟨ρ, st, H, ρ2, st2, d, ds, F, G, sr, n2, t2.val n.sr n.out rd, r2, (eq_of_beq hk2).symm, h2⟩
theorem se_me0 {m : Me} (hK : X.K = Z.K) (hm : ∀ k, meK m k = true → MeK X Z m name k) (ho : PE X o (iE T Z W A))
    (hbase : attributeBase o name X.env (eval o X.env) = eval o X.env := by rfl) (hline : (apos.endLine == cpos.line) = true := by rfl) : PE X (.Call (.Attribute o name apos) [] [] cpos) (iE T Z W (.me m A [])) := by
  refine ⟨fun pins s σ H Q I h => ?_⟩
  refine wpAny_Call_method0_late hbase hline (thn (ho.run pins s σ H _ I (me_pre h)) fun v s1 ⟨x, H1, I1, r1, ρ, st, ρ1, st1, d, F, env, er, sr, n, rd, er1, hk, q⟩ => ?_)
  obtain ⟨hk3, id, pa, slot, hty, mt⟩ := hm _ hk
  obtain ⟨h1, h2⟩ := tyV_is I1 r1 (knd_ty hK n.sr rd rfl hk3)
  refine ⟨kT (kndD st1 d), id, pa, slot, hty, h1, h2, Calls.callWith_builtin rfl (PySem.evalArgs_none (mt W σ pins s1 σ H1 x [] v [] Q I1 r1 .nil ?_))⟩
  simp only [evs, bnd, ret] at q
  obtain ⟨hk2, q⟩ := gd_ok q
  exact ⟨ρ, st, H, ρ1, st1, d, [], F, [], sr, by simpa using n, rd, ⟨rfl, rfl⟩, rfl, q⟩
/-! the methods -/
theorem mOne {m : Me} {k : Nat} {id : String} {g : D → D → M D} (hg : ∀ st o ds, kndD st o = k → meD m o ds st = b1 (g o) ds st) (h : ∀ (W : WX) (σ0 : L2.St) (pins : List (Addr × Obj)) (s : Shared) (σ : L2.St) (H : Hp) (x y : V) (v : Value) (us : List Value) (Q : VK) (ρ : List Addr) (st : Sto) (H0 : Hp) (ρ2 : List Addr) (st2 : Sto) (d e : D) (F G : List Addr),
    Inv X pins σ H s → RelV x v → Vals [y] us → SR Z ρ st H0 → Now Z ρ H0 ρ2 st2 H (F ++ G) → Rp Z ρ2 H d x F → Rp Z ρ2 H e y G → kndD st2 d = k → Post (Rp Z) Z W (g d e st2) ρ σ0 H0 Q → wpAny (model X.prog X.w) X.A (PySem.call (.builtin id) (v :: us)) (EP X pins σ Q) X.xe s) (W : WX) (σ0 : L2.St) : MtR X id (rM Z W σ0 m k) := by
  intro pins s σ H x xs v us Q I rx rv ⟨ρ, st, H0, ρ2, st2, d, ds, F, G, sr, n, r1, r2, hk, q⟩
  rw [hg st2 d ds hk] at q
  match ds, r2, q with
  | [], _, q => exact q.elim
  | [e], r2, q =>
    obtain ⟨y, rfl, r3⟩ := one1 r2
    exact h W σ0 pins s σ H x y v us Q ρ st H0 ρ2 st2 d e F G I rx rv sr n r1 r3 hk q
  | _ :: _ :: _, _, q => exact q.elim
theorem mNone {m : Me} {k : Nat} {id : String} {g : D → M D} (hg : ∀ st o ds, kndD st o = k → meD m o ds st = b0 (g o) ds st) (h : ∀ (W : WX) (σ0 : L2.St) (pins : List (Addr × Obj)) (s : Shared) (σ : L2.St) (H : Hp) (x : V) (v : Value) (us : List Value) (Q : VK) (ρ : List Addr) (st : Sto) (H0 : Hp) (ρ2 : List Addr) (st2 : Sto) (d : D) (F : List Addr),
    Inv X pins σ H s → RelV x v → Vals [] us → SR Z ρ st H0 → Now Z ρ H0 ρ2 st2 H F → Rp Z ρ2 H d x F → kndD st2 d = k → Post (Rp Z) Z W (g d st2) ρ σ0 H0 Q → wpAny (model X.prog X.w) X.A (PySem.call (.builtin id) (v :: us)) (EP X pins σ Q) X.xe s) (W : WX) (σ0 : L2.St) : MtR X id (rM Z W σ0 m k) := by
  intro pins s σ H x xs v us Q I rx rv ⟨ρ, st, H0, ρ2, st2, d, ds, F, G, sr, n, r1, r2, hk, q⟩
  rw [hg st2 d ds hk] at q
  match ds, r2, q with
  | [], r2, q =>
    obtain ⟨rfl, rfl⟩ := r2
    exact h W σ0 pins s σ H x v us Q ρ st H0 ρ2 st2 d F I rx rv sr (by simpa using n) r1 hk q
  | _ :: _, _, q => exact q.elim
/-- a list's cell -/
theorem lcell_ok {ρ ρ2 : List Addr} {st2 : Sto} {H H0 : Hp} {d : D} {x : V} {F G : List Addr} {Q : VK} {f : Nat → List D → M D} (n : Now Z ρ H0 ρ2 st2 H (F ++ G)) (r : Rp Z ρ2 H d x F) (h : Post (Rp Z) Z W (lcell st2 f d st2) ρ σ0 H0 Q) :
    ∃ l a xs vs, d = .ref l ∧ x = .ref a ∧ F = [] ∧ ρ2[l]? = some a ∧ st2[l]? = some (.lst xs) ∧ H a = some (.lst vs) ∧ Rps Z ρ2 H xs vs [] ∧ Post (Rp Z) Z W (f l xs st2) ρ σ0 H0 Q := by
  cases d with
  | ref l =>
    obtain ⟨a, hl, rfl, rfl⟩ := r
    cases hc : st2[l]? with
    | none => simp only [lcell, hc] at h; exact h.elim
    | some c => cases c with
      | lst xs =>
        simp only [lcell, hc] at h
        obtain ⟨b, vs, G2, z, ha, rs, f⟩ := n.sr.cell l _ a hc hl
        cases z
        obtain rfl : G2 = [] := by injection f with _ f; exact f.symm
        exact ⟨l, a, xs, vs, rfl, rfl, rfl, hl, hc, ha, rs, h⟩
      | _ => simp only [lcell, hc] at h; exact h.elim
  | _ => exact h.elim
theorem len_rps {ρ : List Addr} {H : Hp} {xs : List D} {vs : List V} {F : List Addr} (r : Rps Z ρ H xs vs F) : vs.length = xs.length := r.length.symm
theorem Rps.dropLast {ρ : List Addr} {H : Hp} {xs : List D} {vs : List V} (r : Rps Z ρ H xs vs []) : Rps Z ρ H xs.dropLast vs.dropLast [] := by
  obtain ⟨G, a, b⟩ := r.take (xs.length - 1)
  obtain rfl := List.sublist_nil.mp b
  rw [List.dropLast_eq_take, List.dropLast_eq_take, ← r.length]
  exact a
theorem Rps.erase {ρ : List Addr} {H : Hp} : ∀ {xs : List D} {vs : List V} (j : Nat), Rps Z ρ H xs vs [] → Rps Z ρ H (xs.eraseIdx j) (vs.eraseIdx j) []
  | [], vs, j, h => by obtain ⟨rfl, _⟩ := h; simp [Rps]
  | x :: xs, vs, j, h => by
    obtain ⟨v1, ws, F1, F2, rfl, q1, q2, f⟩ := h
    obtain ⟨rfl, rfl⟩ := List.append_eq_nil_iff.mp f.symm
    cases j with
    | zero => exact q2
    | succ j => exact ⟨v1, ws.eraseIdx j, [], [], rfl, q1, q2.erase j, rfl⟩
theorem k_append : ∀ k, meK .append k = true → MeK X Z .append "append" k := fun k hk => by
  obtain rfl : k = 4 := by simpa [meK] using hk
  refine ⟨.inr (.inl rfl), "list.append", PySem.F.plainAttrs_list, PySem.F.slot_list_append, PySem.F.type_list_append, mOne (g := mAppend) (fun _ _ _ _ => rfl) ?_⟩
  intro W σ0 pins s σ H x y v us Q ρ st H0 ρ2 st2 d e F G I rx rv sr n r1 r2 hk h
  obtain ⟨l, a, xs, vs, rfl, rfl, rfl, hl, hc, ha, rs, h⟩ := lcell_ok n r1 h
  obtain ⟨hz, h⟩ := gd_ok h
  obtain ⟨N, pm, s', q⟩ := land_ok e n.sr r2 (fun b hb => n.out b (by simpa using hb)) (by simpa using n.nd)
  have n' : Now Z ρ H0 ρ2 st2 H ([] ++ G) := n
  have nl := n'.landed (N := N) pm s'
  refine mt_append pins s σ H _ _ v us Q I rx rv ⟨a, vs, y, rfl, rfl, ha, by rw [← rs.length]; exact of_decide_eq_true hz, ?_⟩
  have hl' := get_append (N := N) l a hl
  exact Post.ok h (nl.wr sr hl' rfl ⟨a, vs ++ [y], [], rfl, upd_same, Rps.updF ha rfl (by simp) (Rps.append (F := []) (G := []) rs.wide ⟨y, [], [], [], rfl, q, ⟨rfl, rfl⟩, rfl⟩), rfl⟩) ⟨rfl, rfl⟩
theorem k_pop : ∀ k, meK .pop k = true → MeK X Z .pop "pop" k := fun k hk => by
  obtain rfl : k = 4 := by simpa [meK] using hk
  refine ⟨.inr (.inl rfl), "list.pop", PySem.F.plainAttrs_list, PySem.F.slot_list_pop, PySem.F.type_list_pop, mNone (g := mPop) (fun _ _ _ _ => rfl) ?_⟩
  intro W σ0 pins s σ H x v us Q ρ st H0 ρ2 st2 d F I rx rv sr n r1 hk h
  have n' : Now Z ρ H0 ρ2 st2 H (F ++ []) := by simpa using n
  obtain ⟨l, a, xs, vs, rfl, rfl, rfl, hl, hc, ha, rs, h⟩ := lcell_ok n' r1 h
  obtain ⟨y, hy, h⟩ := opt_ok h
  obtain ⟨u, G, hu, ru, sub⟩ := rs.get hy
  obtain rfl := List.sublist_nil.mp sub
  refine mt_pop pins s σ H _ _ v us Q I rx rv ⟨a, vs, u, rfl, rfl, ha, by rw [← rs.length]; exact hu, ?_⟩
  exact Post.ok h (n.wr sr hl rfl ⟨a, vs.dropLast, [], rfl, upd_same, Rps.updF ha rfl (by simp) rs.dropLast, rfl⟩) (ru.updF ha rfl (by simp))
theorem dcell_ok {ρ ρ2 : List Addr} {st2 : Sto} {H H0 : Hp} {d : D} {x : V} {F G : List Addr} {Q : VK} {f : Nat → List (Ky × D) → M D} (n : Now Z ρ H0 ρ2 st2 H (F ++ G)) (r : Rp Z ρ2 H d x F) (h : Post (Rp Z) Z W (dcell st2 f d st2) ρ σ0 H0 Q) :
    ∃ l a kvs, d = .ref l ∧ x = .ref a ∧ F = [] ∧ ρ2[l]? = some a ∧ st2[l]? = some (.dic kvs) ∧ Post (Rp Z) Z W (f l kvs st2) ρ σ0 H0 Q := by
  cases d with
  | ref l =>
    obtain ⟨a, hl, rfl, rfl⟩ := r
    cases hc : st2[l]? with
    | none => simp only [dcell, hc] at h; exact h.elim
    | some c => cases c with
      | dic kvs =>
        simp only [dcell, hc] at h
        exact ⟨l, a, kvs, rfl, rfl, rfl, hl, hc, h⟩
      | _ => simp only [dcell, hc] at h; exact h.elim
  | _ => exact h.elim
theorem dropK_cons {j k : L2.Key} {u : V} {r : List (L2.Key × V)} : dropK ((j, u) :: r) k = if j = k then dropK r k else (j, u) :: dropK r k := by
  unfold dropK
  rw [List.filter_cons]
  by_cases h : j = k <;> simp [h]
theorem dropK_out {k : L2.Key} : ∀ {r : List (L2.Key × V)}, k ∉ r.map (·.1) → dropK r k = r
  | [], _ => rfl
  | (j, u) :: r, h => by
    rw [dropK_cons, if_neg (fun e => h (by simp [e])), dropK_out (fun z => h (by simp at z ⊢; exact .inr z))]
theorem ddel_ok {ρ : List Addr} {H : Hp} {k : L2.Key} : ∀ {kvs : List (Ky × D)} {ws : List (L2.Key × V)}, (ws.map (·.1)).Nodup → RpK Z ρ H kvs ws [] → RpK Z ρ H (ddel (.k k) kvs) (dropK ws k) []
  | [], ws, nd, r => by obtain ⟨rfl, _⟩ := r; exact ⟨rfl, rfl⟩
  | (q, d) :: kvs, ws, nd, r => by
    obtain ⟨j, u, ws', F1, F2, rfl, rfl, r1, r2, f⟩ := r
    obtain ⟨rfl, rfl⟩ := List.append_eq_nil_iff.mp f.symm
    have nd' := List.nodup_cons.mp (show (j :: ws'.map (·.1)).Nodup from nd)
    rw [dropK_cons]
    simp only [ddel]
    by_cases h : j = k
    · subst h
      rw [if_pos rfl, if_pos rfl, dropK_out nd'.1]
      exact r2
    · rw [if_neg (by simpa using h), if_neg h]
      exact ⟨j, u, _, [], [], rfl, rfl, r1, ddel_ok nd'.2 r2, rfl⟩
theorem k_popi (hu : X.A.units + 1 < cLine) : ∀ k, meK .popi k = true → MeK X Z .popi "pop" k := fun k hk => by
  simp only [meK, Bool.or_eq_true, beq_iff_eq] at hk
  rcases hk with rfl | rfl
  · refine ⟨.inr (.inl rfl), "list.pop", PySem.F.plainAttrs_list, PySem.F.slot_list_pop, PySem.F.type_list_pop, mOne (g := mPopi) (fun st o ds e => by simp only [meD, e]) ?_⟩
    intro W σ0 pins s σ H x y v us Q ρ st H0 ρ2 st2 d e F G I rx rv sr n r1 r2 hk h
    obtain ⟨l, a, xs, vs, rfl, rfl, rfl, hl, hc, ha, rs, h⟩ := lcell_ok n r1 h
    obtain ⟨i, hi, h⟩ := opt_ok h
    cases e with
    | int j =>
      cases hi
      obtain ⟨rfl, rfl⟩ := r2
      obtain ⟨hz, h⟩ := gd_ok h
      obtain ⟨j, hj, h⟩ := opt_ok h
      obtain ⟨y, hy, h⟩ := opt_ok h
      obtain ⟨u, G, hu, ru, sub⟩ := rs.get hy
      obtain rfl := List.sublist_nil.mp sub
      have hz := of_decide_eq_true hz
      refine mt_popAt pins s σ H _ _ v us Q I rx rv ⟨a, vs, _, j, u, rfl, rfl, ha, hz.1, hz.2, by rw [← rs.length]; exact hj, hu, ?_⟩
      exact Post.ok h (n.wr sr hl rfl ⟨a, vs.eraseIdx j, [], rfl, upd_same, Rps.updF ha rfl (by simp) (rs.erase j), rfl⟩) (ru.updF ha rfl (by simp))
    | _ => cases hi
  · refine ⟨.inr (.inr rfl), "dict.pop", PySem.F.plainAttrs_dict, PySem.F.slot_dict_pop, PySem.F.type_dict_pop, mOne (g := mDpop) (fun st o ds e => by simp only [meD, e]) ?_⟩
    intro W σ0 pins s σ H x y v us Q ρ st H0 ρ2 st2 d e F G I rx rv sr n r1 r2 hk h
    obtain ⟨l, a, kvs, rfl, rfl, rfl, hl, hc, h⟩ := dcell_ok n r1 h
    obtain ⟨q, hq, h⟩ := opt_ok h
    obtain ⟨ok, h⟩ := gd_ok h
    obtain ⟨z, hz, h⟩ := opt_ok h
    obtain ⟨k, rfl, rfl, rfl⟩ := key_ok r2 hq
    obtain ⟨H', b, ws, G, e1, I', n', ha, rk, hs, _, _⟩ := dK_now (d := .ref l) (kvs := kvs) I sr n (fun b hb => by simpa using hb) r1 (by simp [dicv, hc]) ok
    cases e1
    obtain rfl := List.sublist_nil.mp hs
    obtain rfl : v = Value.ref a := rx
    obtain ⟨u, rfl, ru⟩ := vals1 rv
    have hv := dget_ok (k := k) rk
    rw [hz] at hv
    obtain ⟨v', G', e1, r', hs2⟩ := hv
    obtain rfl := List.sublist_nil.mp hs2
    refine d_pop (more := []) I' ha ru e1 (.inl rfl) fun w' s' I2 rw' => ⟨v', _, I2, rw', ?_⟩
    have nd := dK_nodup I' ha
    have rp := ddel_ok (k := k) nd rk
    have := RpK.stay (ρ' := ρ2) (H' := upd H' a (.dK (dropK ws k))) (fun _ _ e => e) (upd_keep ha rfl) (by simp) rp
    exact Post.ok h (n'.wr sr hl rfl ⟨a, [], rfl, rfl, .inl ⟨_, upd_same, this⟩⟩) (r'.updF ha rfl (by simp))
end
end Fs
namespace Fs
open PySem L2 PyProof.Rows PySem.Spec
/-- a list (false) or a tuple (true) -/
def SqB (K : PySem.W.Frag) (b : Bool) (H : Hp) (a : Addr) (xs : List V) : Prop := match b with
  | true => SqT K H a xs
  | false => SqL K H a xs
def ItB (b : Bool) (h : Heap) (it a : Addr) (i : Nat) : Prop := match b with
  | true => h.IsTupleIter it a i
  | false => h.IsListIter it a i
def HeB (b : Bool) (h : Heap) (a : Addr) (xs : Array Value) : Prop := match b with
  | true => h.IsTuple a xs
  | false => h.IsList a xs
section
variable {b : Bool} {h h' : Heap} {it a : Addr} {i : Nat} {xs : Array Value}
theorem ItB.get (x : ItB b h it a i) : ∃ o, h.get? it = some o ∧ ∀ v, o.data ≠ .cell v := by
  cases b with
  | true => obtain ⟨o, ho, _, hd⟩ := x; exact ⟨o, ho, fun v q => by rw [hd] at q; cases q⟩
  | false => obtain ⟨o, ho, _, hd⟩ := x; exact ⟨o, ho, fun v q => by rw [hd] at q; cases q⟩
theorem ItB.at (x : ItB b h it a i) (k : ∀ o, h.get? it = some o → h'.get? it = some o) : ItB b h' it a i := by
  cases b with
  | true => exact Heap.IsTupleIter.at x k
  | false => exact Heap.IsListIter.at x k
theorem drawsB (b : Bool) {prog : Program} {w : World} {A : Around} (hh : A.handled = none) (it a : Addr) (hne : a ≠ it) (items : Array Value) : Draws prog w A it [it, a] items.size (fun i v => items[i]? = some v) (fun i h => ItB b h it a i ∧ HeB b h a items) := by
  cases b with
  | true => exact Draws.tuple hh it a hne items
  | false => exact Draws.list hh it a hne items
theorem sqB_heap {X : L2.Cx} {pins : List (Addr × Obj)} {σ : L2.St} {H : Hp} {s : Shared} {vs : List V} (I : Inv X pins σ H s) (q : SqB X.K b H a vs) : ∃ its : List Value, Vals vs its ∧ HeB b s.heap a its.toArray := by
  cases b with
  | true => obtain ⟨its, rv, p, _⟩ := I.tuple q; exact ⟨its, rv, p⟩
  | false => obtain ⟨its, rv, p, _⟩ := I.list q; exact ⟨its, rv, p.isList⟩
theorem sqB_inj {X : L2.Cx} {pins : List (Addr × Obj)} {σ : L2.St} {H : Hp} {s : Shared} {vs ws : List V} (I : Inv X pins σ H s) (q : SqB X.K b H a vs) (q2 : SqB X.K b H a ws) : vs = ws := by
  cases b with
  | true => exact I.tuple_inj q q2
  | false => exact I.list_inj q q2
end
/-- the pairs of enumerate, from k on -/
def Iten (K : PySem.W.Frag) (b : Bool) (k : Int) (a : Addr) : L2.It :=
  ⟨fun i H => ∃ (xs : List V) (x : V), SqB K b H a xs ∧ xs[i]? = some x, fun i H v H' => ∃ T x, v = .ref T ∧ H T = none ∧ H' = upd H T (.tup [.int (k + (i : Nat)), x]) ∧ ∀ xs, SqB K b H a xs → xs[i]? = some x, fun i H => ∃ xs : List V, SqB K b H a xs ∧ xs.length = i⟩
theorem turn_en {P : Program} {w : World} {K : PySem.W.Frag} {elts : List Expr} {kk : Nat} {tpos : Pos} (bb : Bool) (k : Int) (a e it : Addr) :
    Turn P w K (.Tuple elts kk tpos) (Iten K bb k a) [e, it] e (fun i h => (∃ old, IsEnum h e it (k + (i : Nat)) old) ∧ ItB bb h it a i ∧ e ≠ it ∧ a ≠ it ∧ a ≠ e) where
  mem := by simp
  obj := fun i h st b hb => by
    obtain ⟨⟨old, he⟩, hi, _⟩ := st
    have z : b = e ∨ b = it := by simpa using hb
    rcases z with z | z
    · subst z; exact ⟨_, he, fun v q => nomatch q⟩
    · subst z; exact hi.get
  keep := fun i h h' st kp => let ⟨⟨old, he⟩, hi, hne⟩ := st; ⟨⟨old, kp e (by simp) _ he⟩, hi.at fun o q => kp it (by simp) o q, hne⟩
  item := by
    intro X hP hw hK hc i pins s σ H E I hf st hg
    subst hP hw hK
    obtain ⟨⟨old, he⟩, hit, hne, hai, hae⟩ := st
    obtain ⟨xs, x, hq, hx⟩ := hg
    obtain ⟨its, rv, p⟩ := sqB_heap I hq
    obtain ⟨u, hu, ru⟩ := rv.get hx
    have hel : e < s.heap.objs.size := Heap.lt_size he
    have hil : it < s.heap.objs.size := by obtain ⟨_, q, _⟩ := hit.get; exact Heap.lt_size q
    have hlt : i < its.toArray.size := by
      have := (List.getElem?_eq_some_iff.mp hu).1
      simpa using this
    refine wpAny_pyNext_enum_itemC (drawsB bb (show X.A.in1.handled = none from I.ok.hd hc) it a hai its.toArray) he ⟨hit, p⟩ hlt hne (by simp only [List.mem_cons, List.not_mem_nil, or_false, not_or]; exact ⟨hne, fun z => hae z.symm⟩) fun u' h' tk hu' ho hst' hT hsz hk => ?_
    obtain rfl : u' = u := by
      have : its.toArray[i]? = some u := by simpa using hu
      rw [this] at hu'
      exact (Option.some.inj hu').symm
    refine ⟨_, rfl, wpAny_letOwnedTupleGo_enum (s := { s with heap := h', toks := tk + 1 }) ho fun h2 he' sb => ?_⟩
    have hT2 : h2.get? s.heap.objs.size = some { cls := .type "tuple", data := .seq #[.int (k + (i : Nat)) tk, u'] } := (sb.2 _ (Nat.ne_of_gt hel)).trans hT
    have new : ObjOk X.prog X.w (upd H s.heap.objs.size (.tup [.int (k + (i : Nat)), x])) h2 s.heap.objs.size (.tup [.int (k + (i : Nat)), x]) :=
      ⟨by show 2 ≤ sizeLine; decide, [.int (k + (i : Nat)) tk, u'], .cons ⟨_, rfl⟩ (.cons ru .nil), ⟨_, hT2, rfl, _, rfl⟩⟩
    have I1 : Inv X pins σ (upd H s.heap.objs.size (.tup [.int (k + (i : Nat)), x])) { s with heap := h2, toks := tk + 1 } :=
      I.turnedNew (ch := [e, it]) (fun b ob hb q => (sb.2 b (fun z => hb (by simp [z]))).trans (hk b ob (fun z => hb (by simp [z])) (fun z => hb (by simp [z])) q)) hf (Nat.le_refl _) new
    refine ⟨.ref s.heap.objs.size, _, I1, rfl, ⟨_, x, rfl, I.hok.fresh (Nat.le_refl _), rfl, fun ys hy => by rw [sqB_inj I hy hq]; exact hx⟩, ⟨⟨u', ?_⟩, hst'.1.at fun o q => (sb.2 it (Ne.symm hne)).trans q, hne, hai, hae⟩, fun b hb => ?_⟩
    · have e1 : k + ((i + 1 : Nat) : Int) = k + (i : Int) + 1 := by omega
      rw [e1]; exact he'
    · have hb' : b < s.heap.objs.size := by
        have z : b = e ∨ b = it := by simpa using hb
        rcases z with z | z
        · subst z; exact hel
        · subst z; exact hil
      rw [upd_ne (Nat.ne_of_lt hb')]
      exact (hf b hb).1
  done := by
    intro X hP hw hK hc i pins s σ H E I hf st hg
    subst hP hw hK
    obtain ⟨⟨old, he⟩, hit, hne, hai, hae⟩ := st
    obtain ⟨xs, hq, hx⟩ := hg
    obtain ⟨its, rv, p⟩ := sqB_heap I hq
    obtain ⟨f0, f1, f2, f3, f4, f5⟩ := hf it (by simp)
    have hl := rv.length
    refine wpAny_pyNext_enum_endD (drawsB bb (show X.A.in1.handled = none from I.ok.hd hc) it a hai its.toArray) he ⟨?_, p⟩ fun h' eb => ⟨rfl, I.turned (t' := s.toks) (fun b o hb q => eb b o hb q) f0 f1 f3 f4 f5⟩
    have e1 : its.toArray.size = i := by simp; omega
    rw [e1]
    exact hit
  self := fun A i s Q E st h => let ⟨⟨_, he⟩, _⟩ := st; wpAny_pyIter_enum he h
def HoB (b : Bool) (a : Addr) : Obj := match b with
  | true => { cls := .type "tuple_iterator", data := .fields #[.ref a, .int 0 0] }
  | false => { cls := .type "list_iterator", data := .fields #[.ref a, .int 0 0] }
theorem beginsB (b : Bool) (a : Addr) (items : Array Value) : Begins (.ref a) (HoB b a) fun h => HeB b h a items := by
  cases b with
  | true => exact begins_tuple a items
  | false => exact begins_list a items
theorem itB0 {b : Bool} {h : Heap} {it a : Addr} (e : h.get? it = some (HoB b a)) : ItB b h it a 0 := by
  cases b with
  | true => exact ⟨_, e, rfl, rfl⟩
  | false => exact ⟨_, e, rfl, rfl⟩
theorem sqB_lt {X : L2.Cx} {pins : List (Addr × Obj)} {σ : L2.St} {H : Hp} {s : Shared} {b : Bool} {a : Addr} {vs : List V} (I : Inv X pins σ H s) (q : SqB X.K b H a vs) : a < s.heap.objs.size := by
  obtain ⟨its, _, p⟩ := sqB_heap I q
  cases b with
  | true => obtain ⟨_, e, _⟩ := p; exact Heap.lt_size e
  | false => obtain ⟨_, e, _⟩ := p; exact Heap.lt_size e
open Builtin in
theorem meets_en1 {v : Value} {o : Obj} {H : Heap → Prop} (B : Begins v o H) :
    Meets (Builtin.«enumerate.__new__» ⟨[.type "enumerate", v], []⟩) (fun _ R s => H s.heap ∧
      R (.ok (.ret (.ref (s.heap.push o).objs.size))) { s with heap := (s.heap.push o).push { cls := .type "enumerate", data := .fields #[.none, .bool false, .ref s.heap.objs.size, rawInt 0, .none, .none] } }) :=
  .of_wp fun prog w A R s h => by
    obtain ⟨hp, g, d, tk, os⟩ := s
    obtain ⟨h1, h⟩ := h
    have hsub := sub_enumerate
    have begin_ : ∀ {A' : Around} {E : Value → Shared → Prop} {Q : Value → Shared → Prop}, Q (.ref hp.objs.size) ⟨hp.push o, g, d, tk, os⟩ → wpAny (model prog w) A' (pyIter v) Q E ⟨hp, g, d, tk, os⟩ :=
      fun q => B.iter prog w _ _ ⟨hp, g, d, tk, os⟩ _ h1 q
    wp_walk using begin_
    refine wpAny_stack_any fun st => wpAny_pure ?_
    split
    · rename_i c _ _ _ _ _
      cases (c == Value.type "enumerate") <;> (wp_walk using begin_; exact ⟨_, rfl, h⟩)
    · wp_walk using begin_
      exact ⟨_, rfl, h⟩
theorem enum_begins1 {prog : Program} {w : World} {A : Around} {E : Value → Shared → Prop} {s : Shared} {v : Value} {o : Obj} {H : Heap → Prop} {Q : Value → Shared → Prop} (B : Begins v o H) (h1 : H s.heap)
    (h : ∀ h', IsEnum h' (s.heap.objs.size + 1) s.heap.objs.size 0 .none → h'.get? s.heap.objs.size = some o → h'.objs.size = s.heap.objs.size + 2 → (∀ b o, s.heap.get? b = some o → h'.get? b = some o) → Q (.ref (s.heap.objs.size + 1)) { s with heap := h' }) :
    wpAny (model prog w) A (PySem.call (.type "enumerate") [v]) Q E s := by
  refine callType_new F.called_enumerate (by decide) (F.typeCall_enumerate_1 _) (F.newCall_enumerate_1 _) (fun obj => F.args_object_init_2 obj _) F.entry_enumerate_new (meets_en1 B) ⟨h1, ?_⟩
  have hz : (s.heap.push o).objs.size = s.heap.objs.size + 1 := Heap.size_push ..
  show _ ∧ _
  rw [hz]
  have he : IsEnum ((s.heap.push o).push { cls := .type "enumerate", data := .fields #[.none, .bool false, .ref s.heap.objs.size, rawInt 0, .none, .none] }) (s.heap.objs.size + 1) s.heap.objs.size 0 .none := by
    have q := Heap.get?_push_size (s.heap.push o) (o := { cls := .type "enumerate", data := .fields #[.none, .bool false, .ref s.heap.objs.size, rawInt 0, .none, .none] }) rfl
    rw [hz] at q; exact q
  exact ⟨⟨_, he, rfl⟩, h _ he (Heap.get?_push_of_some _ (Heap.get?_push_size _ B.free)) (by rw [Heap.size_push, hz]) fun b o x => Heap.get?_push_of_some _ (Heap.get?_push_of_some _ x)⟩
def iEn (K : PySem.W.Frag) (k : Int) (ta : TA) : TI := fun σ H R => ta σ H fun vs H1 => ∃ b a xs, vs = [.ref a] ∧ SqB K b H1 a xs ∧ R (Iten K b k a) H1
theorem pi_en {X : L2.Cx} {e : Expr} {ta : TA} {p pos tpos : Pos} {elts : List Expr} {kk : Nat} (hg : Gl X "enumerate") (hm : X.mg "enumerate" = none) (ha : PA X [e] ta) (hs : starEach [e] X.env = [(false, eval e X.env)]) :
    PI X (.Tuple elts kk tpos) (.Call (.Name "enumerate" p) [e] [] pos) (iEn X.K 0 ta) := by
  refine ⟨fun pins s σ H R I h => ?_⟩
  refine Call_ (ld_blt I hg hm boot_enumerate (PyProof.Rows.callWith_type1 (thn (ha.run pos pins s σ H _ I h) fun us s1 ⟨vs, H1, I1, r1, q1⟩ => ?_) hs rfl))
  obtain ⟨bb, a, xs, ex, hq, q⟩ := q1
  subst ex
  cases r1 with
  | cons r rr =>
    cases rr
    cases r
    obtain ⟨its, rv, p'⟩ := sqB_heap I1 hq
    have hal := sqB_lt I1 hq
    refine enum_begins1 (beginsB bb a its.toArray) p' fun h' he hit hsz hk => wpAny_pyIter_enum he ?_
    have I2 : Inv X pins σ H1 { s1 with heap := h' } := I1.kept (t' := s1.toks) hk
    refine ⟨s1.heap.objs.size + 1, [s1.heap.objs.size + 1, s1.heap.objs.size], _, _, H1, rfl, I2, turn_en bb 0 a (s1.heap.objs.size + 1) s1.heap.objs.size, ⟨⟨.none, he⟩, itB0 hit, Nat.succ_ne_self _, Nat.ne_of_lt hal, Nat.ne_of_lt (Nat.lt_succ_of_lt hal)⟩, fun b hb => ?_, q⟩
    have z : b = s1.heap.objs.size + 1 ∨ b = s1.heap.objs.size := by simpa using hb
    have hle : s1.heap.objs.size ≤ b := by
      rcases z with z | z
      · rw [z]; exact Nat.le_add_right _ _
      · rw [z]; exact Nat.le_refl _
    exact I1.fpOk hle (I1.hok.fresh hle)
end Fs
namespace Fs
open PySem L2 PyProof.Rows PySem.Spec
/-- a source that lies at a: a list (false), a tuple (true) -/
structure FolS (Z : Wc) (t : Src) (b : Bool) (a : Addr) (I : Nat → List Addr → Hp → List Addr → Prop) : Prop where
  there : ∀ {i ρ H F}, I i ρ H F → ∀ a ∈ F, H a ≠ none
  stay : ∀ {i ρ H F ρ' H'}, (∀ (l : Nat) (a : Addr), ρ[l]? = some a → ρ'[l]? = some a) → (∀ a o, H a = some o → HCell o = false → H' a = some o) → (∀ a ∈ F, ∀ o, H a = some o → H' a = some o) → I i ρ H F → I i ρ' H' F
  stop : ∀ {i ρ st H F}, SR Z ρ st H → I i ρ H F → t.at i st = some none → t.len st = i → ∃ vs, SqB Z.K b H a vs ∧ vs.length = i
  item : ∀ {i ρ st H F d}, SR Z ρ st H → I i ρ H F → t.at i st = some (some d) → ∃ vs x, SqB Z.K b H a vs ∧ vs[i]? = some x ∧ ∃ F1 F2, (F1 ++ F2).Perm F ∧ Rp Z ρ H d x F1 ∧ I (i + 1) ρ H F2
section
variable {Z : Wc}
theorem fs_tup {xs : List D} (a : Addr) : FolS Z (.items xs) true a (fun i ρ H F => ∃ vs, SqT Z.K H a vs ∧ vs.length = xs.length ∧ Rps Z ρ H (xs.drop i) (vs.drop i) F) where
  there := fun ⟨vs, _, _, r⟩ => r.there
  stay := fun hr ht hk ⟨vs, h, l, r⟩ => ⟨vs, SqT.stay ht h, l, r.stay hr ht hk⟩
  stop := fun {i ρ st H F} s ⟨vs, h, l, r⟩ e e2 => ⟨vs, h, by rw [l]; exact e2⟩
  item := fun {i ρ st H F d} s ⟨vs, h, l, r⟩ e => by
    simp only [Src.at, Option.some.injEq] at e
    obtain ⟨x, F1, F2, hx, rfl, r1, r2⟩ := rps_turn e r
    exact ⟨vs, x, h, hx, F1, F2, .refl _, r1, vs, h, l, r2⟩
theorem fs_lst {xs : List D} (a : Addr) : FolS Z (.items xs) false a (fun i ρ H F => ∃ vs G, H a = some (.lst vs) ∧ vs.length = xs.length ∧ Rps Z ρ H (xs.drop i) (vs.drop i) G ∧ F = a :: G) where
  there := fun ⟨vs, G, h, _, r, f⟩ b hb => by
    subst f
    rcases List.mem_cons.mp hb with rfl | hb
    · rw [h]; exact nofun
    · exact r.there b hb
  stay := fun hr ht hk ⟨vs, G, h, l, r, f⟩ => by
    subst f
    exact ⟨vs, G, hk a List.mem_cons_self _ h, l, r.stay hr ht (fun b hb => hk b (List.mem_cons_of_mem _ hb)), rfl⟩
  stop := fun {i ρ st H F} s ⟨vs, G, h, l, r, f⟩ e e2 => ⟨vs, SqL.of h, by rw [l]; exact e2⟩
  item := fun {i ρ st H F d} s ⟨vs, G, h, l, r, f⟩ e => by
    simp only [Src.at, Option.some.injEq] at e
    obtain ⟨x, F1, F2, hx, rfl, r1, r2⟩ := rps_turn e r
    subst f
    exact ⟨vs, x, SqL.of h, hx, F1, a :: F2, List.perm_middle, r1, vs, F2, h, l, r2, rfl⟩
theorem fs_cell {l : Nat} (a : Addr) : FolS Z (.cell l) false a (fun i ρ H F => ρ[l]? = some a ∧ F = []) where
  there := fun ⟨_, f⟩ b hb => by rw [f] at hb; cases hb
  stay := fun hr _ _ ⟨h, f⟩ => ⟨hr l a h, f⟩
  stop := fun {i ρ st H F} s ⟨h, f⟩ e e2 => by
    obtain ⟨xs, hc, hx⟩ := src_cell e
    obtain ⟨vs, hv, r⟩ := s.list h hc
    refine ⟨vs, hv, ?_⟩
    rw [← r.length, ← e2]
    rcases hc with hc | hc <;> simp [Src.len, hc]
  item := fun {i ρ st H F d} s ⟨h, f⟩ e => by
    obtain ⟨xs, hc, hx⟩ := src_cell e
    obtain ⟨vs, hv, r⟩ := s.list h hc
    obtain ⟨x, G, ex, rx, hG⟩ := r.get hx
    obtain rfl : G = [] := List.sublist_nil.mp hG
    exact ⟨vs, x, hv, ex, [], [], by rw [f]; exact .refl _, rx, h, rfl⟩
theorem stay_new {H : Hp} {T : Addr} {o : HO} (hT : H T = none) : ∀ a u, H a = some u → upd H T o a = some u := fun a u e => by
  rw [upd_ne (fun z => by rw [z, hT] at e; cases e)]; exact e
theorem fol_en {s : Src} {b : Bool} {a : Addr} {I : Nat → List Addr → Hp → List Addr → Prop} (k : Int) (f : FolS Z s b a I) : Fol Z (.enum k s) (Iten Z.K b k a) I where
  there := f.there
  stay := f.stay
  stop := fun {i ρ st H F} sr hI e => by
    simp only [It.next] at e
    split at e
    · cases e
    · rename_i h1
      split at e
      · rename_i h2
        obtain ⟨vs, h, l⟩ := f.stop sr hI h1 h2
        exact ⟨vs, h, l⟩
      · cases e
    · cases e
  item := fun {i ρ st H F d} sr hI e => by
    simp only [It.next] at e
    split at e
    · rename_i d' h1
      cases e
      obtain ⟨vs, x, h, hx, F1, F2, pm, r, hI2⟩ := f.item sr hI h1
      refine ⟨⟨vs, x, h, hx⟩, ?_⟩
      rintro y H' ⟨T, x', rfl, hT, rfl, hall⟩
      have := hall vs h
      rw [hx] at this
      cases this
      have st := stay_new (o := .tup [.int (k + (i : Nat)), x]) hT
      refine ⟨.inr ⟨T, _, hT, rfl⟩, F1, F2, pm, ⟨T, _, rfl, SqT.of upd_same, ?_⟩, f.stay (fun _ _ e => e) (fun a o e _ => st a o e) (fun a _ o e => st a o e) hI2⟩
      exact ⟨_, _, [], F1, rfl, ⟨rfl, rfl⟩, ⟨x, [], F1, [], rfl, rp_up hT r, ⟨rfl, rfl⟩, by simp⟩, by simp⟩
    · split at e <;> cases e
    · cases e
theorem src_ok {d : D} {s : Src} {x : V} {ρ : List Addr} {H : Hp} {F : List Addr} {st st' : Sto} (sr : SR Z ρ st H) (r : Rp Z ρ H d x F) (e : srcOf d st = .ok s st') : st' = st ∧ ∃ b a I vs, x = .ref a ∧ FolS Z s b a I ∧ SqB Z.K b H a vs ∧ I 0 ρ H F := by
  cases d with
  | tup xs =>
    cases e
    obtain ⟨a, vs, rfl, h, rs⟩ := r
    exact ⟨rfl, true, a, _, vs, rfl, fs_tup a, h, vs, h, rs.length.symm, by simpa using rs⟩
  | lst xs =>
    cases e
    obtain ⟨a, vs, G, rfl, h, rs, f⟩ := r
    exact ⟨rfl, false, a, _, vs, rfl, fs_lst a, SqL.of h, vs, G, h, rs.length.symm, by simpa using rs, f⟩
  | ref l =>
    obtain ⟨a, hl, rfl, f⟩ := r
    simp only [srcOf] at e
    split at e
    · rename_i xs hc
      cases e
      obtain ⟨vs, hv, rs⟩ := sr.list hl (.inl hc)
      exact ⟨rfl, false, a, _, vs, rfl, fs_cell a, hv, hl, f⟩
    · rename_i xs hc
      cases e
      obtain ⟨vs, hv, rs⟩ := sr.list hl (.inr hc)
      exact ⟨rfl, false, a, _, vs, rfl, fs_cell a, hv, hl, f⟩
    · cases e
  | _ => cases e
end
section
variable {X : L2.Cx} {T : Tbl} {Z : Wc} {W : WX} {pos p tpos : Pos} {e : Expr} {A : Ex} {elts : List Expr} {kk : Nat}
theorem si_en (hK : X.K = Z.K) (hg : Gl X "enumerate") (hm : X.mg "enumerate" = none) (ha : PE X e (iE T Z W A)) (hs : starEach [e] X.env = [(false, eval e X.env)]) : PI X (.Tuple elts kk tpos) (.Call (.Name "enumerate" p) [e] [] pos) (iI T Z W (.enum A 0)) := by
  have w := pi_en (p := p) (pos := pos) (elts := elts) (kk := kk) (tpos := tpos) hg hm (pa_cons ha pa_nil hs) hs
  refine ⟨fun pins s σ H R I h => w.run pins s σ H R I ?_⟩
  obtain ⟨ρ, env, st, er, sr, h⟩ := h
  simp only [evI] at h
  refine ⟨ρ, env, st, er, sr, (Post.seq rpOk (Now.start sr) sr h).mono ?_⟩
  rintro x H1 ⟨ρ1, d, st1, F1, n1, t1, r1, h1⟩
  cases e1 : srcOf d st1 with
  | exc _ _ => simp [srcOf] at e1; split at e1 <;> first | cases e1 | (split at e1 <;> cases e1)
  | bad => unfold bnd at h1; rw [e1] at h1; exact h1.elim
  | ok s2 st2 =>
    obtain ⟨rfl, b, a, I2, vs, rfl, f, hv, hI⟩ := src_ok n1.sr r1 e1
    unfold bnd at h1
    rw [e1] at h1
    refine ⟨b, a, vs, rfl, by rw [hK]; exact hv, ?_⟩
    rw [hK]
    exact Post.ret h1 n1 ⟨I2, fol_en 0 f, by simpa using hI⟩
end
end Fs
namespace Fs
open PySem L2 PyProof.Rows PySem.Spec
theorem dput_keys {k : Ky} {v : D} : ∀ {kvs : List (Ky × D)} {j : Ky}, j ∈ (dput k v kvs).map (·.1) → j = k ∨ j ∈ kvs.map (·.1)
  | [], j, h => by simp [dput] at h; exact .inl h
  | (q, x) :: r, j, h => by
    simp only [dput] at h
    split at h
    · exact .inr (by simpa using h)
    · simp only [List.map_cons, List.mem_cons] at h ⊢
      rcases h with h | h
      · exact .inr (.inl h)
      · rcases dput_keys h with h | h
        · exact .inl h
        · exact .inr (.inr h)
theorem dput_nodup {k : Ky} {v : D} : ∀ {kvs : List (Ky × D)}, (kvs.map (·.1)).Nodup → ((dput k v kvs).map (·.1)).Nodup
  | [], _ => by simp [dput]
  | (q, x) :: r, h => by
    have h' := List.nodup_cons.mp (show (q :: r.map (·.1)).Nodup from h)
    simp only [dput]
    split
    · exact h
    · rename_i hq
      refine List.nodup_cons.mpr ⟨fun z => ?_, dput_nodup h'.2⟩
      rcases dput_keys z with e | e
      · exact hq e
      · exact h'.1 e
section
variable {X : L2.Cx} {T : Tbl} {Z : Wc} {W : WX} {pos p : Pos} {tg e c : Expr} {A B : Ex}
theorem dc_ok {own : List Nat} {it : Ix} {t : Tg} {ifs : List Cn} {A B : Ex} (hsub : ∀ i ∈ tgN t, i ∈ own) {σ : L2.St} {H : Hp} {Q : VK} (h : iE T Z W (.dc own it t ifs A B) σ H Q) :
    tDc (iI T Z W it) (iG T Z t) (iTs T Z WF ifs) (iE T Z WF A) (iE T Z WF B) own σ H Q := by
  obtain ⟨ρ, env, st, er, sr, h⟩ := h
  simp only [ev] at h
  refine ⟨ρ, env, st, er, sr, (Post.seq relI_ok (Now.start sr) sr h).mono ?_⟩
  rintro J H1 ⟨ρ1, w, st1, G, n1, t1, ⟨I, fol, hI⟩, h1⟩ D hD
  have up : ∀ a u, H1 a = some u → upd H1 D (.dK []) a = some u := fun a u e => by rw [upd_ne (fun z => by rw [z, hD] at e; cases e)]; exact e
  generalize hturn : (fun d => bnd (asgT T t d (Fs.wipe env own)) fun σ' => bnd (evTs T ifs σ') fun b => match b with
        | true => bnd (ev T A σ') fun x => bnd (ev T B σ') fun y => opt (keyOf x) fun q => ret (some (q, y))
        | false => ret none : Fs.D → Sto → R (Option (Ky × Fs.D))) = turn at h1
  refine ⟨fun i m H' => ∃ ρ' st' Fi ys vs, Now Z ρ H ρ' st' H' (D :: Fi) ∧ H' D = some (.dK vs) ∧ RpK Z ρ' H' ys vs [] ∧ (ys.map (·.1)).Nodup ∧ I i ρ' H' Fi ∧ Post (Rp Z) Z W (bnd (dcLoop w turn m i ys) (fun ys => ret (.dic ys)) st') ρ σ H Q,
    ⟨w.len st1 + 1, ρ1, st1, G, [], [], n1.new sr hD, upd_same, ⟨rfl, rfl⟩, List.nodup_nil, fol.stay (fun _ _ e => e) (fun a u e _ => up a u e) (fun a _ u e => up a u e) hI, h1⟩, ?_⟩
  rintro i m H' ⟨ρ', st', Fi, ys, vs, n, hDv, rys, hnd, hI', h'⟩
  cases m with
  | zero => exact h'.elim
  | succ m =>
    unfold bnd at h'
    simp only [dcLoop] at h'
    cases e1 : w.next i st' with
    | none => rw [e1] at h'; exact h'.elim
    | some o => cases o with
      | none =>
        rw [e1] at h'
        refine .inl ⟨fol.stop n.sr hI' e1, ?_⟩
        exact Post.ok h' (n.less (List.cons_sublist_cons.mpr (List.nil_sublist _))) ⟨D, [], rfl, rfl, .inl ⟨vs, hDv, rys⟩⟩
      | some d =>
        rw [e1] at h'
        simp only at h'
        obtain ⟨hgo, hy⟩ := fol.item n.sr hI' e1
        refine .inr ⟨hgo, fun H2 => ∃ ρ' st' Fi ys vs, Now Z ρ H ρ' st' H2 (D :: Fi) ∧ H2 D = some (.dK vs) ∧ RpK Z ρ' H2 ys vs [] ∧ (ys.map (·.1)).Nodup ∧ I (i + 1) ρ' H2 Fi ∧ Post (Rp Z) Z W (bnd (dcLoop w turn m (i + 1) ys) (fun ys => ret (.dic ys)) st') ρ σ H Q,
          fun H2 hN => ⟨m, Nat.lt_succ_self m, hN⟩, fun x Hx hyl => ?_⟩
        obtain ⟨hH, F1, F2, hperm, rx, hI2⟩ := hy x Hx hyl
        have perm : (F1 ++ (D :: F2)).Perm (D :: Fi) := by
          exact (List.perm_middle).trans (List.Perm.cons D hperm)
        obtain ⟨nx, erx⟩ := (n.perm perm).tupd sr hH
        have stx : (∀ a u, H' a = some u → Hx a = some u) := by
          rcases hH with rfl | ⟨T0, vs0, hT, rfl⟩
          · exact fun a u e => e
          · exact fun a u e => by rw [upd_ne (fun z => by rw [z, hT] at e; cases e)]; exact e
        have rysx : RpK Z ρ' Hx ys vs [] := rys.stay (fun _ _ e => e) (fun a u e _ => stx a u e) (fun a _ u e => stx a u e)
        refine ⟨ρ', Fs.wipe env own, st', d, F1, (nx.less (List.sublist_append_left _ _)).hand, (erx (n.stp.env sr er)).wipe own, rx, ?_⟩
        have et : turn d st' = bnd (asgT T t d (Fs.wipe env own)) (fun σ' => bnd (evTs T ifs σ') fun b => match b with
            | true => bnd (ev T A σ') fun x => bnd (ev T B σ') fun y => opt (keyOf x) fun q => ret (some (q, y))
            | false => ret none) st' := by rw [← hturn]
        rw [et] at h'
        simp only [bnd] at h'
        cases e2 : asgT T t d (Fs.wipe env own) st' with
        | exc _ _ => simp only [e2] at h'; exact h'.elim
        | bad => simp only [e2] at h'; exact h'.elim
        | ok env3 st3 =>
          simp only [e2] at h'
          intro ρ3 H3 σ3 t3 sr3 er3 m3
          have n3 := nx.landR sr t3 sr3
          obtain ⟨k1, k2, k3⟩ := t3.kept nx.hand rx.hcells
          refine ⟨wipe_sm m3 hsub, ρ3, env3, st3, er3, sr3, ?_⟩
          cases e3 : evTs T ifs env3 st3 with
          | exc _ _ => simp only [e3] at h'; exact h'.elim
          | bad => simp only [e3] at h'; exact h'.elim
          | ok b st4 =>
            simp only [e3] at h'
            rintro ρ4 H4 bb F t4 sr4 ⟨rfl, rfl⟩
            have n4 := n3.more sr t4 sr4 (by simp)
            rw [List.append_nil] at n4
            obtain ⟨q1, q2, q3⟩ := t4.kept sr3 n3.out
            have hD4 : H4 D = some (.dK vs) := q3 D List.mem_cons_self _ (k3 D List.mem_cons_self _ (stx _ _ hDv))
            have rys4 : RpK Z ρ4 H4 ys vs [] := (rysx.stay k1 k2 (by simp)).stay q1 q2 (by simp)
            have hI4 : I (i + 1) ρ4 H4 F2 := fol.stay q1 q2 (fun a ha => q3 a (List.mem_cons_of_mem _ ha)) (fol.stay k1 k2 (fun a ha => k3 a (List.mem_cons_of_mem _ ha)) hI2)
            cases b with
            | false =>
              simp only [ret] at h'
              exact ⟨ρ4, st4, F2, ys, vs, n4, hD4, rys4, hnd, hI4, h'⟩
            | true =>
              refine ⟨ρ4, env3, st4, t4.env sr3 er3, sr4, ?_⟩
              cases e4 : ev T A env3 st4 with
              | exc _ _ => simp only [bnd, e4, ret, opt] at h'; exact h'.elim
              | bad => simp only [bnd, e4, ret, opt] at h'; exact h'.elim
              | ok kd st5 =>
                simp only [bnd, e4, ret, opt] at h'
                intro ρ5 H5 kv G5 t5 sr5 r5
                refine ⟨ρ5, env3, st5, t5.env sr4 (t4.env sr3 er3), sr5, ?_⟩
                have n5 := n4.more sr t5 sr5 r5.there
                obtain ⟨u1, u2, u3⟩ := t5.kept sr4 n4.out
                cases e5 : ev T B env3 st5 with
                | exc _ _ => simp only [e5] at h'; exact h'.elim
                | bad => simp only [e5] at h'; exact h'.elim
                | ok y st6 =>
                  simp only [e5] at h'
                  intro ρ6 H6 v G6 t6 sr6 r6
                  have n6 := n5.more sr t6 sr6 r6.there
                  obtain ⟨w1, w2, w3⟩ := t6.kept sr5 n5.out
                  cases hq : keyOf kd with
                  | none => simp only [hq, bad] at h'; exact h'.elim
                  | some q =>
                    simp only [hq, ret] at h'
                    by_cases hz : ys.length < sizeLine ∧ okKeys q ys = true ∧ Fs.D.pur y = true
                    · rw [if_pos hz] at h'
                      obtain ⟨k, rfl, rfl, rfl⟩ := key_ok r5 hq
                      obtain rfl := r6.pure hz.2.2
                      have hD6 := w3 D (List.mem_append_left _ List.mem_cons_self) _ (u3 D List.mem_cons_self _ hD4)
                      have rys6 : RpK Z ρ6 H6 ys vs [] := (rys4.stay u1 u2 (by simp)).stay w1 w2 (by simp)
                      obtain ⟨G, rp, hs⟩ := dput_ok (k := k) r6 hnd rys6
                      obtain rfl := List.sublist_nil.mp hs
                      have hlen : ys.length = vs.length := by simpa using congrArg List.length rys6.keysEq
                      have n6' : Now Z ρ H ρ6 st6 H6 (D :: F2) := by simpa using n6
                      have nd6 := n6'.nd
                      simp only [List.nodup_cons] at nd6
                      refine ⟨vs, k, rfl, hD6, by rw [← hlen]; exact hz.1, ρ6, st6, F2, _, _, n6'.updF sr List.mem_cons_self hD6 rfl, upd_same, RpK.stay (fun _ _ e => e) (upd_keep hD6 rfl) (by simp) rp, dput_nodup hnd, ?_, h'⟩
                      exact fol.stay (fun _ _ e => e) (upd_keep hD6 rfl) (upd_off nd6.1) (fol.stay w1 w2 (fun a ha => w3 a (List.mem_append_left _ (List.mem_cons_of_mem _ ha))) (fol.stay u1 u2 (fun a ha => u3 a (List.mem_cons_of_mem _ ha)) hI4))
                    · rw [if_neg hz] at h'; exact h'.elim
theorem se_dc {kx vx iter : Expr} {ifs : List Expr} {scope : Scope} {own : List (Str × Nat)} {it : Ix} {t : Tg} {Cs : List Cn} (hc : X.calm = true) (hN : X.N.Nodup) (ok : blkC X.N X.env.scope scope own = true) (hsub : (tgN t).all ((own.map (·.2)).contains ·) = true)
    (hi : PI X tg iter (iI T Z W it)) (hg : ∀ (s : Shared) (H : Hp) (C : Addr) (cl : List (Str × Addr)) (fp : List Addr), PG (X.blk s H scope (compEnvC scope cl C X.env) fp) tg (iG T Z t))
    (ht : ∀ (s : Shared) (H : Hp) (C : Addr) (cl : List (Str × Addr)) (fp : List Addr), PTs (X.blk s H scope (compEnvC scope cl C X.env) fp) ifs (iTs T Z WF Cs))
    (hk : ∀ (s : Shared) (H : Hp) (C : Addr) (cl : List (Str × Addr)) (fp : List Addr), PE (X.blk s H scope (compEnvC scope cl C X.env) fp) kx (iE T Z WF A))
    (he : ∀ (s : Shared) (H : Hp) (C : Addr) (cl : List (Str × Addr)) (fp : List Addr), PE (X.blk s H scope (compEnvC scope cl C X.env) fp) vx (iE T Z WF B)) (hs : ∀ x, foldedSetIterable iter X.env x = pure x := by intro _; rfl) :
    PE X (.DictComp kx vx [⟨tg, iter, ifs, 0⟩] scope pos) (iE T Z W (.dc (own.map (·.2)) it t Cs A B)) :=
  pe_weak (pe_dc hc hN hi (blkOk_by ok) hg ht hk he hs) fun σ H Q h => dc_ok (subN hsub) h
/-- {} -/
theorem se_dct0 : PE X (.Dict [] [] pos) (iE T Z W (.dct [])) :=
  pe_weak pe_dnewK fun σ H Q ⟨ρ, env, st, er, sr, h⟩ p hp => by
    simp only [ev, evkv, bnd, ret, gd] at h
    exact Post.ok h ((Now.start sr).new sr hp) ⟨p, [], rfl, rfl, .inl ⟨[], upd_same, ⟨rfl, rfl⟩⟩⟩
end
end Fs
namespace Fs
open PySem L2 PyProof.Rows PySem.Spec
section
variable {X : L2.Cx} {T : Tbl} {Z : Wc} {W : WX} {pos pt px py pz pt2 : Pos} {a b c : Expr} {A B C : Ex} {x y z : Str} {i j l kt k2 : Nat}
/-- what a store of a tuple's parts is ahead of -/
theorem par_pre {ts : List Tg} {As : List Ex} {Dn : Ends} {σ : L2.St} {H : Hp} (h : iS T Z W (.asg (.tup ts) (.tup As)) Dn σ H) :
    iEs T Z W As σ H (fun vs H1 => ∃ ρ1 st1 env ds F, Hand Z ρ1 st1 H1 F ∧ ER Z ρ1 H1 env σ ∧ Rps Z ρ1 H1 ds vs F ∧ ∃ env' st', asgTs T ts ds env st1 = .ok env' st' ∧ ∀ ρ' H' σ', StpF ρ1 H1 F ρ' H' → SR Z ρ' st' H' → ER Z ρ' H' env' σ' → Dn.nx σ' H') := by
  obtain ⟨ρ, env, st, er, sr, h⟩ := h
  simp only [exS, ev] at h
  refine ⟨ρ, env, st, er, sr, ?_⟩
  have h' : PostS Z W (lft env (evs T As env) (fun ds => fun s => lft env (gd (decide (ds.length ≤ sizeLine)) (ret (.tup ds))) (fun x => bnd (noX (asgT T (.tup ts) x env)) fun σ' => ret (.nx σ')) s) st) ρ H Dn := by
    unfold lft bnd at h ⊢
    cases e : evs T As env st <;> simp only [e] at h ⊢ <;> exact h
  refine (PostS.lft rpsOk (Now.start sr) sr er h').mono ?_
  rintro vs H1 ⟨ρ1, ds, st1, G, n, t, er1, r, h1⟩
  cases hz : decide (ds.length ≤ sizeLine) with
  | false => simp only [hz, gd, lft, bad] at h1; exact h1.elim
  | true =>
    simp only [hz, gd, lft, ret, bnd, noX, asgT, ofTup] at h1
    cases e1 : asgTs T ts ds env st1 with
    | exc _ _ => rw [e1] at h1; exact h1.elim
    | bad => rw [e1] at h1; exact h1.elim
    | ok env' st' =>
      rw [e1] at h1
      have n' : Now Z ρ H ρ1 st1 H1 G := n
      exact ⟨ρ1, st1, env, ds, G, n'.hand, er1, r, env', st', e1, fun ρ' H' σ' t2 sr2 er2 => h1 ρ' H' σ' (n'.land sr t2) sr2 er2⟩
theorem asg2 {ds : List D} {env env' : Env} {st st' : Sto} {ρ : List Addr} {H : Hp} {σ : L2.St} {vs : List V} {F : List Addr} (hd : Hand Z ρ st H F) (er : ER Z ρ H env σ) (r : Rps Z ρ H ds vs F) (e : asgTs T [.nm i, .nm j] ds env st = .ok env' st') :
    ∃ v w N, vs = [v, w] ∧ N.Perm F ∧ SR Z (ρ ++ N) st' H ∧ ER Z (ρ ++ N) H env' ((σ.set i (some v)).set j (some w)) := by
  match ds, r, e with
  | [], _, e => cases e
  | [_], _, e => simp only [asgTs, asgT, bnd, landM, ret] at e; cases e
  | [d1, d2], r, e =>
    obtain ⟨N, pm, s', q⟩ := lands_ok _ hd.sr r hd.out hd.nd
    simp only [lands] at s' q
    simp only [asgTs, asgT, bnd, landM, ret] at e
    cases e
    obtain ⟨v, ws, F1, F2, rfl, q1, q2, f⟩ := q
    obtain ⟨w, ws2, F3, F4, rfl, q3, ⟨rfl, rfl⟩, f2⟩ := q2
    obtain ⟨rfl, rfl⟩ := List.append_eq_nil_iff.mp f.symm
    obtain ⟨rfl, _⟩ := List.append_eq_nil_iff.mp f2.symm
    have er' : ER Z (ρ ++ N) H env σ := ⟨er.1, fun k x hx => let ⟨u, h1, h2⟩ := er.2 k x hx; ⟨u, h1, h2.wide⟩⟩
    exact ⟨v, w, N, rfl, pm, s', (er'.set q1).set q3⟩
  | _ :: _ :: _ :: _, _, e => simp only [asgTs, asgT, bnd, landM, ret] at e; cases e
theorem asg3 {ds : List D} {env env' : Env} {st st' : Sto} {ρ : List Addr} {H : Hp} {σ : L2.St} {vs : List V} {F : List Addr} (hd : Hand Z ρ st H F) (er : ER Z ρ H env σ) (r : Rps Z ρ H ds vs F) (e : asgTs T [.nm i, .nm j, .nm l] ds env st = .ok env' st') :
    ∃ u v w N, vs = [u, v, w] ∧ N.Perm F ∧ SR Z (ρ ++ N) st' H ∧ ER Z (ρ ++ N) H env' (((σ.set i (some u)).set j (some v)).set l (some w)) := by
  match ds, r, e with
  | [], _, e => cases e
  | [_], _, e => simp only [asgTs, asgT, bnd, landM, ret] at e; cases e
  | [_, _], _, e => simp only [asgTs, asgT, bnd, landM, ret] at e; cases e
  | [d1, d2, d3], r, e =>
    obtain ⟨N, pm, s', q⟩ := lands_ok _ hd.sr r hd.out hd.nd
    simp only [lands] at s' q
    simp only [asgTs, asgT, bnd, landM, ret] at e
    cases e
    obtain ⟨v, ws, F1, F2, rfl, q1, q2, f⟩ := q
    obtain ⟨w, ws2, F3, F4, rfl, q3, q4, f2⟩ := q2
    obtain ⟨w3, ws3, F5, F6, rfl, q5, ⟨rfl, rfl⟩, f3⟩ := q4
    obtain ⟨rfl, rfl⟩ := List.append_eq_nil_iff.mp f.symm
    obtain ⟨rfl, rfl⟩ := List.append_eq_nil_iff.mp f2.symm
    obtain ⟨rfl, _⟩ := List.append_eq_nil_iff.mp f3.symm
    have er' : ER Z (ρ ++ N) H env σ := ⟨er.1, fun k x hx => let ⟨u, h1, h2⟩ := er.2 k x hx; ⟨u, h1, h2.wide⟩⟩
    exact ⟨v, w, w3, N, rfl, pm, s', ((er'.set q1).set q3).set q5⟩
  | _ :: _ :: _ :: _ :: _, _, e => simp only [asgTs, asgT, bnd, landM, ret] at e; cases e
theorem ss_par2 (hc : X.calm = true) (hN : X.N.Nodup) (hi : X.N[i]? = some x) (hj : X.N[j]? = some y) (hij : i ≠ j)
    (hx : X.env.scope.names.lookup x = some .local) (hy : X.env.scope.names.lookup y = some .local) (ha : PA X [a, b] (iEs T Z W [A, B]))
    (hw : swappedStores [.Tuple [.Name x px, .Name y py] kt pt] (.Tuple [a, b] k2 pt2) X.env = pure (some [x, y]))
    (hs : swapsWithSole [.Tuple [.Name x px, .Name y py] kt pt] (.Tuple [a, b] k2 pt2) pos.line X.env = pure false := by rfl) :
    PS X (.Assign [.Tuple [.Name x px, .Name y py] kt pt] (.Tuple [a, b] k2 pt2) pos) (iS T Z W (.asg (.tup [.nm i, .nm j]) (.tup [A, B]))) :=
  ps_weak (ps_par hc hN hi hj hij hx hy ha hw hs) fun Dn σ H h => by
    obtain ⟨ρ, env, st, er, sr, q⟩ := par_pre h
    refine ⟨ρ, env, st, er, sr, q.mono ?_⟩
    rintro vs H1 ⟨ρ1, st1, env1, ds, F, hd, er1, r, env', st', e, q1⟩
    obtain ⟨v, w, N, rfl, pm, s', er2⟩ := asg2 hd er1 r e
    exact ⟨v, w, rfl, q1 _ _ _ ⟨N, rfl, pm.nodup_iff.mpr hd.nd, fun b hb => .inl (pm.mem_iff.mp hb), fun _ _ e _ _ => e⟩ s' er2⟩
theorem ss_par3 (hc : X.calm = true) (hN : X.N.Nodup) (hi : X.N[i]? = some x) (hj : X.N[j]? = some y) (hl : X.N[l]? = some z) (hij : i ≠ j) (hil : i ≠ l) (hjl : j ≠ l)
    (hx : X.env.scope.names.lookup x = some .local) (hy : X.env.scope.names.lookup y = some .local) (hz : X.env.scope.names.lookup z = some .local) (ha : PA X [a, b, c] (iEs T Z W [A, B, C]))
    (hw : swappedStores [.Tuple [.Name x px, .Name y py, .Name z pz] kt pt] (.Tuple [a, b, c] k2 pt2) X.env = pure (some [x, y, z]))
    (hs : swapsWithSole [.Tuple [.Name x px, .Name y py, .Name z pz] kt pt] (.Tuple [a, b, c] k2 pt2) pos.line X.env = pure false := by rfl) :
    PS X (.Assign [.Tuple [.Name x px, .Name y py, .Name z pz] kt pt] (.Tuple [a, b, c] k2 pt2) pos) (iS T Z W (.asg (.tup [.nm i, .nm j, .nm l]) (.tup [A, B, C]))) :=
  ps_weak (ps_par3 hc hN hi hj hl hij hil hjl hx hy hz ha hw hs) fun Dn σ H h => by
    obtain ⟨ρ, env, st, er, sr, q⟩ := par_pre h
    refine ⟨ρ, env, st, er, sr, q.mono ?_⟩
    rintro vs H1 ⟨ρ1, st1, env1, ds, F, hd, er1, r, env', st', e, q1⟩
    obtain ⟨u, v, w, N, rfl, pm, s', er2⟩ := asg3 hd er1 r e
    exact ⟨u, v, w, rfl, q1 _ _ _ ⟨N, rfl, pm.nodup_iff.mpr hd.nd, fun b hb => .inl (pm.mem_iff.mp hb), fun _ _ e _ _ => e⟩ s' er2⟩
end
end Fs
namespace Fs
open PySem L2 PyProof.Rows PySem.Spec
section
variable {Z : Wc}
theorem er_start {ρ : List Addr} {H : Hp} {ds : List D} {vs : List V} (r : Rps Z ρ H ds vs []) (m : Nat) : ER Z ρ H (ds.map some ++ List.replicate m none) (vs.map some ++ List.replicate m none) := by
  refine ⟨by simp [r.length], fun i d h => ?_⟩
  by_cases hi : i < ds.length
  · rw [List.getElem?_append_left (by simpa using hi), List.getElem?_map] at h
    cases hd : ds[i]? with
    | none => rw [hd] at h; cases h
    | some d' =>
      rw [hd] at h
      cases h
      obtain ⟨v, G, hv, rv, sub⟩ := r.get hd
      obtain rfl := List.sublist_nil.mp sub
      refine ⟨v, ?_, rv⟩
      rw [List.getElem?_append_left (by simp [← r.length]; exact hi), List.getElem?_map, hv]
      rfl
  · rw [List.getElem?_append_right (by simpa using Nat.le_of_not_lt hi), List.getElem?_replicate] at h
    split at h <;> cases h
/-- a def is entered -/
theorem enter_ok {P : Pr} {n i : Nat} {F : Fn} {N : List Str} {vs : List V} {H : Hp} {Q : VK} {E : XK} (hF : P.fns i = some F) (hN : N.length = F.ns) (h : spI Z (call P (n + 1) i) F.np vs H Q E) :
    iL (P.tbl n) Z (fun cls dx _ H' => E cls dx H') F.body { nx := fun _ H' => Q .non H', rt := Q } (start N vs) H := by
  obtain ⟨hl, ρ0, st0, H0, ρ, st, ds, FF, sr0, n0, r, h⟩ := h
  have hd : ds.length = F.np := by rw [r.length, hl]
  unfold call at h
  simp only [hF, hd, decide_true] at h
  obtain ⟨M, pm, s1, r1⟩ := lands_ok ds n0.sr r n0.out n0.nd
  have n0' : Now Z ρ0 H0 ρ st H ([] ++ FF) := n0
  have n1 := n0'.landed pm s1
  refine ⟨ρ ++ M, (lands ds st).1.map some ++ List.replicate (F.ns - F.np) none, (lands ds st).2, ?_, s1, ?_⟩
  · have := er_start r1 (F.ns - F.np)
    unfold L2.start
    rw [hN, hl]
    exact this
  · have tk : ∀ ρ', (∃ K, ρ' = (ρ ++ M) ++ K) → ρ'.take st.length = ρ := by
      rintro ρ' ⟨K, rfl⟩
      rw [← n0.sr.len, List.append_assoc]
      simp
    show PostS Z _ (exL (P.tbl n) F.body _ _) _ _ _
    unfold Pr.tbl
    cases e : exL ⟨call P n, P.fld, P.anc⟩ F.body ((lands ds st).1.map some ++ List.replicate (F.ns - F.np) none) (lands ds st).2 with
    | exc _ _ => rw [e] at h; exact h.elim
    | bad => rw [e] at h; exact h.elim
    | ok f s' =>
      rw [e] at h
      cases f with
      | br _ => exact h.elim
      | ct _ => exact h.elim
      | rt d =>
        intro ρ' H' v G t sr r'
        have n2 : Now Z ρ0 H0 ρ' s' H' ([] ++ G) := n1.more sr0 t sr r'.there
        exact leave_ok (N := []) (st1 := []) sr0 n0 n2 (tk ρ' (let ⟨K, e, _⟩ := t; ⟨K, e⟩)) r' h
      | nx _ =>
        intro ρ' H' σ' t sr _
        have n2 : Now Z ρ0 H0 ρ' s' H' ([] ++ []) := n1.more sr0 t sr (by simp)
        exact leave_ok (N := []) (st1 := []) sr0 n0 n2 (tk ρ' (let ⟨K, e, _⟩ := t; ⟨K, e⟩)) (d := .non) ⟨rfl, rfl⟩ h
      | ex _ x =>
        intro ρ' H' σ' cls dx t sr _ rx
        have n2 : Now Z ρ0 H0 ρ' s' H' ([] ++ []) := n1.more sr0 t sr (by simp)
        exact leaveX_ok (st0 := []) (st1 := []) n0 n2 (tk ρ' (let ⟨K, e, _⟩ := t; ⟨K, e⟩)) rx h
end
section
variable {P : Program} {w : World} {K : PySem.W.Frag} {mg : Str → Option Value} {base : Heap} {Z : Wc}
/-- at depth 0 nothing is promised -/
theorem fg_zero {Pp : Pr} {k : Nat} {f : Addr} {fd : FuncData} {ps : List Str} {i np : Nat} (h : ps.length = np) : FgOk P w K mg base k f fd ps (spI Z (call Pp 0 i) np) :=
  ⟨fun vs H Q E ⟨hl, _⟩ => by rw [hl, h], fun A outer s H args us vs Q E _ _ _ _ _ ⟨_, _, _, _, _, _, _, _, _, _, _, q⟩ => by
    simp only [call, bad] at q
    exact q.elim⟩
end
end Fs
namespace Fs
open PySem L2 PyProof.Rows PySem.Spec
/-! a law's end, where nothing guards a repr (after HandS.Ends) -/
theorem law_callG {P : Program} {w : World} {K : PySem.W.Frag} {mg mb : Str → Option Value} {k : Nat} {fa a : Addr} {fd : FuncData} {x : Str} {sp : Sp} {sx : Shared} {vs : List Value} {ns : List Int}
    (KX : K.In sx.heap) (hns : sx.heap.Ns mainGlobals mg) (hb : sx.heap.Ns builtinsNs mb) (hbb : ∀ x : Str, x ≠ "__name__" → mb x = bootBuiltins x) (hlim : sx.heap.NoLimit) (hg : sx.gens = #[])
    (ha : sx.heap.get? a = some { cls := .type "list", data := .seq vs.toArray }) (hi : IntsAre vs ns) (hl : ns.length ≤ sizeLine) (hr : Room k callerA)
    (F : ∀ base : Heap, K.In base → base.Ns mainGlobals mg → FgOk P w K mg base k fa fd [x] sp) (hbind : ∀ (s : Shared) (u : Value), BindsTo s fd ⟨[u], []⟩ [(x, u)])
    (hsp : ∀ J : Hp, Only J → SqL K J a (ns.map V.int) → sp [.ref a] J (fun v _ => v = .bl true) fun _ _ _ => False)
    (hCX : ∀ J e s', L2.CX P w [] J sx (fun _ _ _ => False) e s' → False) :
    codeAny (model P w) callerA (.call (.ref fa) ⟨[.ref a], []⟩) (fun r s' => r = .ok (.ret (.bool true)) ∧ OldK sx.heap s'.heap ∧ s'.os = sx.os ∧ AllBare s'.gens) sx := by
  have rv := vals_ints hi
  have lenV := hi.length
  have inner : ∀ J : Hp, Only J → SqL K J a (ns.map V.int) → HOk P w J sx.heap → (∀ b, J b ≠ none → b = a) → (J a ≠ none → K.lookup a = none) →
      codeAny (model P w) callerA (.call (.ref fa) ⟨[.ref a], []⟩) (fun r s' => r = .ok (.ret (.bool true)) ∧ OldK sx.heap s'.heap ∧ s'.os = sx.os ∧ AllBare s'.gens) sx := by
    intro J hO hS hok hA hK
    have hid_of : ∀ {b : Addr} {o : Obj}, sx.heap.get? b = some o → J b = none → (hidT sx.heap J).get? b = some o := fun e n => hidT_get e n
    have offA : ∀ {b : Addr} {o : Obj} {es : Array DictEntry} {ep : Nat}, sx.heap.get? b = some o → o.data = .dict es ep → J b = none := fun {b o es ep} e d => by
      cases q : J b with
      | none => rfl
      | some u =>
        have e' : b = a := hA b (by rw [q]; simp)
        subst e'
        rw [ha] at e; cases e
        have d' : Data.seq vs.toArray _ = Data.dict es ep := d
        cases d'
    have nsI : ∀ {b : Addr} {m : Str → Option Value}, sx.heap.Ns b m → (hidT sx.heap J).Ns b m := fun {b m} ⟨o, es, ep, e, d, r⟩ => ⟨o, es, ep, hid_of e (offA e d), d, r⟩
    have hKb : K.In (hidT sx.heap J) := fun b o e => hid_of (KX b o e) (by
      cases q : J b with
      | none => rfl
      | some u =>
        have e' : b = a := hA b (by rw [q]; simp)
        subst e'
        rw [hK (by rw [q]; simp)] at e; cases e)
    have hM : Mod K mg (hidT sx.heap J) := ⟨hKb, nsI hns, ⟨mb, nsI hb, hbb⟩, let ⟨mc, h1, h2⟩ := hlim; ⟨mc, nsI h1, h2⟩⟩
    have e0 : Env0 P w K mg (hidT sx.heap J) callerA [] sx J := ⟨rfl, hM, fun b o e => of_hidT e, Nat.le_of_eq (hidT_size _ _), trivial, fun b hb => absurd (show b ∈ ([] : List Addr) from hb) (by simp), hok, .of_eq hg⟩
    refine codeAny_mono ((F _ hKb (nsI hns)).run callerA [] sx J ⟨[.ref a], []⟩ [.ref a] [.ref a] _ _ hr rfl e0 (hbind sx (.ref a)) (.cons rfl .nil) (hsp J hO hS)) fun r s' h => ?_
    cases r with
    | error e => exact (hCX J e s' h).elim
    | ok fl =>
      cases fl with
      | next => exact False.elim h
      | brk => exact False.elim h
      | cont => exact False.elim h
      | ret u =>
        obtain ⟨v, J', os, bare, un, hok', r', q⟩ := h
        have q' : v = .bl true := q
        subst q'
        obtain rfl : u = Value.bool true := r'
        refine ⟨rfl, OldK.of_keep fun b o e => ?_, os, bare⟩
        cases q : J b with
        | none => exact un.keep b o e q (by intro z; exact absurd (show b ∈ ([] : List Addr) from z) (by simp)) (by simp)
        | some u =>
          rcases hO b with z | ⟨ob, xs, z⟩
          · rw [q] at z; cases z
          · have z2 := un.frzs b ob _ z
            obtain ⟨e1, _⟩ := hok b _ z
            obtain ⟨e2, _⟩ := hok' b _ z2
            rw [e] at e1; cases e1
            exact e2
  cases hk : K.lookup a with
  | some o =>
    have e := KX a o hk
    rw [ha] at e
    cases e
    refine inner (fun _ => none) (fun _ => .inl rfl) (.inr ⟨_, vs.toArray, _, hk, rfl, rfl, rfl, by rw [List.size_toArray, lenV]; exact hl, by simpa using rv⟩) (fun b u z => by have z' : (none : Option HO) = some u := z; cases z') (fun b z => absurd rfl z) fun z => absurd rfl z
  | none =>
    refine inner (fun b => if b = a then some (.frz { cls := .type "list", data := .seq vs.toArray } (.lst (ns.map V.int))) else none) (fun b => ?_) (.inl (.inr ⟨{ cls := .type "list", data := .seq vs.toArray }, if_pos rfl⟩)) (fun b u z => ?_) (fun b z => ?_) fun _ => hk
    · by_cases hb : b = a
      · exact .inr ⟨_, _, if_pos hb⟩
      · exact .inl (if_neg hb)
    · by_cases hb : b = a
      · have z' := (if_pos hb).symm.trans z
        cases z'
        subst hb
        exact ⟨ha, by rw [List.length_map]; exact hl, vs, _, rv, ha⟩
      · have z' := (if_neg hb).symm.trans z
        cases z'
    · by_cases hb : b = a
      · exact hb
      · exact absurd (if_neg hb) z
theorem walk_g {l : PySem.W.OpenLaw} {n k : Nat} {q : Program} {loose : List Str} {XP : (Str → Option Value) → Heap → Prop} {YP : World → Heap → Prop} {d : DefRec} {x : Str}
    (hn : l.most = some n) (hn2 : n ≤ sizeLine) (hdf : d.params.defaults = []) (hr : Room k callerA)
    (F : ∀ (w : World) (mg : Str → Option Value) (fa : Addr) (h : Heap), YP w h → h.Ns mainGlobals mg → mg d.name = some (.ref fa) →
      ∃ (K : PySem.W.Frag) (fd : FuncData) (sp : Sp), K.In h ∧ (∀ (s : Shared) (u : Value), BindsTo s fd ⟨[u], []⟩ [(x, u)]) ∧
        (∀ (J : Hp) (a : Addr) (ns : List Int), ns.length ≤ n → Only J → SqL K J a (ns.map V.int) → sp [.ref a] J (fun v _ => v = .bl true) fun _ _ _ => False) ∧
        ∀ base : Heap, K.In base → base.Ns mainGlobals mg → FgOk l.prog w K mg base k fa fd [x] sp)
    (hCX : ∀ (P : Program) (w : World) (J : Hp) (s : Shared) (e : Value) (s' : Shared), L2.CX P w [] J s (fun _ _ _ => False) e s' → False) :
    PySem.W.WalkO q loose XP YP l.row.toRowW d [] (fun f vs => PySem.call f vs) := by
  refine Att.attach_call hn hdf fun w s0 s1 mg mb fa o pm cd doc a vs ns G Y ho hd hcd hmg hobj hints hlen hg => ?_
  obtain ⟨K, fd, sp, KX, hb, hsp, hF⟩ := F w mg fa _ Y G.T.g hmg
  exact law_callG KX G.T.g G.T.b G.T.builtins G.T.nolimit hg hobj hints (Nat.le_trans hlen hn2) hr hF hb (fun J hO hS => hsp J a ns hlen hO hS) fun J e s' => hCX _ _ J s1 e s'
theorem noCX (P : Program) (w : World) (J : Hp) (s : Shared) (e : Value) (s' : Shared) (h : L2.CX P w [] J s (fun _ _ _ => False) e s') : False := by
  obtain ⟨_, _, _, _, _, _, _, _, _, _, _, _, z⟩ := h
  exact z
end Fs
namespace Fs
open PySem L2 PyProof.Rows PySem.Spec
section
variable {X : L2.Cx} {T : Tbl} {Z : Wc} {W : WX} {a b c e : Expr} {A B C : Ex} {pos p : Pos} {es : List Expr} {As : List Ex}
theorem se_hole : PE X e (iE T Z W hole) := ⟨fun pins s σ H Q I ⟨ρ, env, st, er, sr, h⟩ => by
  simp only [hole, ev, bnd, ret, bad] at h
  exact h.elim⟩
theorem ss_hole {s : Stmt} : PS X s (iS T Z W (.xpr hole)) := ⟨fun pins s σ H D I ⟨ρ, env, st, er, sr, h⟩ => by
  simp only [exS, hole, ev, bnd, ret, bad, lft] at h
  exact h.elim⟩
theorem se_bin {op : Bop} (hK : X.K = Z.K) (ha : PE X a (iE T Z W A)) (hb : PE X b (iE T Z W B)) : PE X (.BinOp a (pyB op) b pos) (iE T Z W (.bin op A B)) := se_op (fun _ => bin_ok hK) ha hb fun env => by simp only [ev]
theorem se_cmp1 {op : Cop} (hK : X.K = Z.K) (hu : X.A.units + 65 < cLine) (ha : PE X a (iE T Z W A)) (hb : PE X b (iE T Z W B)) (hm : behindInMarks (pyC op) b = false := by rfl) : PE X (.Compare a [pyC op] [b] pos) (iE T Z W (.cmp op A B)) :=
  se_cmp (f := fC op) (fun _ => cmp_ok hK hu) ha hb hm fun env => by simp only [ev]
theorem tkF : Takes X WF := fun u s' ⟨_, _, _, _, _, _, _, _, _, _, _, _, _, _, _, _, z⟩ => z.elim
end
/-- a callee at depth n -/
def Cal (Pw : Program) (w : World) (K : PySem.W.Frag) (mg : Str → Option Value) (base : Heap) (Z : Wc) (Pp : Pr) (n i : Nat) (x : Str) (ps : List Str) : Prop :=
  ∃ f fd, FgOk Pw w K mg base n f fd ps (spI Z (call Pp n i) ps.length) ∧ mg x = some (.ref f) ∧ PySem.W.keepIn K (.ref f) = true ∧ Binds K fd ps []
section
variable {X : L2.Cx} {Pp : Pr} {n i : Nat} {Z : Wc} {W : WX} {e : Expr} {A : Ex} {pos p : Pos} {es : List Expr} {As : List Ex} {x : Str} {ps : List Str}
theorem se_callC (c : Cal X.prog X.w X.K X.mg X.base Z Pp n i x ps) (hr : Room n X.A) (hgd : X.A.guards = some []) (tk : Takes X W) (hg : Gl X x) (ha : PA X (e :: es) (iEs (Pp.tbl n) Z W As)) (hlen : As.length = ps.length := by rfl) (hdb : (x == ("__debug__" : Str)) = false := by rfl)
    (he : starEach (e :: es) X.env = (false, eval e X.env) :: starEach es X.env := by rfl) (hpl : (backTo pos (starEach es X.env)).any (·.1) = false := by rfl) : PE X (.Call (.Name x p) (e :: es) [] pos) (iE (Pp.tbl n) Z W (.call i As)) := by
  obtain ⟨f, fd, F, hm, hk, hb⟩ := c
  exact se_call (T := Pp.tbl n) F hr hgd tk hg hm hk hb ha hlen hdb he hpl
theorem se_callC0 (c : Cal X.prog X.w X.K X.mg X.base Z Pp n i x []) (hr : Room n X.A) (hgd : X.A.guards = some []) (tk : Takes X W) (hg : Gl X x) (hdb : (x == ("__debug__" : Str)) = false := by rfl) : PE X (.Call (.Name x p) [] [] pos) (iE (Pp.tbl n) Z W (.call i [])) := by
  obtain ⟨f, fd, F, hm, hk, hb⟩ := c
  exact se_call0 (T := Pp.tbl n) F hr hgd tk hg hm hk hb rfl hdb
end
end Fs
namespace Fs
open PySem L2 PyProof.Rows PySem.Spec
section
variable {X : L2.Cx} {T : Tbl} {Z : Wc} {W : WX} {a b c e : Expr} {A B C : Ex} {pos p : Pos}
theorem st_w {C1 : Cn} (h : PW X a (iT T Z W C1)) : PT X a (iT T Z W C1) := ⟨fun pins s σ H Q I q => h.run _ pins s σ H Q I q⟩
/-- a test of a bool's value -/
theorem bl_pre {E : Ex} {σ : L2.St} {H : Hp} {Q : Bool → Hp → Prop} (hb : ∀ env st d st', ev T E env st = .ok d st' → ∃ k, d = .bl k) (h : iT T Z W (.val E) σ H Q) : iE T Z W E σ H (fun x H' => ∃ k, x = .bl k ∧ Q k H') := by
  obtain ⟨ρ, env, st, er, sr, h⟩ := h
  simp only [evT] at h
  refine ⟨ρ, env, st, er, sr, ?_⟩
  unfold bnd at h
  cases e : ev T E env st with
  | exc x s => rw [e] at h; exact h
  | bad => rw [e] at h; exact h
  | ok d s =>
    rw [e] at h
    obtain ⟨k, rfl⟩ := hb _ _ _ _ e
    intro ρ' H' v F t sr' r
    obtain ⟨rfl, rfl⟩ := r
    refine ⟨k, rfl, ?_⟩
    simp only [truth, opt, ret] at h
    exact h ρ' H' k [] t sr' ⟨rfl, rfl⟩
theorem cmp_bl {op : Cop} {env : Env} {st st' : Sto} {d : D} (h : ev T (.cmp op A B) env st = .ok d st') : ∃ k, d = .bl k := by
  simp only [ev, bnd] at h
  cases e1 : ev T A env st with
  | ok x s1 =>
    simp only [e1] at h
    cases e2 : ev T B env s1 with
    | ok y s2 =>
      simp only [e2] at h
      cases e : cmpD op x y s2 with
      | none => rw [e] at h; cases h
      | some k => rw [e] at h; cases h; exact ⟨k, rfl⟩
    | exc _ _ => simp only [e2] at h; cases h
    | bad => simp only [e2] at h; cases h
  | exc _ _ => simp only [e1] at h; cases h
  | bad => simp only [e1] at h; cases h
theorem chn_bl {o1 o2 : Cop} {env : Env} {st st' : Sto} {d : D} (h : ev T (.chn o1 o2 A B C) env st = .ok d st') : ∃ k, d = .bl k := by
  simp only [ev, bnd] at h
  cases e1 : ev T A env st with
  | ok x s1 =>
    simp only [e1] at h
    cases x with
    | int i =>
      simp only [intv, opt, bnd] at h
      cases e2 : ev T B env s1 with
      | ok y s2 =>
        simp only [e2] at h
        cases y with
        | int j =>
          simp only [intv, opt, bnd] at h
          cases e : cmpI o1 i j with
          | none => rw [e] at h; cases h
          | some k =>
            rw [e] at h
            cases k with
            | false => cases h; exact ⟨_, rfl⟩
            | true =>
              simp only [bnd] at h
              cases e3 : ev T C env s2 with
              | ok z s3 =>
                simp only [e3] at h
                cases z with
                | int m =>
                  simp only [intv, opt] at h
                  cases e4 : cmpI o2 j m with
                  | none => rw [e4] at h; cases h
                  | some k => rw [e4] at h; cases h; exact ⟨_, rfl⟩
                | _ => cases h
              | exc _ _ => simp only [e3] at h; cases h
              | bad => simp only [e3] at h; cases h
        | _ => cases h
      | exc _ _ => simp only [e2] at h; cases h
      | bad => simp only [e2] at h; cases h
    | _ => cases h
  | exc _ _ => simp only [e1] at h; cases h
  | bad => simp only [e1] at h; cases h
theorem st_cmp1 {op : Cop} (hK : X.K = Z.K) (hu : X.A.units + 65 < cLine) (ha : PE X a (iE T Z W A)) (hb : PE X b (iE T Z W B)) (hm : behindInMarks (pyC op) b = false := by rfl) : PT X (.Compare a [pyC op] [b] pos) (iT T Z W (.val (.cmp op A B))) :=
  ⟨fun pins s σ H Q I q => by
    refine (pt_cmpR (cmp_ok (W := W) (σ0 := σ) hK hu) ha hb hm).run pins s σ H Q I ?_
    obtain ⟨ρ, env, st, er, sr, h⟩ := bl_pre (fun _ _ _ _ => cmp_bl) q
    simp only [ev] at h
    exact two_ok (f := fC op) ⟨ρ, env, st, er, sr, h⟩⟩
theorem st_chn {o1 o2 : Cop} (ha : PE X a (iE T Z W A)) (hb : PE X b (iE T Z W B)) (hc : PE X c (iE T Z W C)) (hm : lastMarks [pyC o1, pyC o2] [b, c] = false) : PT X (.Compare a [pyC o1, pyC o2] [b, c] pos) (iT T Z W (.val (.chn o1 o2 A B C))) :=
  ⟨fun pins s σ H Q I q => by
    refine (pt_chain cmpI_op cmpI_op ha hb hc hm).run pins s σ H Q I ?_
    obtain ⟨ρ, env, st, er, sr, h⟩ := bl_pre (fun _ _ _ _ => chn_bl) q
    simp only [ev] at h
    refine ⟨ρ, env, st, er, sr, (Post.seq rpOk (Now.start sr) sr h).mono ?_⟩
    rintro x H1 ⟨ρ1, d1, st1, F1, n1, t1, r1, h1⟩
    cases d1 with
    | int i =>
      obtain ⟨rfl, rfl⟩ := r1
      refine ⟨ρ1, env, st1, t1.env sr er, n1.sr, (Post.seq rpOk n1 sr (by simpa only [intv, opt] using h1)).mono ?_⟩
      rintro y H2 ⟨ρ2, d2, st2, F2, n2, t2, r2, h2⟩
      cases d2 with
      | int j =>
        obtain ⟨rfl, rfl⟩ := r2
        simp only [intv, opt] at h2
        cases e : cmpI o1 i j with
        | none => rw [e] at h2; exact h2.elim
        | some k =>
          rw [e] at h2
          refine ⟨i, j, k, rfl, rfl, e, k, rfl, ?_⟩
          cases k with
          | false => exact Post.ok h2 n2 ⟨rfl, rfl⟩
          | true =>
            rw [if_pos rfl]
            refine ⟨ρ2, env, st2, t2.env n1.sr (t1.env sr er), n2.sr, (Post.seq rpOk n2 sr h2).mono ?_⟩
            rintro z H3 ⟨ρ3, d3, st3, F3, n3, t3, r3, h3⟩
            cases d3 with
            | int m =>
              obtain ⟨rfl, rfl⟩ := r3
              simp only [intv, opt] at h3
              cases e2 : cmpI o2 j m with
              | none => rw [e2] at h3; exact h3.elim
              | some k2 => rw [e2] at h3; exact ⟨j, m, k2, rfl, rfl, e2, Post.ok h3 n3 ⟨rfl, rfl⟩⟩
            | _ => exact h3.elim
      | _ => exact h2.elim
    | _ => exact h1.elim⟩
end
end Fs
namespace Fs
open PySem L2 PyProof.Rows PySem.Spec
section
variable {X : L2.Cx} {T : Tbl} {Z : Wc} {W : WX} {pos p : Pos} {tg e c : Expr} {A B : Ex}
/-- name = {..} on one line -/
theorem ss_setDc {i : Nat} {y : Str} {py spos : Pos} {kx vx iter : Expr} {ifs : List Expr} {scope : Scope} {own : List (Str × Nat)} {it : Ix} {t : Tg} {Cs : List Cn} (hc : X.calm = true) (hN : X.N.Nodup) (hy : X.N[i]? = some y) (hyl : X.env.scope.names.lookup y = some .local)
    (hsw : swapsWith (.DictComp kx vx [⟨tg, iter, ifs, 0⟩] scope pos) (some (.Name y py)) spos.line X.env = pure true) (ok : blkC X.N X.env.scope scope own = true) (hsub : (tgN t).all ((own.map (·.2)).contains ·) = true)
    (hi : PI X tg iter (iI T Z W it)) (hg : ∀ (s : Shared) (H : Hp) (C : Addr) (cl : List (Str × Addr)) (fp : List Addr), PG (X.blk s H scope (compEnvC scope cl C X.env) fp) tg (iG T Z t))
    (ht : ∀ (s : Shared) (H : Hp) (C : Addr) (cl : List (Str × Addr)) (fp : List Addr), PTs (X.blk s H scope (compEnvC scope cl C X.env) fp) ifs (iTs T Z WF Cs))
    (hk : ∀ (s : Shared) (H : Hp) (C : Addr) (cl : List (Str × Addr)) (fp : List Addr), PE (X.blk s H scope (compEnvC scope cl C X.env) fp) kx (iE T Z WF A))
    (he : ∀ (s : Shared) (H : Hp) (C : Addr) (cl : List (Str × Addr)) (fp : List Addr), PE (X.blk s H scope (compEnvC scope cl C X.env) fp) vx (iE T Z WF B)) (hs : ∀ x, foldedSetIterable iter X.env x = pure x := by intro _; rfl) :
    PS X (.Assign [.Name y py] (.DictComp kx vx [⟨tg, iter, ifs, 0⟩] scope pos) spos) (iS T Z W (.asg (.nm i) (.dc (own.map (·.2)) it t Cs A B))) := by
  refine ⟨fun pins s σ H Dn I h0 => ?_⟩
  obtain ⟨ρ, env, st, er, sr, h2⟩ := asg_ok h0
  have h : tDc (iI T Z W it) (iG T Z t) (iTs T Z WF Cs) (iE T Z WF A) (iE T Z WF B) (own.map (·.2)) σ H (fun x H1 => gName i x σ H1 Dn.nx) := dc_ok (subN hsub) ⟨ρ, env, st, er, sr, h2.mono fun v H1 q => ig_nm q⟩
  rw [exec_Assign_Name_used _ _ _ _ hsw]
  refine wpAny_bind (wpAny_standAt (wpAny_bind ?_))
  show wpAny _ X.A (do let _ ← comprehension (.DictComp kx vx [⟨tg, iter, ifs, 0⟩] scope pos) scope X.env (firstIterPos [⟨tg, iter, ifs, 0⟩] pos) newDict false (eval iter X.env) (some (assign (.Name y py) X.env))) _ _ s
  refine wpAny_bind (thn (dc_core (Qf := fun _ s' => SP X pins Dn .next s') hc hN I hi (blkOk_by ok) hg ht hk he hs h fun L C s' m H' I' q hn f => ?_) fun _ s' hq => wpAny_pure (wpAny_pure hq))
  show wpAny _ _ (assign (.Name y py) X.env (.ref L)) _ _ _
  refine wpAny_assign_Name (store_ok2 (v := V.ref L) I' hN hy (.inl hyl) rfl (fun s2 I2 ⟨a, sb, ha⟩ => ?_) (.inr hyl))
  obtain ⟨f0, f1, f2, f3, f4, f5⟩ := f
  have off : C ≠ a := by
    rcases ha with z | z
    · rw [z]; exact f1
    · exact fun e => f4 y a z e.symm
  refine ⟨m, hn.sameBut sb off, fun h3 sb3 => ?_⟩
  exact ⟨_, H', I2.turned (t' := s2.toks) (fun b o hb e => (sb3.2 b hb).trans e) f0 f1 f3 f4 f5, q⟩
end
end Fs
namespace Fs
open PySem L2 PyProof.Rows PySem.Spec
section
variable {X : Cx} {Z : Wc} {W : WX} {T : Tbl} {σ0 : L2.St} {p p2 q pos : Pos}
theorem pairs_ok {ρ : List Addr} {H : Hp} : ∀ {xs : List D} {vs : List V} {F : List Addr} {kvs : List (Ky × D)}, Rps Z ρ H xs vs F → optL pairv xs = some kvs → (kvs.all fun p => D.pur p.2) = true → ∃ (ps : List Addr) (ws : List (L2.Key × V)), vs = ps.map V.ref ∧ PySem.Paired (fun p kv => SqT Z.K H p [kV kv.1, kv.2]) ps ws ∧ RpK Z ρ H kvs ws []
  | [], vs, F, kvs, r, e, _ => by
    obtain ⟨rfl, _⟩ := r
    cases e
    exact ⟨[], [], rfl, .nil, rfl, rfl⟩
  | x :: xs, vs, F, kvs, r, e, hp => by
    obtain ⟨v, vs', F1, F2, rfl, r1, r2, _⟩ := r
    simp only [optL] at e
    cases e1 : pairv x with
    | none => rw [e1] at e; cases e
    | some kd =>
      rw [e1] at e
      cases e2 : optL pairv xs with
      | none => rw [e2] at e; cases e
      | some ks =>
        rw [e2] at e
        cases e
        simp only [List.all_cons, Bool.and_eq_true] at hp
        obtain ⟨ps, ws, rfl, h2, h3⟩ := pairs_ok r2 e2 hp.2
        unfold pairv at e1
        split at e1
        · rename_i k d
          cases hk : keyOf k with
          | none => rw [hk] at e1; cases e1
          | some y =>
            rw [hk] at e1
            cases e1
            obtain ⟨t, us, rfl, ht, rs⟩ := r1
            obtain ⟨a1, as1, G1, G2, rfl, s1, s2, _⟩ := rs
            obtain ⟨a2, as2, G3, G4, rfl, s3, s4, _⟩ := s2
            obtain ⟨rfl, _⟩ := s4
            obtain ⟨j, rfl, rfl, rfl⟩ := key_ok s1 hk
            obtain rfl := s3.pure hp.1
            exact ⟨t :: ps, (j, a2) :: ws, rfl, .cons ht h2, j, a2, ws, [], [], rfl, rfl, s3, h3, rfl⟩
        · cases e1
theorem fold_ok {ρ : List Addr} {H : Hp} : ∀ {more : List (Ky × D)} {ws : List (L2.Key × V)} {acc : List (Ky × D)} {aw : List (L2.Key × V)}, RpK Z ρ H more ws [] → (more.all fun p => D.pur p.2) = true → RpK Z ρ H acc aw [] → (acc.map (·.1)).Nodup → RpK Z ρ H (more.foldl (fun a p => dput p.1 p.2 a) acc) (mergeK aw ws) [] ∧ ((more.foldl (fun a p => dput p.1 p.2 a) acc).map (·.1)).Nodup
  | [], ws, acc, aw, r, _, ra, nd => by
    obtain ⟨rfl, _⟩ := r
    exact ⟨ra, nd⟩
  | (y, d) :: more, ws, acc, aw, r, hp, ra, nd => by
    obtain ⟨j, u, ws', F1, F2, rfl, rfl, r1, r2, e⟩ := r
    have e' : F1 = [] ∧ F2 = [] := by
      have := e.symm
      simpa using this
    obtain ⟨rfl, rfl⟩ := e'
    clear e
    simp only [List.all_cons, Bool.and_eq_true] at hp
    obtain ⟨G, h1, h2⟩ := dput_ok (k := j) r1 nd ra
    obtain rfl := List.sublist_nil.mp h2
    exact fold_ok (more := more) (ws := ws') r2 hp.2 h1 (dput_nodup nd)
theorem bi_dict (hK : X.K = Z.K) (hc : X.calm = true) : CallR X (.type "dict") (rL Z W σ0 (b1 fDict)) := callOne fun pins s σ H x us Q ρ st H0 ρ2 st2 d F I rv sr n r h => by
  obtain ⟨kvs, e, h⟩ := opt_ok h
  obtain ⟨hp, h⟩ := gd_ok h
  cases hx : lstv st2 d with
  | none => rw [hx] at e; cases e
  | some xs =>
    rw [hx] at e
    obtain ⟨a, vs, G, rfl, ha, rs, sub⟩ := lstv_ok n.sr r hx
    obtain ⟨ps, ws, rfl, h2, h3⟩ := pairs_ok rs e hp
    refine call_dictP hc pins s σ H _ us Q I rv ⟨a, ps, ws, rfl, SqL.of ha, by rw [hK]; exact h2, fun p hp0 => ?_⟩
    obtain ⟨h4, h5⟩ := fold_ok h3 hp (acc := []) (aw := []) ⟨rfl, rfl⟩ (by simp)
    exact Post.ret h ((n.new sr hp0).less (List.cons_sublist_cons.mpr (List.nil_sublist _))) ⟨p, [], rfl, rfl, .inl ⟨_, upd_same, RpK.stay (fun _ _ e => e) (fun a u e _ => by rw [upd_ne (fun z => by rw [z, hp0] at e; cases e)]; exact e) (by simp) h4⟩⟩
/-- sorted(set(e)), e a list of ints -/
theorem se_ssort {A : Ex} {e : Expr} (hK : X.K = Z.K) (hc : X.calm = true) (hg : Gl X "sorted") (hm : X.mg "sorted" = none) (hg2 : Gl X "set") (hm2 : X.mg "set" = none) (ha : PE X e (iE T Z W A))
    (na : starEach [e] X.env = (false, eval e X.env) :: starEach [] X.env := by rfl) : PE X (.Call (.Name "sorted" p) [.Call (.Name "set" p2) [e] [] q] [] pos) (iE T Z W (.bi .ssort [A])) := by
  refine ⟨fun pins s σ H Q I h => ?_⟩
  obtain ⟨ρ, env, st, er, sr, h⟩ := h
  simp only [ev] at h
  refine Call_ (ld_blt I hg hm PyProof.Rows.boot_sorted ?_)
  refine PyProof.Rows.callWith_builtin1 (PyProof.Rows.args_cons ?_ rfl) rfl rfl
  refine Call_ (ld_blt I hg2 hm2 PyProof.Rows.boot_set ?_)
  refine PyProof.Rows.callWith_type1 (PyProof.Rows.args_cons (thn (ha.run pins s σ H _ I ⟨ρ, env, st, er, sr, (Post.seq rpOk (Now.start sr) sr (evs_one h))⟩) fun v s1 ⟨x, H1, I1, r1, q1⟩ => PyProof.Rows.args_nil ?_) na) na rfl
  obtain ⟨ρ1, d, st1, F1, n1, t1, rd, h1⟩ := q1
  have h2 : Post (Rp Z) Z W (opt (lInt st1 d) (fun ns => gd (decide (ns.length < 64)) (ret (.lst ((sortI (dedI ns)).map .int)))) st1) ρ σ H Q := h1
  obtain ⟨ns, en, h2⟩ := opt_ok h2
  obtain ⟨hz, h2⟩ := gd_ok h2
  have hz := of_decide_eq_true hz
  obtain ⟨a, rfl, hq⟩ := lInt_ok n1.sr rd en
  rw [← hK] at hq
  cases r1
  obtain ⟨its, rv, pl, hz2⟩ := I1.list hq
  refine call_set_lst ns (I1.ok.hd hc) pl.isList (by simpa using rv.ints) (by unfold scanBound; omega) fun hp2 tk c R hcn k => ?_
  refine PyProof.Rows.args_nil ?_
  have I2 : Inv X pins σ H1 { s1 with heap := hp2, toks := tk } := I1.kept fun b o e => k b o e
  refine sorted_set R (I2.ok.hd hc) (by omega) fun s' p' out c' ns' k' g o hpp hgt hi hs hmem hl => ?_
  have hlen : (ns'.map V.int).length ≤ sizeLine := by rw [List.length_map, hl, sizeLine_eq]; omega
  have hn : H1 p' = none := I2.hok.fresh hpp
  have J : Inv X pins σ (upd H1 p' (.lst (ns'.map V.int))) { ({ s1 with heap := hp2, toks := tk } : Shared) with heap := s'.heap, gens := s'.gens, drawn := s'.drawn, toks := s'.toks } :=
    I2.call (ch := []) (Un.laid k' hpp hn) (I2.hok.laid k' hpp ⟨hlen, out.toList, c', vals_of_ints hi, hgt⟩) (by rw [g]; exact I2.bare) (fun _ z => nomatch z)
  have e' : s' = { ({ s1 with heap := hp2, toks := tk } : Shared) with heap := s'.heap, gens := s'.gens, drawn := s'.drawn, toks := s'.toks } := by
    cases s'; cases s1; cases o; rfl
  rw [e']
  have hns : ns' = sortI (dedI ns) := by
    refine sorted_eq ?_ (hs.imp fun h => by omega) (sortI_sorted _)
    refine List.Perm.trans ?_ (sortI_perm _).symm
    rw [List.perm_ext_iff_of_nodup (hs.imp fun h => by omega) dedI_nodup]
    intro z
    rw [hmem, dedI_mem, decide_eq_true_eq]
  refine ⟨.ref p', _, J, rfl, ?_⟩
  rw [hns]
  exact Post.ret h2 ((n1.new sr hn).less (List.cons_sublist_cons.mpr (List.nil_sublist _))) ⟨p', _, [], rfl, upd_same, Rps.ofInts _, rfl⟩
end
end Fs
namespace Fs
open PySem L2 PyProof.Rows PySem.Spec
/-! the facts of a fragment without one list -/
def kdel (K : PySem.W.Frag) (a : Addr) : PySem.W.Frag := K.filter fun p => p.1 != a
theorem kdel_at {K : PySem.W.Frag} {a b : Addr} : (kdel K a).lookup b = if b = a then none else K.lookup b := by
  induction K with
  | nil => simp [kdel]
  | cons q K ih =>
    obtain ⟨x, o⟩ := q
    simp only [kdel] at ih ⊢
    by_cases hx : x = a
    · subst hx
      rw [List.filter_cons_of_neg (by simp), ih]
      by_cases hb : b = x
      · rw [if_pos hb, if_pos hb]
      · rw [if_neg hb, if_neg hb, List.lookup_cons]
        have : (b == x) = false := by simpa using hb
        rw [this]
    · rw [List.filter_cons_of_pos (by simpa using hx), List.lookup_cons, List.lookup_cons, ih]
      by_cases hb : b = x
      · subst hb
        simp [hx]
      · have : (b == x) = false := by simpa using hb
        rw [this]
theorem kdel_in {K : PySem.W.Frag} {a : Addr} {h : Heap} (X : K.In h) : (kdel K a).In h := fun b o e => by
  rw [kdel_at] at e
  split at e
  · cases e
  · exact X b o e
/-- what K holds at a is a list, if anything -/
def LstAt (K : PySem.W.Frag) (a : Addr) : Prop := ∀ o, K.lookup a = some o → ∃ xs n, o.data = .seq xs n
theorem kdel_keep {K : PySem.W.Frag} {a b : Addr} {o : Obj} (hL : LstAt K a) (e : K.lookup b = some o) (hd : ∀ xs n, o.data ≠ .seq xs n) : (kdel K a).lookup b = some o := by
  rw [kdel_at, if_neg]
  · exact e
  · rintro rfl
    obtain ⟨xs, n, h⟩ := hL o e
    exact hd xs n h
theorem kdel_code {K : PySem.W.Frag} {a : Addr} {c : Value} {q : Str} (hL : LstAt K a) (e : PySem.W.codeIn K c q = true) : PySem.W.codeIn (kdel K a) c q = true := by
  unfold PySem.W.codeIn at e ⊢
  cases c with
  | ref b =>
    simp only at e ⊢
    cases h : K.lookup b with
    | none => rw [h] at e; cases e
    | some o =>
      obtain ⟨oc, od, data, sl⟩ := o
      rw [h] at e
      cases data with
      | fields vs =>
        rw [kdel_keep hL h (by intro xs n z; cases z)]
        exact e
      | _ => cases e
  | _ => cases e
theorem FunD.del {K : PySem.W.Frag} {a : Addr} {x q : Str} {ps : Arguments} {body : List Stmt} {sc : Scope} {f : Addr} {fd : FuncData} (hL : LstAt K a) (F : FunD K x q ps body sc [] [] f fd) : FunD (kdel K a) x q ps body sc [] [] f fd := by
  obtain ⟨oc, od, dV, kV, doc, pm, an, cdv, ct, osl, e, lk, hc, hD, hK⟩ := F.ex
  have lk2 : (kdel K a).lookup f = some ⟨oc, od, .func fd, osl⟩ := kdel_keep hL lk (by intro xs n z; cases z)
  refine ⟨⟨oc, od, dV, kV, doc, pm, an, cdv, ct, osl, e, lk2, kdel_code hL hc, ?_, .inl rfl⟩, ?_⟩
  · rcases hD with h | ⟨h, _⟩
    · exact .inl h
    · exact absurd rfl h
  · show PySem.W.keepIn (kdel K a) (.ref f) = true
    simp only [PySem.W.keepIn, lk2]
/-- the end of a law, where the script is no part of the fragment -/
theorem walk_h {l : PySem.W.OpenLaw} {n k : Nat} {q : Program} {loose : List Str} {XP : (Str → Option Value) → Heap → Prop} {YP : World → Heap → Prop} {d : DefRec} {x : Str}
    (hn : l.most = some n) (hn2 : n ≤ sizeLine) (hdf : d.params.defaults = []) (hr : Room k callerA)
    (F : ∀ (w : World) (mg : Str → Option Value) (fa : Addr) (h : Heap) (a : Addr) (vs : List Value), YP w h → h.Ns mainGlobals mg → mg d.name = some (.ref fa) → h.get? a = some { cls := .type "list", data := .seq vs.toArray } →
      ∃ (K : PySem.W.Frag) (fd : FuncData) (sp : Sp), K.In h ∧ (∀ (s : Shared) (u : Value), BindsTo s fd ⟨[u], []⟩ [(x, u)]) ∧
        (∀ (J : Hp) (ns : List Int), ns.length ≤ n → Only J → SqL K J a (ns.map V.int) → sp [.ref a] J (fun v _ => v = .bl true) fun _ _ _ => False) ∧
        ∀ base : Heap, K.In base → base.Ns mainGlobals mg → FgOk l.prog w K mg base k fa fd [x] sp) :
    PySem.W.WalkO q loose XP YP l.row.toRowW d [] (fun f vs => PySem.call f vs) := by
  refine Att.attach_call hn hdf fun w s0 s1 mg mb fa o pm cd doc a vs ns G Y ho hd hcd hmg hobj hints hlen hg => ?_
  obtain ⟨K, fd, sp, KX, hb, hsp, hF⟩ := F w mg fa _ a vs Y G.T.g hmg hobj
  exact law_callG KX G.T.g G.T.b G.T.builtins G.T.nolimit hg hobj hints (Nat.le_trans hlen hn2) hr hF hb (fun J hO hS => hsp J ns hlen hO hS) fun J e s' => noCX _ _ J s1 e s'
/-- the start of a law: the script alone -/
theorem sp_start {Z : Wc} {g : List D → M D} {J : Hp} {a : Addr} {ns : List Int} (hO : Only J) (hK : Z.K.lookup a = none) (hS : SqL Z.K J a (ns.map V.int)) (hg : ∃ s', g [.ref 0] [.frl (ns.map D.int)] = .ok (.bl true) s') : spI Z g 1 [.ref a] J (fun v _ => v = .bl true) fun _ _ _ => False := by
  have hJ : ∃ o, J a = some (.frz o (.lst (ns.map V.int))) := by
    rcases hS with h | ⟨o, its, n, h, _⟩
    · rcases h with h | ⟨o, h⟩
      · rcases hO a with z | ⟨o, xs, z⟩
        · rw [h] at z; cases z
        · rw [h] at z; cases z
      · exact ⟨o, h⟩
    · rw [hK] at h; cases h
  obtain ⟨o, hJ⟩ := hJ
  have sr : SR Z [a] [.frl (ns.map D.int)] J := by
    refine ⟨rfl, by simp, ?_, ?_⟩
    · intro l c h
      cases l with
      | zero => cases h; rfl
      | succ l => simp at h
    · intro l c b h hb
      cases l with
      | zero =>
        cases h
        have : a = b := by simpa using hb
        subst this
        exact ⟨a, o, ns.map V.int, [], rfl, hJ, Rps.ofInts ns, rfl⟩
      | succ l => simp at h
  refine ⟨rfl, [a], [.frl (ns.map D.int)], J, [a], [.frl (ns.map D.int)], [.ref 0], [], sr, Now.start sr, ?_, ?_⟩
  · exact ⟨.ref a, [], [], [], rfl, ⟨a, rfl, rfl, rfl⟩, ⟨rfl, rfl⟩, rfl⟩
  · obtain ⟨s', hg⟩ := hg
    show Post (Rp Z) Z _ (g [.ref 0] [.frl (ns.map D.int)]) [a] [] J _
    rw [hg]
    intro ρ' H' v F _ _ r
    exact r.1
end Fs
namespace Fs
open PySem L2 PyProof.Rows PySem.Spec
section
variable {X : L2.Cx} {T : Tbl} {Z : Wc} {W : WX} {σ0 : L2.St}
theorem mTwo {m : Me} {k : Nat} {id : String} {g : D → D → D → M D} (hg : ∀ st o ds, kndD st o = k → meD m o ds st = b2 (g o) ds st) (h : ∀ (W : WX) (σ0 : L2.St) (pins : List (Addr × Obj)) (s : Shared) (σ : L2.St) (H : Hp) (x y z : V) (v : Value) (us : List Value) (Q : VK) (ρ : List Addr) (st : Sto) (H0 : Hp) (ρ2 : List Addr) (st2 : Sto) (d e f : D) (F G1 G2 : List Addr),
    Inv X pins σ H s → RelV x v → Vals [y, z] us → SR Z ρ st H0 → Now Z ρ H0 ρ2 st2 H (F ++ (G1 ++ G2)) → Rp Z ρ2 H d x F → Rp Z ρ2 H e y G1 → Rp Z ρ2 H f z G2 → kndD st2 d = k → Post (Rp Z) Z W (g d e f st2) ρ σ0 H0 Q → wpAny (model X.prog X.w) X.A (PySem.call (.builtin id) (v :: us)) (EP X pins σ Q) X.xe s) : ∀ W σ, MtR X id (rM Z W σ m k) := by
  intro W σ0 pins s σ H x xs v us Q I rx rv ⟨ρ, st, H0, ρ2, st2, d, ds, F, G, sr, n, r1, r2, hk, q⟩
  rw [hg st2 d ds hk] at q
  match ds, r2, q with
  | [], _, q => exact q.elim
  | [_], _, q => exact q.elim
  | [e, f], r2, q =>
    obtain ⟨y, ws, G1, G2, rfl, r3, r4, rfl⟩ := r2
    obtain ⟨z, rfl, r5⟩ := one1 r4
    exact h W σ0 pins s σ H x y z v us Q ρ st H0 ρ2 st2 d e f F G1 G2 I rx rv sr n r1 r3 r5 hk q
  | _ :: _ :: _ :: _, _, q => exact q.elim
theorem k_insert : ∀ k, meK .insert k = true → MeK X Z .insert "insert" k := fun k hk => by
  obtain rfl : k = 4 := by simpa [meK] using hk
  refine ⟨.inr (.inl rfl), "list.insert", PySem.F.plainAttrs_list, PySem.F.slot_list_insert, PySem.F.type_list_insert, mTwo (g := mInsert) (fun _ _ _ _ => rfl) ?_⟩
  intro W σ0 pins s σ H x y z v us Q ρ st H0 ρ2 st2 d e f F G1 G2 I rx rv sr n r1 r2 r3 hk h
  obtain ⟨l, a, xs, vs, rfl, rfl, rfl, hl, hc, ha, rs, h⟩ := lcell_ok n r1 h
  obtain ⟨i, ei, hA⟩ := opt_ok h
  obtain ⟨hz, hB⟩ := gd_ok hA
  obtain ⟨z1, z2, z3⟩ := of_decide_eq_true hz
  have he : e = .int i := by
    clear h hA hB hz
    cases e with
    | int j => cases ei; rfl
    | _ => cases ei
  subst he
  obtain ⟨rfl, rfl⟩ := r2
  have n1 : Now Z ρ H0 ρ2 st2 H ([] ++ G2) := by simpa using n
  obtain ⟨N, pm, s', q⟩ := land_ok f n.sr r3 (fun b hb => n1.out b (by simpa using hb)) (by simpa using n1.nd)
  have nl := n1.landed (N := N) pm s'
  refine mt_insert pins s σ H _ _ v us Q I rx rv ⟨a, vs, i, z, rfl, rfl, ha, by rw [← rs.length]; exact z3, z1, by omega, ?_⟩
  have hl' := get_append (N := N) l a hl
  obtain ⟨K1, t1, t2⟩ := Rps.take i.toNat rs
  obtain ⟨K2, t3, t4⟩ := Rps.drop i.toNat rs
  obtain rfl := List.sublist_nil.mp t2
  obtain rfl := List.sublist_nil.mp t4
  have hall : Rps Z (ρ2 ++ N) H (xs.take i.toNat ++ (land f st2).1 :: xs.drop i.toNat) (vs.take i.toNat ++ [z] ++ vs.drop i.toNat) [] := by
    rw [List.append_assoc]
    exact Rps.append (F := []) (G := []) t1.wide ⟨z, vs.drop i.toNat, [], [], rfl, q, t3.wide, rfl⟩
  have h' : Post (Rp Z) Z W (R.ok D.non ((land f st2).2.set l (.lst (xs.take i.toNat ++ (land f st2).1 :: xs.drop i.toNat)))) ρ σ0 H0 Q := hB
  exact Post.ok h' (nl.wr sr hl' rfl ⟨a, _, [], rfl, upd_same, Rps.updF ha rfl (by simp) hall, rfl⟩) ⟨rfl, rfl⟩
theorem k_extend : ∀ k, meK .extend k = true → MeK X Z .extend "extend" k := fun k hk => by
  obtain rfl : k = 4 := by simpa [meK] using hk
  refine ⟨.inr (.inl rfl), "list.extend", PySem.F.plainAttrs_list, PySem.F.slot_list_extend, PySem.F.type_list_extend, mOne (g := mExtend) (fun _ _ _ _ => rfl) ?_⟩
  intro W σ0 pins s σ H x y v us Q ρ st H0 ρ2 st2 d e F G I rx rv sr n r1 r2 hk h
  obtain ⟨l, a, xs, vs, rfl, rfl, rfl, hl, hc, ha, rs, h⟩ := lcell_ok n r1 h
  obtain ⟨ys, ey, h⟩ := opt_ok h
  obtain ⟨hz, h⟩ := gd_ok h
  have hz := of_decide_eq_true hz
  obtain ⟨a2, vs2, G2, rfl, ha2, rs2, sub⟩ := lstv_ok n.sr r2 ey
  have n1 : Now Z ρ H0 ρ2 st2 H ([] ++ G2) := by
    have := n.less (G := G2) (by simpa using sub)
    simpa using this
  obtain ⟨N, pm, s', q⟩ := lands_ok ys n.sr rs2 (fun b hb => n1.out b (by simpa using hb)) (by simpa using n1.nd)
  have nl := n1.landed (N := N) pm s'
  have hl' := get_append (N := N) l a hl
  refine mt_extend pins s σ H _ _ v us Q I rx rv ⟨a, a2, vs, vs2, rfl, rfl, ha, ha2, by rw [← rs.length, ← rs2.length]; exact hz, ?_⟩
  exact Post.ok h (nl.wr sr hl' rfl ⟨a, vs ++ vs2, [], rfl, upd_same, Rps.updF ha rfl (by simp) (Rps.append (F := []) (G := []) rs.wide q), rfl⟩) ⟨rfl, rfl⟩
end
end Fs
namespace Fs
open PySem L2 PyProof.Rows PySem.Spec
section
variable {X : L2.Cx} {T : Tbl} {Z : Wc} {W : WX} {σ0 : L2.St}
theorem toPl {st : Sto} {k l : Nat} {xs : List D} (h : st[l]? = some (.lst xs)) : toP false st (k + 1) (.ref l) = (optL (toP false st k) xs).map .list := by
  simp only [toP, h]
theorem toPf {st : Sto} {k l : Nat} {xs : List D} (h : st[l]? = some (.frl xs)) : toP false st (k + 1) (.ref l) = (optL (toP false st k) xs).map .list := by
  simp only [toP, h]
theorem dats_list {st : Sto} {d : D} {qs : List PyData} (hk : kndD st d = 4) (e : dats st d = some qs) : toP false st 66 d = some (.list qs) := by
  unfold dats at e
  cases d with
  | ref l =>
    simp only [kndD] at hk
    simp only [seqv] at e
    split at hk
    · rename_i xs hc
      rw [hc] at e
      rw [toPl hc]
      have e2 : optL (toP false st 65) xs = some qs := e
      rw [e2]; rfl
    · rename_i xs hc
      rw [hc] at e
      rw [toPf hc]
      have e2 : optL (toP false st 65) xs = some qs := e
      rw [e2]; rfl
    · cases hk
    · cases hk
  | lst xs =>
    have e2 : optL (toP false st 65) xs = some qs := e
    show (optL (toP false st 65) xs).map PyData.list = _
    rw [e2]; rfl
  | _ => simp [kndD] at hk
theorem k_index (hK : X.K = Z.K) (hu : X.A.units + 65 < cLine) : ∀ k, meK .index k = true → MeK X Z .index "index" k := fun k hk => by
  obtain rfl : k = 4 := by simpa [meK] using hk
  refine ⟨.inr (.inl rfl), "list.index", PySem.F.plainAttrs_list, PySem.F.slot_list_index, PySem.F.type_list_index, mOne (g := mIndex) (fun _ _ _ _ => rfl) ?_⟩
  intro W σ0 pins s σ H x y v us Q ρ st H0 ρ2 st2 d e F G I rx rv sr n r1 r2 hk h
  obtain ⟨qs, e1, h1⟩ := opt_ok h
  obtain ⟨q, e2, h2⟩ := opt_ok h1
  obtain ⟨hz, h3⟩ := gd_ok h2
  obtain ⟨z1, z2⟩ := of_decide_eq_true hz
  obtain ⟨j, e3, h4⟩ := opt_ok h3
  have d1 := toP_ok n.sr _ _ _ _ _ r1 (dats_list hk e1)
  have d2 := toP_ok n.sr _ _ _ _ _ r2 e2
  rw [← hK] at d1 d2
  have hx : ∃ a, x = V.ref a := by cases d1 with | lst hs ha => exact ⟨_, rfl⟩
  obtain ⟨a, rfl⟩ := hx
  obtain ⟨hj, hp, hno⟩ := List.findIdx?_eq_some_iff_getElem.1 e3
  refine mt_indexD hu pins s σ H _ _ v us Q I rx rv ⟨a, y, q, qs, j, qs[j], rfl, rfl, d1, d2, z2, z1, List.getElem?_eq_getElem hj, hp, ?_, Post.ret h4 (n.less (List.nil_sublist _)) ⟨rfl, rfl⟩⟩
  intro m z' hm hz'
  obtain ⟨hml, rfl⟩ := List.getElem?_eq_some_iff.1 hz'
  have := hno m hm
  simpa using this
end
end Fs
/-! exceptions: raise C(..), try .. except C as n -/
namespace Fs
open PySem L2 PyProof.Rows PySem.Spec
section kle
variable {K K' : PySem.W.Frag}
def KLe (K K' : PySem.W.Frag) : Prop := ∀ b o, K.lookup b = some o → (∀ xs n, o.data ≠ .seq xs n) → K'.lookup b = some o
theorem kle_del {a : Addr} (hL : LstAt K a) : KLe K (kdel K a) := fun b o e h => kdel_keep hL e h
theorem nsIn_le (h : KLe K K') {ns : Addr} {x : Str} {r : Option Value} (e : PySem.W.nsIn K ns x = some r) : PySem.W.nsIn K' ns x = some r := by
  unfold PySem.W.nsIn at e ⊢
  cases hl : K.lookup ns with
  | none => rw [hl] at e; cases e
  | some o =>
    obtain ⟨c, d, data, sl⟩ := o
    rw [hl] at e
    cases data with
    | dict es n => rw [h _ _ hl (by intro xs n z; cases z)]; exact e
    | _ => cases e
theorem nsOkIn_le (h : KLe K K') {ns : Addr} (e : PySem.W.nsOkIn K ns = true) : PySem.W.nsOkIn K' ns = true := by
  unfold PySem.W.nsOkIn at e ⊢
  cases hl : K.lookup ns with
  | none => rw [hl] at e; cases e
  | some o =>
    obtain ⟨c, d, data, sl⟩ := o
    rw [hl] at e
    cases data with
    | dict es n => rw [h _ _ hl (by intro xs n z; cases z)]; exact e
    | _ => cases e
theorem ownIn_le (h : KLe K K') {x : Str} : ∀ {v : Value} {r : Option Value}, PySem.W.ownIn K x v = some r → PySem.W.ownIn K' x v = some r
  | .ref a, r, e => by
    unfold PySem.W.ownIn at e ⊢
    cases hl : K.lookup a with
    | none => simp only [hl] at e; cases e
    | some o =>
      obtain ⟨c, d, data, sl⟩ := o
      simp only [hl] at e
      cases data with
      | cls cd => simp only [h _ _ hl (by intro xs n z; cases z)]; exact nsIn_le h e
      | _ => cases e
  | .type n, r, e => e
  | .none, r, e => e
  | .ellipsis, r, e => e
  | .notImplemented, r, e => e
  | .bool _, r, e => e
  | .int _ _, r, e => e
  | .float _ _, r, e => e
  | .str _ _, r, e => e
  | .bytes _ _, r, e => e
  | .builtin _, r, e => e
theorem alongIn_le (h : KLe K K') {x : Str} : ∀ {l : List Value} {r : Option Value}, PySem.W.alongIn K x l = some r → PySem.W.alongIn K' x l = some r
  | [], r, e => e
  | c :: l, r, e => by
    unfold PySem.W.alongIn at e ⊢
    cases ho : PySem.W.ownIn K x c with
    | none => rw [ho] at e; cases e
    | some o =>
      rw [ho] at e
      rw [ownIn_le h ho]
      cases o with
      | none => exact alongIn_le h e
      | some v => exact e
theorem findIn_le (h : KLe K K') {t : Value} {x : Str} {r : Option Value} (e : PySem.W.findIn K t x = some r) : PySem.W.findIn K' t x = some r := by
  unfold PySem.W.findIn at e ⊢
  cases t with
  | ref a =>
    simp only at e ⊢
    cases hl : K.lookup a with
    | none => rw [hl] at e; cases e
    | some o =>
      obtain ⟨c, d, data, sl⟩ := o
      rw [hl] at e
      cases data with
      | cls cd => rw [h _ _ hl (by intro xs n z; cases z)]; exact alongIn_le h e
      | _ => cases e
  | _ => exact e
theorem tailIn_le (h : KLe K K') {bm : List Value} : ∀ {l : List Value}, PySem.W.tailIn K bm l = true → PySem.W.tailIn K' bm l = true
  | [], e => e
  | v :: r, e => by
    unfold PySem.W.tailIn at e ⊢
    rcases Bool.or_eq_true_iff.mp e with q | q
    · exact Bool.or_eq_true_iff.mpr (.inl q)
    · refine Bool.or_eq_true_iff.mpr (.inr ?_)
      cases v with
      | ref a =>
        simp only at q ⊢
        cases hl : K.lookup a with
        | none => rw [hl] at q; cases q
        | some o =>
          obtain ⟨c, d, data, sl⟩ := o
          rw [hl] at q
          cases data with
          | cls cd =>
            rw [h _ _ hl (by intro xs n z; cases z)]
            simp only [Bool.and_eq_true, beq_iff_eq] at q ⊢
            exact ⟨⟨nsOkIn_le h q.1.1, nsIn_le h q.1.2⟩, tailIn_le h q.2⟩
          | _ => cases q
      | _ => cases q
theorem excIn_cls {C : Addr} {bm : List Value} {i : String} (e : PySem.W.excIn K C bm i = true) : ∃ o, K.lookup C = some o ∧ ∀ xs n, o.data ≠ .seq xs n := by
  unfold PySem.W.excIn at e
  cases hl : K.lookup C with
  | none => rw [hl] at e; cases e
  | some o =>
    obtain ⟨c, d, data, sl⟩ := o
    refine ⟨_, rfl, ?_⟩
    rw [hl] at e
    intro xs n z
    dsimp only at z
    subst z
    split at e
    · rename_i q; cases q
    · cases e
theorem excIn_le (h : KLe K K') {C : Addr} {bm : List Value} {i : String} (e : PySem.W.excIn K C bm i = true) : PySem.W.excIn K' C bm i = true := by
  obtain ⟨o, hl, ho⟩ := excIn_cls e
  unfold PySem.W.excIn at e ⊢
  rw [h _ _ hl ho]
  rw [hl] at e
  split at e
  · rename_i dd cd sl q
    cases q
    split at e
    · simp only [Bool.and_eq_true, beq_iff_eq, Bool.not_eq_true'] at e ⊢
      obtain ⟨⟨⟨⟨⟨h1, h2⟩, h3⟩, h4⟩, h5⟩, h6⟩ := e
      exact ⟨⟨⟨⟨⟨h1, h2⟩, h3⟩, tailIn_le h h4⟩, nsOkIn_le h h5⟩, nsIn_le h h6⟩
    · cases e
  · cases e
theorem keepIn_le (h : KLe K K') {C : Addr} (e : PySem.W.keepIn K (.ref C) = true) : PySem.W.keepIn K' (.ref C) = true := by
  unfold PySem.W.keepIn at e ⊢
  simp only at e ⊢
  cases hl : K.lookup C with
  | none => rw [hl] at e; cases e
  | some o =>
    obtain ⟨c, d, data, sl⟩ := o
    rw [hl] at e
    cases data with
    | func fd => rw [h _ _ hl (by intro xs n z; cases z)]
    | cls cd =>
      have hl' := h _ _ hl (by intro xs n z; cases z)
      rw [hl']
      simp only [beq_iff_eq, PySem.W.specialIn, PySem.W.typeIn, hl, hl', Option.map_some, Option.bind_some] at e ⊢
      exact findIn_le h e
    | _ => cases e
end kle
/-- a class of exceptions over ValueError without __init__ of its own -/
structure ExF (K : PySem.W.Frag) (mg : Str → Option Value) (x : Str) (C : Addr) : Prop where
  gC : mg x = some (.ref C)
  q : PySem.W.excIn K C He.veBase "ValueError.__new__" = true
  kp : PySem.W.keepIn K (.ref C) = true
  sb : PySem.W.subIn K (.ref C) (.type "BaseException") = some true
  ty : PySem.W.typeIn K (.ref C) = some (.type "type")
theorem ExF.del {K : PySem.W.Frag} {mg : Str → Option Value} {x : Str} {C a : Addr} (hL : LstAt K a) (F : ExF K mg x C) : ExF (kdel K a) mg x C := by
  obtain ⟨o, hl, ho⟩ := excIn_cls F.q
  have hl' := kdel_keep hL hl ho
  refine ⟨F.gC, excIn_le (kle_del hL) F.q, keepIn_le (kle_del hL) F.kp, ?_, ?_⟩
  · have e := F.sb
    simp only [PySem.W.subIn, PySem.W.mroIn, PySem.W.clsIn, hl, hl'] at e ⊢
    exact e
  · have e := F.ty
    simp only [PySem.W.typeIn, hl, hl'] at e ⊢
    exact e
theorem exm_del {K : PySem.W.Frag} {mg : Str → Option Value} {x y : Str} {C D a : Addr} {b : Bool} (hL : LstAt K a) (F : ExF K mg x C) (G : ExF K mg y D) (e : PySem.W.exmOne K (.ref C) (.ref D) = some b) : PySem.W.exmOne (kdel K a) (.ref C) (.ref D) = some b := by
  obtain ⟨o, hl, ho⟩ := excIn_cls F.q
  have hl' := kdel_keep hL hl ho
  obtain ⟨o2, hl2, ho2⟩ := excIn_cls G.q
  have hl2' := kdel_keep hL hl2 ho2
  simp only [PySem.W.exmOne, PySem.W.subIn, PySem.W.mroIn, PySem.W.clsIn, PySem.W.kitCls, PySem.W.typeIn, hl, hl', hl2, hl2'] at e ⊢
  exact e
/-! raise C(..) -/
section
variable {X : L2.Cx} {T : Tbl} {Z : Wc} {W : WX} {e : Expr} {es : List Expr} {As : List Ex} {pos p pos' : Pos} {x : Str}
theorem ss_rse0 {c : Nat} (hc : X.calm = true) (tk : Takes X W) (hK : X.K = Z.K) (F : ExF X.K X.mg x (Z.ca c)) (hfl : Z.fl c = none) (hT : T.fld c = none) (hl : As.length ≤ 1000) (hg : Gl X x) (ha : PA X (e :: es) (iEs T Z W As))
    (hdb : (x == ("__debug__" : Str)) = false) (he : starEach (e :: es) X.env = (false, eval e X.env) :: starEach es X.env) (hpl : (backTo pos (starEach es X.env)).any (·.1) = false) :
    PS X (.Raise (some (.Call (.Name x p) (e :: es) [] pos)) none pos') (iS T Z W (.rse c As)) := by
  refine ps_weak (ps_raise hc tk (pmk_ownA PySem.F.excBase_ValueError F.q F.gC F.kp (raises_own F.sb F.ty) hg ha hdb he hpl)) fun D σ H ⟨ρ, env, st, er, sr, h⟩ => ?_
  refine ⟨ρ, env, st, er, sr, ?_⟩
  simp only [exS, ev] at h
  unfold lft bnd at h
  have hlen : ∀ {Bs : List Ex} {st : Sto} {ds st'}, evs T Bs env st = .ok ds st' → ds.length = Bs.length := by
    intro Bs
    induction Bs with
    | nil => intro st ds st' e; simp only [evs, ret] at e; cases e; rfl
    | cons a as ih =>
      intro st ds st' e
      simp only [evs, bnd] at e
      cases e1 : ev T a env st with
      | ok d s1 =>
        rw [e1] at e
        simp only at e
        cases e2 : evs T as env s1 with
        | ok ds2 s2 =>
          rw [e2] at e
          simp only [ret] at e
          cases e
          simp [ih e2]
        | exc _ _ => rw [e2] at e; cases e
        | bad => rw [e2] at e; cases e
      | exc _ _ => rw [e1] at e; cases e
      | bad => rw [e1] at e; cases e
  cases e1 : evs T As env st with
  | ok ds st1 =>
    rw [e1] at h
    simp only [hT, ret] at h
    intro ρ' H' v F2 t sr' r
    refine ⟨?_, h ρ' H' σ _ none t.none sr' (t.none.env sr er) ⟨c, [], rfl, rfl, hfl⟩⟩
    rw [← r.length, hlen e1, sizeLine_eq]; omega
  | exc x st1 =>
    rw [e1] at h
    intro ρ' H' cls dx t sr' r
    exact h ρ' H' σ cls dx t sr' (t.env sr er) r
  | bad => rw [e1] at h; exact h.elim
end
/-! try: body, except x as n: suite; the exception is tracked -/
/-- the exception lies in the heap, untracked: it is tracked from now on -/
theorem inv_track {X : L2.Cx} {pins : List (Addr × Obj)} {σ : L2.St} {H : Hp} {s : Shared} {a : Addr} {o : HO} (I : Inv X pins σ H s) (na : H a = none) (nL : a ≠ X.env.locals) (nC : ∀ x c, X.env.cells.lookup x = some c → c ≠ a)
    (nP : ∀ p ∈ X.pn ++ pins, p.1 ≠ a) (n0 : X.s_0.heap.get? a = none) (ok : ObjOk X.prog X.w (upd H a o) s.heap a o) : Inv X pins σ (upd H a o) s := by
  have ne : ∀ {b : Addr} {u : HO}, H b = some u → b ≠ a := fun e z => by rw [z, na] at e; cases e
  refine ⟨I.ok, I.os, I.bare, ⟨I.base.keep, I.base.slot, fun b ob q n hx => ?_, I.base.there, fun b xs q => ?_, fun b ob u q => ?_, fun b ps q => ?_⟩, I.loc, I.cell, ?_, fun x c q => ?_, fun p hp => ?_, fun b u q => ?_, I.len⟩
  · rw [upd_ne]
    · exact I.base.free b ob q n hx
    · intro z; rw [z, n0] at q; cases q
  · have := I.base.tups b xs q
    rw [upd_ne (ne this)]; exact this
  · have := I.base.frzs b ob u q
    rw [upd_ne (ne this)]; exact this
  · obtain ⟨m, this⟩ := I.base.tbls b ps q
    exact ⟨m, by rw [upd_ne (ne this)]; exact this⟩
  · rw [upd_ne (Ne.symm nL)]; exact I.free
  · rw [upd_ne (nC x c q)]; exact I.freeC x c q
  · obtain ⟨h1, h2, h3⟩ := I.pin p hp
    exact ⟨h1, by rw [upd_ne (nP p hp)]; exact h2, h3⟩
  · by_cases hb : b = a
    · subst hb
      rw [upd_same] at q; cases q
      exact ok
    · rw [upd_ne hb] at q
      exact (I.hok b u q).stay (fun _ _ _ e => e) (fun _ z => by rw [upd_ne (ne z)]; exact z) (fun _ _ z => by rw [upd_ne (ne z)]; exact z)
def wAsT (K : PySem.W.Frag) (c : Value) (i : Nat) (ts : TS) (Wout : WX) (D : Ends) : WX := fun cls d σ H =>
  ∃ b, PySem.W.exmOne K cls c = some b ∧ (b = true → ∃ C, cls = .ref C ∧ ∀ a, H a = none → ts { nx := fun σ' H' => D.nx (σ'.set i none) H', rt := D.rt, bk := fun σ' H' => D.bk (σ'.set i none) H', ct := fun σ' H' => D.ct (σ'.set i none) H' } (σ.set i (some (.ref a))) (upd H a (exoH a C d))) ∧
    (b = false → Wout cls d σ H)
section
variable {X : L2.Cx} {x n : Str} {c : Value} {i : Nat} {body suite : List Stmt} {b₀ : Stmt} {np pos pos' : Pos} {tb : WX → TS} {ts : TS} {Wout : WX}
theorem ps_try_asT (hex : X.ex = []) (hs : X.stack = X.env :: X.outer) (hf : X.env.frame = some X.env.locals) (hN : X.N.Nodup) (hi : X.N[i]? = some n) (hln : X.env.kindOf n = some .local) (hc : Names X x c) (tk : Takes X Wout)
    (hb : ∀ (W : WX) (pn : List (Addr × Obj)) (xe : Value → Shared → Prop), Takes (X.tr pn xe) W → PassesOwn (model X.prog X.w) X.A X.env xe → PSs (X.tr pn xe) body (tb W))
    (hsu : ∀ (a : Addr) (pn : List (Addr × Obj)), PSs (X.suite a pn) (b₀ :: suite) ts) :
    PS X (.Try body [.ExceptHandler (some (.Name x np)) (some n) (b₀ :: suite) pos'] [] [] pos) (fun D σ H => tb (wAsT X.K c i ts Wout D) D σ H) := by
  refine ⟨fun pins s σ H D I h => ?_⟩
  have ok := I.ok
  have hfr : X.A.frames = some (X.env :: X.outer) := by rw [ok.frames, hs]
  have hloc : Loc X.env.scope n := .inl hln
  refine wpAny_Try_except ?_
  refine wpAny_mono ((hb (wAsT X.K c i ts Wout D) (X.pn ++ pins) (fun e s₁ => wpAny (model X.prog X.w) X.A (noteFrame e X.env) (fun _ s₂ => wpAny (model X.prog X.w) X.A (setFlight e none) (fun _ s₃ =>
    wpAny (model X.prog X.w) X.A (handleBy e X.env [.ExceptHandler (some (.Name x np)) (some n) (b₀ :: suite) pos']) (SP X pins D) X.xe s₃) X.xe s₂) X.xe s₁) (fun u s' xx => ?_) PassesOwn.looking).run [] s σ H D (I.toTry _) h) (fun f s1 hsp => ?_) (fun e s1 he => he)
  · obtain ⟨a, B, sI, pins', σ', H', cls, d, rfl, J', nb, up, sky, na, os, ag, b, hb1, hyes, hno⟩ := xx
    have J : Inv X pins σ' H' sI := J'.ofTry ok
    have sky' : Sky B (X.env :: X.outer) a (Zc cls d) X.env.locals s'.heap := by rw [← hs]; exact sky
    show wpAny (model X.prog X.w) X.A (noteFrame (.ref a) X.env) _ _ _
    refine Sky.land Zc.steady hfr hf sky' fun h3 fl3 up3 => ?_
    have J3 : Inv X pins σ' H' { s' with heap := h3 } := J.landed nb fl3.1 (up.trans up3) os ag
    obtain ⟨oe3, vs3, he3, hz3, hd3⟩ := fl3.there
    have notFr : ∀ {h : Heap} {o : Obj} {vs : Array Value}, h.FunFrames B (X.env :: X.outer) → h.get? a = some o → o.data = .fields vs → a ∉ frs (X.env :: X.outer) := fun {h o vs} ff e dd hm => by
      obtain ⟨_, o', e', hnf⟩ := ff.mem hm
      rw [e] at e'; cases e'
      exact hnf _ dd
    have nfr := notFr fl3.2.2.1 he3 hd3
    have nL : a ≠ X.env.locals := fun z => nfr (List.mem_filterMap.mpr ⟨X.env, List.mem_cons_self, by rw [hf, z]⟩)
    have nF : a ∉ X.fs := fun hm => by
      obtain ⟨e, he, q⟩ := List.mem_filterMap.mp hm
      exact nfr (List.mem_filterMap.mpr ⟨e, List.mem_cons_of_mem _ he, q⟩)
    have nI : sI.heap.get? a = none := by
      cases q : sI.heap.get? a with
      | none => rfl
      | some o =>
        have := nb a o q (by rw [hs]; exact nfr)
        rw [fl3.2.1] at this; cases this
    have n0 : X.s_0.heap.get? a = none := by
      cases q : X.s_0.heap.get? a with
      | none => rfl
      | some o =>
        obtain ⟨o', q'⟩ := J.base.there a o q (by rw [hex]; simp)
        rw [nI] at q'; cases q'
    have nC : ∀ x c, X.env.cells.lookup x = some c → c ≠ a := fun x c e z => by
      obtain ⟨v, q⟩ := J.cell x c e
      rw [z] at q
      obtain ⟨o, e1, _⟩ := q
      rw [nI] at e1; cases e1
    have nP : ∀ p ∈ X.pn ++ pins, p.1 ≠ a := fun p hp z => by
      have := (J.pin p hp).1
      rw [z, nI] at this; cases this
    have S3 := J3.suite he3 hd3 na nL nF
    refine wpAny_handleBy_cons (codeAny_handlers_test ?_) (by intro q; cases q)
    have LT : PySem.W.Looks (model X.prog X.w) h3 (typeOf (.ref a)) cls := fun A Q E s k q => wpAny_typeOf_ref (k _ _ he3) (by rw [hz3.1]; exact q)
    have LM := PySem.W.exm_one (M := model X.prog X.w) (J3.kIn) LT hb1
    have test : ∀ {Q : Value → Shared → Prop} {E : Value → Shared → Prop}, Q c { s' with heap := h3 } → wpAny (model X.prog X.w) (X.A.mark (some (.ref a))) (eval (.Name x np) X.env) Q E { s' with heap := h3 } := fun {Q E} q => by
      obtain ⟨hg, hdbg, hm | ⟨hm, hv, hnn⟩⟩ := hc
      · exact ld_glob (X := X.suite a ((a, oe3) :: (X.pn ++ pins))) S3 hg hm q hdbg
      · exact ld_blt (X := X.suite a ((a, oe3) :: (X.pn ++ pins))) S3 hg hm hv q hnn hdbg
    refine test (LM.here ?_)
    cases b with
    | true =>
      obtain ⟨C, hC, hy2⟩ := hyes rfl
      subst hC
      refine codeAny_handlers_suite_as ?_
      refine HandSPX.lands_againZ fl3 fun h4 fl4 up4 => ?_
      have J4 : Inv X pins σ' H' { s' with heap := h4 } := J.landed nb fl4.1 ((up.trans up3).trans up4) os ag
      obtain ⟨oe4, vs4, he4, hz4, hd4⟩ := fl4.there
      have T4 : Inv X pins σ' (upd H' a (exoH a C d)) { s' with heap := h4 } := inv_track J4 na nL nC nP n0 ⟨⟨oe4, vs4, he4, hz4.1, hz4.2, hd4⟩, ⟨_, he4⟩, fun h1 h2 ⟨oe, vs, e1, e2⟩ k => ⟨oe, vs, k _ e1, e2⟩⟩
      have S4 : Inv (X.suite a (X.pn ++ pins)) [] σ' (upd H' a (exoH a C d)) { s' with heap := h4 } :=
        ⟨T4.ok.suite _ _, T4.os, T4.bare, T4.base, T4.loc, T4.cell, T4.free, T4.freeC, fun p hp => T4.pin p (by rw [List.append_nil] at hp; exact hp), T4.hok, T4.len⟩
      refine store_ok (X := X.suite a (X.pn ++ pins)) (v := .ref a) S4 hN hi hloc rfl (fun s5 S5 => ?_) (.inr hln)
      refine wpAny_mono ((hsu a (X.pn ++ pins)).run [] s5 _ _ _ S5 (hy2 a na)) (fun f s6 hsp => ?_) (fun _ _ z => False.elim z)
      have end_ : ∀ {σ6 : L2.St} {H6 : Hp} {Q : Shared → Prop}, Inv (X.suite a (X.pn ++ pins)) [] σ6 H6 s6 → (∀ s7, Inv X pins (σ6.set i none) H6 s7 → Q s7) →
          wpAny (model X.prog X.w) X.A (do bindName X.env n .none; unbindBehindTheSuite X.env n pos') (fun _ s7 => Q s7) X.xe s6 := fun {σ6 H6 Q} S6 hq => by
        have U : Inv X pins σ6 H6 s6 := ⟨ok, S6.os, S6.bare, S6.base, S6.loc, S6.cell, S6.free, S6.freeC, fun p hp => S6.pin p (by rw [List.append_nil]; exact hp), S6.hok, S6.len⟩
        exact gone_ok U hN hi hln hq
      cases f with
      | next =>
        obtain ⟨σ6, H6, S6, q6⟩ := hsp
        exact end_ S6 fun s7 J7 => ⟨_, _, J7, q6⟩
      | brk =>
        obtain ⟨σ6, H6, S6, q6⟩ := hsp
        exact end_ S6 fun s7 J7 => ⟨_, _, J7, q6⟩
      | cont =>
        obtain ⟨σ6, H6, S6, q6⟩ := hsp
        exact end_ S6 fun s7 J7 => ⟨_, _, J7, q6⟩
      | ret u =>
        obtain ⟨v6, σ6, H6, S6, r6, q6⟩ := hsp
        exact end_ S6 fun s7 J7 => ⟨_, _, _, J7, r6, q6⟩
    | false =>
      show wpAny _ X.A (handleBy (.ref a) X.env []) _ _ _
      refine wpAny_handleBy_nil ?_
      obtain ⟨k1, k2, k3, oe, vs, T, oT, ts', he, hz, hd, h1, hr⟩ := id fl3
      unfold PySem.passOn
      refine wpAny_bind (wpAny_field he hd h1 ?_)
      rw [if_neg (show ¬ ((Value.ref T == Value.none) = true) from by simp)]
      have fin : wpAny (model X.prog X.w) X.A (setFlight (.ref a) X.env.frame) (fun _ s4 => wpAny (model X.prog X.w) X.A (throw (.ref a) : Sem Flow) (SP X pins D) X.xe s4) X.xe { s' with heap := h3 } := by
        rw [hf]
        refine HandSPX.setFlight_upZ fl3 fun h4 hh4 up4 => wpAny_throw (tk _ _ ?_)
        exact ⟨a, B, sI, pins, σ', H', cls, d, rfl, J, nb, (up.trans up3).trans up4, .inr (.inr (by rw [hs]; exact hh4)), na, os, ag, hno rfl⟩
      first
        | exact wpAny_bind (wpAny_pure (wpAny_bind fin))
        | exact wpAny_bind fin
  · cases f with
    | next =>
      obtain ⟨σ', H', J', q⟩ := hsp
      exact wpAny_execs_nil ⟨σ', H', J'.ofTry ok, q⟩
    | brk =>
      obtain ⟨σ', H', J', q⟩ := hsp
      exact ⟨σ', H', J'.ofTry ok, q⟩
    | cont =>
      obtain ⟨σ', H', J', q⟩ := hsp
      exact ⟨σ', H', J'.ofTry ok, q⟩
    | ret u =>
      obtain ⟨v, σ', H', J', r, q⟩ := hsp
      exact ⟨v, σ', H', J'.ofTry ok, r, q⟩
end
/-- behind the suite the clause's name is gone -/
def endN (i : Nat) (D : Ends) : Ends := { nx := fun σ' H' => D.nx (σ'.set i none) H', rt := D.rt, bk := fun σ' H' => D.bk (σ'.set i none) H', ct := fun σ' H' => D.ct (σ'.set i none) H' }
theorem PostS.outF {Z : Wc} {W W' : WX} {ρ : List Addr} {H : Hp} {D : Ends} {i : Nat} {m : M Fl} {st : Sto} (h : PostS Z W (Fs.outF (some i) m st) ρ H D) : PostS Z W' (m st) ρ H (endN i D) := by
  unfold Fs.outF at h
  cases e : m st with
  | exc x s' => rw [e] at h; exact h.elim
  | bad => rw [e] at h; exact h.elim
  | ok f s' =>
    rw [e] at h
    cases f with
    | nx e' => exact fun ρ' H' σ' t sr er => h ρ' H' _ t sr (ER.gone er)
    | br e' => exact fun ρ' H' σ' t sr er => h ρ' H' _ t sr (ER.gone er)
    | ct e' => exact fun ρ' H' σ' t sr er => h ρ' H' _ t sr (ER.gone er)
    | rt d => exact h
    | ex e' x => exact h.elim
section
variable {X : L2.Cx} {T : Tbl} {Z : Wc} {W : WX} {x n : Str} {i k : Nat} {body suite : List Stmt} {b₀ : Stmt} {np pos pos' : Pos} {Bs Ss : List Sx}
theorem ss_tri (hex : X.ex = []) (hs : X.stack = X.env :: X.outer) (hf : X.env.frame = some X.env.locals) (hN : X.N.Nodup) (hi : X.N[i]? = some n) (hln : X.env.kindOf n = some .local) (hK : X.K = Z.K) (F : X.mg x = some (.ref (Z.ca k))) (hg : Gl X x) (hdb : (x == ("__debug__" : Str)) = false)
    (hm : ∀ c, PySem.W.exmOne X.K (.ref (Z.ca c)) (.ref (Z.ca k)) = some (T.anc c k)) (tk : Takes X W)
    (hb : ∀ (W : WX) (pn : List (Addr × Obj)) (xe : Value → Shared → Prop), Takes (X.tr pn xe) W → PassesOwn (model X.prog X.w) X.A X.env xe → PSs (X.tr pn xe) body (iL T Z W Bs))
    (hsu : ∀ (a : Addr) (pn : List (Addr × Obj)), PSs (X.suite a pn) (b₀ :: suite) (iL T Z (fun _ _ _ _ => False) Ss)) :
    PS X (.Try body [.ExceptHandler (some (.Name x np)) (some n) (b₀ :: suite) pos'] [] [] pos) (iS T Z W (.tri Bs [([k], some i, Ss)])) := by
  refine ps_weak (ps_try_asT (i := i) hex hs hf hN hi hln ⟨hg, hdb, .inl F⟩ tk hb hsu) fun D σ H ⟨ρ, env, st, er, sr, h⟩ => ?_
  refine ⟨ρ, env, st, er, sr, ?_⟩
  simp only [exS] at h
  cases e1 : exL T Bs env st with
  | exc x s' => rw [e1] at h; exact h.elim
  | bad => rw [e1] at h; exact h.elim
  | ok f s' =>
    rw [e1] at h
    cases f with
    | nx e' => exact h
    | br e' => exact h
    | ct e' => exact h
    | rt d => exact h
    | ex env' e =>
      simp only at h
      rintro ρ' H' σ' cls dx t sr' er' ⟨c, fs, rfl, rfl, hx⟩
      have n1 : Now Z ρ H ρ' s' H' [] := ⟨t, sr', by simp, by simp, .nil⟩
      simp only [exH] at h
      refine ⟨T.anc c k, hm c, fun hy => ?_, fun hn => ?_⟩
      · refine ⟨Z.ca c, rfl, fun a na => ?_⟩
        have hy' : ([k].any fun k => T.anc c k) = true := by simp [hy]
        rw [hy'] at h
        simp only at h
        have n2 : Now Z ρ H ρ' s' (upd H' a (exoH a (Z.ca c) dx)) [] := (n1.new sr na).less (List.nil_sublist _)
        have er2 : ER Z ρ' (upd H' a (exoH a (Z.ca c) dx)) env' σ' := ⟨er'.1, fun j d hd => by
          obtain ⟨v, h1, h2⟩ := er'.2 j d hd
          exact ⟨v, h1, rp_up na h2⟩⟩
        have re : Rp Z ρ' (upd H' a (exoH a (Z.ca c) dx)) (.exc c fs) (.ref a) [] := by
          refine ⟨a, dx, rfl, upd_same, ?_, rfl⟩
          refine RpX.stay (fun _ _ e => e) (fun b u e _ => ?_) hx
          rw [upd_ne (fun z => by rw [z, na] at e; cases e)]; exact e
        exact ⟨ρ', env'.set i (some (.exc c fs)), s', er2.set re, n2.sr, (PostS.outF h).tail n2 sr⟩
      · have hn' : ([k].any fun k => T.anc c k) = false := by simp [hn]
        rw [hn'] at h
        simp only [ret] at h
        exact h ρ' H' σ' _ dx t sr' er' ⟨c, fs, rfl, rfl, hx⟩
end
end Fs
namespace Fs
open PySem
abbrev F.is_integer : Nat := 0
abbrev F.common_divisor : Nat := 1
abbrev F.is_fraction : Nat := 2
abbrev F.reduced : Nat := 3
abbrev F.fraction : Nat := 4
abbrev F.is_row : Nat := 5
abbrev F.need_matrix : Nat := 6
abbrev F.common_multiple : Nat := 7
abbrev F.scaled_rows : Nat := 8
abbrev F.exchanged : Nat := 9
abbrev F.integer_sum : Nat := 10
abbrev F.sum_of_rows : Nat := 11
abbrev F.pair_sum : Nat := 12
abbrev F._law_source : Nat := 13
abbrev F._law_next : Nat := 14
abbrev F._law_fraction : Nat := 15
abbrev F._law_plus : Nat := 16
abbrev F._law_times : Nat := 17
abbrev F._law_pair_sum : Nat := 18
abbrev F._law_random_matrix : Nat := 19
abbrev F._law_limit_right : Nat := 20
abbrev F.law : Nat := 21
abbrev Kx.BadMatrix : Nat := 0
/- value -/
def c_is_integer : Fn := ⟨1, 1, [.ret (.and2 (.bi (.isT "int") [.loc 0]) (.nt (.val (.bi (.isT "bool") [.loc 0]))))]⟩
/- a b -/
def c_common_divisor : Fn := ⟨2, 2, [.asg (.tup [.nm 0, .nm 1]) (.tup [.bi .abs [.loc 0], .bi .abs [.loc 1]]), .whl (.val (.cmp .gt (.loc 1) (.con (.int 0)))) [.asg (.tup [.nm 0, .nm 1]) (.tup [.loc 1, .bin .mod (.loc 0) (.loc 1)])], .ret (.loc 0)]⟩
/- value item -/
def c_is_fraction : Fn := ⟨1, 2, [.iff (.or2 (.nt (.val (.bi (.isT "tuple") [.loc 0]))) (.or2 (.val (.cmp .ne (.bi .len [.loc 0]) (.con (.int 2)))) (.nt (.val (.bi .all [.lc [1] (.val (.loc 0)) (.nm 1) [] (.call F.is_integer [.loc 1])]))))) [.ret (.con (.bl false))] [], .ret (.and2 (.cmp .gt (.sub (.loc 0) (.con (.int 1))) (.con (.int 0))) (.cmp .eq (.call F.common_divisor [.sub (.loc 0) (.con (.int 0)), .sub (.loc 0) (.con (.int 1))]) (.con (.int 1))))]⟩
/- numerator denominator divisor -/
def c_reduced : Fn := ⟨2, 3, [.asg (.nm 2) (.call F.common_divisor [.loc 0, .loc 1]), .iff (.val (.cmp .lt (.loc 1) (.con (.int 0)))) [.asg (.nm 2) (.bin .sub (.con (.int 0)) (.loc 2))] [], .ret (.tup [.bin .fdiv (.loc 0) (.loc 2), .bin .fdiv (.loc 1) (.loc 2)])]⟩
/- numerator denominator -/
def c_fraction : Fn := ⟨2, 2, [.iff (.or2 (.nt (.val (.call F.is_integer [.loc 0]))) (.nt (.val (.call F.is_integer [.loc 1])))) [.xpr hole] [], .iff (.val (.cmp .eq (.loc 1) (.con (.int 0)))) [.xpr hole] [], .ret (.call F.reduced [.loc 0, .loc 1])]⟩
/- row size entry -/
def c_is_row : Fn := ⟨2, 3, [.ret (.and2 (.bi (.isT "tuple") [.loc 0]) (.and2 (.cmp .eq (.bi .len [.loc 0]) (.loc 1)) (.bi .all [.lc [2] (.val (.loc 0)) (.nm 2) [] (.call F.is_fraction [.loc 2])])))]⟩
/- matrix size row u v -/
def c_need_matrix : Fn := ⟨1, 5, [.iff (.or2 (.nt (.val (.bi (.isT "tuple") [.loc 0]))) (.val (.cmp .gt (.bi .len [.loc 0]) (.con (.int 60))))) [.rse Kx.BadMatrix [.con (.str "expected a tuple of at most 60 rows")]] [], .asg (.nm 1) (.bi .len [.loc 0]), .iff (.nt (.val (.bi .all [.lc [2] (.val (.loc 0)) (.nm 2) [] (.call F.is_row [.loc 2, .loc 1])]))) [.rse Kx.BadMatrix [.con (.str "expected rows of as many fractions")]] [], .forr (.rng [.loc 1]) (.nm 3) [.forr (.rng [.loc 3, .loc 1]) (.nm 4) [.iff (.val (.cmp .ne (.sub (.sub (.loc 0) (.loc 3)) (.loc 4)) (.tup [.bin .sub (.con (.int 0)) (.sub (.sub (.sub (.loc 0) (.loc 4)) (.loc 3)) (.con (.int 0))), .sub (.sub (.sub (.loc 0) (.loc 4)) (.loc 3)) (.con (.int 1))]))) [.rse Kx.BadMatrix [.con (.str "the matrix is not skew")]] []]]]⟩
/- one other a b -/
def c_common_multiple : Fn := ⟨2, 4, [.asg (.tup [.nm 2, .nm 3]) (.tup [.loc 0, .loc 1]), .whl (.val (.cmp .gt (.loc 3) (.con (.int 0)))) [.asg (.tup [.nm 2, .nm 3]) (.tup [.loc 3, .bin .mod (.loc 2) (.loc 3)])], .ret (.bin .mul (.bin .fdiv (.loc 0) (.loc 2)) (.loc 1))]⟩
/- rows multiple row entry -/
def c_scaled_rows : Fn := ⟨1, 4, [.asg (.nm 1) (.con (.int 1)), .forr (.val (.loc 0)) (.nm 2) [.forr (.val (.loc 2)) (.nm 3) [.asg (.nm 1) (.call F.common_multiple [.loc 1, .sub (.loc 3) (.con (.int 1))])]], .ret (.tup [.lc [2] (.val (.loc 0)) (.nm 2) [] (.lc [3] (.val (.loc 2)) (.nm 3) [] (.bin .mul (.sub (.loc 3) (.con (.int 0))) (.bin .fdiv (.loc 1) (.sub (.loc 3) (.con (.int 1)))))), .loc 1])]⟩
/- rows one other row -/
def c_exchanged : Fn := ⟨3, 4, [.asg (.tup [.sub (.loc 0) (.loc 1), .sub (.loc 0) (.loc 2)]) (.tup [.sub (.loc 0) (.loc 2), .sub (.loc 0) (.loc 1)]), .forr (.val (.loc 0)) (.nm 3) [.asg (.tup [.sub (.loc 3) (.loc 1), .sub (.loc 3) (.loc 2)]) (.tup [.sub (.loc 3) (.loc 2), .sub (.loc 3) (.loc 1)])]]⟩
/- rows sign divisor places place first second v u -/
def c_integer_sum : Fn := ⟨1, 9, [.asg (.tup [.nm 1, .nm 2]) (.tup [.con (.int 1), .con (.int 1)]), .whl (.val (.cmp .gt (.bi .len [.loc 0]) (.con (.int 1)))) [.asg (.nm 3) (.lc [4] (.rng [.con (.int 1), .bi .len [.loc 0]]) (.nm 4) [.val (.cmp .ne (.sub (.sub (.loc 0) (.con (.int 0))) (.loc 4)) (.con (.int 0)))] (.loc 4)), .iff (.val (.cmp .eq (.loc 3) (.lst []))) [.ret (.con (.int 0))] [], .iff (.val (.cmp .gt (.sub (.loc 3) (.con (.int 0))) (.con (.int 1)))) [.xpr (.call F.exchanged [.loc 0, .con (.int 1), .sub (.loc 3) (.con (.int 0))]), .asg (.nm 1) (.bin .sub (.con (.int 0)) (.loc 1))] [], .asg (.tup [.nm 5, .nm 6]) (.tup [.sub (.loc 0) (.con (.int 0)), .sub (.loc 0) (.con (.int 1))]), .asg (.nm 0) (.lc [8] (.rng [.con (.int 2), .bi .len [.loc 5]]) (.nm 8) [] (.lc [7] (.rng [.con (.int 2), .bi .len [.loc 5]]) (.nm 7) [] (.bin .fdiv (.bin .add (.bin .sub (.bin .mul (.sub (.loc 5) (.con (.int 1))) (.sub (.sub (.loc 0) (.loc 8)) (.loc 7))) (.bin .mul (.sub (.loc 5) (.loc 8)) (.sub (.loc 6) (.loc 7)))) (.bin .mul (.sub (.loc 6) (.loc 8)) (.sub (.loc 5) (.loc 7)))) (.loc 2)))), .asg (.nm 2) (.sub (.loc 5) (.con (.int 1)))], .ret (.ife (.val (.cmp .eq (.loc 0) (.lst []))) (.bin .mul (.loc 1) (.loc 2)) (.con (.int 0)))]⟩
/- rows integers multiple below turn -/
def c_sum_of_rows : Fn := ⟨1, 5, [.asg (.tup [.nm 1, .nm 2]) (.call F.scaled_rows [.loc 0]), .asg (.nm 3) (.con (.int 1)), .forr (.rng [.bin .fdiv (.bi .len [.loc 0]) (.con (.int 2))]) (.nm 4) [.asg (.nm 3) (.bin .mul (.loc 3) (.loc 2))], .ret (.call F.fraction [.call F.integer_sum [.loc 1], .loc 3])]⟩
/- matrix row -/
def c_pair_sum : Fn := ⟨1, 2, [.xpr (.call F.need_matrix [.loc 0]), .ret (.call F.sum_of_rows [.lc [1] (.val (.loc 0)) (.nm 1) [] (.bi .list [.loc 1])])]⟩
/- _law_script _law_k _law_cell -/
def c__law_source : Fn := ⟨2, 3, [.asg (.nm 2) (.ife (.val (.cmp .ne (.loc 0) (.lst []))) (.sub (.loc 0) (.bin .mod (.loc 1) (.bi .len [.loc 0]))) (.con (.int 1))), .ret (.lst [.loc 2, .bin .mul (.con (.int 3)) (.loc 1), .ife (.val (.cmp .ge (.loc 2) (.bin .pow (.con (.int 10)) (.con (.int 18))))) (.bin .fdiv (.loc 2) (.bin .pow (.con (.int 10)) (.con (.int 18)))) (.con (.int 0))])]⟩
/- _law_source_here _law_many _law_found _law_primes _law_prime -/
def c__law_next : Fn := ⟨2, 5, [.iff (.val (.cmp .gt (.sub (.loc 0) (.con (.int 2))) (.con (.int 0)))) [.asg (.nm 2) (.bin .mod (.sub (.loc 0) (.con (.int 2))) (.loc 1)), .asg (.sub (.loc 0) (.con (.int 2))) (.bin .fdiv (.sub (.loc 0) (.con (.int 2))) (.loc 1)), .ret (.loc 2)] [], .asg (.sub (.loc 0) (.con (.int 1))) (.bin .add (.sub (.loc 0) (.con (.int 1))) (.con (.int 1))), .asg (.nm 3) (.lst [.con (.int 2147483647), .con (.int 2147483629), .con (.int 2147483587), .con (.int 2147483579), .con (.int 2147483563), .con (.int 2147483549), .con (.int 2147483543), .con (.int 2147483497)]), .asg (.nm 4) (.sub (.bin .add (.loc 3) (.lst [.con (.int 2147483489), .con (.int 2147483477), .con (.int 2147483423)])) (.bin .mod (.sub (.loc 0) (.con (.int 1))) (.con (.int 11)))), .ret (.bin .mod (.bin .fdiv (.bin .mod (.bin .pow (.bin .add (.bin .add (.bin .mod (.sub (.loc 0) (.con (.int 0))) (.loc 4)) (.bin .mul (.con (.int 7919)) (.sub (.loc 0) (.con (.int 1))))) (.con (.int 1))) (.con (.int 5))) (.loc 4)) (.con (.int 13))) (.loc 1))]⟩
/- _law_above _law_below _law_one _law_other -/
def c__law_fraction : Fn := ⟨2, 4, [.asg (.tup [.nm 2, .nm 3]) (.tup [.bi .abs [.loc 0], .bi .abs [.loc 1]]), .whl (.val (.cmp .gt (.loc 3) (.con (.int 0)))) [.asg (.tup [.nm 2, .nm 3]) (.tup [.loc 3, .bin .mod (.loc 2) (.loc 3)])], .asg (.nm 2) (.ife (.val (.cmp .gt (.loc 1) (.con (.int 0)))) (.loc 2) (.bin .sub (.con (.int 0)) (.loc 2))), .ret (.tup [.bin .fdiv (.loc 0) (.loc 2), .bin .fdiv (.loc 1) (.loc 2)])]⟩
/- _law_one _law_other -/
def c__law_plus : Fn := ⟨2, 2, [.ret (.call F._law_fraction [.bin .add (.bin .mul (.sub (.loc 0) (.con (.int 0))) (.sub (.loc 1) (.con (.int 1)))) (.bin .mul (.sub (.loc 1) (.con (.int 0))) (.sub (.loc 0) (.con (.int 1)))), .bin .mul (.sub (.loc 0) (.con (.int 1))) (.sub (.loc 1) (.con (.int 1)))])]⟩
/- _law_one _law_other -/
def c__law_times : Fn := ⟨2, 2, [.ret (.call F._law_fraction [.bin .mul (.sub (.loc 0) (.con (.int 0))) (.sub (.loc 1) (.con (.int 0))), .bin .mul (.sub (.loc 0) (.con (.int 1))) (.sub (.loc 1) (.con (.int 1)))])]⟩
/- _law_rows _law_kept _law_found _law_k _law_entry _law_part -/
def c__law_pair_sum : Fn := ⟨2, 6, [.iff (.val (.cmp .eq (.loc 1) (.lst []))) [.ret (.tup [.con (.int 1), .con (.int 1)])] [], .asg (.nm 2) (.tup [.con (.int 0), .con (.int 1)]), .forr (.rng [.con (.int 1), .ife (.val (.cmp .eq (.bin .mod (.bi .len [.loc 1]) (.con (.int 2))) (.con (.int 0)))) (.bi .len [.loc 1]) (.con (.int 0))]) (.nm 3) [.asg (.nm 4) (.sub (.sub (.loc 0) (.sub (.loc 1) (.con (.int 0)))) (.sub (.loc 1) (.loc 3))), .iff (.val (.cmp .ne (.sub (.loc 4) (.con (.int 0))) (.con (.int 0)))) [.asg (.nm 5) (.call F._law_times [.loc 4, .call F._law_pair_sum [.loc 0, .bin .add (.slc (.loc 1) (some (.con (.int 1))) (some (.loc 3))) (.slc (.loc 1) (some (.bin .add (.loc 3) (.con (.int 1)))) none)]]), .asg (.nm 2) (.call F._law_plus [.loc 2, .ife (.val (.cmp .eq (.bin .mod (.loc 3) (.con (.int 2))) (.con (.int 1)))) (.loc 5) (.tup [.bin .sub (.con (.int 0)) (.sub (.loc 5) (.con (.int 0))), .sub (.loc 5) (.con (.int 1))])])] []], .ret (.loc 2)]⟩
/- _law_source_here _law_size _law_above _law_rows _law_v _law_u _law_number _law_entry _law_row -/
def c__law_random_matrix : Fn := ⟨3, 9, [.asg (.nm 3) (.lc [5] (.rng [.loc 1]) (.nm 5) [] (.lc [4] (.rng [.loc 1]) (.nm 4) [] (.tup [.con (.int 0), .con (.int 1)]))), .forr (.rng [.loc 1]) (.nm 5) [.forr (.rng [.loc 5]) (.nm 4) [.asg (.nm 6) (.bin .mul (.bin .sub (.call F._law_next [.loc 0, .con (.int 9)]) (.con (.int 4))) (.bi .int [.cmp .gt (.call F._law_next [.loc 0, .con (.int 3)]) (.con (.int 0))])), .asg (.nm 7) (.call F._law_fraction [.bin .mul (.loc 6) (.loc 2), .bin .add (.con (.int 1)) (.call F._law_next [.loc 0, .con (.int 3)])]), .asg (.tup [.sub (.sub (.loc 3) (.loc 5)) (.loc 4), .sub (.sub (.loc 3) (.loc 4)) (.loc 5)]) (.tup [.loc 7, .tup [.bin .sub (.con (.int 0)) (.sub (.loc 7) (.con (.int 0))), .sub (.loc 7) (.con (.int 1))]])]], .ret (.bi .tuple [.lc [8] (.val (.loc 3)) (.nm 8) [] (.bi .tuple [.loc 8])])]⟩
/- _law_found error -/
def c__law_limit_right : Fn := ⟨0, 2, [.asg (.nm 0) (.con .non), .tri [.xpr (.call F.pair_sum [.bin .mul (.tup [.bin .mul (.tup [.tup [.con (.int 0), .con (.int 1)]]) (.con (.int 61))]) (.con (.int 61))])] [([Kx.BadMatrix], some 1, [.asg (.nm 0) (.loc 1)])], .ret (.and2 (.cmp .ntN (.loc 0) (.con .non)) (.cmp .eq (.call F.pair_sum [.bin .mul (.tup [.bin .mul (.tup [.tup [.con (.int 0), .con (.int 1)]]) (.con (.int 60))]) (.con (.int 60))]) (.tup [.con (.int 0), .con (.int 1)])))]⟩
/- _law_script _law_k _law_source_here _law_above _law_size _law_matrix -/
def c_law : Fn := ⟨1, 6, [.forr (.rng [.bi .max2 [.con (.int 1), .bi .min2 [.con (.int 3), .bi .len [.loc 0]]]]) (.nm 1) [.asg (.nm 2) (.call F._law_source [.loc 0, .loc 1]), .forr (.val (.tup [.con (.int 1), .bin .add (.bin .pow (.con (.int 10)) (.con (.int 40))) (.con (.int 9))])) (.nm 3) [.asg (.nm 4) (.call F._law_next [.loc 2, .con (.int 8)]), .asg (.nm 5) (.call F._law_random_matrix [.loc 2, .loc 4, .loc 3]), .iff (.val (.cmp .ne (.bi .repr [.call F.pair_sum [.loc 5]]) (.bi .repr [.call F._law_pair_sum [.loc 5, .bi .lrng [.loc 4]]]))) [.ret (.con (.bl false))] []]], .ret (.and2 (.cmp .eq (.call F.pair_sum [.tup []]) (.tup [.con (.int 1), .con (.int 1)])) (.and2 (.cmp .eq (.call F.pair_sum [.tup [.tup [.tup [.con (.int 0), .con (.int 1)]]]]) (.tup [.con (.int 0), .con (.int 1)])) (.call F._law_limit_right [])))]⟩
def fns : Nat → Option Fn
  | 0 => some c_is_integer
  | 1 => some c_common_divisor
  | 2 => some c_is_fraction
  | 3 => some c_reduced
  | 4 => some c_fraction
  | 5 => some c_is_row
  | 6 => some c_need_matrix
  | 7 => some c_common_multiple
  | 8 => some c_scaled_rows
  | 9 => some c_exchanged
  | 10 => some c_integer_sum
  | 11 => some c_sum_of_rows
  | 12 => some c_pair_sum
  | 13 => some c__law_source
  | 14 => some c__law_next
  | 15 => some c__law_fraction
  | 16 => some c__law_plus
  | 17 => some c__law_times
  | 18 => some c__law_pair_sum
  | 19 => some c__law_random_matrix
  | 20 => some c__law_limit_right
  | 21 => some c_law
  | _ => none
def fldF : Nat → Option Str
  | 0 => none
  | _ => none
def ancF : Nat → Nat → Bool
  | 0, 0 => true
  | _, 0 => true
  | _, _ => false
def P : Pr := ⟨fns, fldF, ancF⟩
end Fs
/-! What a piece answers, as a claim about its end (the law's side, no world in sight). -/
namespace Fs
open PySem
section
variable {α β : Type}
def wr (r : R α) (Q : α → Sto → Prop) (E : D → Sto → Prop) : Prop := match r with
  | .ok a s' => Q a s'
  | .exc e s' => E e s'
  | .bad => False
structure wp (m : M α) (s : Sto) (Q : α → Sto → Prop) (E : D → Sto → Prop) : Prop where
  run : wr (m s) Q E
theorem wp_def {m : M α} {s : Sto} {Q : α → Sto → Prop} {E : D → Sto → Prop} : wp m s Q E = wr (m s) Q E := propext ⟨fun h => h.run, fun h => ⟨h⟩⟩
def wb (k : Bool) (A B : Prop) : Prop := match k with
  | true => A
  | false => B
def og (o : Option α) (f : α → Prop) : Prop := match o with
  | some a => f a
  | none => False
theorem wp_congr {m m' : M α} {s s' : Sto} {Q : α → Sto → Prop} {E : D → Sto → Prop} (h : m = m') (h2 : s = s') : wp m s Q E = wp m' s' Q E := by rw [h, h2]
theorem wr_congr {m m' : R α} {Q : α → Sto → Prop} {E : D → Sto → Prop} (h : m = m') : wr m Q E = wr m' Q E := by rw [h]
theorem wb_congr {k k' : Bool} {A B : Prop} (h : k = k') : wb k A B = wb k' A B := by rw [h]
theorem og_congr {k k' : Option α} {A : α → Prop} (h : k = k') : og k A = og k' A := by rw [h]
theorem wb_t {A B : Prop} : wb true A B = A := propext Iff.rfl
theorem wb_f {A B : Prop} : wb false A B = B := propext Iff.rfl
theorem og_s {a : α} {f : α → Prop} : og (some a) f = f a := propext Iff.rfl
theorem og_of {o : Option α} {a : α} {f : α → Prop} (h : o = some a) (hf : f a) : og o f := by rw [h]; exact hf
theorem wb_of {k : Bool} {A B : Prop} (h1 : k = true → A) (h2 : k = false → B) : wb k A B := by
  cases k
  · exact h2 rfl
  · exact h1 rfl
theorem wr_ok {a : α} {s : Sto} {Q : α → Sto → Prop} {E : D → Sto → Prop} : wr (.ok a s) Q E = Q a s := propext Iff.rfl
theorem wr_exc {a : D} {s : Sto} {Q : α → Sto → Prop} {E : D → Sto → Prop} : wr (.exc a s) Q E = E a s := propext Iff.rfl
theorem wp_of {m : M α} {s : Sto} {Q Q' : α → Sto → Prop} {E E' : D → Sto → Prop} (h : wp m s Q E) (hq : ∀ a s', Q a s' → Q' a s') (he : ∀ a s', E a s' → E' a s') : wp m s Q' E' := by
  rw [wp_def] at *
  unfold wr at *
  cases e : m s with
  | ok a s' => rw [e] at h; exact hq _ _ h
  | exc a s' => rw [e] at h; exact he _ _ h
  | bad => rw [e] at h; exact h
theorem wp_q {m : M α} {s : Sto} {Q Q' : α → Sto → Prop} {E : D → Sto → Prop} (h : ∀ a s', Q a s' = Q' a s') : wp m s Q E = wp m s Q' E := by
  have : Q = Q' := funext fun a => funext fun s' => h a s'
  rw [this]
theorem og_q {o : Option α} {f g : α → Prop} (h : ∀ a, f a = g a) : og o f = og o g := by
  have : f = g := funext h
  rw [this]
/-- nothing raised -/
abbrev NX : D → Sto → Prop := fun _ _ => False
theorem wp_nx {m : M α} {s : Sto} {Q Q' : α → Sto → Prop} {E' : D → Sto → Prop} (h : wp m s Q NX) (hq : ∀ a s', Q a s' → Q' a s') : wp m s Q' E' := wp_of h hq (fun _ _ h => h.elim)
theorem wp_run {m : M α} {s : Sto} {Q : α → Sto → Prop} (h : wp m s Q NX) : ∃ a s', m s = .ok a s' ∧ Q a s' := by
  rw [wp_def] at h
  unfold wr at h
  cases e : m s with
  | ok a s' => rw [e] at h; exact ⟨a, s', rfl, h⟩
  | exc a s' => rw [e] at h; exact h.elim
  | bad => rw [e] at h; exact h.elim
variable {s : Sto} {E : D → Sto → Prop}
theorem wp_ret {a : α} {Q : α → Sto → Prop} : wp (ret a) s Q E = Q a s := by rw [wp_def]; exact propext Iff.rfl
theorem wp_bnd {m : M α} {f : α → M β} {Q : β → Sto → Prop} : wp (bnd m f) s Q E = wp m s (fun a s' => wp (f a) s' Q E) E := by
  simp only [wp_def, bnd]
  cases m s <;> (first | rfl | (simp only [wp_def] <;> rfl))
theorem wp_opt {o : Option α} {f : α → M β} {Q : β → Sto → Prop} : wp (opt o f) s Q E = og o (fun a => wp (f a) s Q E) := by
  cases o <;> (first | rfl | (simp only [wp_def] <;> rfl))
theorem wp_bndS {m : Sto → M α} {f : α → M β} {Q : β → Sto → Prop} : wp (fun st => bnd (m st) f st) s Q E = wp (m s) s (fun a s' => wp (f a) s' Q E) E := by
  rw [wp_def]
  show wr (bnd (m s) f s) Q E = _
  simp only [wp_def, bnd]
  cases m s s <;> (first | rfl | (simp only [wp_def] <;> rfl))
theorem wp_optS {o : Sto → Option α} {f : α → M β} {Q : β → Sto → Prop} : wp (fun st => opt (o st) f st) s Q E = og (o s) (fun a => wp (f a) s Q E) := by
  rw [wp_def]
  show wr (opt (o s) f s) Q E = _
  cases o s <;> (first | rfl | (simp only [wp_def] <;> rfl))
theorem wp_gdS {b : Sto → Bool} {m : Sto → M β} {Q : β → Sto → Prop} : wp (fun st => gd (b st) (m st) st) s Q E = (b s = true ∧ wp (m s) s Q E) := by
  rw [wp_def]
  show wr (gd (b s) (m s) s) Q E = _
  cases b s <;> simp [gd, wp_def, wr, bad]
theorem wp_gd {b : Bool} {m : M α} {Q : α → Sto → Prop} : wp (gd b m) s Q E = (b = true ∧ wp m s Q E) := by
  cases b <;> simp [gd, wp_def, wr, bad]
theorem wp_noX {m : M α} {Q : α → Sto → Prop} : wp (noX m) s Q E = wp m s Q NX := by
  simp only [wp_def, noX]
  cases m s <;> (first | rfl | (simp only [wp_def] <;> rfl))
theorem wp_lft {σ : Env} {m : M α} {f : α → M Fl} {Q : Fl → Sto → Prop} : wp (lft σ m f) s Q E = wp m s (fun a s' => wp (f a) s' Q E) (fun e s' => Q (.ex σ e) s') := by
  simp only [wp_def, lft]
  cases m s <;> (first | rfl | (simp only [wp_def] <;> rfl))
/-- how the pieces of a body follow -/
def fq (k : Env → Sto → Prop) (Q : Fl → Sto → Prop) : Fl → Sto → Prop := fun f s' => match f with
  | .nx σ => k σ s'
  | f => Q f s'
theorem fq_nx {k : Env → Sto → Prop} {Q : Fl → Sto → Prop} {σ : Env} : fq k Q (.nx σ) s = k σ s := propext Iff.rfl
theorem fq_rt {k : Env → Sto → Prop} {Q : Fl → Sto → Prop} {d : D} : fq k Q (.rt d) s = Q (.rt d) s := propext Iff.rfl
theorem fq_br {k : Env → Sto → Prop} {Q : Fl → Sto → Prop} {d : Env} : fq k Q (.br d) s = Q (.br d) s := propext Iff.rfl
theorem fq_ct {k : Env → Sto → Prop} {Q : Fl → Sto → Prop} {d : Env} : fq k Q (.ct d) s = Q (.ct d) s := propext Iff.rfl
theorem fq_ex {k : Env → Sto → Prop} {Q : Fl → Sto → Prop} {d : Env} {e : D} : fq k Q (.ex d e) s = Q (.ex d e) s := propext Iff.rfl
theorem wp_seqF {m : M Fl} {k : Env → M Fl} {Q : Fl → Sto → Prop} (hE : E = NX) : wp (seqF m k) s Q E = wp m s (fq (fun σ s' => wp (k σ) s' Q E) Q) E := by
  subst hE
  simp only [wp_def, seqF]
  cases m s with
  | ok f s' => cases f <;> (first | rfl | (simp only [wp_def] <;> rfl))
  | exc => first | rfl | (simp only [wp_def] <;> rfl)
  | bad => first | rfl | (simp only [wp_def] <;> rfl)
end
section
variable {T : Tbl} {σ : Env} {s : Sto} {E : D → Sto → Prop} {Q : D → Sto → Prop} {QB : Bool → Sto → Prop} {QF : Fl → Sto → Prop}
def lk (o : Option (Option D)) (f : D → Prop) : Prop := match o with
  | some (some d) => f d
  | _ => False
theorem lk_congr {k k' : Option (Option D)} {A : D → Prop} (h : k = k') : lk k A = lk k' A := by rw [h]
theorem lk_s {d : D} {f : D → Prop} : lk (some (some d)) f = f d := propext Iff.rfl
theorem e_loc {i : Nat} : wp (ev T (.loc i) σ) s Q E = lk σ[i]? (fun d => Q d s) := by
  simp only [ev]
  cases σ[i]? with
  | none => first | rfl | (simp only [wp_def] <;> rfl)
  | some o => cases o <;> (first | rfl | (simp only [wp_def] <;> rfl))
theorem e_con {d : D} : wp (ev T (.con d) σ) s Q E = Q d s := by simp only [ev, wp_ret]
theorem e_bin {op : Bop} {a b : Ex} : wp (ev T (.bin op a b) σ) s Q E = wp (ev T a σ) s (fun x s => wp (ev T b σ) s (fun y s => wp (binD op x y) s Q E) E) E := by
  simp only [ev, wp_bnd]
theorem e_neg {a : Ex} : wp (ev T (.neg a) σ) s Q E = wp (ev T a σ) s (fun x s => og (intv x) fun i => Q (.int (-i)) s) E := by
  simp only [ev, wp_bnd, wp_opt, wp_ret]
theorem e_nt {a : Cn} : wp (ev T (.nt a) σ) s Q E = wp (evT T a σ) s (fun c s => Q (.bl (!c)) s) E := by
  simp only [ev, wp_bnd, wp_ret]
theorem wp_st {f : Sto → M D} : wp (fun st => f st st) s Q E = wp (f s) s Q E := by rw [wp_def, wp_def]
theorem e_cmp {op : Cop} {a b : Ex} : wp (ev T (.cmp op a b) σ) s Q E = wp (ev T a σ) s (fun x s => wp (ev T b σ) s (fun y s => og (cmpD op x y s) (fun c => Q (.bl c) s)) E) E := by
  simp only [ev, wp_bnd]
  refine wp_q fun x s => wp_q fun y s => ?_
  rw [wp_optS (o := fun st => cmpD op x y st)]
  exact og_q fun c => wp_ret
theorem e_chn {o1 o2 : Cop} {a b c : Ex} : wp (ev T (.chn o1 o2 a b c) σ) s Q E = wp (ev T a σ) s (fun x s => og (intv x) fun i => wp (ev T b σ) s (fun y s => og (intv y) fun j => og (cmpI o1 i j) fun k => wb k (wp (ev T c σ) s (fun z s => og (intv z) fun m => og (cmpI o2 j m) fun r => Q (.bl r) s) E) (Q (.bl false) s)) E) E := by
  simp only [ev, wp_bnd, wp_opt]
  refine wp_q fun x s => og_q fun i => wp_q fun y s => og_q fun j => og_q fun k => ?_
  cases k
  · first | rfl | (simp only [wp_def] <;> rfl)
  · simp only [wb, wp_bnd, wp_opt, wp_ret]
theorem e_and2 {a b : Ex} : wp (ev T (.and2 a b) σ) s Q E = wp (ev T a σ) s (fun x s => og (blv x) fun c => wb c (wp (ev T b σ) s Q E) (Q (.bl false) s)) E := by
  simp only [ev, wp_bnd, wp_opt]
  refine wp_q fun x s => og_q fun k => ?_
  cases k <;> (first | rfl | (simp only [wp_def] <;> rfl))
theorem e_or2 {a b : Ex} : wp (ev T (.or2 a b) σ) s Q E = wp (ev T a σ) s (fun x s => og (blv x) fun c => wb c (Q (.bl true) s) (wp (ev T b σ) s Q E)) E := by
  simp only [ev, wp_bnd, wp_opt]
  refine wp_q fun x s => og_q fun k => ?_
  cases k <;> (first | rfl | (simp only [wp_def] <;> rfl))
theorem e_ife {c : Cn} {a b : Ex} : wp (ev T (.ife c a b) σ) s Q E = wp (evT T c σ) s (fun k s => wb k (wp (ev T a σ) s Q E) (wp (ev T b σ) s Q E)) E := by
  simp only [ev, wp_bnd]
  refine wp_q fun k s => ?_
  cases k <;> (first | rfl | (simp only [wp_def] <;> rfl))
theorem es_nil {Q : List D → Sto → Prop} : wp (evs T [] σ) s Q E = Q [] s := by simp only [evs, wp_ret]
theorem es_cons {e : Ex} {es : List Ex} {Q : List D → Sto → Prop} : wp (evs T (e :: es) σ) s Q E = wp (ev T e σ) s (fun x s => wp (evs T es σ) s (fun xs s => Q (x :: xs) s) E) E := by
  simp only [evs, wp_bnd, wp_ret]
theorem e_tup {es : List Ex} : wp (ev T (.tup es) σ) s Q E = wp (evs T es σ) s (fun ds s => ds.length ≤ sizeLine ∧ Q (.tup ds) s) E := by
  simp only [ev, wp_bnd, wp_gd, wp_ret, decide_eq_true_eq]
theorem e_lst {es : List Ex} : wp (ev T (.lst es) σ) s Q E = wp (evs T es σ) s (fun ds s => ds.length ≤ sizeLine ∧ Q (.lst ds) s) E := by
  simp only [ev, wp_bnd, wp_gd, wp_ret, decide_eq_true_eq]
theorem e_dct0 : wp (ev T (.dct []) σ) s Q E = Q (.dic []) s := by
  simp only [ev, evkv, wp_bnd, wp_gd, wp_ret, List.foldl, true_and]
theorem e_sub {a i : Ex} : wp (ev T (.sub a i) σ) s Q E = wp (ev T a σ) s (fun x s => wp (ev T i σ) s (fun y s => wp (getI x y) s Q E) E) E := by
  simp only [ev, wp_bnd]
theorem e_slc {a : Ex} {lo hi : Option Ex} : wp (ev T (.slc a lo hi) σ) s Q E = wp (ev T a σ) s (fun x s => wp (evo T lo σ) s (fun l s => wp (evo T hi σ) s (fun h s => wp (slcD x l h) s Q E) E) E) E := by
  simp only [ev, wp_bnd]
theorem eo_n {Q : Option Int → Sto → Prop} : wp (evo T none σ) s Q E = Q none s := by simp only [evo, wp_ret]
theorem eo_s {e : Ex} {Q : Option Int → Sto → Prop} : wp (evo T (some e) σ) s Q E = wp (ev T e σ) s (fun x s => og (intv x) fun i => Q (some i) s) E := by
  simp only [evo, wp_bnd, wp_opt, wp_ret]
theorem e_rev {a : Ex} : wp (ev T (.rev a) σ) s Q E = wp (ev T a σ) s (fun x s => wp (revD x) s Q E) E := by
  simp only [ev, wp_bnd]
theorem e_call {f : Nat} {es : List Ex} : wp (ev T (.call f es) σ) s Q E = wp (evs T es σ) s (fun ds s => wp (T.fn f ds) s Q E) E := by
  simp only [ev, wp_bnd]
theorem e_bi {b : Bi} {es : List Ex} : wp (ev T (.bi b es) σ) s Q E = wp (evs T es σ) s (fun ds s => wp (biD T b ds) s Q E) E := by
  simp only [ev, wp_bnd]
theorem e_me {m : Me} {o : Ex} {es : List Ex} : wp (ev T (.me m o es) σ) s Q E = wp (ev T o σ) s (fun x s1 => meK m (kndD s1 x) = true ∧ wp (evs T es σ) s1 (fun ds s2 => (kndD s1 x == kndD s2 x) = true ∧ wp (meD m x ds) s2 Q E) E) E := by
  simp only [ev, wp_bnd]
  refine wp_q fun x s1 => ?_
  rw [wp_gdS (b := fun st1 => meK m (kndD st1 x)) (m := fun st1 => bnd (evs T es σ) fun ds => fun st2 => gd (kndD st1 x == kndD st2 x) (meD m x ds) st2)]
  refine congrArg _ ?_
  rw [wp_bnd]
  refine wp_q fun ds s2 => ?_
  rw [wp_gdS (b := fun st2 => kndD s1 x == kndD st2 x) (m := fun _ => meD m x ds)]
/-- the inside of a comprehension -/
def lcT (T : Tbl) (own : List Nat) (tg : Tg) (ifs : List Cn) (e : Ex) (σ : Env) : D → M (Option D) := fun d => bnd (asgT T tg d (wipe σ own)) fun σ' => bnd (evTs T ifs σ') fun b => match b with
        | true => bnd (ev T e σ') fun y => ret (some y)
        | false => ret none
theorem e_lc {own : List Nat} {it : Ix} {tg : Tg} {ifs : List Cn} {e : Ex} : wp (ev T (.lc own it tg ifs e) σ) s Q E = wp (evI T it σ) s (fun t s => wp (lcLoop t (lcT T own tg ifs e σ) (t.len s + 1) 0 []) s (fun ys s => Q (.lst ys) s) E) E := by
  simp only [ev, wp_bnd]
  refine wp_q fun t s => ?_
  unfold lcT
  exact Eq.trans (wp_bndS (m := fun st => lcLoop t _ (t.len st + 1) 0 [])) (wp_q fun ys s => wp_ret)
def dcT (T : Tbl) (own : List Nat) (tg : Tg) (ifs : List Cn) (k v : Ex) (σ : Env) : D → M (Option (Ky × D)) := fun d => bnd (asgT T tg d (wipe σ own)) fun σ' => bnd (evTs T ifs σ') fun b => match b with
        | true => bnd (ev T k σ') fun x => bnd (ev T v σ') fun y => opt (keyOf x) fun q => ret (some (q, y))
        | false => ret none
theorem e_dc {own : List Nat} {it : Ix} {tg : Tg} {ifs : List Cn} {k v : Ex} : wp (ev T (.dc own it tg ifs k v) σ) s Q E = wp (evI T it σ) s (fun t s => wp (dcLoop t (dcT T own tg ifs k v σ) (t.len s + 1) 0 []) s (fun ys s => Q (.dic ys) s) E) E := by
  simp only [ev, wp_bnd]
  refine wp_q fun t s => ?_
  unfold dcT
  exact Eq.trans (wp_bndS (m := fun st => dcLoop t _ (t.len st + 1) 0 [])) (wp_q fun ys s => wp_ret)
theorem w_lcT {own : List Nat} {tg : Tg} {ifs : List Cn} {e : Ex} {d : D} {Q : Option D → Sto → Prop} : wp (lcT T own tg ifs e σ d) s Q E = wp (asgT T tg d (wipe σ own)) s (fun σ' s => wp (evTs T ifs σ') s (fun b s => wb b (wp (ev T e σ') s (fun y s => Q (some y) s) E) (Q none s)) E) E := by
  simp only [lcT, wp_bnd]
  refine wp_q fun t s => wp_q fun b s => ?_
  cases b
  · first | rfl | (simp only [wp_def] <;> rfl)
  · simp only [wb, wp_bnd, wp_ret]
theorem w_dcT {own : List Nat} {tg : Tg} {ifs : List Cn} {k v : Ex} {d : D} {Q : Option (Ky × D) → Sto → Prop} : wp (dcT T own tg ifs k v σ d) s Q E = wp (asgT T tg d (wipe σ own)) s (fun σ' s => wp (evTs T ifs σ') s (fun b s => wb b (wp (ev T k σ') s (fun x s => wp (ev T v σ') s (fun y s => og (keyOf x) fun q => Q (some (q, y)) s) E) E) (Q none s)) E) E := by
  simp only [dcT, wp_bnd]
  refine wp_q fun t s => wp_q fun b s => ?_
  cases b
  · first | rfl | (simp only [wp_def] <;> rfl)
  · simp only [wb, wp_bnd, wp_opt, wp_ret]
/-! tests -/
theorem t_nt {a : Cn} : wp (evT T (.nt a) σ) s QB E = wp (evT T a σ) s (fun c s => QB (!c) s) E := by
  simp only [evT, wp_bnd, wp_ret]
theorem t_and2 {a b : Cn} : wp (evT T (.and2 a b) σ) s QB E = wp (evT T a σ) s (fun c s => wb c (wp (evT T b σ) s QB E) (QB false s)) E := by
  simp only [evT, wp_bnd]
  refine wp_q fun x s => ?_
  cases x <;> (first | rfl | (simp only [wp_def] <;> rfl))
theorem t_or2 {a b : Cn} : wp (evT T (.or2 a b) σ) s QB E = wp (evT T a σ) s (fun c s => wb c (QB true s) (wp (evT T b σ) s QB E)) E := by
  simp only [evT, wp_bnd]
  refine wp_q fun x s => ?_
  cases x <;> (first | rfl | (simp only [wp_def] <;> rfl))
theorem t_ife {a b c : Cn} : wp (evT T (.ife c a b) σ) s QB E = wp (evT T c σ) s (fun k s => wb k (wp (evT T a σ) s QB E) (wp (evT T b σ) s QB E)) E := by
  simp only [evT, wp_bnd]
  refine wp_q fun x s => ?_
  cases x <;> (first | rfl | (simp only [wp_def] <;> rfl))
theorem t_val {e : Ex} : wp (evT T (.val e) σ) s QB E = wp (ev T e σ) s (fun x s => og (truth s x) (fun b => QB b s)) E := by
  simp only [evT, wp_bnd]
  refine wp_q fun x s => ?_
  rw [wp_optS (o := fun st => truth st x)]
  exact og_q fun c => wp_ret
theorem ts_nil : wp (evTs T [] σ) s QB E = QB true s := by simp only [evTs, wp_ret]
theorem ts_cons {e : Cn} {es : List Cn} : wp (evTs T (e :: es) σ) s QB E = wp (evT T e σ) s (fun c s => wb c (wp (evTs T es σ) s QB E) (QB false s)) E := by
  simp only [evTs, wp_bnd]
  refine wp_q fun x s => ?_
  cases x <;> (first | rfl | (simp only [wp_def] <;> rfl))
/-! iterables -/
theorem i_val {e : Ex} {Q : It → Sto → Prop} : wp (evI T (.val e) σ) s Q E = wp (ev T e σ) s (fun x s => wp (srcOf x) s (fun w s => Q (.one w) s) E) E := by
  simp only [evI, wp_bnd, wp_ret]
theorem i_rng {es : List Ex} {Q : It → Sto → Prop} : wp (evI T (.rng es) σ) s Q E = wp (evs T es σ) s (fun ds s => og (rngL ds) fun xs => Q (.one (.items xs)) s) E := by
  simp only [evI, wp_bnd, wp_opt, wp_ret]
theorem i_enum {e : Ex} {k : Int} {Q : It → Sto → Prop} : wp (evI T (.enum e k) σ) s Q E = wp (ev T e σ) s (fun x s => wp (srcOf x) s (fun w s => Q (.enum k w) s) E) E := by
  simp only [evI, wp_bnd, wp_ret]
/-! targets -/
theorem wp_land {d : D} : wp (landM d) s Q E = Q (land d s).1 (land d s).2 := by rw [wp_def]; exact propext Iff.rfl
theorem g_nm {i : Nat} {d : D} {Q : Env → Sto → Prop} : wp (asgT T (.nm i) d σ) s Q E = Q (σ.set i (some (land d s).1)) (land d s).2 := by
  simp only [asgT, wp_bnd, wp_land, wp_ret]
theorem g_tup {ts : List Tg} {d : D} {Q : Env → Sto → Prop} : wp (asgT T (.tup ts) d σ) s Q E = og (ofTup d s) (fun ds => wp (asgTs T ts ds σ) s Q E) := by
  have e : asgT T (.tup ts) d σ s = match ofTup d s with
    | some ds => asgTs T ts ds σ s
    | none => .bad := by
    simp only [asgT] <;> (cases ofTup d s <;> rfl)
  rw [wp_def, e]
  cases ofTup d s with
  | none => rfl
  | some ds => simp only [og, wp_def]
theorem g_sub {o i : Ex} {d : D} {Q : Env → Sto → Prop} : wp (asgT T (.sub o i) d σ) s Q E = wp (ev T o σ) s (fun x s => wp (ev T i σ) s (fun y s => wp (setI x y d) s (fun _ s => Q σ s) E) E) E := by
  simp only [asgT, wp_bnd, wp_ret]
theorem gs_nil {Q : Env → Sto → Prop} : wp (asgTs T [] [] σ) s Q E = Q σ s := by simp only [asgTs, wp_ret]
theorem gs_cons {t : Tg} {ts : List Tg} {d : D} {ds : List D} {Q : Env → Sto → Prop} : wp (asgTs T (t :: ts) (d :: ds) σ) s Q E = wp (asgT T t d σ) s (fun σ' s => wp (asgTs T ts ds σ') s Q E) E := by
  simp only [asgTs, wp_bnd]
/-! statements -/
theorem s_asg {t : Tg} {e : Ex} : wp (exS T (.asg t e) σ) s QF E = wp (ev T e σ) s (fun x s => wp (asgT T t x σ) s (fun σ' s => QF (.nx σ') s) NX) (fun e s => QF (.ex σ e) s) := by
  simp only [exS, wp_lft, wp_bnd, wp_noX, wp_ret]
theorem s_xpr {e : Ex} : wp (exS T (.xpr e) σ) s QF E = wp (ev T e σ) s (fun _ s => QF (.nx σ) s) (fun e s => QF (.ex σ e) s) := by
  simp only [exS, wp_lft, wp_ret]
theorem s_ret {e : Ex} : wp (exS T (.ret e) σ) s QF E = wp (ev T e σ) s (fun d s => QF (.rt d) s) (fun e s => QF (.ex σ e) s) := by
  simp only [exS, wp_lft, wp_ret]
theorem s_ret0 : wp (exS T .ret0 σ) s QF E = QF (.rt .non) s := by simp only [exS, wp_ret]
theorem s_iff {c : Cn} {a b : List Sx} : wp (exS T (.iff c a b) σ) s QF E = wp (evT T c σ) s (fun k s => wb k (wp (exL T a σ) s QF E) (wp (exL T b σ) s QF E)) (fun e s => QF (.ex σ e) s) := by
  simp only [exS, wp_lft]
  refine wp_q fun x s => ?_
  cases x <;> (first | rfl | (simp only [wp_def] <;> rfl))
theorem s_brk : wp (exS T .brk σ) s QF E = QF (.br σ) s := by simp only [exS, wp_ret]
theorem s_cnt : wp (exS T .cnt σ) s QF E = QF (.ct σ) s := by simp only [exS, wp_ret]
theorem s_pas : wp (exS T .pas σ) s QF E = QF (.nx σ) s := by simp only [exS, wp_ret]
theorem s_for {it : Ix} {t : Tg} {b : List Sx} : wp (exS T (.forr it t b) σ) s QF E = wp (evI T it σ) s (fun w s => wp (forLoop w (fun d σ => asgT T t d σ) (fun σ => exL T b σ) (w.len s + 1) 0 σ) s QF E) (fun e s => QF (.ex σ e) s) := by
  simp only [exS, wp_lft]; exact wp_q fun w s => by rw [wp_def, wp_def]
theorem s_whl {c : Cn} {b : List Sx} : wp (exS T (.whl c b) σ) s QF E = wp (whLoop (fun σ => evT T c σ) (fun σ => exL T b σ) wfuel σ) s QF E := by
  simp only [exS]
theorem l_nil : wp (exL T [] σ) s QF E = QF (.nx σ) s := by simp only [exL, wp_ret]
theorem l_cons {x : Sx} {xs : List Sx} : wp (exL T (x :: xs) σ) s QF NX = wp (exS T x σ) s (fq (fun σ s => wp (exL T xs σ) s QF NX) QF) NX := by
  simp only [exL, wp_seqF]
/-! loops -/
/-- what a turn of a loop leads to -/
def tq (I : Env → Sto → Prop) (QF : Fl → Sto → Prop) : Fl → Sto → Prop := fun f s => match f with
  | .nx σ | .ct σ => I σ s
  | .br σ => QF (.nx σ) s
  | f => QF f s
theorem tq_nx {I : Env → Sto → Prop} {σ : Env} : tq I QF (.nx σ) s = I σ s := propext Iff.rfl
theorem tq_ct {I : Env → Sto → Prop} {σ : Env} : tq I QF (.ct σ) s = I σ s := propext Iff.rfl
theorem tq_br {I : Env → Sto → Prop} {σ : Env} : tq I QF (.br σ) s = QF (.nx σ) s := propext Iff.rfl
theorem tq_rt {I : Env → Sto → Prop} {d : D} : tq I QF (.rt d) s = QF (.rt d) s := propext Iff.rfl
theorem tq_ex {I : Env → Sto → Prop} {σ : Env} {d : D} : tq I QF (.ex σ d) s = QF (.ex σ d) s := propext Iff.rfl
theorem w_forAux {it : It} {g : D → Env → M Env} {b : Env → M Fl} (xs : List D) (I : Nat → Env → Sto → Prop)
    (hit : ∀ i σ s, I i σ s → it.next i s = some xs[i]?)
    (hb : ∀ i d σ s, I i σ s → xs[i]? = some d → wp (g d σ) s (fun σ1 s1 => wp (b σ1) s1 (tq (I (i + 1)) QF) NX) NX)
    (hq : ∀ σ s, I xs.length σ s → QF (.nx σ) s) : ∀ (n i : Nat) (σ : Env) (s : Sto), I i σ s → i ≤ xs.length → xs.length + 1 ≤ n + i → wp (forLoop it g b n i σ) s QF E
  | 0, i, σ, s, h, h1, h2 => absurd h2 (by omega)
  | n + 1, i, σ, s, h, h1, h2 => by
    simp only [wp_def, forLoop]
    rw [hit i σ s h]
    by_cases hi : i < xs.length
    · rw [List.getElem?_eq_getElem hi]
      have hw := hb i _ σ s h (List.getElem?_eq_getElem hi)
      simp only [wp_def, noX] at hw ⊢
      cases eg : g xs[i] σ s with
      | ok σ1 s1 =>
        rw [eg] at hw
        simp only [wr] at hw
        simp only
        cases eb : b σ1 s1 with
        | ok f s2 =>
          rw [eb] at hw
          simp only [wr] at hw
          cases f with
          | nx σ' => exact (w_forAux xs I hit hb hq n (i + 1) σ' s2 hw hi (by omega)).run
          | ct σ' => exact (w_forAux xs I hit hb hq n (i + 1) σ' s2 hw hi (by omega)).run
          | br σ' => exact hw
          | rt d => exact hw
          | ex σ' e => exact hw
        | exc e s2 => rw [eb] at hw; exact hw.elim
        | bad => rw [eb] at hw; exact hw.elim
      | exc e s2 => rw [eg] at hw; exact hw.elim
      | bad => rw [eg] at hw; exact hw.elim
    · obtain rfl : i = xs.length := by omega
      rw [List.getElem?_eq_none (Nat.le_refl _)]
      exact hq σ s h
/-- a loop over things that stand -/
theorem w_for {g : D → Env → M Env} {b : Env → M Fl} (xs : List D) (I : Nat → Env → Sto → Prop) (h0 : I 0 σ s)
    (hb : ∀ i d σ s, I i σ s → xs[i]? = some d → wp (g d σ) s (fun σ1 s1 => wp (b σ1) s1 (tq (I (i + 1)) QF) NX) NX)
    (hq : ∀ σ s, I xs.length σ s → QF (.nx σ) s) : wp (forLoop (.one (.items xs)) g b ((It.one (.items xs)).len s + 1) 0 σ) s QF E :=
  w_forAux xs I (fun i σ s _ => rfl) hb hq _ 0 σ s h0 (Nat.zero_le _) (by show xs.length + 1 ≤ xs.length + 1 + 0; omega)
def numb (k : Int) (xs : List D) : List D := (List.range xs.length).map fun (i : Nat) => .tup [.int (k + (i : Int)), xs.getD i .non]
theorem numb_get {k : Int} {xs : List D} {i : Nat} : (numb k xs)[i]? = xs[i]?.map fun d => .tup [.int (k + (i : Int)), d] := by
  simp only [numb, List.getElem?_map]
  by_cases h : i < xs.length
  · rw [List.getElem?_range h, List.getElem?_eq_getElem h]
    simp [List.getD, List.getElem?_eq_getElem h]
  · rw [List.getElem?_eq_none (l := List.range xs.length) (by simpa using h), List.getElem?_eq_none (by omega)]; rfl
theorem numb_len {k : Int} {xs : List D} : (numb k xs).length = xs.length := by simp [numb]
theorem enum_next {k : Int} {xs : List D} {i : Nat} {s : Sto} (h : i ≤ xs.length) : (It.enum k (.items xs)).next i s = some (numb k xs)[i]? := by
  rw [numb_get]
  simp only [It.next, Src.at]
  by_cases hi : i < xs.length
  · rw [List.getElem?_eq_getElem hi]; rfl
  · obtain rfl : i = xs.length := by omega
    rw [List.getElem?_eq_none (Nat.le_refl _)]
    simp [Src.len]
theorem w_forE {g : D → Env → M Env} {b : Env → M Fl} {k : Int} (xs : List D) (I : Nat → Env → Sto → Prop) (h0 : I 0 σ s)
    (hb : ∀ i d σ s, I i σ s → xs[i]? = some d → wp (g (.tup [.int (k + (i : Int)), d]) σ) s (fun σ1 s1 => wp (b σ1) s1 (tq (I (i + 1)) QF) NX) NX)
    (hq : ∀ σ s, I xs.length σ s → QF (.nx σ) s) : wp (forLoop (.enum k (.items xs)) g b ((It.enum k (.items xs)).len s + 1) 0 σ) s QF E := by
  refine w_forAux (numb k xs) (fun i σ s => i ≤ xs.length ∧ I i σ s) (fun i σ s h => enum_next h.1) ?_ ?_ _ 0 σ s ⟨Nat.zero_le _, h0⟩ (Nat.zero_le _) ?_
  · rintro i d σ s ⟨h, hI⟩ e
    rw [numb_get] at e
    cases e2 : xs[i]? with
    | none => rw [e2] at e; cases e
    | some x =>
      rw [e2] at e
      cases e
      have hi : i < xs.length := (List.getElem?_eq_some_iff.1 e2).1
      refine wp_nx (hb i x σ s hI e2) fun σ1 s1 h1 => wp_nx h1 fun f s2 h2 => ?_
      cases f <;> first
        | exact ⟨hi, h2⟩
        | exact h2
  · rintro σ s ⟨_, h⟩
    rw [numb_len] at h
    exact hq σ s h
  · rw [numb_len]; show xs.length + 1 ≤ xs.length + 1 + 0; omega
theorem w_lcAux {it : It} {turn : D → M (Option D)} (xs : List D) (I : Nat → List D → Sto → Prop) {Q : List D → Sto → Prop}
    (hit : ∀ i a s, I i a s → it.next i s = some xs[i]?)
    (hb : ∀ i d a s, I i a s → xs[i]? = some d → wp (turn d) s (fun o s1 => match o with
      | some y => a.length < sizeLine ∧ I (i + 1) (a ++ [y]) s1
      | none => I (i + 1) a s1) NX)
    (hq : ∀ a s, I xs.length a s → Q a s) : ∀ (n i : Nat) (a : List D) (s : Sto), I i a s → i ≤ xs.length → xs.length + 1 ≤ n + i → wp (lcLoop it turn n i a) s Q E
  | 0, i, σ, s, h, h1, h2 => absurd h2 (by omega)
  | n + 1, i, a, s, h, h1, h2 => by
    simp only [wp_def, lcLoop]
    rw [hit i a s h]
    by_cases hi : i < xs.length
    · rw [List.getElem?_eq_getElem hi]
      have hw := hb i _ a s h (List.getElem?_eq_getElem hi)
      simp only [wp_def] at hw ⊢
      cases eg : turn xs[i] s with
      | ok o s1 =>
        rw [eg] at hw
        cases o with
        | some y =>
          simp only [wr] at hw
          simp only [if_pos hw.1]
          exact (w_lcAux xs I hit hb hq n (i + 1) _ s1 hw.2 hi (by omega)).run
        | none =>
          simp only [wr] at hw
          exact (w_lcAux xs I hit hb hq n (i + 1) _ s1 hw hi (by omega)).run
      | exc e s2 => rw [eg] at hw; exact hw.elim
      | bad => rw [eg] at hw; exact hw.elim
    · obtain rfl : i = xs.length := by omega
      rw [List.getElem?_eq_none (Nat.le_refl _)]
      exact hq a s h
/-- a comprehension that maps; the store may change by the turns -/
theorem w_lcM {turn : D → M (Option D)} (xs : List D) (I : Nat → List D → Sto → Prop) {Q : List D → Sto → Prop} (h0 : I 0 [] s) (hl : ∀ i a s, I i a s → a.length ≤ i) (hx : xs.length ≤ sizeLine)
    (hb : ∀ i d a s, I i a s → xs[i]? = some d → wp (turn d) s (fun o s1 => match o with
      | some y => I (i + 1) (a ++ [y]) s1
      | none => I (i + 1) a s1) NX)
    (hq : ∀ a s, I xs.length a s → Q a s) : wp (lcLoop (.one (.items xs)) turn ((It.one (.items xs)).len s + 1) 0 []) s Q E :=
  w_lcAux xs I (fun i σ s _ => rfl) (fun i d a s h e => wp_nx (hb i d a s h e) fun o s1 h1 => by
    have hi : i < xs.length := (List.getElem?_eq_some_iff.1 e).1
    have := hl i a s h
    cases o with
    | none => exact h1
    | some y => exact ⟨by omega, h1⟩) hq _ 0 [] s h0 (Nat.zero_le _) (by show xs.length + 1 ≤ xs.length + 1 + 0; omega)
/-- a comprehension that leaves the store -/
theorem w_lc {turn : D → M (Option D)} (xs : List D) (f : D → Option D) {Q : List D → Sto → Prop} (hx : xs.length ≤ sizeLine)
    (hb : ∀ d ∈ xs, wp (turn d) s (fun o s1 => o = f d ∧ s1 = s) NX)
    (hq : Q (xs.filterMap f) s) : wp (lcLoop (.one (.items xs)) turn ((It.one (.items xs)).len s + 1) 0 []) s Q E := by
  refine w_lcM xs (fun i a s' => s' = s ∧ a = (xs.take i).filterMap f) ⟨rfl, by simp⟩ ?_ hx ?_ ?_
  · rintro i a s' ⟨rfl, rfl⟩
    exact Nat.le_trans (List.length_filterMap_le _ _) (List.length_take_le ..)
  · rintro i d a s' ⟨rfl, rfl⟩ e
    obtain ⟨hi, e2⟩ := List.getElem?_eq_some_iff.1 e
    refine wp_nx (hb d (by rw [← e2]; exact List.getElem_mem _)) ?_
    rintro o s1 ⟨rfl, rfl⟩
    have ht : xs.take (i + 1) = xs.take i ++ [d] := by rw [List.take_succ, e]; rfl
    cases ef : f d with
    | none => simp [ht, List.filterMap_append, ef]
    | some y => simp [ht, List.filterMap_append, ef]
  · rintro a s' ⟨rfl, rfl⟩
    rw [List.take_length]
    exact hq
theorem w_lcE {turn : D → M (Option D)} {k : Int} (xs : List D) (f : D → Option D) {Q : List D → Sto → Prop} (hx : xs.length ≤ sizeLine)
    (hb : ∀ (i : Nat) (d : D), xs[i]? = some d → wp (turn (.tup [.int (k + (i : Int)), d])) s (fun o s1 => o = f (.tup [.int (k + (i : Int)), d]) ∧ s1 = s) NX)
    (hq : Q ((numb k xs).filterMap f) s) : wp (lcLoop (.enum k (.items xs)) turn ((It.enum k (.items xs)).len s + 1) 0 []) s Q E := by
  refine w_lcAux (numb k xs) (fun i a s' => i ≤ xs.length ∧ s' = s ∧ a = ((numb k xs).take i).filterMap f) (fun i σ s h => enum_next h.1) ?_ ?_ _ 0 [] s ⟨Nat.zero_le _, rfl, by simp⟩ (Nat.zero_le _) (by rw [numb_len]; show xs.length + 1 ≤ xs.length + 1 + 0; omega)
  · rintro i d a s' ⟨hle, rfl, rfl⟩ e
    have hi : i < xs.length := by
      have := (List.getElem?_eq_some_iff.1 e).1
      rwa [numb_len] at this
    have ht : (numb k xs).take (i + 1) = (numb k xs).take i ++ [d] := by rw [List.take_succ, e]; rfl
    have e2 := e
    rw [numb_get, List.getElem?_eq_getElem hi] at e2
    cases e2
    refine wp_nx (hb i _ (List.getElem?_eq_getElem hi)) ?_
    rintro o s1 ⟨rfl, rfl⟩
    have hlen : (((numb k xs).take i).filterMap f).length < sizeLine := by
      refine Nat.lt_of_le_of_lt (List.length_filterMap_le _ _) (Nat.lt_of_le_of_lt (List.length_take_le ..) (by omega))
    simp only at ht
    cases ef : f (.tup [.int (k + (i : Int)), xs[i]]) with
    | none => exact ⟨hi, rfl, by simp [ht, List.filterMap_append, ef]⟩
    | some y => exact ⟨hlen, hi, rfl, by simp [ht, List.filterMap_append, ef]⟩
  · rintro a s' ⟨_, rfl, rfl⟩
    rw [List.take_length]
    exact hq
theorem w_wh {c : Env → M Bool} {b : Env → M Fl} (I : Nat → Env → Sto → Prop)
    (hb : ∀ k σ s, I k σ s → wp (c σ) s (fun t s1 => wb t (0 < k ∧ wp (b σ) s1 (tq (fun σ s => ∃ j, j < k ∧ I j σ s) QF) NX) (QF (.nx σ) s1)) NX) : ∀ (n k : Nat) (σ : Env) (s : Sto), I k σ s → k < n → wp (whLoop c b n σ) s QF E
  | 0, k, σ, s, h, h2 => absurd h2 (by omega)
  | n + 1, k, σ, s, h, h2 => by
    simp only [wp_def, whLoop, lft]
    have hw := hb k σ s h
    simp only [wp_def] at hw
    cases ec : c σ s with
    | ok t s1 =>
      rw [ec] at hw
      simp only [wr] at hw
      simp only
      cases t with
      | false => exact hw
      | true =>
        simp only [wb] at hw
        obtain ⟨hk, hw⟩ := hw
        simp only
        cases eb : b σ s1 with
        | ok f s2 =>
          rw [eb] at hw
          simp only [wr] at hw
          cases f with
          | nx σ' => obtain ⟨j, hj, hI⟩ := hw; exact (w_wh I hb n j σ' s2 hI (by omega)).run
          | ct σ' => obtain ⟨j, hj, hI⟩ := hw; exact (w_wh I hb n j σ' s2 hI (by omega)).run
          | br σ' => exact hw
          | rt d => exact hw
          | ex σ' e => exact hw
        | exc e s2 => rw [eb] at hw; exact hw.elim
        | bad => rw [eb] at hw; exact hw.elim
    | exc e s2 => rw [ec] at hw; exact hw.elim
    | bad => rw [ec] at hw; exact hw.elim
end
/-! ### a def -/
/-- what a def leaves -/
def lv (st : Sto) (Q E : D → Sto → Prop) : Fl → Sto → Prop := fun f s2 => match f with
  | .rt d => okPre st s2 st.length = true ∧ og (rback s2 st.length d) fun d' => Q d' (s2.take st.length)
  | .nx _ => okPre st s2 st.length = true ∧ Q .non (s2.take st.length)
  | .ex _ e => okPre st s2 st.length = true ∧ D.cls st.length e = true ∧ E e (s2.take st.length)
  | _ => False
theorem lv_rt {st s2 : Sto} {Q E : D → Sto → Prop} {d : D} : lv st Q E (.rt d) s2 = (okPre st s2 st.length = true ∧ og (rback s2 st.length d) fun d' => Q d' (s2.take st.length)) := propext Iff.rfl
theorem lv_nx {st s2 : Sto} {Q E : D → Sto → Prop} {d : Env} : lv st Q E (.nx d) s2 = (okPre st s2 st.length = true ∧ Q .non (s2.take st.length)) := propext Iff.rfl
theorem lv_ex {st s2 : Sto} {Q E : D → Sto → Prop} {d : Env} {e : D} : lv st Q E (.ex d e) s2 = (okPre st s2 st.length = true ∧ D.cls st.length e = true ∧ E e (s2.take st.length)) := propext Iff.rfl
theorem w_call {P : Pr} {n f : Nat} {ds : List D} {st : Sto} {F : Fn} {Q E : D → Sto → Prop} (hF : P.fns f = some F) (hl : ds.length = F.np)
    (h : wp (exL (P.tbl n) F.body ((lands ds st).1.map some ++ List.replicate (F.ns - F.np) none)) (lands ds st).2 (lv st Q E) NX) : wp (call P (n + 1) f ds) st Q E := by
  simp only [wp_def, call]
  rw [hF]
  simp only [decide_eq_true hl]
  simp only [wp_def, Pr.tbl] at h
  cases e : exL ⟨call P n, P.fld, P.anc⟩ F.body ((lands ds st).1.map some ++ List.replicate (F.ns - F.np) none) (lands ds st).2 with
  | ok f s2 =>
    rw [e] at h
    simp only [wr] at h
    cases f with
    | rt d =>
      rw [lv_rt] at h
      obtain ⟨h1, h2⟩ := h
      simp only [outR, leaveD, h1]
      cases er : rback s2 st.length d with
      | none => rw [er] at h2; exact h2.elim
      | some d' => rw [er] at h2; exact h2
    | nx σ =>
      rw [lv_nx] at h
      simp only [outR, leaveD, h.1]
      exact h.2
    | ex σ e =>
      rw [lv_ex] at h
      simp only [outR, leaveD, h.1, h.2.1, Bool.and_self]
      exact h.2.2
    | br => exact h.elim
    | ct => exact h.elim
  | exc e s2 => rw [e] at h; exact h.elim
  | bad => rw [e] at h; exact h.elim
end Fs
namespace Fs
open PySem
section
variable {T : Tbl} {σ : Env} {s : Sto} {E : D → Sto → Prop} {Q : D → Sto → Prop}
/-! numbers -/
theorem b_add {i j : Int} : wp (binD .add (.int i) (.int j)) s Q E = Q (.int (i + j)) s := by rw [wp_def]; exact propext Iff.rfl
theorem b_sub {i j : Int} : wp (binD .sub (.int i) (.int j)) s Q E = Q (.int (i - j)) s := by rw [wp_def]; exact propext Iff.rfl
theorem b_mul {i j : Int} : wp (binD .mul (.int i) (.int j)) s Q E = (i.natAbs.log2 + j.natAbs.log2 < 1000000 ∧ Q (.int (i * j)) s) := by
  by_cases h : i.natAbs.log2 + j.natAbs.log2 < 1000000
  · simp only [wp_def, binD, intOp, if_pos h]
    exact propext ⟨fun q => ⟨h, q⟩, fun q => q.2⟩
  · simp only [wp_def, binD, intOp, if_neg h]
    exact propext ⟨False.elim, fun q => h q.1⟩
theorem b_mod {i j : Int} : wp (binD .mod (.int i) (.int j)) s Q E = (j ≠ 0 ∧ Q (.int (i.fmod j)) s) := by
  by_cases h : j ≠ 0
  · simp only [wp_def, binD, intOp, if_pos h]
    exact propext ⟨fun q => ⟨h, q⟩, fun q => q.2⟩
  · simp only [wp_def, binD, intOp, if_neg h]
    exact propext ⟨False.elim, fun q => h q.1⟩
theorem b_fdiv {i j : Int} : wp (binD .fdiv (.int i) (.int j)) s Q E = ((j ≠ 0 ∧ j.natAbs.log2 < 9000) ∧ Q (.int (i.fdiv j)) s) := by
  by_cases h : j ≠ 0 ∧ j.natAbs.log2 < 9000
  · simp only [wp_def, binD, intOp, if_pos h]
    exact propext ⟨fun q => ⟨h, q⟩, fun q => q.2⟩
  · simp only [wp_def, binD, intOp, if_neg h]
    exact propext ⟨False.elim, fun q => h q.1⟩
theorem b_pow {i j : Int} : wp (binD .pow (.int i) (.int j)) s Q E = ((0 ≤ j ∧ j ≤ 1000000 ∧ i.natAbs < 2 ^ 64) ∧ Q (.int (i ^ j.toNat)) s) := by
  by_cases h : 0 ≤ j ∧ j ≤ 1000000 ∧ i.natAbs < 2 ^ 64
  · simp only [wp_def, binD, intOp, if_pos h]
    exact propext ⟨fun q => ⟨h, q⟩, fun q => q.2⟩
  · simp only [wp_def, binD, intOp, if_neg h]
    exact propext ⟨False.elim, fun q => h q.1⟩
theorem b_addT {xs ys : List D} : wp (binD .add (.tup xs) (.tup ys)) s Q E = (xs.length + ys.length ≤ sizeLine ∧ Q (.tup (xs ++ ys)) s) := by
  by_cases h : xs.length + ys.length ≤ sizeLine
  · simp only [wp_def, binD, intOp, if_pos h]
    exact propext ⟨fun q => ⟨h, q⟩, fun q => q.2⟩
  · simp only [wp_def, binD, intOp, if_neg h]
    exact propext ⟨False.elim, fun q => h q.1⟩
def lpC (c : Option D) : Option (List D) := match c with
  | some (.lst xs) => some xs
  | _ => none
theorem lpC_lst {xs : List D} : lpC (some (.lst xs)) = some xs := rfl
theorem lstv_ref {l : Nat} : lstv s (.ref l) = lpC s[l]? := by
  simp only [lstv, lpC] <;> (cases s[l]? with
    | none => first | rfl | (simp only [wp_def] <;> rfl)
    | some c => cases c <;> (first | rfl | (simp only [wp_def] <;> rfl)))
theorem lstv_lst {xs : List D} : lstv s (.lst xs) = some xs := rfl
theorem b_addL {l : Nat} {ys : List D} : wp (binD .add (.ref l) (.lst ys)) s Q E = og (lpC s[l]?) (fun xs => xs.length + ys.length ≤ sizeLine ∧ Q (.lst (xs ++ ys)) s) := by
  simp only [wp_def, binD, lstv_ref, lstv_lst]
  cases lpC s[l]? with
  | none => first | rfl | (simp only [wp_def] <;> rfl)
  | some xs =>
    simp only [og]
    by_cases h : xs.length + ys.length ≤ sizeLine
    · rw [if_pos h]; exact propext ⟨fun q => ⟨h, q⟩, fun q => q.2⟩
    · rw [if_neg h]; exact propext ⟨False.elim, fun q => h q.1⟩
theorem b_mulL {xs : List D} {k : Int} : wp (binD .mul (.lst xs) (.int k)) s Q E = ((D.purs xs = true ∧ k < 2 ^ 63 ∧ -(2 ^ 63) ≤ k ∧ xs.length * k.toNat ≤ sizeLine) ∧ Q (.lst (rep k.toNat xs)) s) := by
  by_cases h : D.purs xs = true ∧ k < 2 ^ 63 ∧ -(2 ^ 63) ≤ k ∧ xs.length * k.toNat ≤ sizeLine
  · simp only [wp_def, binD, lstv_lst, if_pos h]
    exact propext ⟨fun q => ⟨h, q⟩, fun q => q.2⟩
  · simp only [wp_def, binD, lstv_lst, if_neg h]
    exact propext ⟨False.elim, fun q => h q.1⟩
theorem b_mulT {xs : List D} {k : Int} : wp (binD .mul (.tup xs) (.int k)) s Q E = ((D.purs xs = true ∧ xs.isEmpty = false ∧ 2 ≤ k ∧ k ≤ 1000 ∧ xs.length ≤ 1000) ∧ Q (.tup (rep k.toNat xs)) s) := by
  by_cases h : D.purs xs = true ∧ xs.isEmpty = false ∧ 2 ≤ k ∧ k ≤ 1000 ∧ xs.length ≤ 1000
  · simp only [wp_def, binD, if_pos h]
    exact propext ⟨fun q => ⟨h, q⟩, fun q => q.2⟩
  · simp only [wp_def, binD, if_neg h]
    exact propext ⟨False.elim, fun q => h q.1⟩
/-! reading -/
def atC (c : Option D) (k : Int) : Option D := match c with
  | some (.lst xs) => L2.atI xs k
  | some (.frl xs) => L2.atI xs k
  | some (.dic kvs) => if okKeys (.k (.inl k)) kvs then dget (.k (.inl k)) kvs else none
  | _ => none
theorem atC_lst {xs : List D} {k : Int} : atC (some (.lst xs)) k = L2.atI xs k := rfl
theorem atC_frl {xs : List D} {k : Int} : atC (some (.frl xs)) k = L2.atI xs k := rfl
theorem atC_dic {xs : List (Ky × D)} {k : Int} : atC (some (.dic xs)) k = if okKeys (.k (.inl k)) xs then dget (.k (.inl k)) xs else none := rfl
theorem gi_tup {xs : List D} {k : Int} : wp (getI (.tup xs) (.int k)) s Q E = og (L2.atI xs k) (fun y => Q y s) := by
  simp only [wp_def, getI, seqv]
  cases L2.atI xs k <;> (first | rfl | (simp only [wp_def] <;> rfl))
theorem gi_lst {xs : List D} {k : Int} : wp (getI (.lst xs) (.int k)) s Q E = og (L2.atI xs k) (fun y => Q y s) := by
  simp only [wp_def, getI, seqv]
  cases L2.atI xs k <;> (first | rfl | (simp only [wp_def] <;> rfl))
theorem gi_ref {l : Nat} {k : Int} : wp (getI (.ref l) (.int k)) s Q E = og (atC s[l]? k) (fun y => Q y s) := by
  simp only [wp_def, getI, seqv, dicv]
  cases s[l]? with
  | none => first | rfl | (simp only [wp_def] <;> rfl)
  | some c =>
    cases c with
    | lst xs => simp only [atC]; cases L2.atI xs k <;> (first | rfl | (simp only [wp_def] <;> rfl))
    | frl xs => simp only [atC]; cases L2.atI xs k <;> (first | rfl | (simp only [wp_def] <;> rfl))
    | dic xs =>
      simp only [atC]
      split
      · cases dget (.k (.inl k)) xs <;> (first | rfl | (simp only [wp_def] <;> rfl))
      · first | rfl | (simp only [wp_def] <;> rfl)
    | _ => first | rfl | (simp only [wp_def] <;> rfl)
/-! writing -/
def stC (c : Option D) (l : Nat) (i d : D) (s : Sto) (Q : Unit → Sto → Prop) : Prop := match c with
  | some (.lst xs) => og (intv i) fun k => og (L2.ixN xs.length k) fun j => Q () ((land d s).2.set l (.lst (xs.set j (land d s).1)))
  | some (.dic kvs) => og (keyOf i) fun q => (okKeys q kvs = true ∧ kvs.length < sizeLine) ∧ Q () ((land d s).2.set l (.dic (dput q (land d s).1 kvs)))
  | _ => False
theorem stC_congr {c c' : Option D} {l : Nat} {i d : D} {s : Sto} {Q : Unit → Sto → Prop} (h : c = c') : stC c l i d s Q = stC c' l i d s Q := by rw [h]
theorem stC_lst {xs : List D} {l : Nat} {i : Int} {d : D} {Q : Unit → Sto → Prop} : stC (some (.lst xs)) l (.int i) d s Q = og (L2.ixN xs.length i) fun j => Q () ((land d s).2.set l (.lst (xs.set j (land d s).1))) := propext Iff.rfl
theorem stC_dic {kvs : List (Ky × D)} {l : Nat} {i : D} {d : D} {Q : Unit → Sto → Prop} : stC (some (.dic kvs)) l i d s Q = og (keyOf i) fun q => (okKeys q kvs = true ∧ kvs.length < sizeLine) ∧ Q () ((land d s).2.set l (.dic (dput q (land d s).1 kvs))) := propext Iff.rfl
theorem si_ref {l : Nat} {i d : D} {Q : Unit → Sto → Prop} : wp (setI (.ref l) i d) s Q E = stC s[l]? l i d s Q := by
  simp only [wp_def, setI]
  cases s[l]? with
  | none => first | rfl | (simp only [wp_def] <;> rfl)
  | some c =>
    cases c with
    | lst xs =>
      simp only [stC]
      cases i with
      | int k => simp only [intv, og]; cases L2.ixN xs.length k <;> (first | rfl | (simp only [wp_def] <;> rfl))
      | _ => first | rfl | (simp only [wp_def] <;> rfl)
    | dic xs =>
      simp only [stC]
      cases keyOf i with
      | none => first | rfl | (simp only [wp_def] <;> rfl)
      | some q =>
        simp only [og]
        by_cases h : okKeys q xs = true ∧ xs.length < sizeLine
        · rw [if_pos h]; exact propext ⟨fun q => ⟨h, q⟩, fun q => q.2⟩
        · rw [if_neg h]; exact propext ⟨False.elim, fun q => h q.1⟩
    | _ => first | rfl | (simp only [wp_def] <;> rfl)
/-! methods -/
theorem m_append {o d : D} : meD .append o [d] = mAppend o d := rfl
theorem m_pop {o : D} : meD .pop o [] = mPop o := rfl
theorem m_popi {o d : D} : wp (meD .popi o [d]) s Q E = wb (kndD s o == 5) (wp (mDpop o d) s Q E) (wp (mPopi o d) s Q E) := by
  rw [wp_def]
  show wr (match kndD s o with
    | 5 => b1 (mDpop o) [d] s
    | _ => b1 (mPopi o) [d] s) Q E = _
  cases h : (kndD s o == 5) with
  | true =>
    have e : kndD s o = 5 := by simpa using h
    rw [e]; simp only [wb, wp_def]; rfl
  | false =>
    have e : kndD s o ≠ 5 := by simpa using h
    simp only [wb]
    first | rfl | (simp only [wp_def] <;> rfl)
def lcC (c : Option D) (f : List D → Prop) : Prop := match c with
  | some (.lst xs) => f xs
  | _ => False
theorem lcC_congr {c c' : Option D} {f : List D → Prop} (h : c = c') : lcC c f = lcC c' f := by rw [h]
theorem lcC_lst {xs : List D} {f : List D → Prop} : lcC (some (.lst xs)) f = f xs := propext Iff.rfl
def dcC (c : Option D) (f : List (Ky × D) → Prop) : Prop := match c with
  | some (.dic xs) => f xs
  | _ => False
theorem dcC_congr {c c' : Option D} {f : List (Ky × D) → Prop} (h : c = c') : dcC c f = dcC c' f := by rw [h]
theorem dcC_dic {xs : List (Ky × D)} {f : List (Ky × D) → Prop} : dcC (some (.dic xs)) f = f xs := propext Iff.rfl
theorem wp_lcell {f : Nat → List D → M D} {l : Nat} {s' : Sto} : wp (lcell s' f (.ref l)) s Q E = lcC s'[l]? (fun xs => wp (f l xs) s Q E) := by
  simp only [wp_def, lcell]
  cases s'[l]? with
  | none => first | rfl | (simp only [wp_def] <;> rfl)
  | some c => cases c <;> (first | rfl | (simp only [wp_def] <;> rfl))
theorem wp_dcell {f : Nat → List (Ky × D) → M D} {l : Nat} {s' : Sto} : wp (dcell s' f (.ref l)) s Q E = dcC s'[l]? (fun xs => wp (f l xs) s Q E) := by
  simp only [wp_def, dcell]
  cases s'[l]? with
  | none => first | rfl | (simp only [wp_def] <;> rfl)
  | some c => cases c <;> (first | rfl | (simp only [wp_def] <;> rfl))
theorem k_app {l : Nat} {d : D} : wp (mAppend (.ref l) d) s Q E = lcC s[l]? (fun xs => xs.length < sizeLine ∧ Q .non ((land d s).2.set l (.lst (xs ++ [(land d s).1])))) := by
  refine (wp_st (f := fun st => lcell st _ (.ref l))).trans ?_
  rw [wp_lcell]
  cases s[l]? with
  | none => first | rfl | (simp only [wp_def] <;> rfl)
  | some c =>
    cases c with
    | lst xs => simp only [lcC, wp_gd, decide_eq_true_eq]; simp only [wp_def]; rfl
    | _ => first | rfl | (simp only [wp_def] <;> rfl)
theorem kw_pop {l : Nat} : wp (mPop (.ref l)) s Q E = lcC s[l]? (fun xs => og xs[xs.length - 1]? fun y => Q y (s.set l (.lst xs.dropLast))) := by
  refine (wp_st (f := fun st => lcell st _ (.ref l))).trans ?_
  rw [wp_lcell]
  cases s[l]? with
  | none => first | rfl | (simp only [wp_def] <;> rfl)
  | some c =>
    cases c with
    | lst xs => simp only [lcC, wp_opt]; simp only [wp_def]; rfl
    | _ => first | rfl | (simp only [wp_def] <;> rfl)
theorem kw_popi {l : Nat} {k : Int} : wp (mPopi (.ref l) (.int k)) s Q E = lcC s[l]? (fun xs => (-(2 ^ 63) ≤ k ∧ k < 2 ^ 63) ∧ og (PySem.seqIndex? k xs.length) fun j => og xs[j]? fun y => Q y (s.set l (.lst (xs.eraseIdx j)))) := by
  refine (wp_st (f := fun st => lcell st _ (.ref l))).trans ?_
  rw [wp_lcell]
  cases s[l]? with
  | none => first | rfl | (simp only [wp_def] <;> rfl)
  | some c =>
    cases c with
    | lst xs => simp only [lcC, wp_opt, intv, og_s, wp_gd, decide_eq_true_eq]; simp only [wp_def]; rfl
    | _ => first | rfl | (simp only [wp_def] <;> rfl)
theorem k_dpop {l : Nat} {k : D} : wp (mDpop (.ref l) k) s Q E = dcC s[l]? (fun kvs => og (keyOf k) fun q => okKeys q kvs = true ∧ og (dget q kvs) fun y => Q y (s.set l (.dic (ddel q kvs)))) := by
  refine (wp_st (f := fun st => dcell st _ (.ref l))).trans ?_
  rw [wp_dcell]
  cases s[l]? with
  | none => first | rfl | (simp only [wp_def] <;> rfl)
  | some c =>
    cases c with
    | dic xs => simp only [dcC, wp_opt, wp_gd]; simp only [wp_def]; rfl
    | _ => first | rfl | (simp only [wp_def] <;> rfl)
def kC (c : Option D) : Nat := match c with
  | some (.lst _) => 4
  | some (.frl _) => 4
  | some (.dic _) => 5
  | _ => 0
theorem kC_lst {xs : List D} : kC (some (.lst xs)) = 4 := rfl
theorem kC_dic {xs : List (Ky × D)} : kC (some (.dic xs)) = 5 := rfl
theorem knd_ref {l : Nat} : kndD s (.ref l) = kC s[l]? := by
  simp only [kndD, kC] <;> (cases s[l]? with
    | none => first | rfl | (simp only [wp_def] <;> rfl)
    | some c => cases c <;> (first | rfl | (simp only [wp_def] <;> rfl)))
/-! built-ins -/
theorem bi_len1 {d : D} : wp (biD T .len [d]) s Q E = wp (fLen d) s Q E := by rw [wp_def, wp_def]; exact propext Iff.rfl
def leC (c : Option D) : Option Nat := match c with
  | some (.lst xs) => some xs.length
  | some (.frl xs) => some xs.length
  | some (.dic xs) => some xs.length
  | _ => none
theorem leC_lst {xs : List D} : leC (some (.lst xs)) = some xs.length := rfl
theorem leC_frl {xs : List D} : leC (some (.frl xs)) = some xs.length := rfl
theorem leC_dic {xs : List (Ky × D)} : leC (some (.dic xs)) = some xs.length := rfl
theorem f_len_tup {xs : List D} : wp (fLen (.tup xs)) s Q E = Q (.int xs.length) s := by rw [wp_def]; exact propext Iff.rfl
theorem f_len_lst {xs : List D} : wp (fLen (.lst xs)) s Q E = Q (.int xs.length) s := by rw [wp_def]; exact propext Iff.rfl
theorem f_len_dic {xs : List (Ky × D)} : wp (fLen (.dic xs)) s Q E = Q (.int xs.length) s := by rw [wp_def]; exact propext Iff.rfl
theorem f_len_ref {l : Nat} : wp (fLen (.ref l)) s Q E = og (leC s[l]?) fun n => Q (.int n) s := by
  simp only [wp_def, fLen, seqv, dicv]
  cases s[l]? with
  | none => first | rfl | (simp only [wp_def] <;> rfl)
  | some c => cases c <;> (first | rfl | (simp only [wp_def] <;> rfl))
theorem bi_sum1 {d : D} : wp (biD T .sum [d]) s Q E = og (lInt s d) (fun ns => Q (.int ns.sum) s) := (wp_optS (o := fun st => lInt st d)).trans (og_q fun _ => wp_ret)
theorem bi_all1 {d : D} : wp (biD T .all [d]) s Q E = og (lBl s d) (fun ns => Q (.bl (ns.all id)) s) := (wp_optS (o := fun st => lBl st d)).trans (og_q fun _ => wp_ret)
theorem bi_any1 {d : D} : wp (biD T .any [d]) s Q E = og (lBl s d) (fun ns => Q (.bl (ns.any id)) s) := (wp_optS (o := fun st => lBl st d)).trans (og_q fun _ => wp_ret)
theorem bi_tup1 {d : D} : wp (biD T .tuple [d]) s Q E = og (seqv s d) (fun ns => Q (.tup ns) s) := (wp_optS (o := fun st => seqv st d)).trans (og_q fun _ => wp_ret)
theorem bi_lst1 {d : D} : wp (biD T .list [d]) s Q E = og (seqv s d) (fun ns => Q (.lst ns) s) := (wp_optS (o := fun st => seqv st d)).trans (og_q fun _ => wp_ret)
theorem bi_min2' {i j : Int} : wp (biD T .min2 [.int i, .int j]) s Q E = Q (.int (if j < i then j else i)) s := by rw [wp_def]; exact propext Iff.rfl
theorem bi_max2' {i j : Int} : wp (biD T .max2 [.int i, .int j]) s Q E = Q (.int (if j > i then j else i)) s := by rw [wp_def]; exact propext Iff.rfl
theorem bi_isT1 {t : String} {d : D} : wp (biD T (.isT t) [d]) s Q E = og (isTy s t d) (fun c => Q (.bl c) s) := (wp_optS (o := fun st => isTy st t d)).trans (og_q fun _ => wp_ret)
theorem bi_lrng1 {b : Int} : wp (biD T .lrng [.int b]) s Q E = (rgOk 0 b = true ∧ Q (.lst (rngN 0 1 b.toNat)) s) := by
  show wp (gd _ _) s Q E = _
  rw [wp_gd, wp_ret]
theorem bi_srt1 {d : D} : wp (biD T .sorted [d]) s Q E = wp (fSorted d) s Q E := by rw [wp_def, wp_def]; exact propext Iff.rfl
theorem bi_ssort1 {d : D} : wp (biD T .ssort [d]) s Q E = og (lInt s d) (fun ns => ns.length < 64 ∧ Q (.lst ((sortI (dedI ns)).map .int)) s) := by
  refine (wp_optS (o := fun st => lInt st d)).trans (og_q fun ns => ?_)
  rw [wp_gd, wp_ret, decide_eq_true_eq]
theorem bi_dict1 {d : D} : wp (biD T .dict [d]) s Q E = og ((lstv s d).bind (optL pairv)) (fun kvs => (kvs.all fun p => D.pur p.2) = true ∧ Q (.dic (kvs.foldl (fun a p => dput p.1 p.2 a) [])) s) := by
  refine (wp_optS (o := fun st => (lstv st d).bind (optL pairv))).trans (og_q fun ns => ?_)
  rw [wp_gd, wp_ret]
theorem bi_repr1 {d : D} : wp (biD T .repr [d]) s Q E = og (toP false s 60 d) (fun p => (p.showable = true ∧ p.shown.length ≤ sizeLine ∧ p.depth ≤ 60 ∧ p.hasDict = false) ∧ Q (.str p.shown) s) := by
  refine (wp_optS (o := fun st => toP false st 60 d)).trans (og_q fun ns => ?_)
  rw [wp_gd, wp_ret, decide_eq_true_eq]
/-! sources -/
theorem so_tup {xs : List D} {Q : Src → Sto → Prop} : wp (srcOf (.tup xs)) s Q E = Q (.items xs) s := by rw [wp_def]; exact propext Iff.rfl
theorem so_lst {xs : List D} {Q : Src → Sto → Prop} : wp (srcOf (.lst xs)) s Q E = Q (.items xs) s := by rw [wp_def]; exact propext Iff.rfl
def soC (c : Option D) (l : Nat) : Option Src := match c with
  | some (.lst _) => some (.cell l)
  | some (.frl _) => some (.cell l)
  | _ => none
theorem soC_lst {xs : List D} {l : Nat} : soC (some (.lst xs)) l = some (.cell l) := rfl
theorem soC_frl {xs : List D} {l : Nat} : soC (some (.frl xs)) l = some (.cell l) := rfl
theorem so_ref {l : Nat} {Q : Src → Sto → Prop} : wp (srcOf (.ref l)) s Q E = og (soC s[l]? l) (fun w => Q w s) := by
  simp only [wp_def, srcOf]
  cases s[l]? with
  | none => first | rfl | (simp only [wp_def] <;> rfl)
  | some c => cases c <;> (first | rfl | (simp only [wp_def] <;> rfl))
/-! landing -/
theorem la_int {i : Int} : land (.int i) s = (.int i, s) := by simp only [land]
theorem la_bl {i : Bool} : land (.bl i) s = (.bl i, s) := by simp only [land]
theorem la_non : land .non s = (.non, s) := by simp only [land]
theorem la_str {i : Str} : land (.str i) s = (.str i, s) := by simp only [land]
theorem la_ref {i : Nat} : land (.ref i) s = (.ref i, s) := by simp only [land]
theorem la_lst0 : land (.lst []) s = (.ref s.length, s ++ [.lst []]) := by simp only [land, lands]
theorem la_dic0 : land (.dic []) s = (.ref s.length, s ++ [.dic []]) := by simp only [land, landk]
mutual
theorem land_pur : ∀ {d : D} {s : Sto}, d.pur = true → land d s = (d, s)
  | .non, s, _ => by simp only [land]
  | .bl _, s, _ => by simp only [land]
  | .int _, s, _ => by simp only [land]
  | .str _, s, _ => by simp only [land]
  | .ref _, s, _ => by simp only [land]
  | .tup xs, s, h => by simp only [D.pur] at h; simp only [land, lands_pur h]
  | .exc _ xs, s, h => by simp only [land]
  | .lam _ xs, s, h => by simp only [land]
  | .lst _, s, h => by simp [D.pur] at h
  | .frl _, s, h => by simp [D.pur] at h
  | .dic _, s, h => by simp [D.pur] at h
  | .set _, s, h => by simp [D.pur] at h
theorem lands_pur : ∀ {ds : List D} {s : Sto}, D.purs ds = true → lands ds s = (ds, s)
  | [], s, _ => by simp only [lands]
  | d :: ds, s, h => by
    simp only [D.purs, Bool.and_eq_true] at h
    simp only [lands, land_pur h.1, lands_pur h.2]
end
theorem purs_of {ds : List D} (h : ∀ d ∈ ds, d.pur = true) : D.purs ds = true := by
  induction ds with
  | nil => first | rfl | (simp only [wp_def] <;> rfl)
  | cons d ds ih =>
    simp only [D.purs, Bool.and_eq_true]
    exact ⟨h d (List.mem_cons_self ..), ih fun x hx => h x (List.mem_cons_of_mem _ hx)⟩
theorem la_lst {xs : List D} (h : D.purs xs = true) : land (.lst xs) s = (.ref s.length, s ++ [.lst xs]) := by simp only [land, lands_pur h]
theorem landk_pur : ∀ {ds : List (Ky × D)} {s : Sto}, (ds.all fun p => D.pur p.2) = true → landk ds s = (ds, s)
  | [], s, _ => by simp only [landk]
  | d :: ds, s, h => by
    simp only [List.all_cons, Bool.and_eq_true] at h
    simp only [landk, land_pur h.1, landk_pur h.2]
theorem la_dic {xs : List (Ky × D)} (h : (xs.all fun p => D.pur p.2) = true) : land (.dic xs) s = (.ref s.length, s ++ [.dic xs]) := by simp only [land, landk_pur h]
theorem la_tup {xs : List D} (h : D.purs xs = true) : land (.tup xs) s = (.tup xs, s) := land_pur h
theorem og_if {α : Type} {c : Prop} [Decidable c] {a : α} {f : α → Prop} : og (if c then some a else none) f = (c ∧ f a) := by
  by_cases h : c
  · simp [h, og]
  · simp [h, og]
theorem ogm {α β : Type} {o : Option α} {g : α → β} {f : β → Prop} : og (o.map g) f = og o (fun a => f (g a)) := by cases o <;> (first | rfl | (simp only [wp_def] <;> rfl))
theorem ogb {α β : Type} {o : Option α} {g : α → Option β} {f : β → Prop} : og (o.bind g) f = og o (fun a => og (g a) f) := by cases o <;> (first | rfl | (simp only [wp_def] <;> rfl))
theorem ofT {xs : List D} : ofTup (.tup xs) s = some xs := rfl
theorem ofL {xs : List D} : ofTup (.lst xs) s = some xs := rfl
theorem ofR {l : Nat} : ofTup (.ref l) s = lpC s[l]? := by
  simp only [ofTup, lpC] <;> (cases s[l]? with
    | none => first | rfl | (simp only [wp_def] <;> rfl)
    | some c => cases c <;> (first | rfl | (simp only [wp_def] <;> rfl)))
theorem c_lt {i j : Int} : cmpD .lt (.int i) (.int j) s = some (decide (i < j)) := rfl
theorem c_le {i j : Int} : cmpD .le (.int i) (.int j) s = some (decide (i ≤ j)) := rfl
theorem c_gt {i j : Int} : cmpD .gt (.int i) (.int j) s = some (decide (j < i)) := rfl
theorem c_ge {i j : Int} : cmpD .ge (.int i) (.int j) s = some (decide (j ≤ i)) := rfl
theorem ci_lt {i j : Int} : cmpI .lt i j = some (decide (i < j)) := rfl
theorem ci_le {i j : Int} : cmpI .le i j = some (decide (i ≤ j)) := rfl
theorem c_eq {a b : D} : cmpD .eq a b s = eqD s a b := rfl
theorem c_ne {a b : D} : cmpD .ne a b s = (eqD s a b).map (!·) := rfl
theorem c_isN {a b : D} : cmpD .isN a b s = isD a b := rfl
theorem c_ntN {a b : D} : cmpD .ntN a b s = (isD a b).map (!·) := rfl
theorem c_in {a b : D} : cmpD .inn a b s = inD s a b := rfl
theorem c_nin {a b : D} : cmpD .nin a b s = (inD s a b).map (!·) := rfl
/-! stores -/
theorem sg0 {st r : Sto} {c : D} : (st ++ c :: r)[st.length]? = some c := by simp
theorem sg1 {st r : Sto} {c d : D} : (st ++ c :: d :: r)[st.length + 1]? = some d := by simp
theorem sg2 {st r : Sto} {c d e : D} : (st ++ c :: d :: e :: r)[st.length + 2]? = some e := by simp
theorem sg3 {st r : Sto} {c d e f : D} : (st ++ c :: d :: e :: f :: r)[st.length + 3]? = some f := by simp
theorem sgl {st r : Sto} {l : Nat} {c : D} (h : st[l]? = some c) : (st ++ r)[l]? = some c := by
  rw [List.getElem?_append_left (List.getElem?_eq_some_iff.1 h).1]; exact h
theorem ss0 {st r : Sto} {c x : D} : (st ++ c :: r).set st.length x = st ++ x :: r := by simp
theorem ss1 {st r : Sto} {c d x : D} : (st ++ c :: d :: r).set (st.length + 1) x = st ++ c :: x :: r := by simp
theorem ss2 {st r : Sto} {c d e x : D} : (st ++ c :: d :: e :: r).set (st.length + 2) x = st ++ c :: d :: x :: r := by simp
theorem ss3 {st r : Sto} {c d e f x : D} : (st ++ c :: d :: e :: f :: r).set (st.length + 3) x = st ++ c :: d :: e :: x :: r := by simp
theorem ssl {st r : Sto} {l : Nat} {c x : D} (h : st[l]? = some c) : (st ++ r).set l x = st.set l x ++ r := by
  rw [List.set_append_left]; exact (List.getElem?_eq_some_iff.1 h).1
theorem okP_app : ∀ {st r : Sto} {b : Nat}, okPre st (st ++ r) b = true
  | [], r, b => by cases r <;> (first | rfl | (simp only [wp_def] <;> rfl))
  | c :: st, r, b => by simp [okPre, okP_app]
theorem okP_self {st : Sto} {b : Nat} : okPre st st b = true := by
  have := okP_app (st := st) (r := []) (b := b)
  rwa [List.append_nil] at this
theorem okP_set : ∀ {st r : Sto} {b l : Nat} {c : D}, cellCl b c = true → okPre st (st.set l c ++ r) b = true
  | [], r, b, l, c, h => by cases r <;> (first | rfl | (simp only [wp_def] <;> rfl))
  | d :: st, r, b, 0, c, h => by simp [okPre, okP_app, h]
  | d :: st, r, b, l + 1, c, h => by simp [okPre, okP_set h]
theorem okP_set0 {st : Sto} {b l : Nat} {c : D} (h : cellCl b c = true) : okPre st (st.set l c) b = true := by
  have := okP_set (st := st) (r := []) (l := l) h
  rwa [List.append_nil] at this
theorem take0 {st r : Sto} : (st ++ r).take st.length = st := by simp
/-! reading back -/
def D.flat : D → Bool
  | .non | .bl _ | .int _ | .str _ => true
  | _ => false
mutual
/-- nothing but data -/
def D.clean : D → Bool
  | .non | .bl _ | .int _ | .str _ => true
  | .tup xs => D.cleans xs
  | _ => false
def D.cleans : List D → Bool
  | [] => true
  | x :: xs => D.clean x && D.cleans xs
end
mutual
theorem rb_clean {g : Nat → List Nat → Option (D × List Nat)} {b : Nat} : ∀ {d : D} {vis : List Nat}, d.clean = true → rbD g b d vis = some (d, vis)
  | .non, vis, _ => by simp only [rbD]
  | .bl _, vis, _ => by simp only [rbD]
  | .int _, vis, _ => by simp only [rbD]
  | .str _, vis, _ => by simp only [rbD]
  | .tup xs, vis, h => by simp only [D.clean] at h; simp only [rbD, rbs_clean h]; rfl
  | .ref _, vis, h => by simp [D.clean] at h
  | .lst _, vis, h => by simp [D.clean] at h
  | .frl _, vis, h => by simp [D.clean] at h
  | .dic _, vis, h => by simp [D.clean] at h
  | .set _, vis, h => by simp [D.clean] at h
  | .exc _ _, vis, h => by simp [D.clean] at h
  | .lam _ _, vis, h => by simp [D.clean] at h
theorem rbs_clean {g : Nat → List Nat → Option (D × List Nat)} {b : Nat} : ∀ {ds : List D} {vis : List Nat}, D.cleans ds = true → rbDs g b ds vis = some (ds, vis)
  | [], vis, _ => by simp only [rbDs]
  | d :: ds, vis, h => by
    simp only [D.cleans, Bool.and_eq_true] at h
    simp only [rbDs, rb_clean h.1, Option.bind_some, rbs_clean h.2, Option.map_some]
end
mutual
theorem clean_pur : ∀ {d : D}, d.clean = true → d.pur = true
  | .non, _ => rfl
  | .bl _, _ => rfl
  | .int _, _ => rfl
  | .str _, _ => rfl
  | .tup xs, h => by simp only [D.clean] at h; simp only [D.pur]; exact cleans_purs h
  | .ref _, h => by simp [D.clean] at h
  | .lst _, h => by simp [D.clean] at h
  | .frl _, h => by simp [D.clean] at h
  | .dic _, h => by simp [D.clean] at h
  | .set _, h => by simp [D.clean] at h
  | .exc _ _, h => by simp [D.clean] at h
  | .lam _ _, h => by simp [D.clean] at h
theorem cleans_purs : ∀ {ds : List D}, D.cleans ds = true → D.purs ds = true
  | [], _ => rfl
  | d :: ds, h => by
    simp only [D.cleans, Bool.and_eq_true] at h
    simp only [D.purs, clean_pur h.1, cleans_purs h.2, Bool.and_self]
end
mutual
theorem clean_cls {b : Nat} : ∀ {d : D}, d.clean = true → d.cls b = true
  | .non, _ => rfl
  | .bl _, _ => rfl
  | .int _, _ => rfl
  | .str _, _ => rfl
  | .tup xs, h => by simp only [D.clean] at h; simp only [D.cls]; exact cleans_clss h
  | .ref _, h => by simp [D.clean] at h
  | .lst _, h => by simp [D.clean] at h
  | .frl _, h => by simp [D.clean] at h
  | .dic _, h => by simp [D.clean] at h
  | .set _, h => by simp [D.clean] at h
  | .exc _ _, h => by simp [D.clean] at h
  | .lam _ _, h => by simp [D.clean] at h
theorem cleans_clss {b : Nat} : ∀ {ds : List D}, D.cleans ds = true → D.clss b ds = true
  | [], _ => rfl
  | d :: ds, h => by
    simp only [D.cleans, Bool.and_eq_true] at h
    simp only [D.clss, clean_cls h.1, cleans_clss h.2, Bool.and_self]
end
theorem rk_clean {b : Nat} {d : D} (h : d.clean = true) : rback s b d = some d := by
  simp only [rback, rb_clean h]; rfl
theorem rk_lst {st r : Sto} {l : Nat} {xs : List D} (hb : st.length ≤ l) (hl : (st ++ r)[l]? = some (.lst xs)) (h : D.cleans xs = true) : rback (st ++ r) st.length (.ref l) = some (.lst xs) := by
  simp only [rback, rbD]
  have : decide (l < st.length) = false := by simpa using hb
  rw [this]
  simp only [rbC, hl, List.contains_nil, rbD, rbs_clean h, Option.map_some]
theorem rk_set_lst {st r : Sto} {l m : Nat} {c : D} {xs : List D} (hb : st.length ≤ l) (hl : (st.set m c ++ r)[l]? = some (.lst xs)) (h : D.cleans xs = true) : rback (st.set m c ++ r) st.length (.ref l) = some (.lst xs) := by
  have := rk_lst (st := st.set m c) (by rwa [List.length_set]) hl h
  rwa [List.length_set] at this
theorem cleans_of {ds : List D} (h : ∀ d ∈ ds, d.clean = true) : D.cleans ds = true := by
  induction ds with
  | nil => first | rfl | (simp only [wp_def] <;> rfl)
  | cons d ds ih =>
    simp only [D.cleans, Bool.and_eq_true]
    exact ⟨h d (List.mem_cons_self ..), ih fun x hx => h x (List.mem_cons_of_mem _ hx)⟩
/-- node numbers as a row of values -/
def nv (ns : List Nat) : List D := ns.map fun (n : Nat) => D.int (n : Int)
theorem nv_clean {ns : List Nat} : D.cleans (nv ns) = true := cleans_of (by
  intro d hd
  obtain ⟨n, _, rfl⟩ := List.mem_map.1 hd
  rfl)
theorem nv_purs {ns : List Nat} : D.purs (nv ns) = true := cleans_purs nv_clean
theorem nv_len {ns : List Nat} : (nv ns).length = ns.length := by simp [nv]
theorem nv_get {ns : List Nat} {i : Nat} : (nv ns)[i]? = ns[i]?.map fun (n : Nat) => D.int (n : Int) := by simp [nv]
theorem nv_app {xs ys : List Nat} : nv (xs ++ ys) = nv xs ++ nv ys := by simp [nv]
theorem nv_one {x : Nat} : nv [x] = [.int (x : Int)] := rfl
/-- rows of numbers: a tuple of tuples -/
def tv (g : List (List Nat)) : List D := g.map fun r => D.tup (nv r)
theorem tv_clean {g : List (List Nat)} : D.cleans (tv g) = true := cleans_of (by
  intro d hd
  obtain ⟨n, _, rfl⟩ := List.mem_map.1 hd
  simp only [D.clean]
  exact nv_clean)
theorem tv_purs {g : List (List Nat)} : D.purs (tv g) = true := cleans_purs tv_clean
theorem tv_len {g : List (List Nat)} : (tv g).length = g.length := by simp [tv]
theorem tv_get {g : List (List Nat)} {i : Nat} : (tv g)[i]? = g[i]?.map fun r => D.tup (nv r) := by simp [tv]
theorem gv_clean {g : List (List Nat)} : (D.tup (tv g)).clean = true := by simp only [D.clean]; exact tv_clean
theorem atI_nat {α : Type} {xs : List α} {i : Nat} : L2.atI xs (i : Int) = xs[i]? := by
  simp only [L2.atI, L2.ixN]
  have h0 : (0 : Int) ≤ (i : Int) := by omega
  simp only [h0, if_true]
  by_cases h : i < xs.length
  · have h1 : (i : Int) < (xs.length : Int) := by omega
    simp [h1]
  · have h1 : ¬ (i : Int) < (xs.length : Int) := by omega
    simp only [h1, if_false, Option.bind_none]
    rw [List.getElem?_eq_none (by omega)]
theorem ixN_nat {n i : Nat} (h : i < n) : L2.ixN n (i : Int) = some i := by
  simp only [L2.ixN]
  have h0 : (0 : Int) ≤ (i : Int) := by omega
  have h1 : (i : Int) < (n : Int) := by omega
  simp [h0, h1]
theorem rngN_nv {n : Nat} : rngN 0 1 n = nv (List.range n) := by
  simp [rngN, nv]
theorem optL_ints {ns : List Int} : optL intv (ns.map D.int) = some ns := by
  induction ns with
  | nil => first | rfl | (simp only [wp_def] <;> rfl)
  | cons n ns ih => simp only [List.map_cons, optL, intv, ih]
theorem nv_ints {ns : List Nat} : nv ns = (ns.map fun (n : Nat) => (n : Int)).map D.int := by simp [nv]
theorem optL_nv {ns : List Nat} : optL intv (nv ns) = some (ns.map fun (n : Nat) => (n : Int)) := by rw [nv_ints, optL_ints]
theorem isTy_tup {xs : List D} : isTy s "tuple" (.tup xs) = some true := by simp [isTy]
theorem isTy_int {i : Int} : isTy s "int" (.int i) = some true := by simp [isTy]
theorem isTy_intb {i : Int} : isTy s "bool" (.int i) = some false := by simp [isTy]
end
theorem tbl_fn {P : Pr} {n f : Nat} {ds : List D} : (P.tbl n).fn f ds = call P n f ds := rfl
end Fs

open Lean.Parser.Tactic in
local macro_rules
  | `(tactic| simp! only [$ts,*]) => `(tactic| simp only [↓Fs.wb_t, ↓Fs.wb_f, ↓Fs.og_s, ↓Fs.wr_ok, ↓Fs.wr_exc, ↓Fs.wp_ret, ↓Fs.wp_bnd, ↓Fs.wp_opt, ↓Fs.wp_gd, ↓Fs.wp_noX, ↓Fs.wp_lft, ↓Fs.fq_nx, ↓Fs.fq_rt, ↓Fs.fq_br, ↓Fs.fq_ct, ↓Fs.fq_ex, ↓Fs.lk_s, ↓Fs.e_loc, ↓Fs.e_con, ↓Fs.e_bin, ↓Fs.e_neg, ↓Fs.e_nt, ↓Fs.e_cmp, ↓Fs.e_chn, ↓Fs.e_and2, ↓Fs.e_or2, ↓Fs.e_ife, ↓Fs.es_nil, ↓Fs.es_cons, ↓Fs.e_tup, ↓Fs.e_lst, ↓Fs.e_dct0, ↓Fs.e_sub, ↓Fs.e_slc, ↓Fs.eo_n, ↓Fs.eo_s, ↓Fs.e_rev, ↓Fs.e_call, ↓Fs.e_bi, ↓Fs.e_me, ↓Fs.e_lc, ↓Fs.e_dc, ↓Fs.w_lcT, ↓Fs.w_dcT, ↓Fs.t_nt, ↓Fs.t_and2, ↓Fs.t_or2, ↓Fs.t_ife, ↓Fs.t_val, ↓Fs.ts_nil, ↓Fs.ts_cons, ↓Fs.i_val, ↓Fs.i_rng, ↓Fs.i_enum, ↓Fs.wp_land, ↓Fs.g_nm, ↓Fs.g_tup, ↓Fs.g_sub, ↓Fs.gs_nil, ↓Fs.gs_cons, ↓Fs.s_asg, ↓Fs.s_xpr, ↓Fs.s_ret, ↓Fs.s_ret0, ↓Fs.s_iff, ↓Fs.s_brk, ↓Fs.s_cnt, ↓Fs.s_pas, ↓Fs.s_for, ↓Fs.s_whl, ↓Fs.l_nil, ↓Fs.l_cons, ↓Fs.tq_nx, ↓Fs.tq_ct, ↓Fs.tq_br, ↓Fs.tq_rt, ↓Fs.tq_ex, ↓Fs.lv_rt, ↓Fs.lv_nx, ↓Fs.lv_ex, ↓Fs.b_add, ↓Fs.b_sub, ↓Fs.b_mul, ↓Fs.b_mod, ↓Fs.b_fdiv, ↓Fs.b_pow, ↓Fs.b_addT, ↓Fs.b_addL, ↓Fs.b_mulL, ↓Fs.b_mulT, Fs.lpC_lst, Fs.lstv_ref, Fs.lstv_lst, Fs.atC_lst, Fs.atC_frl, Fs.atC_dic, ↓Fs.gi_tup, ↓Fs.gi_lst, ↓Fs.gi_ref, ↓Fs.stC_lst, ↓Fs.stC_dic, ↓Fs.si_ref, Fs.m_append, Fs.m_pop, ↓Fs.m_popi, ↓Fs.lcC_lst, ↓Fs.dcC_dic, ↓Fs.k_app, ↓Fs.kw_pop, ↓Fs.kw_popi, ↓Fs.k_dpop, Fs.kC_lst, Fs.kC_dic, Fs.knd_ref, ↓Fs.bi_len1, Fs.leC_lst, Fs.leC_frl, Fs.leC_dic, ↓Fs.f_len_tup, ↓Fs.f_len_lst, ↓Fs.f_len_dic, ↓Fs.f_len_ref, ↓Fs.bi_sum1, ↓Fs.bi_all1, ↓Fs.bi_any1, ↓Fs.bi_tup1, ↓Fs.bi_lst1, ↓Fs.bi_min2', ↓Fs.bi_max2', ↓Fs.bi_isT1, ↓Fs.bi_lrng1, ↓Fs.bi_srt1, ↓Fs.bi_ssort1, ↓Fs.bi_dict1, ↓Fs.bi_repr1, ↓Fs.so_tup, ↓Fs.so_lst, ↓Fs.so_ref, Fs.soC_lst, Fs.soC_frl, Fs.la_int, Fs.la_bl, Fs.la_non, Fs.la_str, Fs.la_ref, Fs.la_lst0, Fs.la_dic0, Fs.ofT, Fs.ofL, Fs.ofR, Fs.c_lt, Fs.c_le, Fs.c_gt, Fs.c_ge, Fs.ci_lt, Fs.ci_le, Fs.c_eq, Fs.c_ne, Fs.c_isN, Fs.c_ntN, Fs.c_in, Fs.c_nin, Fs.intv, Fs.blv, Fs.isTy_tup, Fs.isTy_int, Fs.isTy_intb, Fs.sg0, Fs.sg1, Fs.sg2, Fs.sg3, Fs.ss0, Fs.ss1, Fs.ss2, Fs.ss3, List.append_assoc, List.cons_append, List.nil_append, List.length_append, List.length_cons, List.length_nil, Nat.zero_add, Fs.wipe, List.foldr, List.set_cons_zero, List.set_cons_succ, List.getElem?_cons_zero, List.getElem?_cons_succ, List.map_cons, List.map_nil, List.replicate, Fs.lands, Fs.meK, Bool.not_true, Bool.not_false, true_and, and_true, beq_self_eq_true, Fs.tbl_fn, $ts,*])
namespace Fs
open PySem
section
variable {T : Tbl} {σ : Env} {s : Sto} {E : D → Sto → Prop} {Q : D → Sto → Prop} {QF : Fl → Sto → Prop} {γ : Type}
theorem split_at {L : List γ} {i : Nat} {c : γ} (h : L[i]? = some c) : L = L.take i ++ c :: L.drop (i + 1) := by
  obtain ⟨hi, rfl⟩ := List.getElem?_eq_some_iff.1 h
  rw [← List.drop_eq_getElem_cons hi, List.take_append_drop]
theorem take_snoc {L : List γ} {i : Nat} {c : γ} (h : L[i]? = some c) : L.take (i + 1) = L.take i ++ [c] := by
  rw [List.take_add_one, h]; rfl
theorem w_forP {g : D → Env → M Env} {b : Env → M Fl} (L : List γ) (h : γ → D) (I : List γ → Env → Sto → Prop) (h0 : I [] σ s)
    (hb : ∀ pre c post σ s, L = pre ++ c :: post → I pre σ s → wp (g (h c) σ) s (fun σ1 s1 => wp (b σ1) s1 (tq (I (pre ++ [c])) QF) NX) NX)
    (hq : ∀ σ s, I L σ s → QF (.nx σ) s) : wp (forLoop (.one (.items (L.map h))) g b ((It.one (.items (L.map h))).len s + 1) 0 σ) s QF E := by
  refine w_for (L.map h) (fun i σ s => I (L.take i) σ s) (by simpa using h0) ?_ ?_
  · intro i d σ s hI e
    rw [List.getElem?_map] at e
    cases e2 : L[i]? with
    | none => rw [e2] at e; cases e
    | some c =>
      rw [e2] at e
      cases e
      have := hb (L.take i) c _ σ s (split_at e2) hI
      rw [← take_snoc e2] at this
      exact this
  · intro σ s hI
    rw [List.length_map, List.take_length] at hI
    exact hq σ s hI
theorem w_forPE {g : D → Env → M Env} {b : Env → M Fl} (L : List γ) (h : γ → D) (I : List γ → Env → Sto → Prop) (h0 : I [] σ s)
    (hb : ∀ pre c post σ s, L = pre ++ c :: post → I pre σ s → wp (g (.tup [.int (pre.length : Nat), h c]) σ) s (fun σ1 s1 => wp (b σ1) s1 (tq (I (pre ++ [c])) QF) NX) NX)
    (hq : ∀ σ s, I L σ s → QF (.nx σ) s) : wp (forLoop (.enum 0 (.items (L.map h))) g b ((It.enum 0 (.items (L.map h))).len s + 1) 0 σ) s QF E := by
  refine w_forE (L.map h) (fun i σ s => I (L.take i) σ s) (by simpa using h0) ?_ ?_
  · intro i d σ s hI e
    rw [List.getElem?_map] at e
    cases e2 : L[i]? with
    | none => rw [e2] at e; cases e
    | some c =>
      rw [e2] at e
      cases e
      have := hb (L.take i) c _ σ s (split_at e2) hI
      rw [← take_snoc e2, List.length_take] at this
      have hi : i < L.length := (List.getElem?_eq_some_iff.1 e2).1
      rw [Nat.min_eq_left (Nat.le_of_lt hi)] at this
      rw [Int.zero_add]
      exact this
  · intro σ s hI
    rw [List.length_map, List.take_length] at hI
    exact hq σ s hI
/-- a comprehension that maps things -/
theorem w_lcm {turn : D → M (Option D)} {Q : List D → Sto → Prop} (L : List γ) (h : γ → D) (k : γ → D) (hx : L.length ≤ sizeLine)
    (hb : ∀ c ∈ L, wp (turn (h c)) s (fun o s1 => o = some (k c) ∧ s1 = s) NX)
    (hq : Q (L.map k) s) : wp (lcLoop (.one (.items (L.map h))) turn ((It.one (.items (L.map h))).len s + 1) 0 []) s Q E := by
  refine w_lcM (L.map h) (fun i a s' => s' = s ∧ a = (L.take i).map k) ⟨rfl, by simp⟩ ?_ (by simpa using hx) ?_ ?_
  · rintro i a s' ⟨rfl, rfl⟩
    rw [List.length_map]
    exact List.length_take_le ..
  · rintro i d a s' ⟨rfl, rfl⟩ e
    rw [List.getElem?_map] at e
    cases e2 : L[i]? with
    | none => rw [e2] at e; cases e
    | some c =>
      rw [e2] at e
      cases e
      refine wp_nx (hb c (List.mem_of_getElem? e2)) ?_
      rintro o s1 ⟨rfl, rfl⟩
      refine ⟨rfl, ?_⟩
      rw [take_snoc e2, List.map_append]; rfl
  · rintro a s' ⟨rfl, rfl⟩
    rw [List.length_map, List.take_length]
    exact hq
/-- the turns may change the store -/
theorem w_lcP {turn : D → M (Option D)} {Q : List D → Sto → Prop} (L : List γ) (h : γ → D) (I : List γ → List D → Sto → Prop) (h0 : I [] [] s) (hx : L.length ≤ sizeLine)
    (hb : ∀ pre c post a s, L = pre ++ c :: post → a.length = pre.length → I pre a s → wp (turn (h c)) s (fun o s1 => ∃ y, o = some y ∧ I (pre ++ [c]) (a ++ [y]) s1) NX)
    (hq : ∀ a s, a.length = L.length → I L a s → Q a s) : wp (lcLoop (.one (.items (L.map h))) turn ((It.one (.items (L.map h))).len s + 1) 0 []) s Q E := by
  refine w_lcM (L.map h) (fun i a s' => (i ≤ L.length ∧ a.length = i) ∧ I (L.take i) a s') ⟨⟨Nat.zero_le _, rfl⟩, by simpa using h0⟩ ?_ (by simpa using hx) ?_ ?_
  · rintro i a s' ⟨⟨_, h⟩, _⟩
    exact Nat.le_of_eq h
  · rintro i d a s' ⟨⟨hi, hl⟩, hI⟩ e
    rw [List.getElem?_map] at e
    cases e2 : L[i]? with
    | none => rw [e2] at e; cases e
    | some c =>
      rw [e2] at e
      cases e
      have hi2 : i < L.length := (List.getElem?_eq_some_iff.1 e2).1
      refine wp_nx (hb (L.take i) c _ a s' (split_at e2) (by rw [hl, List.length_take]; omega) hI) ?_
      rintro o s1 ⟨y, rfl, h1⟩
      refine ⟨⟨hi2, by simp [hl]⟩, ?_⟩
      rw [take_snoc e2]
      exact h1
  · rintro a s' ⟨⟨_, hl⟩, hI⟩
    rw [List.length_map] at hl hI
    rw [List.take_length] at hI
    exact hq a s' hl hI
/-- a comprehension that maps and leaves out -/
theorem w_lcf {turn : D → M (Option D)} {Q : List D → Sto → Prop} (L : List γ) (h : γ → D) (p : γ → Bool) (k : γ → D) (hx : L.length ≤ sizeLine)
    (hb : ∀ c ∈ L, wp (turn (h c)) s (fun o s1 => o = (if p c then some (k c) else none) ∧ s1 = s) NX)
    (hq : Q ((L.filter p).map k) s) : wp (lcLoop (.one (.items (L.map h))) turn ((It.one (.items (L.map h))).len s + 1) 0 []) s Q E := by
  refine w_lcM (L.map h) (fun i a s' => s' = s ∧ a = ((L.take i).filter p).map k) ⟨rfl, by simp⟩ ?_ (by simpa using hx) ?_ ?_
  · rintro i a s' ⟨rfl, rfl⟩
    rw [List.length_map]
    exact Nat.le_trans (List.length_filter_le ..) (List.length_take_le ..)
  · rintro i d a s' ⟨rfl, rfl⟩ e
    rw [List.getElem?_map] at e
    cases e2 : L[i]? with
    | none => rw [e2] at e; cases e
    | some c =>
      rw [e2] at e
      cases e
      refine wp_nx (hb c (List.mem_of_getElem? e2)) ?_
      rintro o s1 ⟨rfl, rfl⟩
      cases hp : p c with
      | true =>
        show _ ∧ _
        refine ⟨rfl, ?_⟩
        rw [take_snoc e2, List.filter_append, List.map_append]
        simp [hp]
      | false =>
        show _ ∧ _
        refine ⟨rfl, ?_⟩
        rw [take_snoc e2, List.filter_append, List.map_append]
        simp [hp]
  · rintro a s' ⟨rfl, rfl⟩
    rw [List.length_map, List.take_length]
    exact hq
theorem w_lcmE {turn : D → M (Option D)} {Q : List D → Sto → Prop} (L : List γ) (h : γ → D) (k : Nat × γ → D) (hx : L.length ≤ sizeLine)
    (hb : ∀ i c, L[i]? = some c → wp (turn (.tup [.int (i : Nat), h c])) s (fun o s1 => o = some (k (i, c)) ∧ s1 = s) NX)
    (hq : ∀ Y : List D, Y.length = L.length → (∀ i, Y[i]? = L[i]?.map fun c => k (i, c)) → Q Y s) : wp (lcLoop (.enum 0 (.items (L.map h))) turn ((It.enum 0 (.items (L.map h))).len s + 1) 0 []) s Q E := by
  refine w_lcAux (numb 0 (L.map h)) (fun i a s' => i ≤ L.length ∧ s' = s ∧ a.length = i ∧ ∀ j, j < i → a[j]? = L[j]?.map fun c => k (j, c)) (fun i a s h => enum_next (by simpa using h.1)) ?_ ?_ _ 0 [] s ⟨Nat.zero_le _, rfl, rfl, fun j h => absurd h (Nat.not_lt_zero _)⟩ (Nat.zero_le _) (by rw [numb_len]; show (L.map h).length + 1 ≤ (L.map h).length + 1 + 0; omega)
  · rintro i d a s' ⟨hi, rfl, hl, ha⟩ e
    rw [numb_get, List.getElem?_map] at e
    cases e2 : L[i]? with
    | none => rw [e2] at e; cases e
    | some c =>
      rw [e2] at e
      cases e
      have hi2 : i < L.length := (List.getElem?_eq_some_iff.1 e2).1
      rw [Int.zero_add]
      refine wp_nx (hb i c e2) ?_
      rintro o s1 ⟨rfl, rfl⟩
      refine ⟨by omega, hi2, rfl, by simp [hl], ?_⟩
      intro j hj
      by_cases hji : j = i
      · subst hji
        rw [List.getElem?_append_right (by omega), e2]
        simp [hl]
      · rw [List.getElem?_append_left (by omega)]
        exact ha j (by omega)
  · rintro a s' ⟨hi, rfl, hl, ha⟩
    rw [numb_len, List.length_map] at hl ha
    refine hq a hl fun i => ?_
    by_cases hi : i < L.length
    · exact ha i hi
    · rw [List.getElem?_eq_none (by omega), List.getElem?_eq_none (by omega)]; rfl
end
/-! ### dicts with numbers as keys -/
section
variable {s : Sto}
abbrev ik (d : Nat) : Ky := .k (.inl (d : Int))
def kd (f : Nat → D) (L : List Nat) : List (Ky × D) := L.map fun d => (ik d, f d)
theorem ik_inj {a b : Nat} (h : ik a = ik b) : a = b := by
  have : (a : Int) = (b : Int) := by injection h with h; injection h
  omega
theorem kd_len {f : Nat → D} {L : List Nat} : (kd f L).length = L.length := by simp [kd]
theorem kd_ok {f : Nat → D} {L : List Nat} {d : Nat} : okKeys (ik d) (kd f L) = true := by
  simp [okKeys, kd, kyK]
theorem kd_okI {f : Nat → D} {L : List Nat} {d : Int} : okKeys (.k (.inl d)) (kd f L) = true := by
  simp [okKeys, kd, kyK]
theorem kd_get {f : Nat → D} {d : Nat} : ∀ {L : List Nat}, dget (ik d) (kd f L) = if d ∈ L then some (f d) else none
  | [] => rfl
  | a :: L => by
    simp only [kd, List.map_cons, dget]
    by_cases h : a = d
    · subst h; simp
    · have h2 : ¬ ik a = ik d := fun e => h (ik_inj e)
      rw [if_neg h2]
      have ih := kd_get (f := f) (d := d) (L := L)
      simp only [kd] at ih
      rw [ih]
      have h3 : d ≠ a := fun e => h e.symm
      simp [h3]
theorem kd_put {f : Nat → D} {d : Nat} : ∀ {L : List Nat}, d ∉ L → dput (ik d) (f d) (kd f L) = kd f (L ++ [d])
  | [], _ => rfl
  | a :: L, h => by
    simp only [kd, List.map_cons, dput, List.cons_append]
    have h2 : ¬ ik a = ik d := fun e => h (by rw [ik_inj e]; exact List.mem_cons_self ..)
    rw [if_neg h2]
    have ih := kd_put (f := f) (d := d) (L := L) fun q => h (List.mem_cons_of_mem _ q)
    simp only [kd] at ih
    rw [ih]
theorem kd_del {f : Nat → D} {d : Nat} : ∀ {L : List Nat}, ddel (ik d) (kd f L) = kd f (L.erase d)
  | [] => rfl
  | a :: L => by
    simp only [kd, List.map_cons, ddel]
    by_cases h : a = d
    · subst h; simp
    · have h2 : ¬ ik a = ik d := fun e => h (ik_inj e)
      rw [if_neg h2, List.erase_cons_tail (by simpa using h)]
      have ih := kd_del (f := f) (d := d) (L := L)
      simp only [kd] at ih
      rw [ih]; rfl
theorem kd_pur {f : Nat → D} {L : List Nat} (h : ∀ d, (f d).pur = true) : ((kd f L).all fun p => D.pur p.2) = true := by
  simp [kd, h]
theorem kd_isIn {f : Nat → D} {L : List Nat} {d l : Nat} (h : s[l]? = some (.dic (kd f L))) : inD s (.int (d : Int)) (.ref l) = some (decide (d ∈ L)) := by
  simp only [inD, dicv, h, keyOf]
  rw [if_pos kd_ok, kd_get]
  by_cases hd : d ∈ L
  · simp [hd]
  · simp [hd]
theorem kd_key {d : Int} : keyOf (.int d) = some (.k (.inl d)) := rfl
end
section
variable {T : Tbl} {σ : Env} {s : Sto} {E : D → Sto → Prop} {Q : List (Ky × D) → Sto → Prop}
theorem w_dcAux {s : Sto} {E : D → Sto → Prop} {Q : List (Ky × D) → Sto → Prop} {it : It} {turn : D → M (Option (Ky × D))} {f : Nat → D} (L : List Nat) (h : Nat → D) (hn : L.Nodup) (hf : ∀ d, (f d).pur = true) (hx : L.length ≤ sizeLine)
    (hit : ∀ i, it.next i s = some (L.map h)[i]?)
    (hb : ∀ c ∈ L, wp (turn (h c)) s (fun o s1 => o = some (ik c, f c) ∧ s1 = s) NX)
    (hq : Q (kd f L) s) : ∀ (n i : Nat), i ≤ L.length → L.length + 1 ≤ n + i → wp (dcLoop it turn n i (kd f (L.take i))) s Q E
  | 0, i, h1, h2 => absurd h2 (by omega)
  | n + 1, i, h1, h2 => by
    simp only [wp_def, dcLoop]
    rw [hit i, List.getElem?_map]
    cases e2 : L[i]? with
    | none =>
      have : L.length ≤ i := List.getElem?_eq_none_iff.1 e2
      rw [List.take_of_length_le this]
      exact hq
    | some c =>
      have hw := hb c (List.mem_of_getElem? e2)
      have hi : i < L.length := (List.getElem?_eq_some_iff.1 e2).1
      simp only [wp_def, Option.map_some] at hw ⊢
      cases eg : turn (h c) s with
      | ok o s1 =>
        rw [eg] at hw
        obtain ⟨rfl, rfl⟩ := hw
        have hc : (kd f (L.take i)).length < sizeLine ∧ okKeys (ik c) (kd f (L.take i)) = true ∧ D.pur (f c) = true := ⟨by rw [kd_len]; exact Nat.lt_of_le_of_lt (List.length_take_le ..) (by omega), kd_ok, hf c⟩
        simp only [if_pos hc]
        have hnot : c ∉ L.take i := by
          have h3 := split_at e2
          rw [h3] at hn
          have := (List.nodup_append.1 hn).2.2
          intro hm
          exact this c hm c (List.mem_cons_self ..) rfl
        rw [kd_put hnot, ← take_snoc e2]
        exact (w_dcAux L h hn hf hx hit hb hq n (i + 1) hi (by omega)).run
      | exc e s2 => rw [eg] at hw; exact hw.elim
      | bad => rw [eg] at hw; exact hw.elim
theorem w_dcm {turn : D → M (Option (Ky × D))} {f : Nat → D} (L : List Nat) (h : Nat → D) (hn : L.Nodup) (hf : ∀ d, (f d).pur = true) (hx : L.length ≤ sizeLine)
    (hb : ∀ c ∈ L, wp (turn (h c)) s (fun o s1 => o = some (ik c, f c) ∧ s1 = s) NX)
    (hq : Q (kd f L) s) : wp (dcLoop (.one (.items (L.map h))) turn ((It.one (.items (L.map h))).len s + 1) 0 []) s Q E :=
  w_dcAux L h hn hf hx (fun i => rfl) hb hq _ 0 (Nat.zero_le _) (by show L.length + 1 ≤ (L.map h).length + 1 + 0; rw [List.length_map]; omega)
end
end Fs
namespace Fs
open PySem
def sqC (c : Option D) : Option (List D) := match c with
  | some (.lst xs) => some xs
  | some (.frl xs) => some xs
  | _ => none
theorem sqC_lst {xs : List D} : sqC (some (.lst xs)) = some xs := rfl
theorem sqC_frl {xs : List D} : sqC (some (.frl xs)) = some xs := rfl
theorem seqv_lst {s : Sto} {xs : List D} : seqv s (.lst xs) = some xs := rfl
theorem seqv_tup {s : Sto} {xs : List D} : seqv s (.tup xs) = some xs := rfl
theorem seqv_ref {s : Sto} {l : Nat} : seqv s (.ref l) = sqC s[l]? := by
  simp only [seqv, sqC] <;> (cases s[l]? with
    | none => first | rfl | (simp only [wp_def] <;> rfl)
    | some c => cases c <;> (first | rfl | (simp only [wp_def] <;> rfl)))
section
variable {T : Tbl} {σ : Env} {s : Sto} {E : D → Sto → Prop} {Q : D → Sto → Prop} {QF : Fl → Sto → Prop} {γ : Type}
/-- a comprehension over a list that stands in the store and stays -/
theorem w_lcPC {turn : D → M (Option D)} {Q : List D → Sto → Prop} {l : Nat} (L : List γ) (h : γ → D) (I : List γ → List D → Sto → Prop) (h0 : I [] [] s) (hx : L.length ≤ sizeLine)
    (hc : ∀ p a s, I p a s → s[l]? = some (.lst (L.map h)))
    (hb : ∀ pre c post a s, L = pre ++ c :: post → a.length = pre.length → I pre a s → wp (turn (h c)) s (fun o s1 => ∃ y, o = some y ∧ I (pre ++ [c]) (a ++ [y]) s1) NX)
    (hq : ∀ a s, a.length = L.length → I L a s → Q a s) : wp (lcLoop (.one (.cell l)) turn ((It.one (.cell l)).len s + 1) 0 []) s Q E := by
  refine w_lcAux (L.map h) (fun i a s' => (i ≤ L.length ∧ a.length = i) ∧ I (L.take i) a s') ?_ ?_ ?_ _ 0 [] s ⟨⟨Nat.zero_le _, rfl⟩, by simpa using h0⟩ (Nat.zero_le _) ?_
  · rintro i a s' ⟨_, hI⟩
    simp only [It.next, Src.at, hc _ _ _ hI]
  · rintro i d a s' ⟨⟨hi, hl⟩, hI⟩ e
    rw [List.getElem?_map] at e
    cases e2 : L[i]? with
    | none => rw [e2] at e; cases e
    | some c =>
      rw [e2] at e
      cases e
      have hi2 : i < L.length := (List.getElem?_eq_some_iff.1 e2).1
      refine wp_nx (hb (L.take i) c _ a s' (split_at e2) (by rw [hl, List.length_take]; omega) hI) ?_
      rintro o s1 ⟨y, rfl, h1⟩
      refine ⟨by omega, ⟨hi2, by simp [hl]⟩, ?_⟩
      rw [take_snoc e2]
      exact h1
  · rintro a s' ⟨⟨_, hl⟩, hI⟩
    rw [List.length_map] at hl hI
    rw [List.take_length] at hI
    exact hq a s' hl hI
  · simp only [It.len, Src.len, hc _ _ _ h0]; omega
theorem w_lcmC {turn : D → M (Option D)} {Q : List D → Sto → Prop} {l : Nat} (L : List γ) (h : γ → D) (k : γ → D) (hx : L.length ≤ sizeLine) (hc : s[l]? = some (.lst (L.map h)))
    (hb : ∀ c ∈ L, wp (turn (h c)) s (fun o s1 => o = some (k c) ∧ s1 = s) NX)
    (hq : Q (L.map k) s) : wp (lcLoop (.one (.cell l)) turn ((It.one (.cell l)).len s + 1) 0 []) s Q E := by
  refine w_lcPC (l := l) L h (fun pre a s' => s' = s ∧ a = pre.map k) ⟨rfl, rfl⟩ hx (by rintro p a s' ⟨rfl, _⟩; exact hc) ?_ ?_
  · rintro pre c post a s' hL _ ⟨rfl, rfl⟩
    refine wp_nx (hb c (by rw [hL]; simp)) ?_
    rintro o s1 ⟨rfl, rfl⟩
    exact ⟨_, rfl, rfl, by simp⟩
  · rintro a s' _ ⟨rfl, rfl⟩
    exact hq
theorem w_lcmEC {turn : D → M (Option D)} {Q : List D → Sto → Prop} {l : Nat} (L : List γ) (h : γ → D) (k : Nat × γ → D) (hx : L.length ≤ sizeLine) (hc : s[l]? = some (.lst (L.map h)))
    (hb : ∀ i c, L[i]? = some c → wp (turn (.tup [.int (i : Nat), h c])) s (fun o s1 => o = some (k (i, c)) ∧ s1 = s) NX)
    (hq : ∀ Y : List D, Y.length = L.length → (∀ i, Y[i]? = L[i]?.map fun c => k (i, c)) → Q Y s) : wp (lcLoop (.enum 0 (.cell l)) turn ((It.enum 0 (.cell l)).len s + 1) 0 []) s Q E := by
  refine w_lcAux (numb 0 (L.map h)) (fun i a s' => i ≤ L.length ∧ s' = s ∧ a.length = i ∧ ∀ j, j < i → a[j]? = L[j]?.map fun c => k (j, c)) ?_ ?_ ?_ _ 0 [] s ⟨Nat.zero_le _, rfl, rfl, fun j h => absurd h (Nat.not_lt_zero _)⟩ (Nat.zero_le _) ?_
  · rintro i a s' ⟨hi, rfl, _⟩
    have h1 := enum_next (k := 0) (xs := L.map h) (i := i) (s := s') (by simpa using hi)
    rw [← h1]
    simp only [It.next, Src.at, Src.len, hc]
    cases (L.map h)[i]? <;> (first | rfl | (simp only [wp_def] <;> rfl))
  · rintro i d a s' ⟨hi, rfl, hl, ha⟩ e
    rw [numb_get, List.getElem?_map] at e
    cases e2 : L[i]? with
    | none => rw [e2] at e; cases e
    | some c =>
      rw [e2] at e
      cases e
      have hi2 : i < L.length := (List.getElem?_eq_some_iff.1 e2).1
      rw [Int.zero_add]
      refine wp_nx (hb i c e2) ?_
      rintro o s1 ⟨rfl, rfl⟩
      refine ⟨by omega, hi2, rfl, by simp [hl], ?_⟩
      intro j hj
      by_cases hji : j = i
      · subst hji
        rw [List.getElem?_append_right (by omega), e2]
        simp [hl]
      · rw [List.getElem?_append_left (by omega)]
        exact ha j (by omega)
  · rintro a s' ⟨hi, rfl, hl, ha⟩
    rw [numb_len, List.length_map] at hl ha
    refine hq a hl fun i => ?_
    by_cases hi : i < L.length
    · exact ha i hi
    · rw [List.getElem?_eq_none (by omega), List.getElem?_eq_none (by omega)]; rfl
  · rw [numb_len, List.length_map]
    simp only [It.len, Src.len, hc, List.length_map]; omega
end
end Fs
/-! Finite sums, and pair sums of a skew form. -/
namespace Pf
def sm : Nat → (Nat → Rat) → Rat
  | 0, _ => 0
  | n + 1, f => sm n f + f n
theorem sm_congr : ∀ {n : Nat} {f g : Nat → Rat}, (∀ i, i < n → f i = g i) → sm n f = sm n g
  | 0, _, _, _ => rfl
  | n + 1, f, g, h => by
    simp only [sm]
    rw [sm_congr fun i hi => h i (by omega), h n (by omega)]
theorem sm_zero : ∀ {n : Nat}, sm n (fun _ => 0) = 0
  | 0 => rfl
  | n + 1 => by simp only [sm, sm_zero]; grind
theorem sm_add : ∀ {n : Nat} {f g : Nat → Rat}, sm n (fun i => f i + g i) = sm n f + sm n g
  | 0, _, _ => by simp only [sm]; grind
  | n + 1, f, g => by
    simp only [sm, sm_add]; grind
theorem sm_mul : ∀ {n : Nat} {f : Nat → Rat} {c : Rat}, sm n (fun i => c * f i) = c * sm n f
  | 0, _, _ => by simp only [sm]; grind
  | n + 1, f, c => by simp only [sm, sm_mul]; grind
theorem sm_neg {n : Nat} {f : Nat → Rat} : sm n (fun i => - f i) = - sm n f := by
  have h := sm_mul (n := n) (f := f) (c := -1)
  have h2 : sm n (fun i => - f i) = sm n (fun i => -1 * f i) := sm_congr fun i _ => by grind
  rw [h2, h]; grind
theorem sm_swap : ∀ {n m : Nat} {f : Nat → Nat → Rat}, sm n (fun i => sm m (fun j => f i j)) = sm m (fun j => sm n (fun i => f i j))
  | 0, m, f => by simp only [sm, sm_zero]
  | n + 1, m, f => by
    simp only [sm]
    rw [sm_swap, ← sm_add]
/-- the first term apart -/
theorem sm_first : ∀ {n : Nat} {f : Nat → Rat}, sm (n + 1) f = f 0 + sm n (fun i => f (i + 1))
  | 0, f => by simp only [sm]; grind
  | n + 1, f => by
    have h := sm_first (n := n) (f := f)
    rw [sm, h]
    simp only [sm]; grind
/-- a sum without one place -/
theorem sm_skip : ∀ {n i : Nat} {g : Nat → Rat}, i ≤ n → sm n (fun j => g (if j < i then j else j + 1)) + g i = sm (n + 1) g
  | 0, i, g, h => by
    have : i = 0 := by omega
    subst this; simp only [sm]
  | n + 1, i, g, h => by
    by_cases hi : i ≤ n
    · have ih := sm_skip (n := n) (i := i) (g := g) hi
      have e : (if n < i then n else n + 1) = n + 1 := by rw [if_neg (by omega)]
      simp only [sm, e] at ih ⊢
      rw [← ih]; grind
    · have hi2 : i = n + 1 := by omega
      subst hi2
      have h1 : sm (n + 1) (fun j => g (if j < n + 1 then j else j + 1)) = sm (n + 1) g := sm_congr fun j hj => by rw [if_pos hj]
      rw [h1]; rfl
/-- signs -/
def sg (n : Nat) : Rat := if n % 2 = 0 then 1 else -1
theorem sg_succ {n : Nat} : sg (n + 1) = - sg n := by
  unfold sg
  by_cases h : n % 2 = 0
  · rw [if_pos h, if_neg (by omega)]
  · rw [if_neg h, if_pos (by omega)]; grind
theorem sg_zero : sg 0 = 1 := rfl
theorem sg_sq {n : Nat} : sg n * sg n = 1 := by
  unfold sg; split <;> grind
theorem sg_add : ∀ {m n : Nat}, sg (n + m) = sg n * sg m
  | 0, n => by simp only [Nat.add_zero, sg_zero]; grind
  | m + 1, n => by
    have h := sg_add (m := m) (n := n)
    rw [← Nat.add_assoc, sg_succ, h, sg_succ]; grind
section
variable {V : Type}
/-- the pair sum of a row of things: n at least its length -/
def pf (w : V → V → Rat) : Nat → List V → Rat
  | _, [] => 1
  | 0, _ :: _ => 0
  | n + 1, v :: L => sm L.length (fun k => sg k * (match L[k]? with
      | some x => w v x
      | none => 0) * pf w n (L.eraseIdx k))
def at' (w : V → V → Rat) (v : V) (o : Option V) : Rat := match o with
  | some x => w v x
  | none => 0
theorem pf_nil {w : V → V → Rat} {n : Nat} : pf w n [] = 1 := by cases n <;> rfl
theorem pf_cons {w : V → V → Rat} {n : Nat} {v : V} {L : List V} : pf w (n + 1) (v :: L) = sm L.length (fun k => sg k * at' w v L[k]? * pf w n (L.eraseIdx k)) := by
  simp only [pf, at']
/-- more steps change nothing -/
theorem pf_more {w : V → V → Rat} : ∀ {n m : Nat} {L : List V}, L.length ≤ n → L.length ≤ m → pf w n L = pf w m L := by
  intro n
  induction n with
  | zero =>
    intro m L h1 h2
    have : L = [] := List.length_eq_zero_iff.1 (by omega)
    subst this; rw [pf_nil, pf_nil]
  | succ n ih =>
    intro m L h1 h2
    cases L with
    | nil => rw [pf_nil, pf_nil]
    | cons v L =>
      cases m with
      | zero => simp at h2
      | succ m =>
        rw [pf_cons, pf_cons]
        refine sm_congr fun k hk => ?_
        simp only [List.length_cons] at h1 h2
        have he : (L.eraseIdx k).length ≤ L.length := List.length_eraseIdx_le ..
        rw [ih (m := m) (L := L.eraseIdx k) (by omega) (by omega)]
/-- the pair sum -/
def pfs (w : V → V → Rat) (L : List V) : Rat := pf w L.length L
theorem pfs_nil {w : V → V → Rat} : pfs w [] = 1 := rfl
theorem pfs_cons {w : V → V → Rat} {v : V} {L : List V} : pfs w (v :: L) = sm L.length (fun k => sg k * at' w v L[k]? * pfs w (L.eraseIdx k)) := by
  unfold pfs
  rw [List.length_cons, pf_cons]
  refine sm_congr fun k hk => ?_
  rw [pf_more (n := L.length) (m := (L.eraseIdx k).length) (List.length_eraseIdx_le ..) (Nat.le_refl _)]
/-- an odd row has none -/
theorem pfs_odd {w : V → V → Rat} : ∀ {n : Nat} {L : List V}, L.length = n → n % 2 = 1 → pfs w L = 0 := by
  intro n
  induction n using Nat.strongRecOn with
  | ind n ih =>
    intro L h1 h2
    cases L with
    | nil => simp at h1; omega
    | cons v L =>
      rw [pfs_cons]
      rw [← sm_zero (n := L.length)]
      refine sm_congr fun k hk => ?_
      simp only [List.length_cons] at h1
      have he : (L.eraseIdx k).length = L.length - 1 := List.length_eraseIdx_of_lt hk
      rw [ih (n - 2) (by omega) (L := L.eraseIdx k) (by omega) (by omega)]; grind
end
end Pf
namespace Pf
section
variable {V : Type} {w : V → V → Rat}
theorem erase_comm {L : List V} {j k : Nat} (h : j < k) : (L.eraseIdx k).eraseIdx j = (L.eraseIdx j).eraseIdx (k - 1) := by
  refine List.ext_getElem? fun i => ?_
  simp only [List.getElem?_eraseIdx]
  by_cases h1 : i < j
  · rw [if_pos h1, if_pos (by omega), if_pos (by omega), if_pos h1]
  · rw [if_neg h1]
    by_cases h2 : i < k - 1
    · rw [if_pos (by omega), if_pos h2, if_neg h1]
    · rw [if_neg (by omega), if_neg h2, if_neg (by omega)]
/-- the row without two places -/
def two (L : List V) (k j : Nat) : List V := (L.eraseIdx k).eraseIdx (if j < k then j else j - 1)
theorem two_comm {L : List V} {k j : Nat} (h : k ≠ j) : two L k j = two L j k := by
  unfold two
  by_cases h1 : j < k
  · rw [if_pos h1, if_neg (by omega)]
    exact erase_comm h1
  · rw [if_neg h1, if_pos (by omega)]
    exact (erase_comm (by omega)).symm
/-- a term of the double sum -/
def G2 (w : V → V → Rat) (x y : V) (L : List V) (k j : Nat) : Rat := if j = k then 0 else - sg k * (if j < k then sg j else - sg j) * at' w x L[k]? * at' w y L[j]? * pfs w (two L k j)
theorem G2_lt {x y : V} {L : List V} {k j : Nat} (h : j < k) : G2 w x y L k j = - sg k * sg j * at' w x L[k]? * at' w y L[j]? * pfs w (two L k j) := by
  unfold G2
  rw [if_neg (by omega), if_pos h]
theorem G2_gt {x y : V} {L : List V} {k j : Nat} (h : k < j) : G2 w x y L k j = sg k * sg j * at' w x L[k]? * at' w y L[j]? * pfs w (two L k j) := by
  unfold G2
  rw [if_neg (by omega), if_neg (by omega)]; grind
theorem G2_anti {x y : V} {L : List V} {k j : Nat} : G2 w x y L k j = - G2 w y x L j k := by
  rcases Nat.lt_trichotomy j k with h | h | h
  · rw [G2_lt h, G2_gt h, two_comm (by omega : k ≠ j)]; grind
  · subst h
    unfold G2
    rw [if_pos rfl]; rw [if_pos rfl]; grind
  · rw [G2_gt h, G2_lt h, two_comm (by omega : k ≠ j)]; grind
theorem pfs_two {x y : V} {L : List V} : pfs w (x :: y :: L) = w x y * pfs w L + sm L.length (fun k => sm L.length (fun j => G2 w x y L k j)) := by
  rw [pfs_cons, List.length_cons, sm_first]
  have e0 : sg 0 * at' w x (y :: L)[0]? * pfs w ((y :: L).eraseIdx 0) = w x y * pfs w L := by
    simp only [List.getElem?_cons_zero, at', List.eraseIdx_cons_zero, sg_zero]; grind
  rw [e0]
  congr 1
  refine sm_congr fun k hk => ?_
  have e1 : (y :: L)[k + 1]? = L[k]? := by simp
  have e2 : (y :: L).eraseIdx (k + 1) = y :: L.eraseIdx k := by simp
  rw [e1, e2, pfs_cons]
  have hl : (L.eraseIdx k).length = L.length - 1 := List.length_eraseIdx_of_lt hk
  obtain ⟨n, hn⟩ : ∃ n, L.length = n + 1 := ⟨L.length - 1, by omega⟩
  rw [hl, hn]
  have hs := sm_skip (n := n) (i := k) (g := fun j => G2 w x y L k j) (by omega)
  have hkk : G2 w x y L k k = 0 := by unfold G2; rw [if_pos rfl]
  rw [hkk] at hs
  rw [← hs]
  have e3 : sg (k + 1) * at' w x L[k]? * sm (n + 1 - 1) (fun j => sg j * at' w y (L.eraseIdx k)[j]? * pfs w ((L.eraseIdx k).eraseIdx j)) = sm n (fun j => sg (k + 1) * at' w x L[k]? * (sg j * at' w y (L.eraseIdx k)[j]? * pfs w ((L.eraseIdx k).eraseIdx j))) := by
    rw [sm_mul]; rfl
  rw [e3]
  have e4 : ∀ a : Rat, a + 0 = a := fun a => by grind
  rw [e4]
  refine sm_congr fun j hj => ?_
  by_cases h : j < k
  · rw [if_pos h]
    unfold G2 two
    rw [if_neg (by omega), if_pos h, if_pos h, List.getElem?_eraseIdx, if_pos h, sg_succ]
    grind
  · rw [if_neg h]
    unfold G2 two
    rw [if_neg (by omega), if_neg (by omega), if_neg (by omega), List.getElem?_eraseIdx, if_neg h, sg_succ, sg_succ]
    have : j + 1 - 1 = j := by omega
    rw [this]
    grind
/-- two neighbours at the front exchanged -/
theorem swap_top (hw : ∀ a b, w a b = - w b a) {x y : V} {L : List V} : pfs w (x :: y :: L) = - pfs w (y :: x :: L) := by
  rw [pfs_two, pfs_two]
  have h1 : sm L.length (fun k => sm L.length (fun j => G2 w x y L k j)) = - sm L.length (fun k => sm L.length (fun j => G2 w y x L k j)) := by
    rw [sm_swap, ← sm_neg]
    refine sm_congr fun k _ => ?_
    rw [← sm_neg]
    exact sm_congr fun j _ => G2_anti
  rw [h1, hw x y]; grind
theorem sm_split : ∀ {m n : Nat} {f : Nat → Rat}, sm (n + m) f = sm n f + sm m (fun i => f (n + i))
  | 0, n, f => by simp only [Nat.add_zero, sm]; grind
  | m + 1, n, f => by
    rw [← Nat.add_assoc]
    simp only [sm]
    rw [sm_split]; grind
theorem sm_at2 {n m : Nat} {f : Nat → Rat} : sm (n + (m + 2)) f = sm n f + f n + f (n + 1) + sm m (fun i => f (n + 2 + i)) := by
  rw [sm_split, sm_first, sm_first]
  have h : sm m (fun i => f (n + (i + 1 + 1))) = sm m (fun i => f (n + 2 + i)) := sm_congr fun i _ => by
    rw [show n + (i + 1 + 1) = n + 2 + i by omega]
  rw [h]
  have h0 : f (n + 0) = f n := rfl
  have h1 : f (n + (0 + 1)) = f (n + 1) := rfl
  rw [h0, h1]; grind
/-- two neighbours exchanged -/
theorem swap_any (hw : ∀ a b, w a b = - w b a) : ∀ {n : Nat} {A : List V} {x y : V} {L : List V}, A.length + L.length = n → pfs w (A ++ x :: y :: L) = - pfs w (A ++ y :: x :: L) := by
  intro n
  induction n using Nat.strongRecOn with
  | ind n ih =>
    intro A x y L hn
    cases A with
    | nil => exact swap_top hw
    | cons v A =>
      simp only [List.cons_append, List.length_cons] at hn ⊢
      rw [pfs_cons, pfs_cons]
      have hlen : (A ++ x :: y :: L).length = A.length + (L.length + 2) := by simp
      have hlen2 : (A ++ y :: x :: L).length = A.length + (L.length + 2) := by simp
      rw [hlen, hlen2, sm_at2, sm_at2]
      -- the places before, the two, the places behind
      have hA : sm A.length (fun k => sg k * at' w v (A ++ x :: y :: L)[k]? * pfs w ((A ++ x :: y :: L).eraseIdx k)) = - sm A.length (fun k => sg k * at' w v (A ++ y :: x :: L)[k]? * pfs w ((A ++ y :: x :: L).eraseIdx k)) := by
        rw [← sm_neg]
        refine sm_congr fun k hk => ?_
        have hAk : (A.eraseIdx k).length = A.length - 1 := List.length_eraseIdx_of_lt hk
        rw [List.getElem?_append_left hk, List.getElem?_append_left hk, List.eraseIdx_append_of_lt_length hk, List.eraseIdx_append_of_lt_length hk]
        rw [ih (n - 2) (by omega) (A := A.eraseIdx k) (L := L) (by omega)]; grind
      have hL : sm L.length (fun k => sg (A.length + 2 + k) * at' w v (A ++ x :: y :: L)[A.length + 2 + k]? * pfs w ((A ++ x :: y :: L).eraseIdx (A.length + 2 + k))) = - sm L.length (fun k => sg (A.length + 2 + k) * at' w v (A ++ y :: x :: L)[A.length + 2 + k]? * pfs w ((A ++ y :: x :: L).eraseIdx (A.length + 2 + k))) := by
        rw [← sm_neg]
        refine sm_congr fun k hk => ?_
        have hLk : (L.eraseIdx k).length = L.length - 1 := List.length_eraseIdx_of_lt hk
        have g1 : ∀ p q : V, (A ++ p :: q :: L)[A.length + 2 + k]? = L[k]? := fun p q => by
          rw [List.getElem?_append_right (by omega), show A.length + 2 + k - A.length = k + 1 + 1 by omega]; simp
        have g2 : ∀ p q : V, (A ++ p :: q :: L).eraseIdx (A.length + 2 + k) = A ++ p :: q :: L.eraseIdx k := fun p q => by
          rw [List.eraseIdx_append_of_length_le (by omega), show A.length + 2 + k - A.length = k + 1 + 1 by omega]; simp
        rw [g1, g1, g2, g2]
        rw [ih (n - 2) (by omega) (A := A) (L := L.eraseIdx k) (by omega)]; grind
      have e0 : ∀ p q : V, (A ++ p :: q :: L)[A.length]? = some p := fun p q => by simp
      have e1 : ∀ p q : V, (A ++ p :: q :: L)[A.length + 1]? = some q := fun p q => by
        rw [List.getElem?_append_right (by omega), show A.length + 1 - A.length = 0 + 1 by omega]; simp
      have d0 : ∀ p q : V, (A ++ p :: q :: L).eraseIdx A.length = A ++ q :: L := fun p q => by
        rw [List.eraseIdx_append_of_length_le (by omega), Nat.sub_self]; simp
      have d1 : ∀ p q : V, (A ++ p :: q :: L).eraseIdx (A.length + 1) = A ++ p :: L := fun p q => by
        rw [List.eraseIdx_append_of_length_le (by omega), show A.length + 1 - A.length = 0 + 1 by omega]; simp
      rw [hA, hL, e0, e1, d0, d1, e0, e1, d0, d1, sg_succ]
      grind
end
end Pf
namespace Pf
section
variable {V : Type} {w : V → V → Rat}
/-- a thing brought to the front -/
theorem to_front (hw : ∀ a b, w a b = - w b a) {x : V} {L : List V} : ∀ {n : Nat} {A : List V}, A.length = n → pfs w (A ++ x :: L) = sg n * pfs w (x :: A ++ L)
  | 0, A, h => by
    have : A = [] := List.length_eq_zero_iff.1 h
    subst this
    rw [sg_zero]; simp only [List.nil_append, List.singleton_append]; grind
  | n + 1, A, h => by
    rcases List.eq_nil_or_concat A with h0 | ⟨B, y, h0⟩
    · subst h0; simp at h
    · rw [List.concat_eq_append] at h0
      subst h0
      have hB : B.length = n := by simpa using h
      have e1 : B ++ [y] ++ x :: L = B ++ y :: x :: L := by simp
      have e2 : x :: (B ++ [y]) ++ L = x :: B ++ y :: L := by simp
      rw [e1, e2, swap_any hw (A := B) rfl, to_front hw (A := B) (L := y :: L) hB, sg_succ]; grind
theorem pfs_same (hw : ∀ a b, w a b = - w b a) {x : V} {L : List V} : pfs w (x :: x :: L) = 0 := by
  have h := swap_top hw (x := x) (y := x) (L := L)
  grind
/-- a thing that occurs twice -/
theorem pfs_twice (hw : ∀ a b, w a b = - w b a) {x : V} {A L : List V} : pfs w (x :: A ++ x :: L) = 0 := by
  have h := to_front hw (x := x) (A := x :: A) (L := L) rfl
  have e : x :: (x :: A) ++ L = x :: x :: (A ++ L) := by simp
  rw [h, e, pfs_same hw]; grind
/-- the first thing is a sum -/
theorem pfs_lin {v a b : V} {c : Rat} {L : List V} (h : ∀ y, y ∈ L → w v y = w a y + c * w b y) : pfs w (v :: L) = pfs w (a :: L) + c * pfs w (b :: L) := by
  rw [pfs_cons, pfs_cons, pfs_cons, ← sm_mul, ← sm_add]
  refine sm_congr fun k hk => ?_
  rw [List.getElem?_eq_getElem hk]
  simp only [at']
  rw [h _ (List.getElem_mem hk)]; grind
/-- the first thing times a number -/
theorem pfs_scale1 {v a : V} {c : Rat} {L : List V} (h : ∀ y, y ∈ L → w v y = c * w a y) : pfs w (v :: L) = c * pfs w (a :: L) := by
  rw [pfs_cons, pfs_cons, ← sm_mul]
  refine sm_congr fun k hk => ?_
  rw [List.getElem?_eq_getElem hk]
  simp only [at']
  rw [h _ (List.getElem_mem hk)]; grind
/-- a multiple of another thing of the row is added to one -/
theorem pfs_addrow (hw : ∀ a b, w a b = - w b a) {v u a : V} {c : Rat} {A L : List V} (h : ∀ y, w v y = w u y + c * w a y) : pfs w (a :: A ++ v :: L) = pfs w (a :: A ++ u :: L) := by
  rw [to_front hw (x := v) (A := a :: A) rfl, to_front hw (x := u) (A := a :: A) rfl]
  have e : ∀ z : V, z :: (a :: A) ++ L = z :: (a :: (A ++ L)) := fun z => by simp
  rw [e, e, pfs_lin (v := v) (a := u) (b := a) (c := c) fun y _ => h y, pfs_same hw]; grind
/-- only what stands between the things of the row counts -/
theorem pfs_congr {w2 : V → V → Rat} : ∀ {n : Nat} {L : List V}, L.length = n → (∀ x y, x ∈ L → y ∈ L → w x y = w2 x y) → pfs w L = pfs w2 L := by
  intro n
  induction n using Nat.strongRecOn with
  | ind n ih =>
    intro L hn h
    cases L with
    | nil => rfl
    | cons v L =>
      rw [pfs_cons, pfs_cons]
      refine sm_congr fun k hk => ?_
      simp only [List.length_cons] at hn
      have hl : (L.eraseIdx k).length = L.length - 1 := List.length_eraseIdx_of_lt hk
      rw [ih (L.length - 1) (by omega) hl fun x y hx hy => h x y (List.mem_cons_of_mem _ (List.mem_of_mem_eraseIdx hx)) (List.mem_cons_of_mem _ (List.mem_of_mem_eraseIdx hy))]
      rw [List.getElem?_eq_getElem hk]
      simp only [at']
      rw [h v _ (List.mem_cons_self ..) (List.mem_cons_of_mem _ (List.getElem_mem hk))]
theorem pfs_map {U : Type} {f : U → V} : ∀ {n : Nat} {L : List U}, L.length = n → pfs w (L.map f) = pfs (fun x y => w (f x) (f y)) L := by
  intro n
  induction n using Nat.strongRecOn with
  | ind n ih =>
    intro L hn
    cases L with
    | nil => rfl
    | cons v L =>
      rw [List.map_cons, pfs_cons, pfs_cons, List.length_map]
      refine sm_congr fun k hk => ?_
      simp only [List.length_cons] at hn
      have hl : (L.eraseIdx k).length = L.length - 1 := List.length_eraseIdx_of_lt hk
      have he : (L.map f).eraseIdx k = (L.eraseIdx k).map f := by
        simp only [List.eraseIdx_eq_take_drop_succ, List.map_append, List.map_take, List.map_drop]
      rw [he, ih (L.length - 1) (by omega) hl, List.getElem?_map, List.getElem?_eq_getElem hk]
      rfl
/-- all entries times a number -/
theorem pfs_scale {c : Rat} : ∀ {n : Nat} {L : List V}, L.length = 2 * n → pfs (fun x y => c * w x y) L = c ^ n * pfs w L := by
  intro n
  induction n with
  | zero =>
    intro L h
    have : L = [] := List.length_eq_zero_iff.1 (by omega)
    subst this
    rw [pfs_nil, pfs_nil]; grind
  | succ n ih =>
    intro L h
    cases L with
    | nil => simp at h
    | cons v L =>
      rw [pfs_cons, pfs_cons, ← sm_mul]
      refine sm_congr fun k hk => ?_
      simp only [List.length_cons] at h
      have hl : (L.eraseIdx k).length = L.length - 1 := List.length_eraseIdx_of_lt hk
      rw [ih (L := L.eraseIdx k) (by omega), List.getElem?_eq_getElem hk]
      simp only [at']
      grind
end
/-! ### two things taken out -/
section
variable {V : Type} (w : V → V → Rat) (a b : V)
/-- u + alpha a + beta b -/
def wx (p q : V × Rat × Rat) : Rat := w p.1 q.1 + q.2.1 * w p.1 a + q.2.2 * w p.1 b + p.2.1 * w a q.1 + p.2.1 * q.2.1 * w a a + p.2.1 * q.2.2 * w a b + p.2.2 * w b q.1 + p.2.2 * q.2.1 * w b a + p.2.2 * q.2.2 * w b b
variable {w a b}
theorem wx_skew (hw : ∀ a b, w a b = - w b a) (p q : V × Rat × Rat) : wx w a b p q = - wx w a b q p := by
  unfold wx
  rw [hw p.1 q.1, hw p.1 a, hw p.1 b, hw a q.1, hw b q.1, hw b a]
  have h1 : w a a = 0 := by have := hw a a; grind
  have h2 : w b b = 0 := by have := hw b b; grind
  rw [h1, h2]; grind
theorem wx_base {u v : V} : wx w a b (u, 0, 0) (v, 0, 0) = w u v := by
  unfold wx; grind
end
end Pf
namespace Pf
section
variable {V : Type} {w : V → V → Rat} {a b : V}
/-- u with its parts along a and b taken off -/
def red (w : V → V → Rat) (a b u : V) : V × Rat × Rat := (u, - w u b / w a b, w u a / w a b)
theorem red_step (hw : ∀ a b, w a b = - w b a) {u : V} {al be : Rat} {P S : List (V × Rat × Rat)} :
    pfs (wx w a b) ((a, 0, 0) :: (b, 0, 0) :: (P ++ (u, 0, 0) :: S)) = pfs (wx w a b) ((a, 0, 0) :: (b, 0, 0) :: (P ++ (u, al, be) :: S)) := by
  have hx := wx_skew (a := a) (b := b) hw
  have h1 : pfs (wx w a b) ((a, 0, 0) :: ((b, 0, 0) :: P) ++ (u, al, 0) :: S) = pfs (wx w a b) ((a, 0, 0) :: ((b, 0, 0) :: P) ++ (u, 0, 0) :: S) :=
    pfs_addrow hx (c := al) fun y => by unfold wx; grind
  have h2 : pfs (wx w a b) ((b, 0, 0) :: ((a, 0, 0) :: P) ++ (u, al, be) :: S) = pfs (wx w a b) ((b, 0, 0) :: ((a, 0, 0) :: P) ++ (u, al, 0) :: S) :=
    pfs_addrow hx (c := be) fun y => by unfold wx; grind
  simp only [List.cons_append] at h1 h2
  rw [← h1, swap_top hx, ← h2, swap_top hx (x := (b, 0, 0))]; grind
theorem red_all (hw : ∀ a b, w a b = - w b a) : ∀ {L : List V} {P : List (V × Rat × Rat)},
    pfs (wx w a b) ((a, 0, 0) :: (b, 0, 0) :: (P ++ L.map fun u => (u, (0 : Rat), (0 : Rat)))) = pfs (wx w a b) ((a, 0, 0) :: (b, 0, 0) :: (P ++ L.map (red w a b)))
  | [], P => rfl
  | u :: L, P => by
    rw [List.map_cons, List.map_cons, red_step hw (u := u) (al := - w u b / w a b) (be := w u a / w a b)]
    have h := red_all hw (L := L) (P := P ++ [red w a b u])
    simp only [List.append_assoc, List.singleton_append] at h
    exact h
/-- a, b in front: their entry times the pair sum of what is left -/
theorem pfs_schur (hw : ∀ a b, w a b = - w b a) (hp : w a b ≠ 0) {L : List V} :
    pfs w (a :: b :: L) = w a b * pfs (fun u v => (w a b * w u v - w a u * w b v + w b u * w a v) / w a b) L := by
  have h0 : pfs w (a :: b :: L) = pfs (wx w a b) ((a :: b :: L).map fun u => (u, (0 : Rat), (0 : Rat))) := by
    rw [pfs_map (U := V) rfl]
    exact pfs_congr rfl fun x y _ _ => (wx_base).symm
  rw [h0]
  have h1 := red_all hw (L := L) (P := []) (a := a) (b := b)
  simp only [List.nil_append] at h1
  rw [List.map_cons, List.map_cons, h1, pfs_cons, List.length_cons, sm_first]
  have hz : sm (L.map (red w a b)).length (fun i => sg (i + 1) * at' (wx w a b) (a, 0, 0) ((b, (0 : Rat), (0 : Rat)) :: L.map (red w a b))[i + 1]? * pfs (wx w a b) (((b, 0, 0) :: L.map (red w a b)).eraseIdx (i + 1))) = 0 := by
    refine Eq.trans (sm_congr (g := fun _ => 0) fun k hk => ?_) sm_zero
    rw [List.length_map] at hk
    have e : ((b, (0 : Rat), (0 : Rat)) :: L.map (red w a b))[k + 1]? = some (red w a b L[k]) := by simp [hk]
    rw [e]
    have e2 : at' (wx w a b) (a, 0, 0) (some (red w a b L[k])) = 0 := by
      simp only [at', wx, red]
      have h1 : w a a = 0 := by have := hw a a; grind
      have h2 := hw a L[k]
      rw [h1, h2]; grind
    rw [e2]; grind
  rw [hz]
  have e0 : at' (wx w a b) (a, 0, 0) ((b, (0 : Rat), (0 : Rat)) :: L.map (red w a b))[0]? = w a b := by
    simp only [List.getElem?_cons_zero, at']
    exact wx_base
  rw [e0, List.eraseIdx_cons_zero, sg_zero, pfs_map rfl]
  have hc : pfs (fun x y => wx w a b (red w a b x) (red w a b y)) L = pfs (fun u v => (w a b * w u v - w a u * w b v + w b u * w a v) / w a b) L := by
    refine pfs_congr rfl fun u v _ _ => ?_
    simp only [wx, red]
    have h1 : w a a = 0 := by have := hw a a; grind
    have h2 : w b b = 0 := by have := hw b b; grind
    have h3 := hw b a
    have h4 := hw a u
    have h5 := hw b u
    have h6 := hw a v
    have h7 := hw b v
    rw [h1, h2, h3, h4, h5, h6, h7]
    grind
  rw [hc]; grind
/-- no entry in the first row: nothing -/
theorem pfs_zero_row {v : V} {L : List V} (h : ∀ x, x ∈ L → w v x = 0) : pfs w (v :: L) = 0 := by
  rw [pfs_cons]
  refine Eq.trans (sm_congr (g := fun _ => 0) fun k hk => ?_) sm_zero
  rw [List.getElem?_eq_getElem hk]
  simp only [at']
  rw [h _ (List.getElem_mem hk)]; grind
end
end Pf
namespace Pf
section
variable {V : Type} {w : V → V → Rat}
/-- a thing brought to the front of a part -/
theorem to_mid (hw : ∀ a b, w a b = - w b a) {A : List V} {x : V} {L : List V} : ∀ {n : Nat} {B : List V}, B.length = n → pfs w (A ++ (B ++ x :: L)) = sg n * pfs w (A ++ (x :: B ++ L))
  | 0, B, h => by
    have : B = [] := List.length_eq_zero_iff.1 h
    subst this
    rw [sg_zero]; simp only [List.nil_append, List.singleton_append]; grind
  | n + 1, B, h => by
    rcases List.eq_nil_or_concat B with h0 | ⟨C, y, h0⟩
    · subst h0; simp at h
    · rw [List.concat_eq_append] at h0
      subst h0
      have hC : C.length = n := by simpa using h
      have e1 : A ++ (C ++ [y] ++ x :: L) = (A ++ C) ++ y :: x :: L := by simp
      have e2 : A ++ (x :: (C ++ [y]) ++ L) = A ++ (x :: C ++ y :: L) := by simp
      have e3 : (A ++ C) ++ x :: y :: L = A ++ (C ++ x :: y :: L) := by simp
      rw [e1, e2, swap_any hw (A := A ++ C) rfl, e3, to_mid hw (B := C) (L := y :: L) hC, sg_succ]; grind
/-- two things of the row exchanged -/
theorem swap_far (hw : ∀ a b, w a b = - w b a) {A B C : List V} {x y : V} : pfs w (A ++ (x :: B ++ y :: C)) = - pfs w (A ++ (y :: B ++ x :: C)) := by
  have h1 := to_mid hw (A := A) (x := y) (L := C) (B := x :: B) rfl
  have h2 := to_mid hw (A := A) (x := x) (L := C) (B := y :: B) rfl
  rw [h1, h2]
  have e1 : A ++ (y :: (x :: B) ++ C) = A ++ y :: x :: (B ++ C) := by simp
  have e2 : A ++ (x :: (y :: B) ++ C) = A ++ x :: y :: (B ++ C) := by simp
  have hl : (x :: B).length = (y :: B).length := rfl
  rw [e1, e2, swap_any hw (A := A) rfl, hl]; grind
/-- whole entries, whole pair sum -/
theorem sm_int : ∀ {n : Nat} {f : Nat → Rat}, (∀ i, i < n → ∃ z : Int, f i = (z : Rat)) → ∃ z : Int, sm n f = (z : Rat)
  | 0, f, h => ⟨0, by simp [sm]⟩
  | n + 1, f, h => by
    obtain ⟨z, hz⟩ := sm_int (n := n) (f := f) fun i hi => h i (by omega)
    obtain ⟨y, hy⟩ := h n (by omega)
    exact ⟨z + y, by simp only [sm, hz, hy]; grind⟩
theorem sg_int {n : Nat} : ∃ z : Int, sg n = (z : Rat) := by
  unfold sg
  split
  · exact ⟨1, by simp⟩
  · exact ⟨-1, by simp⟩
theorem pfs_int (hi : ∀ a b, ∃ z : Int, w a b = (z : Rat)) : ∀ {n : Nat} {L : List V}, L.length = n → ∃ z : Int, pfs w L = (z : Rat) := by
  intro n
  induction n using Nat.strongRecOn with
  | ind n ih =>
    intro L hn
    cases L with
    | nil => exact ⟨1, by rw [pfs_nil]; simp⟩
    | cons v L =>
      rw [pfs_cons]
      refine sm_int fun k hk => ?_
      simp only [List.length_cons] at hn
      have hl : (L.eraseIdx k).length = L.length - 1 := List.length_eraseIdx_of_lt hk
      obtain ⟨z1, h1⟩ := sg_int (n := k)
      obtain ⟨z2, h2⟩ := hi v L[k]
      obtain ⟨z3, h3⟩ := ih (L.length - 1) (by omega) hl
      refine ⟨z1 * z2 * z3, ?_⟩
      rw [List.getElem?_eq_getElem hk]
      simp only [at']
      rw [h1, h2, h3]; grind
/-- two parts with nothing between them -/
theorem pfs_blocks : ∀ {n : Nat} {A B : List V}, A.length = n → (∀ x y, x ∈ A → y ∈ B → w x y = 0) → n % 2 = 0 → pfs w (A ++ B) = pfs w A * pfs w B := by
  intro n
  induction n using Nat.strongRecOn with
  | ind n ih =>
    intro A B hn h he
    cases A with
    | nil => rw [pfs_nil, List.nil_append]; grind
    | cons v A =>
      simp only [List.length_cons] at hn
      rw [List.cons_append, pfs_cons, pfs_cons, List.length_append, sm_split]
      have hB : sm B.length (fun i => sg (A.length + i) * at' w v (A ++ B)[A.length + i]? * pfs w ((A ++ B).eraseIdx (A.length + i))) = 0 := by
        refine Eq.trans (sm_congr (g := fun _ => 0) fun k hk => ?_) sm_zero
        have e : (A ++ B)[A.length + k]? = some B[k] := by simp [hk]
        rw [e]
        simp only [at']
        rw [h v _ (List.mem_cons_self ..) (List.getElem_mem hk)]; grind
      rw [hB]
      have hA : sm A.length (fun k => sg k * at' w v (A ++ B)[k]? * pfs w ((A ++ B).eraseIdx k)) = sm A.length (fun k => pfs w B * (sg k * at' w v A[k]? * pfs w (A.eraseIdx k))) := by
        refine sm_congr fun k hk => ?_
        have hl : (A.eraseIdx k).length = A.length - 1 := List.length_eraseIdx_of_lt hk
        rw [List.getElem?_append_left hk, List.eraseIdx_append_of_lt_length hk]
        rw [ih (A.length - 1) (by omega) (A := A.eraseIdx k) (B := B) hl (fun x y hx hy => h x y (List.mem_cons_of_mem _ (List.mem_of_mem_eraseIdx hx)) hy) (by omega)]; grind
      rw [hA, sm_mul]; grind
end
end Pf
/-! the elimination of whole numbers -/
namespace Pf
abbrev rw0 (f : Nat → Nat → Int) : Nat → Nat → Rat := fun i j => (f i j : Rat)
abbrev rdv (f : Nat → Nat → Int) (d : Int) : Nat → Nat → Rat := fun i j => (f i j : Rat) / (d : Rat)
structure Iv (N : Nat) (w0 : Nat → Nat → Int) (m : Nat) (R : Nat → Nat → Int) (d s : Int) (I rest : List Nat) : Prop where
  len : rest.length = m
  dn : d ≠ 0
  sk : ∀ i j, R i j = - R j i
  all : pfs (rw0 w0) (List.range N) = (s : Rat) * pfs (rw0 w0) (I ++ rest)
  sub : ∀ S : List Nat, (∀ i, i ∈ S → i < m) → (d : Rat) * pfs (rdv R d) S = pfs (rw0 w0) (I ++ S.map fun i => rest.getD i 0)
variable {N m : Nat} {w0 R R' : Nat → Nat → Int} {d s : Int} {I rest : List Nat}
theorem rdv_skew (h : ∀ i j, R i j = - R j i) : ∀ i j, rdv R d i j = - rdv R d j i := fun i j => by
  simp only [rdv]
  rw [h i j]
  have : ((-R j i : Int) : Rat) = - (R j i : Rat) := by simp
  rw [this]; grind
theorem rw0_skew (h : ∀ i j, w0 i j = - w0 j i) : ∀ i j, rw0 w0 i j = - rw0 w0 j i := fun i j => by
  simp only [rw0]
  rw [h i j]; simp
theorem range_getD {n : Nat} : ∀ S : List Nat, (∀ i, i ∈ S → i < n) → S.map (fun i => (List.range n).getD i 0) = S
  | [], _ => rfl
  | a :: S, h => by
    have ha := h a (List.mem_cons_self ..)
    rw [List.map_cons, range_getD S fun i hi => h i (List.mem_cons_of_mem _ hi)]
    have : (List.range n).getD a 0 = a := by simp [List.getD, List.getElem?_range ha]
    rw [this]
theorem Iv.start (h : ∀ i j, w0 i j = - w0 j i) : Iv N w0 N w0 1 1 [] (List.range N) := by
  refine ⟨by simp, by decide, h, ?_, ?_⟩
  · have : ((1 : Int) : Rat) = 1 := by simp
    rw [this, List.nil_append]; grind
  · intro S hS
    rw [List.nil_append, range_getD S hS]
    have e : ((1 : Int) : Rat) = 1 := by simp
    have : pfs (rdv w0 1) S = pfs (rw0 w0) S := pfs_congr rfl fun x y _ _ => by
      simp only [rdv, rw0, e]; grind
    rw [this, e]; grind
/-- all rows: the row of places -/
theorem map_all (h : rest.length = m) : (List.range m).map (fun i => rest.getD i 0) = rest := by
  refine List.ext_getElem? fun i => ?_
  rw [List.getElem?_map]
  by_cases hi : i < m
  · rw [List.getElem?_range hi]
    simp [List.getD, List.getElem?_eq_getElem (show i < rest.length by omega)]
  · rw [List.getElem?_eq_none (by simpa using hi), List.getElem?_eq_none (by omega)]; rfl
theorem Iv.whole (v : Iv N w0 m R d s I rest) : pfs (rw0 w0) (List.range N) = (s : Rat) * ((d : Rat) * pfs (rdv R d) (List.range m)) := by
  rw [v.all, v.sub (List.range m) (fun i hi => List.mem_range.1 hi), map_all v.len]
theorem Iv.done0 (v : Iv N w0 0 R d s I rest) : pfs (rw0 w0) (List.range N) = ((s * d : Int) : Rat) := by
  rw [v.whole]
  have : pfs (rdv R d) (List.range 0) = 1 := rfl
  rw [this]
  have e : ((s * d : Int) : Rat) = (s : Rat) * (d : Rat) := by simp
  rw [e]; grind
theorem Iv.done1 (v : Iv N w0 1 R d s I rest) : pfs (rw0 w0) (List.range N) = 0 := by
  rw [v.whole]
  have : pfs (rdv R d) (List.range 1) = 0 := pfs_odd (n := 1) (by simp) rfl
  rw [this]; grind
theorem range_cons2 {n : Nat} : List.range (n + 2) = 0 :: 1 :: (List.range n).map (· + 2) := by
  rw [List.range_succ_eq_map, List.range_succ_eq_map, List.map_cons, List.map_map]
  rfl
theorem Iv.zero (v : Iv N w0 (m + 2) R d s I rest) (h : ∀ j, 1 ≤ j → j < m + 2 → R 0 j = 0) : pfs (rw0 w0) (List.range N) = 0 := by
  rw [v.whole, range_cons2]
  have : pfs (rdv R d) (0 :: 1 :: (List.range m).map (· + 2)) = 0 := pfs_zero_row fun x hx => by
    have hx2 : 1 ≤ x ∧ x < m + 2 := by
      rcases List.mem_cons.1 hx with rfl | hx
      · omega
      · obtain ⟨y, hy, rfl⟩ := List.mem_map.1 hx
        have := List.mem_range.1 hy
        omega
    simp only [rdv]
    rw [h x hx2.1 hx2.2]
    have : ((0 : Int) : Rat) = 0 := by simp
    rw [this]; grind
  rw [this]; grind
/-- a step of the elimination, in rational numbers -/
theorem Iv.stepR (v : Iv N w0 (m + 2) R d s I rest) (hp : R 0 1 ≠ 0) (S : List Nat) (hS : ∀ i, i ∈ S → i < m) :
    (R 0 1 : Rat) * pfs (fun i j => (((R 0 1 * R (i + 2) (j + 2) - R 0 (i + 2) * R 1 (j + 2) + R 1 (i + 2) * R 0 (j + 2) : Int) : Rat) / (d : Rat)) / (R 0 1 : Rat)) S
      = pfs (rw0 w0) (I ++ rest.getD 0 0 :: rest.getD 1 0 :: S.map fun i => rest.getD (i + 2) 0) := by
  have hd : (d : Rat) ≠ 0 := by
    have := v.dn
    intro q
    exact this (by exact_mod_cast q)
  have hp' : (R 0 1 : Rat) ≠ 0 := by
    intro q
    exact hp (by exact_mod_cast q)
  have h := v.sub (0 :: 1 :: S.map (· + 2)) (fun i hi => by
    rcases List.mem_cons.1 hi with rfl | hi
    · omega
    · rcases List.mem_cons.1 hi with rfl | hi
      · omega
      · obtain ⟨y, hy, rfl⟩ := List.mem_map.1 hi
        have := hS y hy
        omega)
  have hne : rdv R d 0 1 ≠ 0 := by
    simp only [rdv]
    intro q
    apply hp'
    have : (R 0 1 : Rat) = (R 0 1 : Rat) / (d : Rat) * (d : Rat) := by grind
    rw [this, q]; grind
  rw [pfs_schur (rdv_skew v.sk) hne] at h
  simp only [List.map_cons, List.map_map] at h
  have e1 : (S.map ((fun i => rest.getD i 0) ∘ fun x => x + 2)) = S.map fun i => rest.getD (i + 2) 0 := rfl
  rw [e1] at h
  rw [← h, pfs_map rfl]
  have e2 : pfs (fun x y => (rdv R d 0 1 * rdv R d (x + 2) (y + 2) - rdv R d 0 (x + 2) * rdv R d 1 (y + 2) + rdv R d 1 (x + 2) * rdv R d 0 (y + 2)) / rdv R d 0 1) S
      = pfs (fun i j => (((R 0 1 * R (i + 2) (j + 2) - R 0 (i + 2) * R 1 (j + 2) + R 1 (i + 2) * R 0 (j + 2) : Int) : Rat) / (d : Rat)) / (R 0 1 : Rat)) S := by
    refine pfs_congr rfl fun x y _ _ => ?_
    simp only [rdv]
    have c : ((R 0 1 * R (x + 2) (y + 2) - R 0 (x + 2) * R 1 (y + 2) + R 1 (x + 2) * R 0 (y + 2) : Int) : Rat) = (R 0 1 : Rat) * (R (x + 2) (y + 2) : Rat) - (R 0 (x + 2) : Rat) * (R 1 (y + 2) : Rat) + (R 1 (x + 2) : Rat) * (R 0 (y + 2) : Rat) := by simp
    rw [c]
    grind
  rw [e2]
  simp only [rdv]
  grind
end Pf
namespace Pf
variable {N m : Nat} {w0 R R' : Nat → Nat → Int} {d s : Int} {I rest : List Nat}
theorem pfs_pair {V : Type} {w : V → V → Rat} {x y : V} : pfs w [x, y] = w x y := by
  rw [pfs_cons]
  have : ([y] : List V).length = 1 := rfl
  rw [this]
  simp only [sm, List.getElem?_cons_zero, at', sg_zero, List.eraseIdx_cons_zero, pfs_nil]
  grind
theorem getD_drop2 {i : Nat} : (rest.drop 2).getD i 0 = rest.getD (i + 2) 0 := by
  simp only [List.getD, List.getElem?_drop]
  rw [Nat.add_comm]
theorem two_front (h : rest.length = m + 2) : rest = rest.getD 0 0 :: rest.getD 1 0 :: rest.drop 2 := by
  match rest, h with
  | [], h => simp at h
  | [_], h => simp at h
  | a :: b :: r, _ => rfl
/-- each new entry is whole: the division is exact -/
theorem Iv.exact (v : Iv N w0 (m + 2) R d s I rest) (hp : R 0 1 ≠ 0) {i j : Nat} (hi : i < m) (hj : j < m) :
    (((R 0 1 * R (i + 2) (j + 2) - R 0 (i + 2) * R 1 (j + 2) + R 1 (i + 2) * R 0 (j + 2)).fdiv d : Int) : Rat) = ((R 0 1 * R (i + 2) (j + 2) - R 0 (i + 2) * R 1 (j + 2) + R 1 (i + 2) * R 0 (j + 2) : Int) : Rat) / (d : Rat) := by
  have h := v.stepR hp [i, j] (fun x hx => by
    rcases List.mem_cons.1 hx with rfl | hx
    · exact hi
    · rcases List.mem_cons.1 hx with rfl | hx
      · exact hj
      · simp at hx)
  obtain ⟨z, hz⟩ := pfs_int (w := rw0 w0) (fun a b => ⟨w0 a b, rfl⟩) (L := I ++ rest.getD 0 0 :: rest.getD 1 0 :: [i, j].map fun i => rest.getD (i + 2) 0) rfl
  rw [hz, pfs_pair] at h
  generalize R 0 1 * R (i + 2) (j + 2) - R 0 (i + 2) * R 1 (j + 2) + R 1 (i + 2) * R 0 (j + 2) = x at h ⊢
  have hd : (d : Rat) ≠ 0 := by
    have := v.dn
    intro q
    exact this (by exact_mod_cast q)
  have hp' : (R 0 1 : Rat) ≠ 0 := by
    intro q
    exact hp (by exact_mod_cast q)
  have h1 : (x : Rat) = (z : Rat) * (d : Rat) := by
    have : (R 0 1 : Rat) * ((x : Rat) / (d : Rat) / (R 0 1 : Rat)) = (x : Rat) / (d : Rat) := by grind
    rw [this] at h
    rw [← h]; grind
  have h2 : x = z * d := by exact_mod_cast h1
  subst h2
  rw [Int.mul_fdiv_cancel _ v.dn]
  have c : ((z * d : Int) : Rat) = (z : Rat) * (d : Rat) := by simp
  rw [c]; grind
theorem Iv.step (v : Iv N w0 (m + 2) R d s I rest) (hp : R 0 1 ≠ 0) (hsk : ∀ i j, R' i j = - R' j i)
    (hR : ∀ i j, i < m → j < m → R' i j = (R 0 1 * R (i + 2) (j + 2) - R 0 (i + 2) * R 1 (j + 2) + R 1 (i + 2) * R 0 (j + 2)).fdiv d) :
    Iv N w0 m R' (R 0 1) s (I ++ [rest.getD 0 0, rest.getD 1 0]) (rest.drop 2) := by
  refine ⟨by rw [List.length_drop, v.len]; rfl, hp, hsk, ?_, ?_⟩
  · rw [v.all]
    have e : I ++ [rest.getD 0 0, rest.getD 1 0] ++ rest.drop 2 = I ++ rest := by
      conv => rhs; rw [two_front v.len]
      simp
    rw [e]
  · intro S hS
    have h := v.stepR hp S hS
    have e : (I ++ [rest.getD 0 0, rest.getD 1 0] ++ S.map fun i => (rest.drop 2).getD i 0) = I ++ rest.getD 0 0 :: rest.getD 1 0 :: S.map fun i => rest.getD (i + 2) 0 := by
      simp only [getD_drop2]; simp
    rw [e, ← h]
    congr 1
    refine pfs_congr rfl fun x y hx hy => ?_
    simp only [rdv]
    rw [hR x y (hS x hx) (hS y hy), v.exact hp (hS x hx) (hS y hy)]
/-- the places 1 and k exchanged -/
def tau (k i : Nat) : Nat := if i = 1 then k else if i = k then 1 else i
theorem tau_lt {k i : Nat} (hk : k < m) (h1 : 1 < m) (hi : i < m) : tau k i < m := by
  unfold tau; split
  · exact hk
  · split <;> omega
/-- the row with the places 1 and k exchanged -/
def exch (rest : List Nat) (k : Nat) : List Nat := (List.range rest.length).map fun i => rest.getD (tau k i) 0
theorem exch_getD {k i : Nat} (hi : i < rest.length) : (exch rest k).getD i 0 = rest.getD (tau k i) 0 := by
  unfold exch
  simp [List.getD, List.getElem?_range hi]
theorem exch_split {k : Nat} (h1 : 1 < k) (hk : k < rest.length) : ∃ A B C : List Nat, ∃ x y : Nat, rest = A ++ (x :: B ++ y :: C) ∧ exch rest k = A ++ (y :: B ++ x :: C) := by
  obtain ⟨a, x, r, rfl⟩ : ∃ a x r, rest = a :: x :: r := by
    match rest, hk with
    | [], h => simp at h
    | [_], h => simp at h; omega
    | a :: x :: r, _ => exact ⟨a, x, r, rfl⟩
  simp only [List.length_cons] at hk
  have hkr : k - 2 < r.length := by omega
  have hs : r = r.take (k - 2) ++ r[k - 2] :: r.drop (k - 2 + 1) := by rw [← List.drop_eq_getElem_cons hkr, List.take_append_drop]
  refine ⟨[a], r.take (k - 2), r.drop (k - 2 + 1), x, r[k - 2], ?_, ?_⟩
  · conv => lhs; rw [hs]
    rfl
  · refine List.ext_getElem? fun i => ?_
    unfold exch
    rw [List.getElem?_map]
    by_cases hi : i < (a :: x :: r).length
    · rw [List.getElem?_range hi, Option.map_some]
      simp only [List.length_cons] at hi
      have ht : (r.take (k - 2)).length = k - 2 := by rw [List.length_take]; omega
      unfold tau
      by_cases i1 : i = 1
      · subst i1
        rw [if_pos rfl]
        have : (a :: x :: r).getD k 0 = r[k - 2] := by
          obtain ⟨t, rfl⟩ : ∃ t, k = t + 2 := ⟨k - 2, by omega⟩
          simp [List.getD, List.getElem?_eq_getElem (show t < r.length by omega)]
        rw [this]; rfl
      · rw [if_neg i1]
        by_cases ik : i = k
        · subst ik
          rw [if_pos rfl]
          have e : ([a] ++ (r[i - 2] :: r.take (i - 2) ++ x :: r.drop (i - 2 + 1)))[i]? = some x := by
            rw [List.getElem?_append_right (by simp; omega)]
            simp only [List.length_cons, List.length_nil, List.cons_append]
            obtain ⟨t, rfl⟩ : ∃ t, i = t + 2 := ⟨i - 2, by omega⟩
            have : t + 2 - (0 + 1) = t + 1 := by omega
            rw [this, List.getElem?_cons_succ, List.getElem?_append_right (by omega), ht]
            simp
          rw [e]; rfl
        · rw [if_neg ik]
          by_cases i0 : i = 0
          · subst i0; rfl
          · obtain ⟨t, rfl⟩ : ∃ t, i = t + 2 := ⟨i - 2, by omega⟩
            have e1 : (a :: x :: r).getD (t + 2) 0 = r[t]'(by omega) := by
              simp [List.getD, List.getElem?_eq_getElem (show t < r.length by omega)]
            rw [e1]
            rw [List.getElem?_append_right (by simp)]
            simp only [List.length_cons, List.length_nil, List.cons_append]
            have : t + 2 - (0 + 1) = t + 1 := by omega
            rw [this, List.getElem?_cons_succ]
            by_cases hlt : t < k - 2
            · rw [List.getElem?_append_left (by omega), List.getElem?_take, if_pos hlt, List.getElem?_eq_getElem (by omega)]
            · rw [List.getElem?_append_right (by omega), ht]
              obtain ⟨q, hq⟩ : ∃ q, t - (k - 2) = q + 1 := ⟨t - (k - 2) - 1, by omega⟩
              rw [hq, List.getElem?_cons_succ, List.getElem?_drop, show k - 2 + 1 + q = t by omega, List.getElem?_eq_getElem (by omega)]
    · rw [List.getElem?_eq_none (by simpa using hi)]
      symm
      simp only [Option.map_none]
      refine List.getElem?_eq_none ?_
      simp only [List.length_cons] at hi
      simp only [List.length_append, List.length_cons, List.length_nil, List.length_take, List.length_drop]
      omega
theorem Iv.exch (h0 : ∀ i j, w0 i j = - w0 j i) (v : Iv N w0 m R d s I rest) {k : Nat} (h1 : 1 < k) (hk : k < m) (hR : ∀ i j, R' i j = R (tau k i) (tau k j)) :
    Iv N w0 m R' d (0 - s) I (Pf.exch rest k) := by
  refine ⟨by unfold Pf.exch; simp [v.len], v.dn, fun i j => by rw [hR, hR, v.sk], ?_, ?_⟩
  · obtain ⟨A, B, C, x, y, e1, e2⟩ := exch_split (rest := rest) h1 (by rw [v.len]; exact hk)
    rw [v.all]
    rw [e2]
    conv => lhs; rw [e1]
    have a1 : I ++ (A ++ (x :: B ++ y :: C)) = (I ++ A) ++ (x :: B ++ y :: C) := by simp
    have a2 : I ++ (A ++ (y :: B ++ x :: C)) = (I ++ A) ++ (y :: B ++ x :: C) := by simp
    rw [a1, a2, swap_far (rw0_skew h0)]
    have c : ((0 - s : Int) : Rat) = - (s : Rat) := by simp
    rw [c]; grind
  · intro S hS
    have h := v.sub (S.map (tau k)) (fun i hi => by
      obtain ⟨x, hx, rfl⟩ := List.mem_map.1 hi
      exact tau_lt hk (by omega) (hS x hx))
    rw [pfs_map rfl, List.map_map] at h
    have e1 : pfs (rdv R' d) S = pfs (fun x y => rdv R d (tau k x) (tau k y)) S := pfs_congr rfl fun x y _ _ => by
      simp only [rdv]; rw [hR]
    have e2 : (S.map fun i => (Pf.exch rest k).getD i 0) = S.map ((fun i => rest.getD i 0) ∘ tau k) := List.map_congr_left fun i hi => by
      rw [exch_getD (by rw [v.len]; exact hS i hi)]; rfl
    rw [e1, h, e2]
end Pf
namespace Pf
/-- lowest terms -/
theorem low {n d : Int} (hd : d ≠ 0) : ∃ s n' d' : Int, s = (if d < 0 then -(Int.gcd n d : Int) else (Int.gcd n d : Int)) ∧ s ≠ 0 ∧ n = s * n' ∧ d = s * d' ∧ 0 < d' ∧ Int.gcd n' d' = 1 := by
  have hg : (Int.gcd n d : Int) ≠ 0 := by
    intro h
    have h0 : Int.gcd n d = 0 := by exact_mod_cast h
    exact hd (Int.gcd_eq_zero_iff.1 h0).2
  have hgp : (0 : Int) < (Int.gcd n d : Int) := by omega
  obtain ⟨a, ha⟩ := Int.gcd_dvd_left n d
  obtain ⟨b, hb⟩ := Int.gcd_dvd_right n d
  have hab : Int.gcd a b = 1 := by
    have h1 := Int.gcd_mul_left (Int.gcd n d : Int) a b
    rw [← ha, ← hb] at h1
    have h2 : (Int.gcd n d : Int).natAbs = Int.gcd n d := by simp
    rw [h2] at h1
    have h3 : 0 < Int.gcd n d := by omega
    exact Nat.eq_of_mul_eq_mul_left h3 (by omega)
  by_cases h : d < 0
  · refine ⟨-(Int.gcd n d : Int), -a, -b, by rw [if_pos h], by omega, by rw [Int.neg_mul_neg]; exact ha, by rw [Int.neg_mul_neg]; exact hb, ?_, ?_⟩
    · have hb0 : b < 0 := by
        rcases Int.lt_trichotomy b 0 with h1 | h1 | h1
        · exact h1
        · subst h1; omega
        · have := Int.mul_pos hgp h1; omega
      omega
    · rw [Int.gcd_neg, Int.neg_gcd]; exact hab
  · refine ⟨(Int.gcd n d : Int), a, b, by rw [if_neg h], by omega, ha, hb, ?_, hab⟩
    rcases Int.lt_trichotomy b 0 with h1 | h1 | h1
    · have := Int.mul_neg_of_pos_of_neg hgp h1; omega
    · subst h1; omega
    · exact h1
theorem low_rat {n d s n' d' : Int} (hs : s ≠ 0) (h1 : n = s * n') (h2 : d = s * d') (hp : 0 < d') (hg : Int.gcd n' d' = 1) : ((n : Rat) / (d : Rat)).num = n' ∧ ((((n : Rat) / (d : Rat)).den : Nat) : Int) = d' := by
  have hc : n'.natAbs.Coprime d'.toNat := by
    have : d'.toNat = d'.natAbs := by omega
    rw [this]; exact hg
  have e : (n : Rat) / (d : Rat) = Rat.mk' n' d'.toNat (by omega) hc := by
    have h3 : ∀ r : Rat, ((r.num : Int) : Rat) / (((r.den : Nat) : Int) : Rat) = r := fun r => by rw [← Rat.divInt_eq_div, Rat.num_divInt_den]
    rw [← h3 (Rat.mk' n' d'.toNat (by omega) hc)]
    have h5 : ((d'.toNat : Nat) : Int) = d' := by omega
    show (n : Rat) / (d : Rat) = (n' : Rat) / (((d'.toNat : Nat) : Int) : Rat)
    rw [h5, h1, h2]
    have hs' : (s : Rat) ≠ 0 := by
      intro q; exact hs (by exact_mod_cast q)
    have hd' : (d' : Rat) ≠ 0 := by
      intro q
      have : d' = 0 := by exact_mod_cast q
      omega
    have c1 : ((s * n' : Int) : Rat) = (s : Rat) * (n' : Rat) := by simp
    have c2 : ((s * d' : Int) : Rat) = (s : Rat) * (d' : Rat) := by simp
    rw [c1, c2]; grind
  rw [e]
  exact ⟨rfl, by show ((d'.toNat : Nat) : Int) = d'; omega⟩
end Pf
/-! the steps of Euclid's loop -/
namespace Pf
def eu (a b : Nat) : Nat := if b = 0 then 0 else if b ≤ a then (a * b).log2 + 1 else (a * b).log2 + 2
theorem log2_half {x y : Nat} (hx : x ≠ 0) (h : 2 * x ≤ y) : x.log2 + 1 ≤ y.log2 := by
  have hy : y ≠ 0 := by omega
  have h1 : 2 ^ (x.log2 + 1) ≤ y := by
    have h2 : 2 ^ x.log2 ≤ x := Nat.log2_self_le hx
    rw [Nat.pow_succ]; omega
  exact (Nat.le_log2 hy).2 h1
theorem eu_step {a b : Nat} (hb : 0 < b) : eu b (a % b) < eu a b := by
  have hr : a % b < b := Nat.mod_lt _ hb
  by_cases h : b ≤ a
  · have e : eu a b = (a * b).log2 + 1 := by unfold eu; rw [if_neg (by omega), if_pos h]
    rw [e]
    by_cases h0 : a % b = 0
    · unfold eu; rw [if_pos h0]; omega
    · have e2 : eu b (a % b) = (b * (a % b)).log2 + 1 := by unfold eu; rw [if_neg h0, if_pos (by omega)]
      rw [e2]
      have h3 : 2 * (a % b) ≤ a := by
        have h4 := Nat.div_add_mod a b
        have h5 : 1 ≤ a / b := Nat.div_pos h hb
        have h6 : b * 1 ≤ b * (a / b) := Nat.mul_le_mul_left _ h5
        omega
      have h7 : 2 * (b * (a % b)) ≤ a * b := by
        have h8 := Nat.mul_le_mul_left b h3
        have h9 : b * (2 * (a % b)) = 2 * (b * (a % b)) := by rw [Nat.mul_left_comm]
        rw [h9, Nat.mul_comm b a] at h8
        exact h8
      have hne : b * (a % b) ≠ 0 := by
        intro q
        rcases Nat.mul_eq_zero.1 q with q | q <;> omega
      have := log2_half hne h7
      omega
  · have e : eu a b = (a * b).log2 + 2 := by unfold eu; rw [if_neg (by omega), if_neg h]
    have hm : a % b = a := Nat.mod_eq_of_lt (by omega)
    rw [e, hm]
    by_cases h0 : a = 0
    · unfold eu; rw [if_pos h0]; omega
    · have e2 : eu b a = (b * a).log2 + 1 := by unfold eu; rw [if_neg h0, if_pos (by omega)]
      rw [e2, Nat.mul_comm b a]; omega
/-- few steps for numbers of so many bits -/
theorem eu_le {a b k : Nat} (ha : a < 2 ^ k) (hb : b < 2 ^ k) : eu a b ≤ 2 * k + 2 := by
  by_cases h0 : a * b = 0
  · unfold eu
    rw [h0]
    have : Nat.log2 0 = 0 := by decide
    rw [this]
    split
    · omega
    · split <;> omega
  · have h1 : a * b < 2 ^ (2 * k) := by
      have : 2 ^ (2 * k) = 2 ^ k * 2 ^ k := by rw [Nat.two_mul, Nat.pow_add]
      rw [this]
      exact Nat.mul_lt_mul'' ha hb
    have h2 := (Nat.log2_lt h0).2 h1
    unfold eu
    split
    · omega
    · split <;> omega
/-- a whole number's remainder -/
theorem fmod_nat {a b : Nat} : (a : Int).fmod (b : Int) = ((a % b : Nat) : Int) := by
  rw [Int.fmod_eq_emod_of_nonneg _ (by omega)]; rfl
end Pf
/-! sizes of fractions and of pair sums -/
namespace Pf
theorem nz {n : Nat} : (((n : Nat) : Int) : Rat) = ((n : Nat) : Rat) := rfl
theorem rat_eq (q : Rat) : q * ((q.den : Nat) : Rat) = (q.num : Rat) := by
  have h : (q.num : Rat) / (((q.den : Nat) : Int) : Rat) = q := by rw [← Rat.divInt_eq_div, Rat.num_divInt_den]
  have h0 : ((q.den : Nat) : Rat) ≠ 0 := by
    intro h
    have : q.den = 0 := by exact_mod_cast h
    exact q.den_nz this
  have h1 : (((q.den : Nat) : Int) : Rat) = ((q.den : Nat) : Rat) := nz
  rw [h1] at h
  conv => lhs; lhs; rw [← h]
  grind
/-- a fraction with a denominator that divides D, and a numerator over D of at most A -/
def Fb (D A : Nat) (q : Rat) : Prop := 0 < D ∧ ∃ z : Int, q * (D : Rat) = (z : Rat) ∧ z.natAbs ≤ A
theorem Fb.parts {D A : Nat} {q : Rat} (h : Fb D A q) : q.den ∣ D ∧ q.num.natAbs ≤ A := by
  obtain ⟨hD, z, hz, hA⟩ := h
  have h1 := rat_eq q
  have h2 : (q.num : Rat) * (D : Rat) = (z : Rat) * ((q.den : Nat) : Rat) := by rw [← h1, ← hz]; grind
  have h3 : q.num * (D : Int) = z * ((q.den : Nat) : Int) := by
    have c1 : ((q.num * (D : Int) : Int) : Rat) = (q.num : Rat) * (D : Rat) := by simp [nz]
    have c2 : ((z * ((q.den : Nat) : Int) : Int) : Rat) = (z : Rat) * ((q.den : Nat) : Rat) := by simp [nz]
    rw [← c1, ← c2] at h2
    exact_mod_cast h2
  have h4 : q.num.natAbs * D = z.natAbs * q.den := by
    have := congrArg Int.natAbs h3
    simpa [Int.natAbs_mul] using this
  have h5 : q.den ∣ q.num.natAbs * D := ⟨z.natAbs, by rw [h4, Nat.mul_comm]⟩
  have h6 : q.den ∣ D := Nat.Coprime.dvd_of_dvd_mul_left q.reduced.symm h5
  refine ⟨h6, ?_⟩
  obtain ⟨c, rfl⟩ := h6
  have hc : 0 < c := Nat.pos_of_ne_zero fun h => by subst h; simp at hD
  have h7 : z.natAbs = q.num.natAbs * c := by
    have : q.den * (q.num.natAbs * c) = q.den * z.natAbs := by
      rw [Nat.mul_comm q.den z.natAbs, ← h4, Nat.mul_left_comm]
    exact (Nat.eq_of_mul_eq_mul_left q.den_pos this).symm
  have : q.num.natAbs * 1 ≤ q.num.natAbs * c := Nat.mul_le_mul_left _ hc
  omega
theorem Fb.den_le {D A : Nat} {q : Rat} (h : Fb D A q) : q.den ≤ D := Nat.le_of_dvd h.1 h.parts.1
theorem Fb.add {D A B : Nat} {p q : Rat} (h : Fb D A p) (h2 : Fb D B q) : Fb D (A + B) (p + q) := by
  obtain ⟨hD, z, hz, hA⟩ := h
  obtain ⟨_, y, hy, hB⟩ := h2
  refine ⟨hD, z + y, ?_, by omega⟩
  have : ((z + y : Int) : Rat) = (z : Rat) + (y : Rat) := by simp
  rw [this, ← hz, ← hy]; grind
theorem Fb.neg {D A : Nat} {q : Rat} (h : Fb D A q) : Fb D A (-q) := by
  obtain ⟨hD, z, hz, hA⟩ := h
  refine ⟨hD, -z, ?_, by omega⟩
  have : ((-z : Int) : Rat) = - (z : Rat) := by simp
  rw [this, ← hz]; grind
theorem Fb.mul {D E A B : Nat} {p q : Rat} (h : Fb D A p) (h2 : Fb E B q) : Fb (D * E) (A * B) (p * q) := by
  obtain ⟨hD, z, hz, hA⟩ := h
  obtain ⟨hE, y, hy, hB⟩ := h2
  refine ⟨Nat.mul_pos hD hE, z * y, ?_, ?_⟩
  · have : ((z * y : Int) : Rat) = (z : Rat) * (y : Rat) := by simp
    have c : ((D * E : Nat) : Rat) = (D : Rat) * (E : Rat) := by simp
    rw [this, ← hz, ← hy, c]; grind
  · rw [Int.natAbs_mul]
    exact Nat.mul_le_mul hA hB
theorem Fb.zero {D A : Nat} (hD : 0 < D) : Fb D A 0 := ⟨hD, 0, by simp, by simp⟩
theorem Fb.mono {D A B : Nat} {q : Rat} (h : Fb D A q) (hB : A ≤ B) : Fb D B q := by
  obtain ⟨hD, z, hz, hA⟩ := h
  exact ⟨hD, z, hz, by omega⟩
theorem Fb.up {D A C : Nat} {q : Rat} (hC : 0 < C) (h : Fb D A q) : Fb (D * C) (A * C) q := by
  obtain ⟨hD, z, hz, hA⟩ := h
  refine ⟨Nat.mul_pos hD hC, z * C, ?_, ?_⟩
  · have : ((z * C : Int) : Rat) = (z : Rat) * (C : Rat) := by simp [nz]
    have c : ((D * C : Nat) : Rat) = (D : Rat) * (C : Rat) := by simp
    rw [this, ← hz, c]; grind
  · rw [Int.natAbs_mul]
    exact Nat.mul_le_mul_right _ hA
theorem Fb.of {D A : Nat} {a : Int} {b : Nat} (hb : 0 < b) (hD : 0 < D) (h : b ∣ D) (hA : a.natAbs * (D / b) ≤ A) : Fb D A ((a : Rat) / (b : Rat)) := by
  obtain ⟨c, rfl⟩ := h
  rw [Nat.mul_div_cancel_left _ hb] at hA
  refine ⟨hD, a * c, ?_, ?_⟩
  · have : ((a * c : Int) : Rat) = (a : Rat) * (c : Rat) := by simp [nz]
    have c : ((b * c : Nat) : Rat) = (b : Rat) * (c : Rat) := by simp
    have hb' : (b : Rat) ≠ 0 := by
      intro q
      have : b = 0 := by exact_mod_cast q
      omega
    rw [this, c]; grind
  · rw [Int.natAbs_mul]; exact hA
theorem Fb.own (q : Rat) : Fb q.den q.num.natAbs q := ⟨q.den_pos, q.num, rat_eq q, Nat.le_refl _⟩
/-! ### sizes of sums -/
def Bd (B x : Rat) : Prop := -B ≤ x ∧ x ≤ B
theorem mul_nn {a b : Rat} (ha : 0 ≤ a) (hb : 0 ≤ b) : 0 ≤ a * b := Rat.mul_nonneg ha hb
theorem Bd.nn {B x : Rat} (h : Bd B x) : 0 ≤ B := by obtain ⟨h1, h2⟩ := h; grind
theorem Bd.mul {A B x y : Rat} (h : Bd A x) (h2 : Bd B y) : Bd (A * B) (x * y) := by
  obtain ⟨a1, a2⟩ := h
  obtain ⟨b1, b2⟩ := h2
  have p1 := mul_nn (a := A - x) (b := B + y) (by grind) (by grind)
  have p2 := mul_nn (a := A + x) (b := B - y) (by grind) (by grind)
  have p3 := mul_nn (a := A - x) (b := B - y) (by grind) (by grind)
  have p4 := mul_nn (a := A + x) (b := B + y) (by grind) (by grind)
  constructor <;> grind
theorem Bd.add {A B x y : Rat} (h : Bd A x) (h2 : Bd B y) : Bd (A + B) (x + y) := by
  obtain ⟨a1, a2⟩ := h
  obtain ⟨b1, b2⟩ := h2
  constructor <;> grind
theorem Bd.mono {A B x : Rat} (h : Bd A x) (hB : A ≤ B) : Bd B x := by
  obtain ⟨a1, a2⟩ := h
  constructor <;> grind
theorem Bd.sm {B : Rat} : ∀ {n : Nat} {f : Nat → Rat}, (∀ i, i < n → Bd B (f i)) → Bd ((n : Rat) * B) (sm n f)
  | 0, f, _ => by
    have e : ((0 : Nat) : Rat) = 0 := by simp
    simp only [Pf.sm, e]; constructor <;> grind
  | n + 1, f, h => by
    have ih := Bd.sm (n := n) (f := f) fun i hi => h i (by omega)
    have := ih.add (h n (by omega))
    have e : ((n + 1 : Nat) : Rat) = (n : Rat) + 1 := by simp
    have e2 : ((n + 1 : Nat) : Rat) * B = (n : Rat) * B + B := by rw [e]; grind
    rw [e2]
    exact this
theorem Bd.sg {n : Nat} : Bd 1 (sg n) := by
  unfold Pf.sg
  split <;> constructor <;> grind
theorem nat_le {a b : Nat} (h : a ≤ b) : (a : Rat) ≤ (b : Rat) := by exact_mod_cast h
theorem pow_cast {C k : Nat} : ((C ^ k : Nat) : Rat) = (C : Rat) ^ k := by simp
/-- the size of a pair sum -/
theorem pfs_bd {V : Type} {w : V → V → Rat} {A N : Nat} (hA : 0 < A) (hN : 0 < N) : ∀ {k : Nat} {L : List V}, (∀ x y, x ∈ L → y ∈ L → Bd (A : Rat) (w x y)) → L.length ≤ k → L.length ≤ N → Bd (((N * A) ^ k : Nat) : Rat) (pfs w L)
  | k, [], _, _, _ => by
    rw [pfs_nil]
    have h1 : 1 ≤ (N * A) ^ k := Nat.one_le_pow _ _ (Nat.mul_pos hN hA)
    have h2 := nat_le h1
    have e : ((1 : Nat) : Rat) = 1 := by simp
    rw [e] at h2
    constructor <;> grind
  | 0, v :: L, _, h, _ => by simp at h
  | k + 1, v :: L, hw, hk, hN2 => by
    rw [List.length_cons] at hk hN2
    rw [pfs_cons]
    have h1 : Bd ((L.length : Rat) * ((A : Rat) * (((N * A) ^ k : Nat) : Rat))) (Pf.sm L.length (fun k => Pf.sg k * at' w v L[k]? * pfs w (L.eraseIdx k))) := by
      refine Bd.sm fun i hi => ?_
      have hx : L[i]? = some L[i] := List.getElem?_eq_getElem hi
      rw [hx]
      have hm : L[i] ∈ L := List.getElem_mem _
      have ih := pfs_bd hA hN (k := k) (L := L.eraseIdx i) (fun x y hx hy => hw x y (List.mem_cons_of_mem _ (List.mem_of_mem_eraseIdx hx)) (List.mem_cons_of_mem _ (List.mem_of_mem_eraseIdx hy))) (by rw [List.length_eraseIdx_of_lt hi]; omega) (by rw [List.length_eraseIdx_of_lt hi]; omega)
      have h2 := ((Bd.sg (n := i)).mul (hw v L[i] (List.mem_cons_self ..) (List.mem_cons_of_mem _ hm))).mul ih
      have e : (1 : Rat) * (A : Rat) * (((N * A) ^ k : Nat) : Rat) = (A : Rat) * (((N * A) ^ k : Nat) : Rat) := by grind
      rw [e] at h2
      exact h2
    refine h1.mono ?_
    have e2 : L.length * (A * (N * A) ^ k) ≤ (N * A) ^ (k + 1) := by
      rw [Nat.pow_succ, Nat.mul_comm ((N * A) ^ k), Nat.mul_assoc N A]
      exact Nat.mul_le_mul_right _ (by omega)
    have e3 := nat_le e2
    have c : ((L.length * (A * (N * A) ^ k) : Nat) : Rat) = (L.length : Rat) * ((A : Rat) * (((N * A) ^ k : Nat) : Rat)) := by simp
    rw [c] at e3
    exact e3
theorem bd_int {z : Int} {A : Nat} : Bd (A : Rat) (z : Rat) ↔ z.natAbs ≤ A := by
  constructor
  · rintro ⟨h1, h2⟩
    have c : ((A : Int) : Rat) = (A : Rat) := nz
    have c2 : ((-(A : Int) : Int) : Rat) = - (A : Rat) := by simp [nz]
    rw [← c2] at h1
    rw [← c] at h2
    have h1 : -(A : Int) ≤ z := by exact_mod_cast h1
    have h2 : z ≤ (A : Int) := by exact_mod_cast h2
    omega
  · intro h
    have h1 : -(A : Int) ≤ z := by omega
    have h2 : z ≤ (A : Int) := by omega
    have c : ((A : Int) : Rat) = (A : Rat) := nz
    have c2 : ((-(A : Int) : Int) : Rat) = - (A : Rat) := by simp [nz]
    constructor
    · rw [← c2]; exact_mod_cast h1
    · rw [← c]; exact_mod_cast h2
theorem Fb.bd {D A : Nat} {q : Rat} (h : Fb D A q) {m : Nat} (hm : m ∣ D) (hq : q.den ∣ m) : ∃ x : Int, q * (m : Rat) = (x : Rat) ∧ x = q.num * ((m / q.den : Nat) : Int) ∧ x.natAbs ≤ A := by
  obtain ⟨c, rfl⟩ := hq
  rw [Nat.mul_div_cancel_left _ q.den_pos]
  have h1 := rat_eq q
  refine ⟨q.num * (c : Int), ?_, rfl, ?_⟩
  · have c1 : ((q.num * (c : Int) : Int) : Rat) = (q.num : Rat) * (c : Rat) := by simp [nz]
    have c2 : ((q.den * c : Nat) : Rat) = (q.den : Rat) * (c : Rat) := by simp
    rw [c1, c2, ← h1]; grind
  · obtain ⟨hD, z, hz, hA⟩ := h
    obtain ⟨e, rfl⟩ := hm
    have he : 0 < e := Nat.pos_of_ne_zero fun h => by subst h; simp at hD
    have h2 : (z : Rat) = ((q.num * (c : Int) * (e : Int) : Int) : Rat) := by
      have c1 : ((q.num * (c : Int) * (e : Int) : Int) : Rat) = (q.num : Rat) * (c : Rat) * (e : Rat) := by simp [nz]
      have c2 : ((q.den * c * e : Nat) : Rat) = (q.den : Rat) * (c : Rat) * (e : Rat) := by simp
      rw [← hz, c1, c2, ← h1]; grind
    have h3 : z = q.num * (c : Int) * (e : Int) := by exact_mod_cast h2
    subst h3
    rw [Int.natAbs_mul] at hA
    have : (q.num * (c : Int)).natAbs * 1 ≤ (q.num * (c : Int)).natAbs * (e : Int).natAbs := Nat.mul_le_mul_left _ (by omega)
    omega
end Pf
/-! pair sums of changed matrices -/
namespace Pf
variable {M : Nat → Nat → Rat} {n : Nat}
theorem range_cut {a : Nat} (h : a < n) : List.range n = List.range a ++ a :: List.range' (a + 1) (n - a - 1) := by
  rw [List.range_eq_range', List.range_eq_range']
  have e : n = a + (1 + (n - a - 1)) := by omega
  conv => lhs; rw [e]
  rw [← List.range'_append_1, ← List.range'_append_1]
  simp
theorem range_cut2 {a b : Nat} (h : a < b) (hb : b < n) : List.range n = List.range a ++ (a :: List.range' (a + 1) (b - a - 1) ++ b :: List.range' (b + 1) (n - b - 1)) := by
  rw [range_cut (show a < n by omega)]
  have e : n - a - 1 = (b - a - 1) + (1 + (n - b - 1)) := by omega
  rw [e, ← List.range'_append_1, ← List.range'_append_1]
  have e2 : a + 1 + (b - a - 1) = b := by omega
  rw [e2]
  simp
/-- two places exchanged -/
def sw (a b i : Nat) : Nat := if i = b then a else if i = a then b else i
theorem sw_id {a b : Nat} : ∀ {L : List Nat}, (∀ i, i ∈ L → i ≠ a ∧ i ≠ b) → L.map (sw a b) = L
  | [], _ => rfl
  | x :: L, h => by
    have hx := h x (List.mem_cons_self ..)
    rw [List.map_cons, sw_id fun i hi => h i (List.mem_cons_of_mem _ hi)]
    congr 1
    unfold sw
    rw [if_neg hx.2, if_neg hx.1]
theorem sw_comm {a b i : Nat} : sw a b i = sw b a i := by
  unfold sw
  repeat' split
  all_goals omega
theorem pfs_sw_lt (hs : ∀ i j, M i j = - M j i) {a b : Nat} (h : a < b) (hb : b < n) : pfs (fun i j => M (sw a b i) (sw a b j)) (List.range n) = - pfs M (List.range n) := by
  have hm := pfs_map (w := M) (f := sw a b) (L := List.range n) rfl
  rw [← hm]
  have e : (List.range n).map (sw a b) = List.range a ++ (b :: List.range' (a + 1) (b - a - 1) ++ a :: List.range' (b + 1) (n - b - 1)) := by
    rw [range_cut2 h hb, List.map_append, List.map_append, List.map_cons, List.map_cons]
    rw [sw_id (L := List.range a) (fun i hi => by have := List.mem_range.1 hi; omega)]
    rw [sw_id (L := List.range' (a + 1) (b - a - 1)) (fun i hi => by have := List.mem_range'_1.1 hi; omega)]
    rw [sw_id (L := List.range' (b + 1) (n - b - 1)) (fun i hi => by have := List.mem_range'_1.1 hi; omega)]
    have h1 : sw a b a = b := by unfold sw; rw [if_neg (by omega), if_pos rfl]
    have h2 : sw a b b = a := by unfold sw; rw [if_pos rfl]
    rw [h1, h2]
  rw [e, range_cut2 h hb, swap_far (w := M) hs]
theorem pfs_sw (hs : ∀ i j, M i j = - M j i) {a b : Nat} (hab : a ≠ b) (ha : a < n) (hb : b < n) : pfs (fun i j => M (sw a b i) (sw a b j)) (List.range n) = - pfs M (List.range n) := by
  rcases Nat.lt_or_gt_of_ne hab with h | h
  · exact pfs_sw_lt hs h hb
  · have := pfs_sw_lt (n := n) hs h ha
    rw [← this]
    exact pfs_congr rfl fun x y _ _ => by rw [sw_comm (i := x), sw_comm (i := y)]
/-! a row scaled -/
theorem pfs_row {V : Type} {w w2 : V → V → Rat} {x : V} {c : Rat} {L : List V} (h1 : ∀ y, y ∈ L → w2 x y = c * w x y) (h2 : ∀ y z, y ∈ L → z ∈ L → w2 y z = w y z) : pfs w2 (x :: L) = c * pfs w (x :: L) := by
  rw [pfs_cons, pfs_cons, ← sm_mul]
  refine sm_congr fun k hk => ?_
  have e : L[k]? = some L[k] := List.getElem?_eq_getElem hk
  rw [e]
  have e2 : pfs w2 (L.eraseIdx k) = pfs w (L.eraseIdx k) := pfs_congr rfl fun y z hy hz => h2 y z (List.mem_of_mem_eraseIdx hy) (List.mem_of_mem_eraseIdx hz)
  rw [e2]
  simp only [at']
  rw [h1 _ (List.getElem_mem _)]
  grind
theorem mem_cut {a x : Nat} (h : a < n) : x ∈ List.range a ++ List.range' (a + 1) (n - a - 1) ↔ x < n ∧ x ≠ a := by
  rw [List.mem_append, List.mem_range, List.mem_range'_1]
  omega
/-- row and column a times c -/
theorem pfs_mulrow {M2 : Nat → Nat → Rat} (hs : ∀ i j, M i j = - M j i) (hs2 : ∀ i j, M2 i j = - M2 j i) {a : Nat} {c : Rat} (ha : a < n) (h1 : ∀ y, y < n → y ≠ a → M2 a y = c * M a y) (h2 : ∀ y z, y < n → z < n → y ≠ a → z ≠ a → M2 y z = M y z) : pfs M2 (List.range n) = c * pfs M (List.range n) := by
  rw [range_cut ha, to_front (w := M) hs rfl, to_front (w := M2) hs2 rfl]
  have := pfs_row (w := M) (w2 := M2) (x := a) (c := c) (L := List.range a ++ List.range' (a + 1) (n - a - 1)) (fun y hy => h1 y ((mem_cut ha).1 hy).1 ((mem_cut ha).1 hy).2) (fun y z hy hz => h2 y z ((mem_cut ha).1 hy).1 ((mem_cut ha).1 hz).1 ((mem_cut ha).1 hy).2 ((mem_cut ha).1 hz).2)
  show sg _ * pfs M2 (a :: (List.range a ++ List.range' (a + 1) (n - a - 1))) = c * (sg _ * pfs M (a :: (List.range a ++ List.range' (a + 1) (n - a - 1))))
  rw [this]
  grind
/-! a multiple of row a added to row o -/
theorem pfs_addto {V : Type} {w : V → V → Rat} (hw : ∀ a b, w a b = - w b a) {v u a : V} {c : Rat} {A B C : List V} (h : ∀ y, w v y = w u y + c * w a y) :
    pfs w (A ++ (a :: B ++ v :: C)) = pfs w (A ++ (a :: B ++ u :: C)) ∧ pfs w (A ++ (v :: B ++ a :: C)) = pfs w (A ++ (u :: B ++ a :: C)) := by
  constructor
  · have e1 : A ++ (a :: B ++ v :: C) = A ++ a :: (B ++ v :: C) := by simp
    have e2 : A ++ (a :: B ++ u :: C) = A ++ a :: (B ++ u :: C) := by simp
    rw [e1, e2, to_front hw rfl, to_front hw rfl]
    have e3 : a :: A ++ (B ++ v :: C) = a :: (A ++ B) ++ v :: C := by simp
    have e4 : a :: A ++ (B ++ u :: C) = a :: (A ++ B) ++ u :: C := by simp
    rw [e3, e4, pfs_addrow hw h]
  · have e1 : A ++ (v :: B ++ a :: C) = (A ++ v :: B) ++ a :: C := by simp
    have e2 : A ++ (u :: B ++ a :: C) = (A ++ u :: B) ++ a :: C := by simp
    rw [e1, e2, to_front hw (n := (A ++ v :: B).length) rfl, to_front hw (n := (A ++ u :: B).length) rfl]
    have e3 : a :: (A ++ v :: B) ++ C = a :: A ++ v :: (B ++ C) := by simp
    have e4 : a :: (A ++ u :: B) ++ C = a :: A ++ u :: (B ++ C) := by simp
    rw [e3, e4, pfs_addrow hw h]
    simp
/-- the form with one more place n: row o + c * row a -/
def ext (M : Nat → Nat → Rat) (n a o : Nat) (c : Rat) (i j : Nat) : Rat :=
  if i = n then (if j = n then 0 else M o j + c * M a j) else if j = n then - (M o i + c * M a i) else M i j
theorem ext_sk (hs : ∀ i j, M i j = - M j i) {a o : Nat} {c : Rat} (i j : Nat) : ext M n a o c i j = - ext M n a o c j i := by
  unfold ext
  by_cases h1 : i = n <;> by_cases h2 : j = n
  · rw [if_pos h1, if_pos h2, if_pos h2, if_pos h1]; grind
  · rw [if_pos h1, if_neg h2, if_neg h2, if_pos h1]; grind
  · rw [if_neg h1, if_pos h2, if_pos h2, if_neg h1]
  · rw [if_neg h1, if_neg h2, if_neg h2, if_neg h1]; exact hs i j
/-- what combined computes -/
def comb (M : Nat → Nat → Rat) (a o : Nat) (c : Rat) (i j : Nat) : Rat :=
  if i = o then (if j = o then 0 else M o j + c * M a j) else if j = o then M i o + c * M i a else M i j
theorem comb_sk (hs : ∀ i j, M i j = - M j i) {a o : Nat} {c : Rat} (i j : Nat) : comb M a o c i j = - comb M a o c j i := by
  unfold comb
  by_cases h1 : i = o <;> by_cases h2 : j = o
  · rw [if_pos h1, if_pos h2, if_pos h2, if_pos h1]; grind
  · rw [if_pos h1, if_neg h2, if_neg h2, if_pos h1, hs o j, hs a j]; grind
  · rw [if_neg h1, if_pos h2, if_pos h2, if_neg h1, hs i o, hs i a]; grind
  · rw [if_neg h1, if_neg h2, if_neg h2, if_neg h1]; exact hs i j
theorem self_zero (hs : ∀ i j, M i j = - M j i) (i : Nat) : M i i = 0 := by
  have := hs i i
  grind
theorem map_keep {f : Nat → Nat} : ∀ {L : List Nat}, (∀ i, i ∈ L → f i = i) → L.map f = L
  | [], _ => rfl
  | x :: L, h => by
    rw [List.map_cons, map_keep fun i hi => h i (List.mem_cons_of_mem _ hi), h x (List.mem_cons_self ..)]
theorem pfs_comb (hs : ∀ i j, M i j = - M j i) {a o : Nat} {c : Rat} (hao : a ≠ o) (ha : a < n) (ho : o < n) : pfs (comb M a o c) (List.range n) = pfs M (List.range n) := by
  have e1 : pfs (ext M n a o c) (List.range n) = pfs M (List.range n) := pfs_congr rfl fun x y hx hy => by
    have hx := List.mem_range.1 hx
    have hy := List.mem_range.1 hy
    unfold ext
    rw [if_neg (by omega), if_neg (by omega)]
  have hm := pfs_map (w := ext M n a o c) (f := fun i => if i = o then n else i) (L := List.range n) rfl
  have e2 : pfs (fun x y => ext M n a o c (if x = o then n else x) (if y = o then n else y)) (List.range n) = pfs (comb M a o c) (List.range n) := pfs_congr rfl fun x y hx hy => by
    have hx := List.mem_range.1 hx
    have hy := List.mem_range.1 hy
    have hxn : x ≠ n := by omega
    have hyn : y ≠ n := by omega
    unfold ext comb
    by_cases h1 : x = o <;> by_cases h2 : y = o
    · simp [h1, h2]
    · simp [h1, h2, hyn]
    · simp [h1, h2, hxn]
      rw [hs o x, hs a x]; grind
    · simp [h1, h2, hxn, hyn]
  rw [← e2, ← hm, ← e1]
  have hv : ∀ y, ext M n a o c n y = ext M n a o c o y + c * ext M n a o c a y := by
    intro y
    have h1 : ¬ o = n := by omega
    have h2 : ¬ a = n := by omega
    unfold ext
    by_cases hy : y = n
    · have z1 := self_zero hs o
      have z2 := self_zero hs a
      have z3 := hs a o
      simp [hy, h1, h2, z1, z2]
      rw [z3]; grind
    · simp [hy, h1, h2]
  have fo : (if o = o then n else o) = n := by simp
  have fa : (if a = o then n else a) = a := by simp [hao]
  have hadd := fun A B C => pfs_addto (w := ext M n a o c) (ext_sk hs) (v := n) (u := o) (a := a) (c := c) (A := A) (B := B) (C := C) hv
  rcases Nat.lt_or_gt_of_ne hao with h | h
  · rw [range_cut2 h ho, List.map_append, List.map_append, List.map_cons, List.map_cons, fo, fa]
    rw [map_keep (L := List.range a) (fun i hi => by have := List.mem_range.1 hi; rw [if_neg (by omega)])]
    rw [map_keep (L := List.range' (a + 1) (o - a - 1)) (fun i hi => by have := List.mem_range'_1.1 hi; rw [if_neg (by omega)])]
    rw [map_keep (L := List.range' (o + 1) (n - o - 1)) (fun i hi => by have := List.mem_range'_1.1 hi; rw [if_neg (by omega)])]
    exact (hadd _ _ _).1
  · rw [range_cut2 h ha, List.map_append, List.map_append, List.map_cons, List.map_cons, fo, fa]
    rw [map_keep (L := List.range o) (fun i hi => by have := List.mem_range.1 hi; rw [if_neg (by omega)])]
    rw [map_keep (L := List.range' (o + 1) (a - o - 1)) (fun i hi => by have := List.mem_range'_1.1 hi; rw [if_neg (by omega)])]
    rw [map_keep (L := List.range' (a + 1) (n - a - 1)) (fun i hi => by have := List.mem_range'_1.1 hi; rw [if_neg (by omega)])]
    exact (hadd _ _ _).2
/-! blocks -/
def blk (M M2 : Nat → Nat → Rat) (n : Nat) (i j : Nat) : Rat :=
  if i < n then (if j < n then M i j else 0) else if j < n then 0 else M2 (i - n) (j - n)
theorem pfs_blk {M2 : Nat → Nat → Rat} {m : Nat} (hm : m % 2 = 0) : pfs (blk M M2 n) (List.range (n + m)) = pfs M (List.range n) * pfs M2 (List.range m) := by
  rcases Nat.mod_two_eq_zero_or_one n with h | h
  · rw [List.range_add]
    rw [pfs_blocks (n := n) (by simp) (fun x y hx hy => by
      have hx := List.mem_range.1 hx
      obtain ⟨z, _, rfl⟩ := List.mem_map.1 hy
      unfold blk
      rw [if_pos hx, if_neg (by omega)]) h]
    congr 1
    · refine pfs_congr rfl fun x y hx hy => ?_
      unfold blk
      rw [if_pos (List.mem_range.1 hx), if_pos (List.mem_range.1 hy)]
    · rw [pfs_map rfl]
      refine pfs_congr rfl fun x y hx hy => ?_
      unfold blk
      rw [if_neg (by omega), if_neg (by omega)]
      congr 1 <;> omega
  · have e1 : pfs (blk M M2 n) (List.range (n + m)) = 0 := pfs_odd (n := n + m) (by simp) (by omega)
    have e2 : pfs M (List.range n) = 0 := pfs_odd (n := n) (by simp) h
    rw [e1, e2]; grind
/-! a band -/
theorem pfs_first {V : Type} {w : V → V → Rat} {x y : V} {L : List V} (h : ∀ z, z ∈ L → w x z = 0) : pfs w (x :: y :: L) = w x y * pfs w L := by
  rw [pfs_cons]
  have e : (y :: L).length = L.length + 1 := rfl
  rw [e, sm_first]
  have e2 : sm L.length (fun i => sg (i + 1) * at' w x (y :: L)[i + 1]? * pfs w ((y :: L).eraseIdx (i + 1))) = sm L.length (fun _ => 0) := sm_congr fun i hi => by
    have e3 : (y :: L)[i + 1]? = some L[i] := by simp [hi]
    rw [e3]
    simp only [at']
    rw [h _ (List.getElem_mem _)]
    grind
  rw [e2, sm_zero]
  simp only [List.getElem?_cons_zero, at', sg_zero, List.eraseIdx_cons_zero]
  grind
def bprod (w : Nat → Nat → Rat) (k : Nat) : Nat → Rat
  | 0 => 1
  | m + 1 => w k (k + 1) * bprod w (k + 2) m
theorem pfs_band {w : Nat → Nat → Rat} (h : ∀ i j, i + 2 ≤ j → w i j = 0) : ∀ {m k : Nat}, pfs w (List.range' k (2 * m)) = bprod w k m
  | 0, k => rfl
  | m + 1, k => by
    have e : List.range' k (2 * (m + 1)) = k :: (k + 1) :: List.range' (k + 2) (2 * m) := by
      have : 2 * (m + 1) = 2 * m + 1 + 1 := by omega
      rw [this, List.range'_succ, List.range'_succ]
    rw [e, pfs_first fun z hz => h k z (List.mem_range'_1.1 hz).1, pfs_band h]
    rfl
/-! ones above the diagonal -/
theorem sm_sg : ∀ {m : Nat}, sm (2 * m) sg = 0
  | 0 => rfl
  | m + 1 => by
    have e : 2 * (m + 1) = 2 * m + 1 + 1 := by omega
    rw [e]
    simp only [sm, sm_sg, sg_succ]
    grind
theorem pfs_ones {w : Nat → Nat → Rat} (h : ∀ i j, i < j → w i j = 1) : ∀ {m : Nat} {L : List Nat}, L.length = 2 * m → L.Pairwise (· < ·) → pfs w L = 1
  | 0, [], _, _ => rfl
  | 0, _ :: _, hl, _ => by simp at hl
  | m + 1, [], hl, _ => by simp at hl
  | m + 1, x :: L, hl, hp => by
    rw [List.length_cons] at hl
    rw [pfs_cons]
    have e : L.length = 2 * m + 1 := by omega
    have e2 : sm L.length (fun k => sg k * at' w x L[k]? * pfs w (L.eraseIdx k)) = sm L.length sg := sm_congr fun i hi => by
      have e3 : L[i]? = some L[i] := List.getElem?_eq_getElem hi
      rw [e3]
      simp only [at']
      rw [h x L[i] ((List.pairwise_cons.1 hp).1 _ (List.getElem_mem _))]
      rw [pfs_ones h (m := m) (L := L.eraseIdx i) (by rw [List.length_eraseIdx_of_lt hi]; omega) ((List.pairwise_cons.1 hp).2.sublist (List.eraseIdx_sublist ..))]
      grind
    rw [e2, e]
    simp only [sm, sm_sg]
    unfold sg
    rw [if_pos (by omega)]
    grind
end Pf
/-! pair sums without rows; by a row -/
namespace Pf
variable {M : Nat → Nat → Rat} {n : Nat}
/-- the terms of the definition -/
def tm (M : Nat → Nat → Rat) (v : Nat) (L : List Nat) (k : Nat) : Rat := sg k * at' M v L[k]? * pfs M (L.eraseIdx k)
theorem Fb.sm {D B : Nat} (hD : 0 < D) : ∀ {t : Nat} {f : Nat → Rat}, (∀ k, k < t → Fb D B (f k)) → Fb D (t * B) (sm t f)
  | 0, f, _ => by simp only [Pf.sm]; exact Fb.zero hD
  | t + 1, f, h => by
    have := (Fb.sm hD (t := t) fun k hk => h k (by omega)).add (h t (by omega))
    rw [Nat.succ_mul]
    exact this
theorem Fb.sgn {D A k : Nat} {q : Rat} (h : Fb D A q) : Fb D A (sg k * q) := by
  unfold sg
  split
  · have : (1 : Rat) * q = q := by grind
    rw [this]; exact h
  · have : (-1 : Rat) * q = -q := by grind
    rw [this]; exact h.neg
theorem fb_tm {D A N : Nat} (hD : 0 < D) (hA : 0 < A) (hM : ∀ i j, Fb D A (M i j)) : ∀ {n : Nat} {v : Nat} {L : List Nat} {t : Nat}, L.length = n → n + 1 ≤ N → t ≤ n → Fb (D ^ (n + 1)) ((N * A * D) ^ (n + 1)) (sm t (tm M v L))
  | 0, v, L, t, hl, hN, ht => by
    have : t = 0 := by omega
    subst this
    simp only [sm]
    exact Fb.zero (Nat.pow_pos hD)
  | n + 1, v, L, t, hl, hN, ht => by
    have hC : 0 < N * A * D := Nat.mul_pos (Nat.mul_pos (by omega) hA) hD
    have hterm : ∀ k, k < t → Fb (D ^ (n + 1 + 1)) (A * (N * A * D) ^ n * D) (tm M v L k) := by
      intro k hk
      have hkl : k < L.length := by omega
      have he : (L.eraseIdx k).length = n := by rw [List.length_eraseIdx_of_lt hkl]; omega
      have hp : Fb (D ^ n) ((N * A * D) ^ n) (pfs M (L.eraseIdx k)) := by
        cases n with
        | zero =>
          have : L.eraseIdx k = [] := List.eq_nil_of_length_eq_zero he
          rw [this, pfs_nil]
          exact ⟨by simp, 1, by simp, by simp⟩
        | succ n =>
          match hE : L.eraseIdx k, he with
          | [], he => simp at he
          | x :: E, he =>
            rw [List.length_cons] at he
            rw [pfs_cons]
            have hEl : E.length = n := by omega
            rw [hEl]
            exact fb_tm hD hA hM (v := x) (L := E) hEl (by omega) (Nat.le_refl _)
      have hx : L[k]? = some L[k] := List.getElem?_eq_getElem hkl
      unfold tm
      rw [hx]
      have h1 := (((hM v L[k]).mul hp).up hD).sgn (k := k)
      have e1 : D * D ^ n * D = D ^ (n + 1 + 1) := by
        rw [Nat.pow_succ, Nat.pow_succ]
        congr 1
        exact Nat.mul_comm _ _
      rw [e1] at h1
      have e2 : sg k * at' M v (some L[k]) * pfs M (L.eraseIdx k) = sg k * (M v L[k] * pfs M (L.eraseIdx k)) := by
        simp only [at']; grind
      rw [e2]
      exact h1
    refine (Fb.sm (Nat.pow_pos hD) hterm).mono ?_
    have e3 : t * (A * (N * A * D) ^ n * D) = t * A * D * (N * A * D) ^ n := by
      rw [Nat.mul_right_comm A, ← Nat.mul_assoc, ← Nat.mul_assoc]
    rw [e3]
    have h1 : t * A * D ≤ N * A * D := Nat.mul_le_mul_right _ (Nat.mul_le_mul_right _ (by omega))
    have h2 : t * A * D * (N * A * D) ^ n ≤ N * A * D * (N * A * D) ^ n := Nat.mul_le_mul_right _ h1
    have h3 : N * A * D * (N * A * D) ^ n = (N * A * D) ^ (n + 1) := by rw [Nat.pow_succ, Nat.mul_comm]
    have h4 : (N * A * D) ^ (n + 1) ≤ (N * A * D) ^ (n + 1 + 1) := Nat.pow_le_pow_right hC (by omega)
    omega
theorem pfs_tm {v : Nat} {L : List Nat} : pfs M (v :: L) = sm L.length (tm M v L) := pfs_cons
theorem fb_pfs {D A N : Nat} (hD : 0 < D) (hA : 0 < A) (hM : ∀ i j, Fb D A (M i j)) {L : List Nat} (hN : L.length ≤ N) : Fb (D ^ L.length) ((N * A * D) ^ L.length) (pfs M L) := by
  cases L with
  | nil => rw [pfs_nil]; exact ⟨by simp, 1, by simp, by simp⟩
  | cons v L =>
    rw [pfs_tm]
    exact fb_tm hD hA hM rfl hN (Nat.le_refl _)
/-- a place taken out of a row without repetitions -/
theorem erase_filter : ∀ {L : List Nat} {k c : Nat}, L.Nodup → L[k]? = some c → L.eraseIdx k = L.filter fun x => decide (x ≠ c)
  | [], k, c, _, h => by simp at h
  | x :: L, 0, c, hn, h => by
    have : x = c := by simpa using h
    subst this
    have h2 := (List.nodup_cons.1 hn).1
    rw [List.eraseIdx_cons_zero, List.filter_cons_of_neg (by simp)]
    symm
    rw [List.filter_eq_self]
    intro y hy
    have : y ≠ x := fun e => h2 (e ▸ hy)
    simp [this]
  | x :: L, k + 1, c, hn, h => by
    have h3 : L[k]? = some c := by simpa using h
    have hm : c ∈ L := List.mem_of_getElem? h3
    have hx : x ≠ c := fun e => (List.nodup_cons.1 hn).1 (e ▸ hm)
    rw [List.eraseIdx_cons_succ, erase_filter (List.nodup_cons.1 hn).2 h3, List.filter_cons_of_pos (by simp [hx])]
/-- the rows that are kept -/
def keep (n : Nat) (S : List Nat) : List Nat := (List.range n).filter fun v => decide (v ∉ S)
theorem keep_len {S : List Nat} : (keep n S).length ≤ n := by
  have := List.length_filter_le (fun v => decide (v ∉ S)) (List.range n)
  simpa [keep] using this
theorem keep_lt {S : List Nat} {v : Nat} (h : v ∈ keep n S) : v < n := by
  have := (List.mem_filter.1 h).1
  exact List.mem_range.1 this
/-- the sign for a column of a row -/
def rsg (r c : Nat) : Rat := if c > r then (if (r + c) % 2 = 1 then 1 else -1) else if (r + c) % 2 = 0 then 1 else -1
def rterm (M : Nat → Nat → Rat) (n r c : Nat) : Rat := if c = r then 0 else rsg r c * M r c * pfs M (keep n [min r c, max r c])
theorem pfs_byrow (hs : ∀ i j, M i j = - M j i) {r : Nat} (hr : r < n) : sm n (rterm M n r) = pfs M (List.range n) := by
  obtain ⟨m, rfl⟩ : ∃ m, n = m + 1 := ⟨n - 1, by omega⟩
  rw [range_cut hr, to_front (w := M) hs rfl]
  show _ = sg (List.range r).length * pfs M (r :: (List.range r ++ List.range' (r + 1) (m + 1 - r - 1)))
  rw [pfs_cons, List.length_range]
  have hlen : (List.range r ++ List.range' (r + 1) (m + 1 - r - 1)).length = m := by simp; omega
  rw [hlen, ← sm_mul]
  have hsk := sm_skip (n := m) (i := r) (g := rterm M (m + 1) r) (by omega)
  have hz : rterm M (m + 1) r r = 0 := by unfold rterm; rw [if_pos rfl]
  rw [hz] at hsk
  have e0 : sm (m + 1) (rterm M (m + 1) r) = sm m (fun j => rterm M (m + 1) r (if j < r then j else j + 1)) := by rw [← hsk]; grind
  rw [e0]
  refine sm_congr fun k hk => ?_
  have hcut : List.range r ++ List.range' (r + 1) (m + 1 - r - 1) = (List.range (m + 1)).eraseIdx r := by
    rw [range_cut hr, List.eraseIdx_append_of_length_le (by simp)]
    simp
  have hget : (List.range r ++ List.range' (r + 1) (m + 1 - r - 1))[k]? = some (if k < r then k else k + 1) := by
    by_cases h : k < r
    · rw [List.getElem?_append_left (by simpa using h), List.getElem?_range h, if_pos h]
    · rw [List.getElem?_append_right (by simp; omega), if_neg h, List.length_range, List.getElem?_range' (by omega)]
      congr 1; omega
  have her : (List.range r ++ List.range' (r + 1) (m + 1 - r - 1)).eraseIdx k = keep (m + 1) [min r (if k < r then k else k + 1), max r (if k < r then k else k + 1)] := by
    have hnd : (List.range r ++ List.range' (r + 1) (m + 1 - r - 1)).Nodup := by
      rw [hcut]; exact List.nodup_range.sublist (List.eraseIdx_sublist ..)
    rw [erase_filter hnd hget, hcut, erase_filter (c := r) List.nodup_range (List.getElem?_range hr), List.filter_filter]
    unfold keep
    refine List.filter_congr fun x _ => ?_
    generalize hc : (if k < r then k else k + 1) = c
    have hcr : c ≠ r := by rw [← hc]; split <;> omega
    rw [← Bool.decide_and]
    refine decide_eq_decide.2 ?_
    simp only [List.mem_cons, List.not_mem_nil, or_false, not_or]
    omega
  rw [hget, her]
  unfold rterm
  generalize hc : (if k < r then k else k + 1) = c
  have hcr : c ≠ r := by rw [← hc]; split <;> omega
  rw [if_neg hcr]
  simp only [at']
  have hsg : sg r * sg k = rsg r c := by
    rw [← sg_add]
    unfold sg rsg
    by_cases h : k < r
    · rw [if_pos h] at hc
      subst hc
      rw [if_neg (show ¬ k > r by omega)]
    · rw [if_neg h] at hc
      subst hc
      rw [if_pos (show k + 1 > r by omega)]
      by_cases h2 : (r + k) % 2 = 0
      · rw [if_pos h2, if_pos (by omega)]
      · rw [if_neg h2, if_neg (by omega)]
  rw [← hsg]
  grind
end Pf
namespace Fs
open PySem
theorem optL_len : ∀ {g : List (List Nat)}, optL intv (g.map fun r => D.int (r.length : Nat)) = some (g.map fun r => ((r.length : Nat) : Int))
  | [] => rfl
  | a :: g => by simp only [List.map_cons, optL, intv, optL_len]
theorem sum_len : ∀ {g : List (List Nat)}, (g.map fun r => ((r.length : Nat) : Int)).sum = ((g.flatten.length : Nat) : Int)
  | [] => rfl
  | a :: g => by
    simp only [List.map_cons, List.sum_cons, sum_len, List.flatten_cons, List.length_append]
    omega
theorem lInt_lst {s : Sto} {xs : List D} : lInt s (.lst xs) = optL intv xs := rfl
theorem sl_ge : 2 ^ 20 ≤ sizeLine := by decide
theorem rep_nv {k : Nat} : rep k [.int 0] = nv (List.replicate k 0) := by
  simp only [rep, nv, List.map_replicate]
  induction k with
  | zero => rfl
  | succ k ih => rw [List.replicate_succ, List.flatten_cons, ih]; rfl
theorem nv_set {L : List Nat} {i x : Nat} : (nv L).set i (.int (x : Nat)) = nv (L.set i x) := by
  simp only [nv, List.map_set]
theorem rngL3 (a b c : Int) : rngL [.int a, .int b, .int c] = if c ≠ 0 ∧ c.natAbs < 1073741824 ∧ Builtin.Range.small a b c = true then some (rngN a c (Builtin.Range.rangeSize a b c).toNat) else none := rfl
theorem rngL1 {b : Nat} (h : b ≤ 2 ^ 20) : rngL [.int (b : Nat)] = some (nv (List.range b)) := by
  have h0 : b ≤ 1048576 := h
  have h1 : -(2 ^ 62 : Int) ≤ (b : Int) ∧ (b : Int) < 2 ^ 62 := by
    constructor <;> omega
  rw [← rngN_nv]
  have h2 : rngL [.int (b : Nat)] = if -(2 ^ 62 : Int) ≤ (b : Int) ∧ (b : Int) < 2 ^ 62 then some (rngN 0 1 (b : Int).toNat) else none := by
    generalize (b : Int) = x
    rfl
  rw [h2, if_pos h1, Int.toNat_natCast]
theorem optL_bl {γ : Type} (f : γ → Bool) : ∀ {g : List γ}, optL blv (g.map fun r => D.bl (f r)) = some (g.map f)
  | [] => rfl
  | a :: g => by simp only [List.map_cons, optL, blv, optL_bl]
theorem lBl_lst {s : Sto} {xs : List D} : lBl s (.lst xs) = optL blv xs := rfl
theorem insI_perm' (i : Int) : ∀ r : List Int, (insI i r).Perm (i :: r)
  | [] => .refl _
  | j :: r => by
    simp only [insI]
    split
    · exact (List.Perm.cons _ (insI_perm' i r)).trans (List.Perm.swap ..)
    · exact .refl _
theorem sortI_perm' : ∀ r : List Int, (sortI r).Perm r
  | [] => .refl _
  | i :: r => by
    simp only [sortI]
    exact (insI_perm' i _).trans (List.Perm.cons _ (sortI_perm' r))
theorem insI_sorted' (i : Int) : ∀ {r : List Int}, r.Pairwise (· ≤ ·) → (insI i r).Pairwise (· ≤ ·)
  | [], _ => by simp [insI]
  | j :: r, h => by
    simp only [insI]
    have h2 := List.pairwise_cons.1 h
    split
    · rename_i hj
      refine List.pairwise_cons.2 ⟨?_, insI_sorted' i h2.2⟩
      intro a ha
      rcases List.mem_cons.1 ((insI_perm' i r).mem_iff.1 ha) with rfl | ha
      · exact hj
      · exact h2.1 a ha
    · rename_i hj
      refine List.pairwise_cons.2 ⟨?_, h⟩
      intro a ha
      rcases List.mem_cons.1 ha with rfl | ha
      · omega
      · have := h2.1 a ha; omega
theorem sortI_sorted' : ∀ r : List Int, (sortI r).Pairwise (· ≤ ·)
  | [] => .nil
  | i :: r => by simp only [sortI]; exact insI_sorted' i (sortI_sorted' r)
theorem sortI_eq {r q : List Int} (hp : r.Perm q) (hq : q.Pairwise (· < ·)) : sortI r = q :=
  List.Perm.eq_of_pairwise (le := (· ≤ ·)) (fun a b _ _ h1 h2 => by omega) (sortI_sorted' r) (hq.imp fun h => by omega) ((sortI_perm' r).trans hp)
abbrev toZ (L : List Nat) : List Int := L.map fun (n : Nat) => (n : Int)
theorem toZ_sorted {L : List Nat} (h : L.Pairwise (· < ·)) : (toZ L).Pairwise (· < ·) := by
  rw [List.pairwise_map]
  exact h.imp fun h => by omega
theorem nd_of_lt {L : List Nat} (h : L.Pairwise (· < ·)) : L.Nodup := h.imp fun h => by omega
theorem sort_nat {P q : List Nat} (hP : P.Nodup) (hq : q.Pairwise (· < ·)) (hm : ∀ v, v ∈ P ↔ v ∈ q) : (sortI (toZ P)).map D.int = nv q := by
  rw [sortI_eq (q := toZ q) (((List.perm_ext_iff_of_nodup hP (nd_of_lt hq)).2 hm).map _) (toZ_sorted hq), nv_ints]
theorem range_split {n c : Nat} {pre post : List Nat} (h : List.range n = pre ++ c :: post) : pre = List.range c ∧ c < n ∧ pre.length = c := by
  have hl : pre.length < n := by
    have := congrArg List.length h
    simp at this
    omega
  have h1 : (List.range n)[pre.length]? = some c := by rw [h]; simp
  rw [List.getElem?_range hl] at h1
  have hc : pre.length = c := by simpa using h1
  have h2 : (List.range n).take pre.length = pre := by rw [h]; simp
  rw [List.take_range, Nat.min_eq_left (Nat.le_of_lt hl), hc] at h2
  exact ⟨h2.symm, by omega, hc⟩
theorem optL_map {γ α β : Type} {f : α → Option β} {h : γ → α} {k : γ → β} (hf : ∀ c, f (h c) = some (k c)) : ∀ L : List γ, optL f (L.map h) = some (L.map k)
  | [] => rfl
  | a :: L => by simp only [List.map_cons, optL, hf, optL_map hf L]
def pn (L : List Nat) : List PyData := L.map fun (n : Nat) => PyData.int (n : Int)
def pt (g : List (List Nat)) : List PyData := g.map fun r => PyData.tuple (pn r)
theorem pn_nil : pn [] = [] := rfl
theorem pt_nil : pt [] = [] := rfl
theorem pn_cons {a : Nat} {L : List Nat} : pn (a :: L) = .int (a : Int) :: pn L := rfl
theorem pt_cons {a : List Nat} {L : List (List Nat)} : pt (a :: L) = .tuple (pn a) :: pt L := rfl
theorem toP_int {z : Bool} {s : Sto} {k : Nat} {i : Int} : toP z s (k + 1) (.int i) = some (.int i) := rfl
theorem toP_tup {z : Bool} {s : Sto} {k : Nat} {xs : List D} : toP z s (k + 1) (.tup xs) = (optL (toP z s k) xs).map .tuple := rfl
theorem toP_lst {z : Bool} {s : Sto} {k : Nat} {xs : List D} : toP z s (k + 1) (.lst xs) = (optL (toP z s k) xs).map .list := rfl
theorem toP_ref {z : Bool} {s : Sto} {k l : Nat} {xs : List D} (h : s[l]? = some (.lst xs)) : toP z s (k + 1) (.ref l) = (optL (toP z s k) xs).map .list := by
  simp only [toP, h]
theorem toP_nv {z : Bool} {s : Sto} {k : Nat} {L : List Nat} : optL (toP z s (k + 1)) (nv L) = some (pn L) := optL_map (fun c => toP_int) L
theorem toP_tv {z : Bool} {s : Sto} {k : Nat} {g : List (List Nat)} : optL (toP z s (k + 2)) (tv g) = some (pt g) := optL_map (fun c => by rw [toP_tup, toP_nv]; rfl) g
theorem pn_lay : ∀ L : List Nat, PyData.canLayAll0 (pn L) = true
  | [] => by simp [pn_nil, pt_nil, pn_cons, pt_cons, PyData.canLayAll0]
  | a :: L => by
    have := pn_lay L
    simp [pn_nil, pt_nil, pn_cons, pt_cons, PyData.canLayAll0, PyData.canLay0, this]
theorem pn_depth : ∀ L : List Nat, PyData.depthAll (pn L) ≤ 1
  | [] => by simp [pn_nil, pt_nil, pn_cons, pt_cons, PyData.depthAll]
  | a :: L => by
    have := pn_depth L
    simp only [pn_cons, PyData.depthAll, PyData.depth]
    omega
theorem pt_lay : ∀ L : List (List Nat), PyData.canLayAll0 (pt L) = true
  | [] => by simp [pn_nil, pt_nil, pn_cons, pt_cons, PyData.canLayAll0]
  | a :: L => by
    have := pt_lay L
    simp [pn_nil, pt_nil, pn_cons, pt_cons, PyData.canLayAll0, PyData.canLay0, this, pn_lay]
theorem pt_depth : ∀ L : List (List Nat), PyData.depthAll (pt L) ≤ 2
  | [] => by simp [pn_nil, pt_nil, pn_cons, pt_cons, PyData.depthAll]
  | a :: L => by
    have := pt_depth L
    have := pn_depth a
    simp only [pt_cons, PyData.depthAll, PyData.depth]
    omega
theorem eqvAll_pn : ∀ L : List Nat, PyData.eqvAll (pn L) (pn L) = true
  | [] => by simp [pn_nil, pt_nil, pn_cons, pt_cons, PyData.eqvAll]
  | a :: L => by
    have := eqvAll_pn L
    simp [pn_nil, pt_nil, pn_cons, pt_cons, PyData.eqvAll, PyData.eqv, this]
theorem eqvAll_pt : ∀ L : List (List Nat), PyData.eqvAll (pt L) (pt L) = true
  | [] => by simp [pn_nil, pt_nil, pn_cons, pt_cons, PyData.eqvAll]
  | a :: L => by
    have := eqvAll_pt L
    simp [pn_nil, pt_nil, pn_cons, pt_cons, PyData.eqvAll, PyData.eqv, this, eqvAll_pn]
theorem eq_tv {s : Sto} {g : List (List Nat)} : eqD s (.tup (tv g)) (.tup (tv g)) = some true := by
  have h1 : toP false s 66 (.tup (tv g)) = some (.tuple (pt g)) := by rw [toP_tup, toP_tv]; rfl
  have h2 : SeqAt.shaped (.tuple (pt g)) = true := by
    have h := pt_depth g
    have hd : PyData.depth (.tuple (pt g)) ≤ 64 := by simp only [PyData.depth]; omega
    simp [SeqAt.shaped, PyData.canLay0, pt_lay, hd]
  simp only [eqD, h1]
  rw [if_pos ⟨h2, h2⟩]
  simp only [PyData.eqv, eqvAll_pt]
theorem eq_nil {s : Sto} {l : Nat} {W : List Nat} (h : s[l]? = some (.lst (nv W))) : eqD s (.ref l) (.lst []) = some W.isEmpty := by
  have h1 : toP false s 66 (.ref l) = some (.list (pn W)) := by rw [toP_ref h, toP_nv]; rfl
  have h0 : toP false s 66 (.lst []) = some (.list []) := rfl
  have h2 : SeqAt.shaped (.list (pn W)) = true := by
    have h := pn_depth W
    have hd : PyData.depth (.list (pn W)) ≤ 64 := by simp only [PyData.depth]; omega
    simp [SeqAt.shaped, PyData.canLay0, pn_lay, hd]
  have h3 : SeqAt.shaped (.list []) = true := by decide
  simp only [eqD, h1, h0]
  rw [if_pos ⟨h2, h3⟩]
  cases W with
  | nil => simp [pn_nil, pt_nil, pn_cons, pt_cons, PyData.eqv, PyData.eqvAll]
  | cons a W => simp [pn_nil, pt_nil, pn_cons, pt_cons, PyData.eqv, PyData.eqvAll]
theorem srt_ints {s : Sto} {d : D} {ns : List Int} {Q : D → Sto → Prop} {E : D → Sto → Prop} (h : lInt s d = some ns) : wp (fSorted d) s Q E = Q (.lst ((sortI ns).map .int)) s := by
  simp only [wp_def, fSorted, h, wr]
theorem lInt_ref {s : Sto} {l : Nat} {xs : List D} (h : s[l]? = some (.lst xs)) : lInt s (.ref l) = optL intv xs := by
  simp only [lInt, seqv, h]
theorem snoc_cases (W : List Nat) : W = [] ∨ ∃ V v, W = V ++ [v] := by
  rcases List.eq_nil_or_concat W with h | ⟨V, v, h⟩
  · exact .inl h
  · exact .inr ⟨V, v, by rw [h, List.concat_eq_append]⟩
theorem nodup_len : ∀ {n : Nat} {L : List Nat}, L.Nodup → (∀ v, v ∈ L → v < n) → L.length ≤ n
  | 0, L, _, h => by
    cases L with
    | nil => simp
    | cons a L => exact absurd (h a (List.mem_cons_self ..)) (by omega)
  | n + 1, L, hn, h => by
    have h1 : (L.erase n).length ≤ n := nodup_len (hn.erase n) fun v hv => by
      have h2 := hn.mem_erase_iff.1 hv
      have := h v h2.2
      omega
    have h3 : L.length ≤ (L.erase n).length + 1 := by
      rw [List.length_erase]
      split <;> omega
    omega
theorem rk_val {s : Sto} {b : Nat} {xs : List D} (h : D.cleans xs = true) : rback s b (.lst xs) = some (.lst xs) := by
  simp only [rback, rbD, rbs_clean h]; rfl
theorem sgk {st r : Sto} {k : Nat} : (st ++ r)[st.length + k]? = r[k]? := by
  rw [List.getElem?_append_right (by omega)]; simp
theorem log_lt {x : Int} {k : Nat} (h : x.natAbs < 2 ^ k) (hk : k ≤ 500000) : x.natAbs.log2 < 500000 := by
  by_cases h0 : x.natAbs = 0
  · rw [h0]; decide
  · have := (Nat.log2_lt h0).2 h
    omega
theorem take_set {st r : Sto} {l : Nat} {c : D} : (st.set l c ++ r).take st.length = st.set l c := by
  rw [List.take_append_of_le_length (by simp), List.take_of_length_le (by simp)]
abbrev zv (L : List Int) : List D := L.map D.int
theorem seqIdx {x : Int} {n : Nat} (h0 : 0 ≤ x) (h : x < n) : PySem.seqIndex? x n = some x.toNat := by
  unfold PySem.seqIndex?
  have h1 : ¬ x < 0 := by omega
  simp only [if_neg h1]
  rw [if_pos (by simp [h0, h])]
theorem erase_perm {L : List Nat} {j : Nat} {v : Nat} (h : L[j]? = some v) : L.Perm (v :: L.eraseIdx j) := by
  have h1 := split_at h
  rw [List.eraseIdx_eq_take_drop_succ]
  conv => lhs; rw [h1]
  exact List.perm_middle
theorem nv_erase {L : List Nat} {j : Nat} : (nv L).eraseIdx j = nv (L.eraseIdx j) := by
  simp only [nv, List.eraseIdx_eq_take_drop_succ, List.map_append, List.map_take, List.map_drop]
theorem wp_wrap {m : M D} {s : Sto} {Q : D → Sto → Prop} {E : D → Sto → Prop} (h : wp m s Q NX) : wp m s Q E := wp_of h (fun _ _ h => h) (fun _ _ h => h.elim)
section
variable {st X : Sto} {a b x : D}
theorem tA {r : Sto} : (st ++ (X ++ a :: r))[st.length + X.length]? = some a := by
  rw [List.getElem?_append_right (by omega)]; simp
theorem tB {r : Sto} : (st ++ (X ++ a :: b :: r))[st.length + X.length + 1]? = some b := by
  rw [List.getElem?_append_right (by omega)]
  simp [show st.length + X.length + 1 - st.length = X.length + 1 by omega]
theorem tAs {r : Sto} : (st ++ (X ++ a :: r)).set (st.length + X.length) x = st ++ (X ++ x :: r) := by
  rw [List.set_append_right _ _ (by omega)]; simp
theorem tBs {r : Sto} : (st ++ (X ++ a :: b :: r)).set (st.length + X.length + 1) x = st ++ (X ++ a :: x :: r) := by
  rw [List.set_append_right _ _ (by omega)]
  simp [show st.length + X.length + 1 - st.length = X.length + 1 by omega, List.set_append]
end
theorem eq_int {s : Sto} {a b : Int} : eqD s (.int a) (.int b) = some (decide (a = b)) := by
  have h1 : ∀ a : Int, toP false s 66 (.int a) = some (.int a) := fun a => rfl
  have h2 : ∀ a : Int, SeqAt.shaped (.int a) = true := fun a => by simp [SeqAt.shaped, PyData.canLay0, PyData.depth]
  simp only [eqD, h1]
  rw [if_pos ⟨h2 a, h2 b⟩]
  congr 1
theorem rgOk_nat {b : Nat} (h : b ≤ 2 ^ 20) : rgOk 0 (b : Int) = true := by
  unfold rgOk
  exact decide_eq_true ⟨by decide, by decide, by omega, by omega, by omega⟩
theorem toZ_mem {L : List Nat} {x : Int} : x ∈ toZ L ↔ ∃ n : Nat, n ∈ L ∧ (n : Int) = x := by simp [toZ]
theorem toZ_nodup {L : List Nat} (h : L.Nodup) : (toZ L).Nodup := by
  rw [List.Nodup, List.pairwise_map]
  exact h.imp fun h q => h (by omega)
theorem getD_some {M : List Nat} {u : Nat} (h : u < M.length) : M[u]? = some (M.getD u 0) := by
  simp [List.getD, List.getElem?_eq_getElem h]
theorem int_min {a b : Nat} : (if (b : Int) < (a : Int) then (b : Int) else (a : Int)) = ((min a b : Nat) : Int) := by split <;> omega
theorem int_max {a b : Nat} : (if (b : Int) > (a : Int) then (b : Int) else (a : Int)) = ((max a b : Nat) : Int) := by split <;> omega
def pz (L : List Int) : List PyData := L.map PyData.int
theorem pz_lay : ∀ L : List Int, PyData.canLayAll0 (pz L) = true
  | [] => by simp [pz, PyData.canLayAll0]
  | a :: L => by
    have h : pz (a :: L) = .int a :: pz L := rfl
    rw [h]
    simp only [PyData.canLayAll0, PyData.canLay0, pz_lay L, Bool.and_self]
theorem pz_depth : ∀ L : List Int, PyData.depthAll (pz L) ≤ 1
  | [] => by simp [pz, PyData.depthAll]
  | a :: L => by
    have h : pz (a :: L) = .int a :: pz L := rfl
    have := pz_depth L
    rw [h]
    simp only [PyData.depthAll, PyData.depth]
    omega
theorem toP_refF {z : Bool} {s : Sto} {k l : Nat} {xs : List D} (h : s[l]? = some (.frl xs)) : toP z s (k + 1) (.ref l) = (optL (toP z s k) xs).map .list := by
  simp only [toP, h]
theorem eq_nilF {s : Sto} {l : Nat} {W : List Int} (h : s[l]? = some (.frl (zv W))) : eqD s (.ref l) (.lst []) = some W.isEmpty := by
  have h1 : toP false s 66 (.ref l) = some (.list (pz W)) := by
    have e : optL (toP false s 65) (zv W) = some (pz W) := optL_map (fun c => toP_int) W
    rw [toP_refF h, e]; rfl
  have h0 : toP false s 66 (.lst []) = some (.list []) := rfl
  have h2 : SeqAt.shaped (.list (pz W)) = true := by
    have h := pz_depth W
    have hd : PyData.depth (.list (pz W)) ≤ 64 := by simp only [PyData.depth]; omega
    simp [SeqAt.shaped, PyData.canLay0, pz_lay, hd]
  have h3 : SeqAt.shaped (.list []) = true := by decide
  simp only [eqD, h1, h0]
  rw [if_pos ⟨h2, h3⟩]
  cases W with
  | nil => simp [pz, PyData.eqv, PyData.eqvAll]
  | cons a W => simp [pz, PyData.eqv, PyData.eqvAll]
theorem tr_bl {s : Sto} {b : Bool} : truth s (.bl b) = some b := rfl
end Fs
/-! raise, try -/
namespace Fs
open PySem
section
variable {T : Tbl} {σ : Env} {s : Sto} {QF : Fl → Sto → Prop} {E : D → Sto → Prop}
theorem e_mk0 {c : Nat} {es : List Ex} {Q : D → Sto → Prop} (h : T.fld c = none) : wp (ev T (.mk c es) σ) s Q E = wp (evs T es σ) s (fun _ s' => Q (.exc c []) s') E := by
  simp only [ev, wp_bnd]
  refine wp_q fun ds s => ?_
  simp only [h, wp_ret]
theorem s_rse {c : Nat} {es : List Ex} : wp (exS T (.rse c es) σ) s QF E = wp (ev T (.mk c es) σ) s (fun x s => QF (.ex σ x) s) (fun e s => QF (.ex σ e) s) := by
  simp only [exS, wp_lft, wp_ret]
/-- what a try's body leads to -/
def xq (k : Env → D → Sto → Prop) (Q : Fl → Sto → Prop) : Fl → Sto → Prop := fun f s' => match f with
  | .ex σ e => k σ e s'
  | f => Q f s'
theorem xq_nx {k : Env → D → Sto → Prop} {Q : Fl → Sto → Prop} {σ : Env} : xq k Q (.nx σ) s = Q (.nx σ) s := propext Iff.rfl
theorem xq_rt {k : Env → D → Sto → Prop} {Q : Fl → Sto → Prop} {d : D} : xq k Q (.rt d) s = Q (.rt d) s := propext Iff.rfl
theorem xq_br {k : Env → D → Sto → Prop} {Q : Fl → Sto → Prop} {d : Env} : xq k Q (.br d) s = Q (.br d) s := propext Iff.rfl
theorem xq_ct {k : Env → D → Sto → Prop} {Q : Fl → Sto → Prop} {d : Env} : xq k Q (.ct d) s = Q (.ct d) s := propext Iff.rfl
theorem xq_ex {k : Env → D → Sto → Prop} {Q : Fl → Sto → Prop} {d : Env} {e : D} : xq k Q (.ex d e) s = k d e s := propext Iff.rfl
theorem s_tri {b : List Sx} {hs : List (List Nat × Option Nat × List Sx)} : wp (exS T (.tri b hs) σ) s QF NX = wp (exL T b σ) s (xq (fun σ' e s' => wp (exH T hs e σ') s' QF NX) QF) NX := by
  simp only [wp_def, exS]
  cases exL T b σ s with
  | ok f s' => cases f <;> rfl
  | exc e s' => rfl
  | bad => rfl
/-- behind the suite the name is gone -/
def oq (i : Option Nat) (Q : Fl → Sto → Prop) : Fl → Sto → Prop := fun f s' => match f with
  | .nx σ => Q (.nx (outS i σ)) s'
  | .br σ => Q (.br (outS i σ)) s'
  | .ct σ => Q (.ct (outS i σ)) s'
  | .rt d => Q (.rt d) s'
  | _ => False
theorem oq_nx {i : Option Nat} {Q : Fl → Sto → Prop} {σ : Env} : oq i Q (.nx σ) s = Q (.nx (outS i σ)) s := propext Iff.rfl
theorem oq_rt {i : Option Nat} {Q : Fl → Sto → Prop} {d : D} : oq i Q (.rt d) s = Q (.rt d) s := propext Iff.rfl
theorem x_hit {cs : List Nat} {i : Option Nat} {b : List Sx} {hs : List (List Nat × Option Nat × List Sx)} {c : Nat} {fs : List D} (h : (cs.any fun k => T.anc c k) = true) :
    wp (exH T ((cs, i, b) :: hs) (.exc c fs) σ) s QF NX = wp (exL T b (inS i (.exc c fs) σ)) s (oq i QF) NX := by
  simp only [wp_def, exH, h, outF]
  cases exL T b (inS i (.exc c fs) σ) s with
  | ok f s' => cases f <;> rfl
  | exc e s' => rfl
  | bad => rfl
theorem la_exc {c : Nat} {fs : List D} {st : Sto} : land (.exc c fs) st = (.exc c fs, st) := by simp only [land]
theorem isD_exc {c : Nat} {fs : List D} : isD (.exc c fs) .non = some false := rfl
theorem isN_exc {c : Nat} {fs : List D} : cmpD .ntN (.exc c fs) .non s = some true := rfl
end
/-! k copies -/
theorem rep_one {k : Nat} {x : D} : rep k [x] = List.replicate k x := by
  unfold rep
  induction k with
  | zero => rfl
  | succ k ih => rw [List.replicate_succ, List.flatten_cons, ih]; rfl
theorem purs_rep {k : Nat} {x : D} (h : D.pur x = true) : D.purs (List.replicate k x) = true := by
  induction k with
  | zero => rfl
  | succ k ih => rw [List.replicate_succ]; simp only [D.purs, h, ih, Bool.and_self]
end Fs
namespace Fs
open PySem
def src (a b c : Int) : D := .lst [.int a, .int b, .int c]
def Sr (st : Sto) (l : Nat) (N : Int) : Prop := ∃ a b c, st[l]? = some (src a b c) ∧ 0 ≤ b ∧ b ≤ N
def Up (st st' : Sto) (l : Nat) (N : Int) : Prop := ∃ a b c, st' = st.set l (src a b c) ∧ 0 ≤ b ∧ b ≤ N
theorem Up.sr {st st' : Sto} {l : Nat} {N : Int} (h : Up st st' l N) (hl : l < st.length) : Sr st' l N := by
  obtain ⟨a, b, c, rfl, h1, h2⟩ := h
  exact ⟨a, b, c, by simp [hl], h1, h2⟩
theorem Up.trans {st st' st2 : Sto} {l : Nat} {N M : Int} (h : Up st st' l N) (h2 : Up st' st2 l M) : Up st st2 l M := by
  obtain ⟨a, b, c, rfl, _, _⟩ := h
  obtain ⟨a', b', c', rfl, h3, h4⟩ := h2
  exact ⟨a', b', c', by simp, h3, h4⟩
theorem Up.len {st st' : Sto} {l : Nat} {N : Int} (h : Up st st' l N) : st'.length = st.length := by
  obtain ⟨a, b, c, rfl, _, _⟩ := h
  simp
theorem Sr.lt {st : Sto} {l : Nat} {N : Int} (h : Sr st l N) : l < st.length := by
  obtain ⟨a, b, c, h, _⟩ := h
  exact (List.getElem?_eq_some_iff.1 h).1
theorem Sr.up {st : Sto} {l : Nat} {N : Int} (h : Sr st l N) : Up st st l N := by
  have hl := h.lt
  obtain ⟨a, b, c, h, h1, h2⟩ := h
  refine ⟨a, b, c, ?_, h1, h2⟩
  have : st[l] = src a b c := by
    rw [List.getElem?_eq_getElem hl] at h
    exact Option.some.inj h
  rw [← this]; simp
theorem Sr.mono {st : Sto} {l : Nat} {N M : Int} (h : Sr st l N) (hNM : N ≤ M) : Sr st l M := by
  obtain ⟨a, b, c, h, h1, h2⟩ := h
  exact ⟨a, b, c, h, h1, by omega⟩
theorem Up.mono {st st' : Sto} {l : Nat} {N M : Int} (h : Up st st' l N) (hNM : N ≤ M) : Up st st' l M := by
  obtain ⟨a, b, c, h, h1, h2⟩ := h
  exact ⟨a, b, c, h, h1, by omega⟩
theorem src_cl {b : Nat} {x y z : Int} : cellCl b (src x y z) = true := rfl
def primes : List Int := [2147483647, 2147483629, 2147483587, 2147483579, 2147483563, 2147483549, 2147483543, 2147483497, 2147483489, 2147483477, 2147483423]
theorem prime_at {k : Int} (h0 : 0 ≤ k) (h : k < 11) : ∃ q, L2.atI (primes.map D.int) k = some (.int q) ∧ 2147483423 ≤ q ∧ q ≤ 2147483647 := by
  have : k = 0 ∨ k = 1 ∨ k = 2 ∨ k = 3 ∨ k = 4 ∨ k = 5 ∨ k = 6 ∨ k = 7 ∨ k = 8 ∨ k = 9 ∨ k = 10 := by omega
  rcases this with rfl | rfl | rfl | rfl | rfl | rfl | rfl | rfl | rfl | rfl | rfl <;> exact ⟨_, rfl, by decide, by decide⟩
theorem k_next (n : Nat) {st : Sto} {l : Nat} {N m : Int} (hm : 0 < m) (hm2 : m < 2 ^ 20) (hN : N ≤ 2 ^ 30) (h : Sr st l N) : wp (call P (n + 1) F._law_next [.ref l, .int m]) st (fun r s' => (∃ x : Int, r = .int x ∧ 0 ≤ x ∧ x < m) ∧ Up st s' l (N + 1)) NX := by
  have hsl := sl_ge
  obtain ⟨a, b, c, hl, hb0, hb⟩ := h
  have hll : l < st.length := (List.getElem?_eq_some_iff.1 hl).1
  refine w_call (F := c__law_next) rfl rfl ?_
  unfold c__law_next
  have e0 : L2.atI [D.int a, D.int b, D.int c] 0 = some (.int a) := rfl
  have e1 : L2.atI [D.int a, D.int b, D.int c] 1 = some (.int b) := rfl
  have e2 : L2.atI [D.int a, D.int b, D.int c] 2 = some (.int c) := rfl
  have i1 : L2.ixN 3 1 = some 1 := rfl
  have i2 : L2.ixN 3 2 = some 2 := rfl
  have hl2 : st[l]? = some (.lst [.int a, .int b, .int c]) := hl
  have hmod : ∀ c : Int, 0 ≤ (c.fmod m) ∧ c.fmod m < m := fun c => ⟨Int.fmod_nonneg_of_pos _ hm, Int.fmod_lt_of_pos _ hm⟩
  have hmlog : m.natAbs.log2 < 9000 := by
    by_cases h0 : m.natAbs = 0
    · rw [h0]; decide
    · have := (Nat.log2_lt (k := 20) h0).2 (by omega)
      omega
  simp! only [hl2, e2, truth, i2]
  refine wb_of ?_ ?_
  · intro hc
    refine ⟨by omega, ⟨by omega, hmlog⟩, ?_⟩
    refine ⟨okP_set0 rfl, ?_⟩
    rw [rk_clean rfl]
    refine ⟨⟨_, rfl, hmod _⟩, a, b, c.fdiv m, ?_, hb0, by omega⟩
    rw [List.take_of_length_le (by simp)]; rfl
  · intro hc
    have hs : (st.set l (.lst [.int a, .int (b + 1), .int c]))[l]? = some (.lst [.int a, .int (b + 1), .int c]) := by simp [hll]
    have hs2 : ∀ r, (st.set l (.lst [.int a, .int (b + 1), .int c]) ++ r)[l]? = some (.lst [.int a, .int (b + 1), .int c]) := fun r => sgl hs
    have hpr : L2.atI (primes.map D.int) ((b + 1).fmod 11) = L2.atI (primes.map D.int) ((b + 1).fmod 11) := rfl
    obtain ⟨q, hq, hq1, hq2⟩ := prime_at (k := (b + 1).fmod 11) (Int.fmod_nonneg_of_pos _ (by decide)) (Int.fmod_lt_of_pos _ (by decide))
    have e1' : L2.atI [D.int a, D.int (b + 1), D.int c] 1 = some (.int (b + 1)) := rfl
    have e0' : L2.atI [D.int a, D.int (b + 1), D.int c] 0 = some (.int a) := rfl
    have hq' : L2.atI [D.int 2147483647, D.int 2147483629, D.int 2147483587, D.int 2147483579, D.int 2147483563, D.int 2147483549, D.int 2147483543, D.int 2147483497, D.int 2147483489, D.int 2147483477, D.int 2147483423] ((b + 1).fmod 11) = some (.int q) := hq
    have sg0' : ∀ x, (st.set l (.lst [.int a, .int (b + 1), .int c]) ++ [x])[st.length]? = some x := fun x => by
      have := sg0 (st := st.set l (.lst [.int a, .int (b + 1), .int c])) (c := x) (r := [])
      rwa [List.length_set] at this
    simp! only [hl2, e1, i1, la_lst (xs := [D.int 2147483647, D.int 2147483629, D.int 2147483587, D.int 2147483579, D.int 2147483563, D.int 2147483549, D.int 2147483543, D.int 2147483497]) rfl, hs2, hs, List.length_set, sg0', e1', e0', hq']
    have hf1 := Int.fmod_nonneg_of_pos a (b := q) (by omega)
    have hf2 := Int.fmod_lt_of_pos a (b := q) (by omega)
    refine ⟨by omega, by omega, by omega, by decide, by omega, ?_, ⟨by decide, by decide, by omega⟩, by omega, ⟨by decide, by decide⟩, by omega, okP_set rfl, ?_⟩
    · have h1 : (b + 1).natAbs.log2 < 500000 := log_lt (k := 32) (by omega) (by decide)
      have h2 : (Int.natAbs 7919).log2 = 12 := by decide
      omega
    · rw [rk_clean rfl]
      refine ⟨⟨_, rfl, hmod _⟩, a, b + 1, c, ?_, by omega, by omega⟩
      rw [take_set]; rfl
theorem rk_valc {s : Sto} {b : Nat} {a x y : Int} : rback s b (src a x y) = some (src a x y) := rk_val (xs := [.int a, .int x, .int y]) rfl
theorem k_source (n : Nat) {st : Sto} {l k : Nat} {ns : List Int} (hk : k < 8) (hns : ns.length ≤ 63) (h : st[l]? = some (.frl (zv ns))) :
    wp (call P (n + 1) F._law_source [.ref l, .int k]) st (fun r s' => (∃ a b c, r = src a b c ∧ 0 ≤ b ∧ b ≤ 24) ∧ s' = st) NX := by
  have hsl := sl_ge
  refine w_call (F := c__law_source) rfl rfl ?_
  unfold c__law_source
  simp! only []
  refine ⟨by omega, ?_⟩
  rw [eq_nilF h]
  simp! only [Option.map_some, truth]
  have h10 : (0 : Int) ≤ 18 ∧ (18 : Int) ≤ 1000000 ∧ (Int.natAbs 10) < 2 ^ 64 := by decide
  have h1018 : (10 : Int) ^ (Int.toNat 18) = 1000000000000000000 := by decide
  have hlog : (Int.natAbs 3).log2 + (Int.natAbs (k : Int)).log2 < 1000000 := by
    have h1 : (Int.natAbs (k : Int)).log2 < 500000 := log_lt (k := 10) (by omega) (by decide)
    have h2 : (Int.natAbs 3).log2 = 1 := by decide
    omega
  by_cases hn0 : ns = []
  · subst hn0
    simp! only [List.isEmpty_nil, truth]
    refine ⟨hlog, h10, by omega, okP_self, ?_⟩
    have := rk_valc (s := st) (b := st.length) (a := 1) (x := 3 * (k : Int)) (y := 0)
    rw [src] at this
    rw [this]
    exact ⟨⟨1, 3 * (k : Int), 0, rfl, by omega, by omega⟩, by simp⟩
  · have hpos : 0 < ns.length := List.length_pos_iff.2 hn0
    have hz : (zv ns).length = ns.length := by simp
    have hm1 : 0 ≤ (k : Int).fmod (ns.length : Int) := Int.fmod_nonneg_of_pos _ (by omega)
    have hm2 : (k : Int).fmod (ns.length : Int) < (ns.length : Int) := Int.fmod_lt_of_pos _ (by omega)
    have hne : ns.isEmpty = false := by simpa using hn0
    rw [hne]
    simp! only [h, leC_frl, hz, truth]
    refine ⟨by omega, ?_⟩
    generalize (k : Int).fmod (ns.length : Int) = j at *
    obtain ⟨i, rfl⟩ : ∃ i : Nat, j = (i : Int) := ⟨j.toNat, by omega⟩
    have hi : (zv ns)[i]? = some (.int (ns[i]'(by omega))) := by
      rw [List.getElem?_map, List.getElem?_eq_getElem (by omega)]; rfl
    simp! only [atI_nat, hi]
    generalize ns[i] = a
    refine ⟨hlog, h10, ?_⟩
    rw [h1018]
    refine wb_of ?_ ?_
    · intro _
      refine ⟨h10, ⟨by decide, by decide⟩, by omega, okP_self, ?_⟩
      have := rk_valc (s := st) (b := st.length) (a := a) (x := 3 * (k : Int)) (y := a.fdiv 1000000000000000000)
      rw [src] at this
      rw [this]
      exact ⟨⟨a, 3 * (k : Int), _, rfl, by omega, by omega⟩, by simp⟩
    · intro _
      refine ⟨by omega, okP_self, ?_⟩
      have := rk_valc (s := st) (b := st.length) (a := a) (x := 3 * (k : Int)) (y := 0)
      rw [src] at this
      rw [this]
      exact ⟨⟨a, 3 * (k : Int), 0, rfl, by omega, by omega⟩, by simp⟩
end Fs
/-! fractions: the walk -/
namespace Fs
open PySem Pf
section
variable {T : Tbl} {s : Sto} {E : D → Sto → Prop} {Q : D → Sto → Prop}
theorem bi_abs1 {i : Int} : wp (biD T .abs [.int i]) s Q E = Q (.int (i.natAbs : Int)) s := by
  show wp (fAbs (.int i)) s Q E = _
  simp only [fAbs, wp_ret]
  have : (if i < 0 then -i else i) = (i.natAbs : Int) := by split <;> omega
  rw [this]
theorem bi_intb {c : Bool} : wp (biD T .int [.bl c]) s Q E = Q (.int (if c then 1 else 0)) s := by rw [wp_def]; exact propext Iff.rfl
theorem bi_inti {c : Int} : wp (biD T .int [.int c]) s Q E = Q (.int c) s := by rw [wp_def]; exact propext Iff.rfl
theorem isTy_bl {c : Bool} : isTy s "int" (.bl c) = some true := by simp [isTy]
end
/-- a fraction -/
def fr (q : Rat) : D := .tup [.int q.num, .int ((q.den : Nat) : Int)]
theorem fr_clean {q : Rat} : (fr q).clean = true := rfl
theorem fr_pur {q : Rat} : (fr q).pur = true := rfl
theorem gcd_step {x y : Nat} : Nat.gcd y (x % y) = Nat.gcd x y := by
  rw [Nat.gcd_comm x y, Nat.gcd_rec y x, Nat.gcd_comm]
def Lg (k : Nat) (a : Int) : Prop := a.natAbs < 2 ^ k
theorem euK {a b k : Nat} (hk : k ≤ 400000) (ha : a < 2 ^ k) (hb : b < 2 ^ k) : eu a b < wfuel := by
  have h := eu_le ha hb
  have e : wfuel = 1000000 := rfl
  omega
theorem k_gcd (n : Nat) {a b : Int} {k : Nat} (hk : k ≤ 400000) (ha : Lg k a) (hb : Lg k b) (st : Sto) :
    wp (call P (n + 1) F.common_divisor [.int a, .int b]) st (fun r s' => r = .int ((Int.gcd a b : Nat) : Int) ∧ s' = st) NX := by
  have hsl := sl_ge
  refine w_call (F := c_common_divisor) rfl rfl ?_
  unfold c_common_divisor
  simp! only [bi_abs1]
  refine ⟨by omega, ?_⟩
  refine w_wh (fun k σ s => ∃ x y : Nat, σ = [some (.int (x : Int)), some (.int (y : Int))] ∧ s = st ∧ Nat.gcd x y = Int.gcd a b ∧ k = eu x y) ?_ wfuel (eu a.natAbs b.natAbs) _ _ ⟨a.natAbs, b.natAbs, rfl, rfl, rfl, rfl⟩ (euK hk ha hb)
  rintro k σ s ⟨x, y, rfl, rfl, hg, rfl⟩
  simp! only [truth]
  refine wb_of ?_ ?_
  · intro hy
    have hy : 0 < y := by
      have := of_decide_eq_true hy
      omega
    refine ⟨?_, by omega, by omega, eu y (x % y), eu_step hy, y, x % y, ?_, ?_, rfl⟩
    · have := eu_step (a := x) hy; omega
    · rw [fmod_nat]
    · rw [gcd_step]; exact hg
  · intro hy
    have hy : y = 0 := by
      have := of_decide_eq_false hy
      omega
    subst hy
    rw [Nat.gcd_zero_right] at hg
    refine ⟨okP_self, ?_⟩
    rw [rk_clean rfl, hg]
    exact ⟨rfl, by simp⟩
theorem fd_of {a s x : Int} (hs : s ≠ 0) (h : a = s * x) : a.fdiv s = x := by
  rw [h, Int.mul_fdiv_cancel_left _ hs]
/-- the divisor of lowest terms -/
theorem low_frac {a b : Int} (hb : b ≠ 0) : ∃ s : Int, s = (if b < 0 then -((Int.gcd a b : Nat) : Int) else ((Int.gcd a b : Nat) : Int)) ∧ s ≠ 0 ∧ s.natAbs ≤ b.natAbs ∧ D.tup [.int (a.fdiv s), .int (b.fdiv s)] = fr ((a : Rat) / (b : Rat)) := by
  obtain ⟨s, n', d', h1, h2, h3, h4, h5, h6⟩ := low (n := a) hb
  have h7 := low_rat h2 h3 h4 h5 h6
  refine ⟨s, h1, h2, ?_, ?_⟩
  · have h8 : b.natAbs = s.natAbs * d'.natAbs := by rw [h4, Int.natAbs_mul]
    have h9 : s.natAbs * 1 ≤ s.natAbs * d'.natAbs := Nat.mul_le_mul_left _ (by omega)
    omega
  · rw [fd_of h2 h3, fd_of h2 h4]
    simp only [fr]
    rw [h7.1, h7.2]
theorem log_of {b : Int} {k : Nat} (h : Lg k b) (hk : 0 < k) {s : Int} (hs : s.natAbs ≤ b.natAbs) : s.natAbs.log2 < k := by
  by_cases h0 : s.natAbs = 0
  · rw [h0]
    have : Nat.log2 0 = 0 := by decide
    omega
  · exact (Nat.log2_lt h0).2 (Nat.lt_of_le_of_lt hs h)
theorem k_reduced (n : Nat) {a b : Int} {k : Nat} (hk : k ≤ 9000) (hk0 : 0 < k) (ha : Lg 400000 a) (hb : Lg k b) (hb0 : b ≠ 0) (st : Sto) :
    wp (call P (n + 2) F.reduced [.int a, .int b]) st (fun r s' => r = fr ((a : Rat) / (b : Rat)) ∧ s' = st) NX := by
  have hsl := sl_ge
  have hb2 : Lg 400000 b := Nat.lt_of_lt_of_le hb (Nat.pow_le_pow_right (by omega) (by omega))
  obtain ⟨s, hs, hs0, hsb, hf⟩ := low_frac (a := a) hb0
  have hsl2 := log_of hb hk0 hsb
  refine w_call (F := c_reduced) rfl rfl ?_
  unfold c_reduced
  simp! only []
  refine wp_nx (k_gcd (n := n) (Nat.le_refl _) ha hb2 st) ?_
  rintro y s' ⟨rfl, rfl⟩
  simp! only [truth]
  refine wb_of ?_ ?_
  · intro h
    have h := of_decide_eq_true h
    rw [if_pos h] at hs
    have e : (0 : Int) - ((Int.gcd a b : Nat) : Int) = s := by omega
    rw [e]
    refine ⟨⟨hs0, by omega⟩, ⟨hs0, by omega⟩, by omega, okP_self, ?_⟩
    rw [hf, rk_clean fr_clean]
    exact ⟨rfl, by simp⟩
  · intro h
    have h := of_decide_eq_false h
    rw [if_neg h] at hs
    rw [← hs]
    refine ⟨⟨hs0, by omega⟩, ⟨hs0, by omega⟩, by omega, okP_self, ?_⟩
    rw [hf, rk_clean fr_clean]
    exact ⟨rfl, by simp⟩
theorem k_isint (n : Nat) {a : Int} (st : Sto) : wp (call P (n + 1) F.is_integer [.int a]) st (fun r s' => r = .bl true ∧ s' = st) NX := by
  refine w_call (F := c_is_integer) rfl rfl ?_
  unfold c_is_integer
  simp! only [truth]
  refine ⟨okP_self, ?_⟩
  rw [rk_clean rfl]
  exact ⟨rfl, by simp⟩
theorem k_isfrac (n : Nat) {q : Rat} (h1 : Lg 400000 q.num) (h2 : Lg 400000 q.den) (st : Sto) : wp (call P (n + 2) F.is_fraction [fr q]) st (fun r s' => r = .bl true ∧ s' = st) NX := by
  have hsl := sl_ge
  refine w_call (F := c_is_fraction) rfl rfl ?_
  unfold c_is_fraction
  have hla : land (fr q) st = (fr q, st) := land_pur fr_pur
  simp! only [hla]
  simp only [fr]
  simp! only [truth, eq_int]
  refine w_lcm [q.num, ((q.den : Nat) : Int)] D.int (fun _ => .bl true) (by simp; omega) ?_ ?_
  · intro c _
    simp! only []
    refine wp_nx (k_isint (n := n) st) ?_
    rintro y s' ⟨rfl, rfl⟩
    exact ⟨rfl, rfl⟩
  · have e0 : L2.atI [D.int q.num, D.int ((q.den : Nat) : Int)] 0 = some (.int q.num) := rfl
    have e1 : L2.atI [D.int q.num, D.int ((q.den : Nat) : Int)] 1 = some (.int ((q.den : Nat) : Int)) := rfl
    have e2 : lBl st (.lst ([q.num, ((q.den : Nat) : Int)].map fun _ => D.bl true)) = some [true, true] := rfl
    have e3 : ([true, true].all id) = true := rfl
    have e4 : decide ((0 : Int) < ((q.den : Nat) : Int)) = true := decide_eq_true (by have := q.den_pos; omega)
    simp! only [e2, e3, truth, e1, e4, e0]
    refine wp_nx (k_gcd (n := n) (Nat.le_refl _) h1 h2 st) ?_
    rintro y s' ⟨rfl, rfl⟩
    have hc : Int.gcd q.num ((q.den : Nat) : Int) = 1 := q.reduced
    rw [hc, eq_int]
    simp! only []
    refine ⟨okP_self, ?_⟩
    rw [rk_clean rfl]
    exact ⟨rfl, by simp⟩
theorem k_fraction (n : Nat) {a b : Int} {k : Nat} (hk : k ≤ 9000) (hk0 : 0 < k) (ha : Lg 400000 a) (hb : Lg k b) (hb0 : b ≠ 0) (st : Sto) :
    wp (call P (n + 3) F.fraction [.int a, .int b]) st (fun r s' => r = fr ((a : Rat) / (b : Rat)) ∧ s' = st) NX := by
  refine w_call (F := c_fraction) rfl rfl ?_
  unfold c_fraction
  simp! only []
  refine wp_nx (k_isint (n := n + 1) st) ?_
  rintro y s' ⟨rfl, rfl⟩
  simp! only [truth]
  refine wp_nx (k_isint (n := n + 1) _) ?_
  rintro y s' ⟨rfl, rfl⟩
  have e : decide (b = 0) = false := decide_eq_false hb0
  simp! only [truth, eq_int, e]
  refine wp_nx (k_reduced (n := n) hk hk0 ha hb hb0 _) ?_
  rintro y s' ⟨rfl, rfl⟩
  refine ⟨okP_self, ?_⟩
  rw [rk_clean fr_clean]
  exact ⟨rfl, by simp⟩
theorem k_lfrac (n : Nat) {a b : Int} {k : Nat} (hk : k ≤ 9000) (hk0 : 0 < k) (ha : Lg 400000 a) (hb : Lg k b) (hb0 : b ≠ 0) (st : Sto) :
    wp (call P (n + 1) F._law_fraction [.int a, .int b]) st (fun r s' => r = fr ((a : Rat) / (b : Rat)) ∧ s' = st) NX := by
  have hsl := sl_ge
  have hb2 : Lg 400000 b := Nat.lt_of_lt_of_le hb (Nat.pow_le_pow_right (by omega) (by omega))
  obtain ⟨z, hs, hs0, hsb, hf⟩ := low_frac (a := a) hb0
  have hsl2 := log_of hb hk0 hsb
  refine w_call (F := c__law_fraction) rfl rfl ?_
  unfold c__law_fraction
  simp! only [bi_abs1]
  refine ⟨by omega, ?_⟩
  refine w_wh (fun k σ s => ∃ x y : Nat, σ = [some (.int a), some (.int b), some (.int (x : Int)), some (.int (y : Int))] ∧ s = st ∧ Nat.gcd x y = Int.gcd a b ∧ k = eu x y) ?_ wfuel (eu a.natAbs b.natAbs) _ _ ⟨a.natAbs, b.natAbs, rfl, rfl, rfl, rfl⟩ (euK (Nat.le_refl _) ha hb2)
  rintro k σ s ⟨x, y, rfl, rfl, hg, rfl⟩
  simp! only [truth]
  refine wb_of ?_ ?_
  · intro hy
    have hy : 0 < y := by
      have := of_decide_eq_true hy
      omega
    refine ⟨?_, by omega, by omega, eu y (x % y), eu_step hy, y, x % y, ?_, ?_, rfl⟩
    · have := eu_step (a := x) hy; omega
    · rw [fmod_nat]
    · rw [gcd_step]; exact hg
  · intro hy
    have hy : y = 0 := by
      have := of_decide_eq_false hy
      omega
    subst hy
    rw [Nat.gcd_zero_right] at hg
    subst hg
    refine wb_of ?_ ?_
    · intro h
      have h := of_decide_eq_true h
      rw [if_neg (by omega)] at hs
      rw [← hs]
      refine ⟨⟨hs0, by omega⟩, ⟨hs0, by omega⟩, by omega, okP_self, ?_⟩
      rw [hf, rk_clean fr_clean]
      exact ⟨rfl, by simp⟩
    · intro h
      have h := of_decide_eq_false h
      rw [if_pos (by omega)] at hs
      have e : (0 : Int) - ((Int.gcd a b : Nat) : Int) = z := by omega
      rw [e]
      refine ⟨⟨hs0, by omega⟩, ⟨hs0, by omega⟩, by omega, okP_self, ?_⟩
      rw [hf, rk_clean fr_clean]
      exact ⟨rfl, by simp⟩
end Fs
/-! sizes; sums and products of the law; rows; need_matrix -/
namespace Fs
open PySem Pf
theorem Lg.mono {j k : Nat} {a : Int} (h : Lg j a) (hk : j ≤ k) : Lg k a := Nat.lt_of_lt_of_le h (Nat.pow_le_pow_right (by omega) hk)
theorem Lg.mul {j k : Nat} {a b : Int} (h : Lg j a) (h2 : Lg k b) : Lg (j + k) (a * b) := by
  unfold Lg at *
  rw [Int.natAbs_mul, Nat.pow_add]
  exact Nat.mul_lt_mul'' h h2
theorem Lg.add {k : Nat} {a b : Int} (h : Lg k a) (h2 : Lg k b) : Lg (k + 1) (a + b) := by
  unfold Lg at *
  rw [Nat.pow_succ]
  have := Int.natAbs_add_le a b
  omega
theorem Lg.sub {k : Nat} {a b : Int} (h : Lg k a) (h2 : Lg k b) : Lg (k + 1) (a - b) := by
  unfold Lg at *
  rw [Nat.pow_succ]
  have := Int.natAbs_sub_le a b
  omega
theorem Lg.neg {k : Nat} {a : Int} (h : Lg k a) : Lg k (0 - a) := by
  unfold Lg at *
  omega
theorem Lg.log {k : Nat} {a : Int} (h : Lg k a) (hk : k ≤ 400000) : a.natAbs.log2 < 500000 := log_lt h (by omega)
theorem lg2 {j k : Nat} {a b : Int} (h : Lg j a) (h2 : Lg k b) (hj : j ≤ 400000) (hk : k ≤ 400000) : a.natAbs.log2 + b.natAbs.log2 < 1000000 := by
  have := h.log hj
  have := h2.log hk
  omega
/-- a fraction of two small numbers -/
def Sz (k : Nat) (q : Rat) : Prop := Lg k q.num ∧ Lg k ((q.den : Nat) : Int)
theorem Sz.mono {j k : Nat} {q : Rat} (h : Sz j q) (hk : j ≤ k) : Sz k q := ⟨h.1.mono hk, h.2.mono hk⟩
theorem Sz.of {D A k : Nat} {q : Rat} (h : Fb D A q) (hD : D < 2 ^ k) (hA : A < 2 ^ k) : Sz k q := by
  have h1 := h.parts
  have h2 := h.den_le
  exact ⟨Nat.lt_of_le_of_lt h1.2 hA, by unfold Lg; exact Nat.lt_of_le_of_lt h2 hD⟩
theorem den_pos' (q : Rat) : ((q.den : Nat) : Int) ≠ 0 := by have := q.den_pos; omega
theorem den_rat (q : Rat) : ((q.den : Nat) : Rat) ≠ 0 := by
  intro h
  have : q.den = 0 := by exact_mod_cast h
  exact q.den_nz this
theorem add_frac (p q : Rat) : ((p.num * ((q.den : Nat) : Int) + q.num * ((p.den : Nat) : Int) : Int) : Rat) / ((((p.den : Nat) : Int) * ((q.den : Nat) : Int) : Int) : Rat) = p + q := by
  have h1 := rat_eq p
  have h2 := rat_eq q
  have c1 : ((p.num * ((q.den : Nat) : Int) + q.num * ((p.den : Nat) : Int) : Int) : Rat) = (p.num : Rat) * (q.den : Rat) + (q.num : Rat) * (p.den : Rat) := by simp [nz]
  have c2 : ((((p.den : Nat) : Int) * ((q.den : Nat) : Int) : Int) : Rat) = (p.den : Rat) * (q.den : Rat) := by simp [nz]
  have := den_rat p
  have := den_rat q
  rw [c1, c2, ← h1, ← h2]
  grind
theorem mul_frac (p q : Rat) : ((p.num * q.num : Int) : Rat) / ((((p.den : Nat) : Int) * ((q.den : Nat) : Int) : Int) : Rat) = p * q := by
  have h1 := rat_eq p
  have h2 := rat_eq q
  have c1 : ((p.num * q.num : Int) : Rat) = (p.num : Rat) * (q.num : Rat) := by simp
  have c2 : ((((p.den : Nat) : Int) * ((q.den : Nat) : Int) : Int) : Rat) = (p.den : Rat) * (q.den : Rat) := by simp [nz]
  have := den_rat p
  have := den_rat q
  rw [c1, c2, ← h1, ← h2]
  grind
theorem la_fr {q : Rat} {s : Sto} : land (fr q) s = (fr q, s) := land_pur fr_pur
theorem at_fr0 {q : Rat} : L2.atI [D.int q.num, D.int ((q.den : Nat) : Int)] 0 = some (.int q.num) := rfl
theorem at_fr1 {q : Rat} : L2.atI [D.int q.num, D.int ((q.den : Nat) : Int)] 1 = some (.int ((q.den : Nat) : Int)) := rfl
section
variable {s : Sto} {Q : D → Sto → Prop} {E : D → Sto → Prop}
theorem gi_fr0 {q : Rat} : wp (getI (fr q) (.int 0)) s Q E = Q (.int q.num) s := by
  simp only [fr]; rw [gi_tup, at_fr0]; rfl
theorem gi_fr1 {q : Rat} : wp (getI (fr q) (.int 1)) s Q E = Q (.int ((q.den : Nat) : Int)) s := by
  simp only [fr]; rw [gi_tup, at_fr1]; rfl
end
theorem k_lplus (n : Nat) {p q : Rat} {k : Nat} (hk : k ≤ 4000) (hp : Sz k p) (hq : Sz k q) (st : Sto) :
    wp (call P (n + 2) F._law_plus [fr p, fr q]) st (fun r s' => r = fr (p + q) ∧ s' = st) NX := by
  refine w_call (F := c__law_plus) rfl rfl ?_
  unfold c__law_plus
  simp! only [la_fr, gi_fr0, gi_fr1]
  refine ⟨lg2 hp.1 hq.2 (by omega) (by omega), lg2 hq.1 hp.2 (by omega) (by omega), lg2 hp.2 hq.2 (by omega) (by omega), ?_⟩
  have h1 := (hp.1.mul hq.2).add (hq.1.mul hp.2)
  have h2 := hp.2.mul hq.2
  have h3 : ((p.den : Nat) : Int) * ((q.den : Nat) : Int) ≠ 0 := Int.mul_ne_zero (den_pos' p) (den_pos' q)
  refine wp_nx (k_lfrac (n := n) (k := k + k + 1) (by omega) (by omega) (h1.mono (by omega)) (h2.mono (by omega)) h3 st) ?_
  rintro y s' ⟨rfl, rfl⟩
  refine ⟨okP_self, ?_⟩
  rw [add_frac, rk_clean fr_clean]
  exact ⟨rfl, by simp⟩
theorem k_ltimes (n : Nat) {p q : Rat} {k : Nat} (hk : k ≤ 4000) (hp : Sz k p) (hq : Sz k q) (st : Sto) :
    wp (call P (n + 2) F._law_times [fr p, fr q]) st (fun r s' => r = fr (p * q) ∧ s' = st) NX := by
  refine w_call (F := c__law_times) rfl rfl ?_
  unfold c__law_times
  simp! only [la_fr, gi_fr0, gi_fr1]
  refine ⟨lg2 hp.1 hq.1 (by omega) (by omega), lg2 hp.2 hq.2 (by omega) (by omega), ?_⟩
  have h1 := hp.1.mul hq.1
  have h2 := hp.2.mul hq.2
  have h3 : ((p.den : Nat) : Int) * ((q.den : Nat) : Int) ≠ 0 := Int.mul_ne_zero (den_pos' p) (den_pos' q)
  refine wp_nx (k_lfrac (n := n) (k := k + k + 1) (by omega) (by omega) (h1.mono (by omega)) (h2.mono (by omega)) h3 st) ?_
  rintro y s' ⟨rfl, rfl⟩
  refine ⟨okP_self, ?_⟩
  rw [mul_frac, rk_clean fr_clean]
  exact ⟨rfl, by simp⟩
/-! ### equality of fractions -/
theorem fr_inj {p q : Rat} (h1 : p.num = q.num) (h2 : p.den = q.den) : p = q := Rat.ext h1 h2
theorem eq_pair {s : Sto} {a b c d : Int} : eqD s (.tup [.int a, .int b]) (.tup [.int c, .int d]) = some (decide (a = c ∧ b = d)) := by
  have h1 : ∀ a b : Int, toP false s 66 (.tup [.int a, .int b]) = some (.tuple [.int a, .int b]) := fun a b => rfl
  have h2 : ∀ a b : Int, SeqAt.shaped (.tuple [.int a, .int b]) = true := fun a b => by simp [SeqAt.shaped, PyData.canLay0, PyData.canLayAll0, PyData.depth, PyData.depthAll]
  simp only [eqD, h1]
  rw [if_pos ⟨h2 a b, h2 c d⟩]
  congr 1
  simp [PyData.eqv, PyData.eqvAll]
  rfl
theorem eq_fr {s : Sto} {p q : Rat} : eqD s (fr p) (fr q) = some (decide (p = q)) := by
  simp only [fr]
  rw [eq_pair]
  congr 1
  refine decide_eq_decide.2 ⟨?_, ?_⟩
  · rintro ⟨h1, h2⟩
    exact fr_inj h1 (by omega)
  · rintro rfl; exact ⟨rfl, rfl⟩
theorem fr_neg {q : Rat} : D.tup [.int (0 - q.num), .int ((q.den : Nat) : Int)] = fr (-q) := by
  simp only [fr]
  have h1 : (-q).num = -q.num := by simp
  have h2 : (-q).den = q.den := by simp
  rw [h1, h2]
  congr 2
  simp
/-! ### rows -/
/-- a row of n things -/
def rg (n : Nat) (f : Nat → D) : List D := (List.range n).map f
theorem rg_len {n : Nat} {f : Nat → D} : (rg n f).length = n := by simp [rg]
theorem rg_get {n i : Nat} {f : Nat → D} (h : i < n) : (rg n f)[i]? = some (f i) := by
  simp only [rg, List.getElem?_map, List.getElem?_range h, Option.map_some]
theorem rg_at {n i : Nat} {f : Nat → D} (h : i < n) : L2.atI (rg n f) (i : Int) = some (f i) := by
  rw [atI_nat, rg_get h]
theorem rg_congr {n : Nat} {f g : Nat → D} (h : ∀ i, i < n → f i = g i) : rg n f = rg n g := by
  simp only [rg]
  exact List.map_congr_left fun i hi => h i (List.mem_range.1 hi)
theorem rg_set {n i : Nat} {f : Nat → D} {d : D} : (rg n f).set i d = rg n fun j => if j = i then d else f j := by
  refine List.ext_getElem? fun j => ?_
  by_cases hj : j < n
  · rw [rg_get hj, List.getElem?_set]
    by_cases hij : i = j
    · subst hij; simp [rg_len, hj]
    · have : ¬ j = i := fun h => hij h.symm
      rw [if_neg hij, if_neg this, rg_get hj]
  · rw [List.getElem?_eq_none (by rw [List.length_set, rg_len]; omega), List.getElem?_eq_none (by rw [rg_len]; omega)]
theorem rg_purs {n : Nat} {f : Nat → D} (h : ∀ i, (f i).pur = true) : D.purs (rg n f) = true := purs_of fun d hd => by
  obtain ⟨i, _, rfl⟩ := List.mem_map.1 hd
  exact h i
theorem rg_cleans {n : Nat} {f : Nat → D} (h : ∀ i, (f i).clean = true) : D.cleans (rg n f) = true := cleans_of fun d hd => by
  obtain ⟨i, _, rfl⟩ := List.mem_map.1 hd
  exact h i
def fw1 (n : Nat) (f : Nat → Rat) : List D := rg n fun j => fr (f j)
theorem fw1_clean {n : Nat} {f : Nat → Rat} : D.cleans (fw1 n f) = true := rg_cleans fun _ => rfl
theorem fw1_purs {n : Nat} {f : Nat → Rat} : D.purs (fw1 n f) = true := rg_purs fun _ => rfl
/-- a matrix of fractions -/
def mt (n : Nat) (M : Nat → Nat → Rat) : List D := rg n fun i => .tup (fw1 n (M i))
theorem mt_clean {n : Nat} {M : Nat → Nat → Rat} : D.cleans (mt n M) = true := rg_cleans fun _ => by simp only [D.clean]; exact fw1_clean
theorem mt_purs {n : Nat} {M : Nat → Nat → Rat} : D.purs (mt n M) = true := cleans_purs mt_clean
theorem mtt_clean {n : Nat} {M : Nat → Nat → Rat} : (D.tup (mt n M)).clean = true := by simp only [D.clean]; exact mt_clean
theorem mt_congr {n : Nat} {M M' : Nat → Nat → Rat} (h : ∀ i j, i < n → j < n → M i j = M' i j) : mt n M = mt n M' :=
  rg_congr fun i hi => by
    congr 1
    exact rg_congr fun j hj => by rw [h i j hi hj]
theorem rngL2 {a b : Nat} (ha : a ≤ 2 ^ 20) (hb : b ≤ 2 ^ 20) : rngL [.int (a : Nat), .int (b : Nat)] = some ((List.range (b - a)).map fun i => .int ((a + i : Nat) : Int)) := by
  have h : -(2 ^ 62 : Int) ≤ (a : Int) ∧ (a : Int) < 2 ^ 62 ∧ -(2 ^ 62 : Int) ≤ (b : Int) ∧ (b : Int) < 2 ^ 62 := by omega
  have h0 : rngL [.int (a : Nat), .int (b : Nat)] = if -(2 ^ 62 : Int) ≤ (a : Int) ∧ (a : Int) < 2 ^ 62 ∧ -(2 ^ 62 : Int) ≤ (b : Int) ∧ (b : Int) < 2 ^ 62 then some (rngN (a : Int) 1 ((b : Int) - (a : Int)).toNat) else none := by
    generalize (a : Int) = x
    generalize (b : Int) = y
    rfl
  rw [h0, if_pos h]
  have e : ((b : Int) - (a : Int)).toNat = b - a := by omega
  rw [e]
  refine congrArg some ?_
  show ((List.range (b - a)).map fun (i : Nat) => D.int ((a : Int) + (i : Int) * 1)) = _
  refine List.map_congr_left fun i _ => ?_
  have e2 : (a : Int) + (i : Int) * 1 = ((a + i : Nat) : Int) := by omega
  rw [e2]
theorem rngL1' {b : Nat} (h : b ≤ 2 ^ 20) : rngL [.int (b : Nat)] = some ((List.range b).map fun i => .int ((i : Nat) : Int)) := rngL1 h
section
variable {T : Tbl} {σ : Env} {s : Sto} {E : D → Sto → Prop} {Q : D → Sto → Prop} {QF : Fl → Sto → Prop} {γ : Type}
/-- a loop over a list that stands in the store and stays -/
theorem w_forPC {g : D → Env → M Env} {b : Env → M Fl} {l : Nat} (L : List γ) (h : γ → D) (I : List γ → Env → Sto → Prop) (h0 : I [] σ s)
    (hc : ∀ p σ s, I p σ s → s[l]? = some (.lst (L.map h)))
    (hb : ∀ pre c post σ s, L = pre ++ c :: post → I pre σ s → wp (g (h c) σ) s (fun σ1 s1 => wp (b σ1) s1 (tq (I (pre ++ [c])) QF) NX) NX)
    (hq : ∀ σ s, I L σ s → QF (.nx σ) s) : wp (forLoop (.one (.cell l)) g b ((It.one (.cell l)).len s + 1) 0 σ) s QF E := by
  refine w_forAux (L.map h) (fun i σ s => i ≤ L.length ∧ I (L.take i) σ s) ?_ ?_ ?_ _ 0 σ s ⟨Nat.zero_le _, by simpa using h0⟩ (Nat.zero_le _) ?_
  · rintro i σ s ⟨_, hI⟩
    simp only [It.next, Src.at, hc _ _ _ hI]
  · rintro i d σ s ⟨hi, hI⟩ e
    rw [List.getElem?_map] at e
    cases e2 : L[i]? with
    | none => rw [e2] at e; cases e
    | some c =>
      rw [e2] at e
      cases e
      have hi2 : i < L.length := (List.getElem?_eq_some_iff.1 e2).1
      have := hb (L.take i) c _ σ s (split_at e2) hI
      refine wp_nx this fun σ1 s1 h1 => wp_nx h1 fun f s2 h2 => ?_
      rw [← take_snoc e2] at h2
      cases f <;> first
        | exact ⟨hi2, h2⟩
        | exact h2
  · rintro σ s ⟨_, hI⟩
    rw [List.length_map, List.take_length] at hI
    exact hq σ s hI
  · simp only [It.len, Src.len, hc _ _ _ h0, List.length_map]; omega
end
theorem isT_of {s : Sto} {xs : List D} : isTy s "tuple" (.tup xs) = some true := isTy_tup
theorem all_true {γ : Type} {L : List γ} : (L.map fun _ => true).all id = true := by simp
theorem k_isrow (n : Nat) {m : Nat} {f : Nat → Rat} (hm : m ≤ 2 ^ 16) (hf : ∀ i, i < m → Sz 400000 (f i)) (st : Sto) :
    wp (call P (n + 3) F.is_row [.tup (fw1 m f), .int (m : Nat)]) st (fun r s' => r = .bl true ∧ s' = st) NX := by
  have hsl := sl_ge
  refine w_call (F := c_is_row) rfl rfl ?_
  unfold c_is_row
  have hl : (fw1 m f).length = m := rg_len
  have e : decide ((m : Int) = (m : Int)) = true := decide_eq_true rfl
  simp! only [la_tup fw1_purs, hl, eq_int, e]
  refine w_lcm (List.range m) (fun j => fr (f j)) (fun _ => .bl true) (by simp; omega) ?_ ?_
  · intro j hj
    have hj := hf j (List.mem_range.1 hj)
    simp! only [la_fr]
    refine wp_nx (k_isfrac (n := n) hj.1 hj.2 st) ?_
    rintro y s' ⟨rfl, rfl⟩
    exact ⟨rfl, rfl⟩
  · rw [lBl_lst, optL_bl (fun _ => true)]
    simp! only [all_true]
    refine ⟨okP_self, ?_⟩
    rw [rk_clean rfl]
    exact ⟨rfl, by simp⟩
theorem k_needmat (n : Nat) {m : Nat} {M : Nat → Nat → Rat} (hm : m ≤ 60) (hf : ∀ i j, i < m → j < m → Sz 400000 (M i j)) (hs : ∀ i j, i < m → j < m → M i j = - M j i) (st : Sto) :
    wp (call P (n + 4) F.need_matrix [.tup (mt m M)]) st (fun r s' => r = .non ∧ s' = st) NX := by
  have hsl := sl_ge
  refine w_call (F := c_need_matrix) rfl rfl ?_
  unfold c_need_matrix
  have hl : (mt m M).length = m := rg_len
  have e : decide ((60 : Int) < (m : Int)) = false := decide_eq_false (by omega)
  simp! only [la_tup mt_purs, hl, e, truth]
  refine w_lcm (List.range m) (fun i => .tup (fw1 m (M i))) (fun _ => .bl true) (by simp; omega) ?_ ?_
  · intro i hi
    have hi := List.mem_range.1 hi
    simp! only [la_tup fw1_purs]
    refine wp_nx (k_isrow (n := n) (by omega) (fun j hj => hf i j hi hj) st) ?_
    rintro y s' ⟨rfl, rfl⟩
    exact ⟨rfl, rfl⟩
  · rw [lBl_lst, optL_bl (fun _ => true)]
    simp! only [all_true, truth, rngL1' (show m ≤ 2 ^ 20 by omega)]
    refine w_forP (List.range m) _ (fun pre σ s => ∃ a b c, σ = [some (.tup (mt m M)), some (.int (m : Nat)), a, b, c] ∧ st = s) ⟨_, _, _, rfl, rfl⟩ ?_ ?_
    · rintro pre u post σ s hL ⟨a, b, c, rfl, rfl⟩
      have hu : u < m := List.mem_range.1 (by rw [hL]; simp)
      simp! only [rngL2 (show u ≤ 2 ^ 20 by omega) (show m ≤ 2 ^ 20 by omega)]
      refine w_forP (List.range (m - u)) _ (fun pre σ s => ∃ c, σ = [some (.tup (mt m M)), some (.int (m : Nat)), a, some (.int (u : Nat)), c] ∧ st = s) ⟨_, rfl, rfl⟩ ?_ ?_
      · rintro pre v post σ s hL ⟨c, rfl, rfl⟩
        have hv : u + v < m := by
          have := List.mem_range.1 (show v ∈ List.range (m - u) by rw [hL]; simp)
          omega
        have h1 : L2.atI (mt m M) (u : Int) = some (.tup (fw1 m (M u))) := rg_at hu
        have h2 : L2.atI (mt m M) ((u + v : Nat) : Int) = some (.tup (fw1 m (M (u + v)))) := rg_at hv
        have h3 : L2.atI (fw1 m (M u)) ((u + v : Nat) : Int) = some (fr (M u (u + v))) := rg_at hv
        have h4 : L2.atI (fw1 m (M (u + v))) (u : Int) = some (fr (M (u + v) u)) := rg_at hu
        simp! only [h1, h2, h3, h4, gi_fr0, gi_fr1, fr_neg, eq_fr]
        have h5 : decide (M u (u + v) = - M (u + v) u) = true := decide_eq_true (hs _ _ hu hv)
        refine ⟨by omega, ?_⟩
        simp! only [h5, truth]
        exact ⟨_, rfl⟩
      · rintro σ s ⟨c, rfl, rfl⟩
        exact ⟨_, _, _, rfl, rfl⟩
    · rintro σ s ⟨a, b, c, rfl, rfl⟩
      refine ⟨okP_self, ?_⟩
      simp
end Fs
/-! rows in cells; exchanged -/
namespace Fs
open PySem Pf
theorem okP_of : ∀ {st s2 : Sto} {b : Nat}, (∀ (l : Nat) (c : D), st[l]? = some c → ∃ c', s2[l]? = some c' ∧ (c = c' ∨ cellCl b c' = true)) → okPre st s2 b = true
  | [], s2, b, _ => by cases s2 <;> rfl
  | c :: st, [], b, h => by
    obtain ⟨c', h1, _⟩ := h 0 c rfl
    simp at h1
  | c :: st, d :: s2, b, h => by
    have ih := okP_of (st := st) (s2 := s2) (b := b) fun l x hx => h (l + 1) x (by simpa using hx)
    obtain ⟨c', h1, h2⟩ := h 0 c rfl
    have : d = c' := by simpa using h1
    subst this
    simp only [okPre, ih, Bool.and_true, Bool.or_eq_true, decide_eq_true_eq]
    exact h2
/-- rows in cells: the outer list at o, row i at p i -/
structure Rws (s : Sto) (o : Nat) (p : Nat → Nat) (m : Nat) (c : Nat → List D) : Prop where
  top : s[o]? = some (.lst (rg m fun i => .ref (p i)))
  row : ∀ i, i < m → s[p i]? = some (.lst (c i))
  inj : ∀ i j, i < m → j < m → p i = p j → i = j
  off : ∀ i, i < m → p i ≠ o
theorem range_succ' {n : Nat} : List.range (n + 1) = 0 :: (List.range n).map (· + 1) := by
  rw [List.range_succ_eq_map]
theorem lands_lsts : ∀ {L : List (List D)} {s : Sto}, (∀ r, r ∈ L → D.purs r = true) → lands (L.map D.lst) s = ((List.range L.length).map fun i => .ref (s.length + i), s ++ L.map D.lst)
  | [], s, _ => by simp [lands]
  | x :: L, s, h => by
    have hx := h x (List.mem_cons_self ..)
    have ih := lands_lsts (L := L) (s := s ++ [.lst x]) fun r hr => h r (List.mem_cons_of_mem _ hr)
    simp only [List.map_cons, lands, la_lst hx, ih, List.length_cons]
    rw [range_succ', List.map_cons, List.map_map]
    simp only [List.length_append, List.length_cons, List.length_nil, List.append_assoc, List.cons_append, List.nil_append]
    refine Prod.ext ?_ rfl
    show _ :: _ = _ :: _
    congr 1
    refine List.map_congr_left fun i _ => ?_
    show D.ref (s.length + 1 + i) = D.ref (s.length + (i + 1))
    congr 1
    omega
/-- the store with rows in new cells -/
def rowsS (s : Sto) (n : Nat) (c : Nat → List D) : Sto := s ++ (rg n fun i => .lst (c i)) ++ [.lst (rg n fun i => .ref (s.length + i))]
theorem land_rws {n : Nat} {c : Nat → List D} {s : Sto} (h : ∀ i, i < n → D.purs (c i) = true) : land (.lst (rg n fun i => .lst (c i))) s = (.ref (s.length + n), rowsS s n c) := by
  have e : (rg n fun i => D.lst (c i)) = ((List.range n).map c).map D.lst := by simp [rg]
  have hl : ((List.range n).map c).length = n := by simp
  have h2 := lands_lsts (L := (List.range n).map c) (s := s) fun r hr => by
    obtain ⟨i, hi, rfl⟩ := List.mem_map.1 hr
    exact h i (List.mem_range.1 hi)
  simp only [land]
  rw [e, h2, hl]
  refine Prod.ext ?_ ?_
  · show D.ref _ = D.ref _
    simp
  · show _ = rowsS s n c
    simp only [rowsS]
    rw [← e]; rfl
theorem rowsS_len {s : Sto} {n : Nat} {c : Nat → List D} : (rowsS s n c).length = s.length + n + 1 := by simp [rowsS, rg_len]; omega
theorem rowsS_old {s : Sto} {n l : Nat} {c : Nat → List D} (h : l < s.length) : (rowsS s n c)[l]? = s[l]? := by
  simp only [rowsS, List.append_assoc]
  rw [List.getElem?_append_left h]
theorem rowsS_keep {s : Sto} {n l : Nat} {c : Nat → List D} {d : D} (h : s[l]? = some d) : (rowsS s n c)[l]? = some d := by
  rw [rowsS_old (List.getElem?_eq_some_iff.1 h).1, h]
theorem rowsS_rws {s : Sto} {n : Nat} {c : Nat → List D} : Rws (rowsS s n c) (s.length + n) (fun i => s.length + i) n c := by
  refine ⟨?_, ?_, fun i j _ _ h => by omega, fun i hi h => by omega⟩
  · simp only [rowsS]
    rw [List.getElem?_append_right (by simp [rg_len])]
    simp [rg_len]
  · intro i hi
    simp only [rowsS, List.append_assoc]
    rw [List.getElem?_append_right (by omega), List.getElem?_append_left (by rw [rg_len]; omega)]
    have : s.length + i - s.length = i := by omega
    rw [this, rg_get hi]
theorem Rws.congr {s s' : Sto} {o m : Nat} {p : Nat → Nat} {c : Nat → List D} (h : Rws s o p m c) (h1 : s'[o]? = s[o]?) (h2 : ∀ i, i < m → s'[p i]? = s[p i]?) : Rws s' o p m c :=
  ⟨h1.trans h.top, fun i hi => (h2 i hi).trans (h.row i hi), h.inj, h.off⟩
theorem Rws.cg {s : Sto} {o m : Nat} {p : Nat → Nat} {c c' : Nat → List D} (h : Rws s o p m c) (h2 : ∀ i, i < m → c i = c' i) : Rws s o p m c' :=
  ⟨h.top, fun i hi => by rw [h.row i hi, h2 i hi], h.inj, h.off⟩
theorem Rws.lt {s : Sto} {o m : Nat} {p : Nat → Nat} {c : Nat → List D} (h : Rws s o p m c) {i : Nat} (hi : i < m) : p i < s.length := (List.getElem?_eq_some_iff.1 (h.row i hi)).1
theorem Rws.olt {s : Sto} {o m : Nat} {p : Nat → Nat} {c : Nat → List D} (h : Rws s o p m c) : o < s.length := (List.getElem?_eq_some_iff.1 h.top).1
/-- two places of a cell exchanged -/
theorem s_swap {T : Tbl} {σ : Env} {s : Sto} {QF : Fl → Sto → Prop} {E : D → Sto → Prop} {a b c q u v m : Nat} {f : Nat → D} (ha : σ[a]? = some (some (.ref q))) (hb : σ[b]? = some (some (.int (u : Nat)))) (hc : σ[c]? = some (some (.int (v : Nat))))
    (hq : s[q]? = some (.lst (rg m f))) (hu : u < m) (hv : v < m) (hf : ∀ i, (f i).pur = true)
    (h : QF (.nx σ) (s.set q (.lst (rg m fun j => f (if j = u then v else if j = v then u else j))))) :
    wp (exS T (.asg (.tup [.sub (.loc a) (.loc b), .sub (.loc a) (.loc c)]) (.tup [.sub (.loc a) (.loc c), .sub (.loc a) (.loc b)])) σ) s QF E := by
  have hsl := sl_ge
  have hlt : q < s.length := (List.getElem?_eq_some_iff.1 hq).1
  have h2 : ∀ c : D, (s.set q c)[q]? = some c := fun c => by simp [hlt]
  have e1 : L2.atI (rg m f) (u : Int) = some (f u) := rg_at hu
  have e2 : L2.atI (rg m f) (v : Int) = some (f v) := rg_at hv
  simp! only [ha, hb, hc, hq, e1, e2]
  refine ⟨by omega, ?_⟩
  rw [rg_len, ixN_nat hu]
  simp! only [land_pur (hf _), h2, rg_set, rg_len]
  rw [ixN_nat hv]
  simp! only [land_pur (hf _), rg_set, List.set_set]
  have e3 : (rg m fun j => if j = v then f u else if j = u then f v else f j) = rg m fun j => f (if j = u then v else if j = v then u else j) := rg_congr fun j _ => by
    by_cases h1 : j = u
    · subst h1
      by_cases h3 : j = v
      · simp [h3]
      · simp [h3]
    · by_cases h3 : j = v
      · subst h3; simp [h1]
      · simp [h1, h3]
  rw [e3]
  exact h
theorem tau_tau {k i : Nat} : tau k (tau k i) = i := by
  unfold tau
  repeat' split
  all_goals omega
theorem tau_eq {k j : Nat} : tau k j = if j = 1 then k else if j = k then 1 else j := rfl
theorem pur_ref {l : Nat} : (D.ref l).pur = true := rfl
theorem k_exch (n : Nat) {s : Sto} {o m k : Nat} {p : Nat → Nat} {R : Nat → Nat → D} (h : Rws s o p m fun i => rg m (R i)) (h1 : 1 < k) (hk : k < m) (hm : m ≤ 2 ^ 16) (hR : ∀ i j, (R i j).clean = true) :
    wp (call P (n + 1) F.exchanged [.ref o, .int 1, .int (k : Nat)]) s (fun r s' => r = .non ∧ s'.length = s.length ∧ Rws s' o (fun i => p (tau k i)) m (fun i => rg m fun j => R (tau k i) (tau k j)) ∧ ∀ l, l ≠ o → (∀ i, i < m → l ≠ p i) → s'[l]? = s[l]?) NX := by
  have hsl := sl_ge
  have hol := h.olt
  refine w_call (F := c_exchanged) rfl rfl ?_
  unfold c_exchanged
  have e : lands [.ref o, .int 1, .int (k : Nat)] s = ([.ref o, .int 1, .int (k : Nat)], s) := lands_pur rfl
  rw [e, l_cons]
  refine s_swap (a := 0) (b := 1) (c := 2) (u := 1) (v := k) (by rfl) (by rfl) (by rfl) h.top (by omega) hk (fun i => pur_ref) ?_
  rw [fq_nx]
  have htop : (rg m fun j => D.ref (p (if j = 1 then k else if j = k then 1 else j))) = rg m fun i => .ref (p (tau k i)) := rfl
  rw [htop]
  have ht : ∀ i, i < m → tau k i < m := fun i hi => tau_lt hk (by omega) hi
  have ho2 : ∀ c : D, (s.set o c)[o]? = some c := fun c => by simp [hol]
  have hne : ∀ (c : D) (l : Nat), l ≠ o → (s.set o c)[l]? = s[l]? := fun c l hl => List.getElem?_set_ne fun q => hl q.symm
  simp! only [ho2]
  refine w_forPC (List.range m) (fun i => .ref (p (tau k i))) (fun pre σ s2 => (∃ x, σ = [some (.ref o), some (.int 1), some (.int (k : Nat)), x]) ∧ s2.length = s.length ∧ s2[o]? = some (.lst (rg m fun i => .ref (p (tau k i)))) ∧ (∀ i, i < m → i ∈ pre → s2[p (tau k i)]? = some (.lst (rg m fun j => R (tau k i) (tau k j)))) ∧ (∀ i, i < m → i ∉ pre → s2[p (tau k i)]? = some (.lst (rg m (R (tau k i))))) ∧ ∀ l, l ≠ o → (∀ i, i < m → l ≠ p i) → s2[l]? = s[l]?) ⟨⟨_, rfl⟩, by simp, ho2 _, fun i _ q => by simp at q, fun i hi _ => by rw [hne _ _ (h.off _ (ht i hi)), h.row _ (ht i hi)], fun l hl _ => hne _ _ hl⟩ ?_ ?_ ?_
  · rintro pre σ s2 ⟨_, _, q, _⟩
    exact q
  · rintro pre i post σ s2 hL ⟨⟨x, rfl⟩, a1, a2, a3, a4, a5⟩
    have hi : i < m := List.mem_range.1 (by rw [hL]; simp)
    have hip : i ∉ pre := by
      have := range_split hL
      obtain ⟨e1, _, _⟩ := this
      rw [e1]
      simp
    have hc := a4 i hi hip
    simp only [↓g_nm, la_ref, List.set_cons_succ, List.set_cons_zero]
    rw [l_cons]
    refine s_swap (a := 3) (b := 1) (c := 2) (u := 1) (v := k) (by rfl) (by rfl) (by rfl) hc (by omega) hk (fun j => clean_pur (hR _ j)) ?_
    have e2 : (rg m fun j => R (tau k i) (if j = 1 then k else if j = k then 1 else j)) = rg m fun j => R (tau k i) (tau k j) := rfl
    rw [e2]
    have hpl : p (tau k i) < s2.length := (List.getElem?_eq_some_iff.1 hc).1
    simp! only []
    have hset : ∀ (c : D) (l : Nat), l ≠ p (tau k i) → (s2.set (p (tau k i)) c)[l]? = s2[l]? := fun c l hl => List.getElem?_set_ne fun q => hl q.symm
    have hdif : ∀ j, j < m → j ≠ i → p (tau k j) ≠ p (tau k i) := fun j hj hji q => by
      have := h.inj _ _ (ht j hj) (ht i hi) q
      have := congrArg (tau k) this
      rw [tau_tau, tau_tau] at this
      exact hji this
    refine ⟨⟨_, rfl⟩, by simp [a1], ?_, ?_, ?_, ?_⟩
    · rw [hset _ _ fun q => h.off _ (ht i hi) q.symm, a2]
    · intro j hj hjp
      by_cases hji : j = i
      · subst hji
        simp [hpl]
      · rw [hset _ _ (hdif j hj hji)]
        refine a3 j hj ?_
        simpa [hji] using hjp
    · intro j hj hjp
      have hji : j ≠ i := fun q => hjp (by simp [q])
      rw [hset _ _ (hdif j hj hji)]
      exact a4 j hj fun q => hjp (by simp [q])
    · intro l hl hl2
      rw [hset _ _ (hl2 _ (ht i hi))]
      exact a5 l hl hl2
  · rintro σ s2 ⟨⟨x, rfl⟩, a1, a2, a3, a4, a5⟩
    simp! only []
    have hcl : ∀ i, cellCl s.length (.lst (rg m fun j => R (tau k i) (tau k j))) = true := fun i => cleans_clss (rg_cleans fun j => hR _ _)
    have hctop : cellCl s.length (.lst (rg m fun i => .ref (p (tau k i)))) = true := by
      show D.clss s.length (rg m fun i => .ref (p (tau k i))) = true
      have : ∀ L : List Nat, (∀ i, i ∈ L → i < m) → D.clss s.length (L.map fun i => D.ref (p (tau k i))) = true := by
        intro L
        induction L with
        | nil => intro _; rfl
        | cons a L ih =>
          intro hL
          simp only [List.map_cons, D.clss, D.cls, Bool.and_eq_true, decide_eq_true_eq]
          exact ⟨h.lt (ht a (hL a (List.mem_cons_self ..))), ih fun i hi => hL i (List.mem_cons_of_mem _ hi)⟩
      exact this _ fun i hi => List.mem_range.1 hi
    have htk : s2.take s.length = s2 := by rw [← a1, List.take_length]
    rw [htk]
    refine ⟨okP_of ?_, a1, ⟨a2, fun i hi => a3 i hi (by simpa using hi), fun i j hi hj q => ?_, fun i hi => h.off _ (ht i hi)⟩, a5⟩
    · intro l c hc
      have hls : l < s2.length := by rw [a1]; exact (List.getElem?_eq_some_iff.1 hc).1
      by_cases hlo : l = o
      · subst hlo
        exact ⟨_, a2, .inr hctop⟩
      · by_cases hex : ∃ i, i < m ∧ l = p i
        · obtain ⟨i, hi, rfl⟩ := hex
          have h3 := a3 (tau k i) (ht i hi) (by simpa using ht i hi)
          rw [tau_tau] at h3
          exact ⟨_, h3, .inr (by have := hcl (tau k i); rw [tau_tau] at this; exact this)⟩
        · refine ⟨c, ?_, .inl rfl⟩
          rw [a5 l hlo fun i hi q => hex ⟨i, hi, q⟩]
          exact hc
    · have := h.inj _ _ (ht i hi) (ht j hj) q
      have := congrArg (tau k) this
      rwa [tau_tau, tau_tau] at this
end Fs
/-! integer_sum -/
namespace Pf
variable {N m : Nat} {w0 R R' : Nat → Nat → Int} {d s : Int} {I rest : List Nat}
theorem Iv.entry (v : Iv N w0 m R d s I rest) {i j : Nat} (hi : i < m) (hj : j < m) : (R i j : Rat) = pfs (rw0 w0) (I ++ [rest.getD i 0, rest.getD j 0]) := by
  have h := v.sub [i, j] (fun x hx => by
    rcases List.mem_cons.1 hx with rfl | hx
    · exact hi
    · rcases List.mem_cons.1 hx with rfl | hx
      · exact hj
      · simp at hx)
  rw [pfs_pair] at h
  have hd : (d : Rat) ≠ 0 := by
    have := v.dn
    intro q
    exact this (by exact_mod_cast q)
  have e : (d : Rat) * rdv R d i j = (R i j : Rat) := by simp only [rdv]; grind
  rw [e] at h
  exact h
theorem Iv.bound (v : Iv N w0 m R d s I rest) {A : Nat} (hA : 0 < A) (hw : ∀ i j, (w0 i j).natAbs ≤ A) (hl : I.length + m = N) {i j : Nat} (hi : i < m) (hj : j < m) : (R i j).natAbs ≤ (N * A) ^ N := by
  by_cases hij : i = j
  · subst hij
    have := v.sk i i
    have : R i i = 0 := by omega
    rw [this]; simp
  · have h := v.entry hi hj
    have h2 := pfs_bd (w := rw0 w0) hA (show 0 < N by omega) (k := N) (L := I ++ [rest.getD i 0, rest.getD j 0]) (fun x y _ _ => bd_int.2 (hw x y)) (by simp; omega) (by simp; omega)
    rw [← h] at h2
    exact bd_int.1 h2
theorem neg_exact {x d : Int} {z : Rat} (h1 : ((x.fdiv d : Int) : Rat) = (x : Rat) / (d : Rat)) (h2 : (((-x).fdiv d : Int) : Rat) = ((-x : Int) : Rat) / (d : Rat)) : (-x).fdiv d = - (x.fdiv d) := by
  have c : ((-x : Int) : Rat) = - (x : Rat) := by simp
  have c2 : ((-(x.fdiv d) : Int) : Rat) = - ((x.fdiv d : Int) : Rat) := by simp
  have : (((-x).fdiv d : Int) : Rat) = ((-(x.fdiv d) : Int) : Rat) := by
    rw [h2, c2, h1, c]; grind
  exact_mod_cast this
/-- the rows of the next turn -/
def nextR (R : Nat → Nat → Int) (d : Int) (m : Nat) (i j : Nat) : Int :=
  if i < m ∧ j < m then (R 0 1 * R (i + 2) (j + 2) - R 0 (i + 2) * R 1 (j + 2) + R 1 (i + 2) * R 0 (j + 2)).fdiv d else 0
theorem Iv.next (v : Iv N w0 (m + 2) R d s I rest) (hp : R 0 1 ≠ 0) : Iv N w0 m (nextR R d m) (R 0 1) s (I ++ [rest.getD 0 0, rest.getD 1 0]) (rest.drop 2) := by
  refine v.step hp ?_ ?_
  · intro i j
    unfold nextR
    by_cases h : i < m ∧ j < m
    · rw [if_pos h, if_pos ⟨h.2, h.1⟩]
      have e1 := v.exact hp h.1 h.2
      have e2 := v.exact hp h.2 h.1
      have hx : R 0 1 * R (j + 2) (i + 2) - R 0 (j + 2) * R 1 (i + 2) + R 1 (j + 2) * R 0 (i + 2) = - (R 0 1 * R (i + 2) (j + 2) - R 0 (i + 2) * R 1 (j + 2) + R 1 (i + 2) * R 0 (j + 2)) := by
        rw [v.sk (j + 2) (i + 2)]
        grind
      rw [hx] at e2 ⊢
      rw [neg_exact (z := 0) e1 e2]
      omega
    · rw [if_neg h, if_neg fun q => h ⟨q.2, q.1⟩]; rfl
  · intro i j hi hj
    unfold nextR
    rw [if_pos ⟨hi, hj⟩]
end Pf
namespace Fs
open PySem Pf
def zr (R : Nat → Nat → Int) (m : Nat) (i : Nat) : List D := rg m fun j => .int (R i j)
theorem zr_clean {R : Nat → Nat → Int} {m i : Nat} : D.cleans (zr R m i) = true := rg_cleans fun _ => rfl
theorem zr_purs {R : Nat → Nat → Int} {m i : Nat} : D.purs (zr R m i) = true := cleans_purs zr_clean
theorem zr_len {R : Nat → Nat → Int} {m i : Nat} : (zr R m i).length = m := rg_len
theorem zr_at {R : Nat → Nat → Int} {m i j : Nat} (h : j < m) : L2.atI (zr R m i) (j : Int) = some (.int (R i j)) := rg_at h
def isT : List Sx := [.asg (.tup [.nm 5, .nm 6]) (.tup [.sub (.loc 0) (.con (.int 0)), .sub (.loc 0) (.con (.int 1))]), .asg (.nm 0) (.lc [8] (.rng [.con (.int 2), .bi .len [.loc 5]]) (.nm 8) [] (.lc [7] (.rng [.con (.int 2), .bi .len [.loc 5]]) (.nm 7) [] (.bin .fdiv (.bin .add (.bin .sub (.bin .mul (.sub (.loc 5) (.con (.int 1))) (.sub (.sub (.loc 0) (.loc 8)) (.loc 7))) (.bin .mul (.sub (.loc 5) (.loc 8)) (.sub (.loc 6) (.loc 7)))) (.bin .mul (.sub (.loc 6) (.loc 8)) (.sub (.loc 5) (.loc 7)))) (.loc 2)))), .asg (.nm 2) (.sub (.loc 5) (.con (.int 1)))]
def isX : Sx := .iff (.val (.cmp .gt (.sub (.loc 3) (.con (.int 0))) (.con (.int 1)))) [.xpr (.call F.exchanged [.loc 0, .con (.int 1), .sub (.loc 3) (.con (.int 0))]), .asg (.nm 1) (.bin .sub (.con (.int 0)) (.loc 1))] []
def isB : List Sx := [.asg (.nm 3) (.lc [4] (.rng [.con (.int 1), .bi .len [.loc 0]]) (.nm 4) [.val (.cmp .ne (.sub (.sub (.loc 0) (.con (.int 0))) (.loc 4)) (.con (.int 0)))] (.loc 4)), .iff (.val (.cmp .eq (.loc 3) (.lst []))) [.ret (.con (.int 0))] [], isX] ++ isT
theorem is_body : c_integer_sum = ⟨1, 9, [.asg (.tup [.nm 1, .nm 2]) (.tup [.con (.int 1), .con (.int 1)]), .whl (.val (.cmp .gt (.bi .len [.loc 0]) (.con (.int 1)))) isB, .ret (.ife (.val (.cmp .eq (.loc 0) (.lst []))) (.bin .mul (.loc 1) (.loc 2)) (.con (.int 0)))]⟩ := rfl
/-- where a run of integer_sum stands -/
structure Is (N b A K : Nat) (W : Nat → Nat → Int) (s0 s : Sto) (o : Nat) (p : Nat → Nat) (k : Nat) (R : Nat → Nat → Int) (d sg : Int) (I rest : List Nat) : Prop where
  rws : Rws s o p k (zr R k)
  iv : Iv N W k R d sg I rest
  len : I.length + k = N
  sgn : sg.natAbs ≤ 1
  dl : Lg K d
  rl : ∀ i j, i < k → j < k → Lg K (R i j)
  big : s0.length ≤ s.length
  low : ∀ l : Nat, l < b → s[l]? = s0[l]?
  pre : ∀ (l : Nat) (c : D), s0[l]? = some c → ∃ c' : D, s[l]? = some c' ∧ (c = c' ∨ cellCl s0.length c' = true)
  ob : b ≤ o
  pb : ∀ i, i < k → b ≤ p i
  cl : o < s0.length → ∀ i, i < k → p i < s0.length
variable {N b A K : Nat} {W : Nat → Nat → Int} {s0 s : Sto}
theorem k_isT (n : Nat) {o k : Nat} {p : Nat → Nat} {R : Nat → Nat → Int} {d sg : Int} {I rest : List Nat} {x3 x4 x5 x6 x7 x8 : Option D} {QF : Fl → Sto → Prop}
    (hA : 0 < A) (hw : ∀ i j, (W i j).natAbs ≤ A) (hK : (N * A) ^ N < 2 ^ K) (hK2 : K ≤ 8999) (hN : N ≤ 60) (h : Is N b A K W s0 s o p (k + 2) R d sg I rest) (hp : R 0 1 ≠ 0)
    (hq : ∀ (s2 : Sto) (o2 : Nat) (p2 : Nat → Nat) (x5 x6 : Option D), Is N b A K W s0 s2 o2 p2 k (nextR R d k) (R 0 1) sg (I ++ [rest.getD 0 0, rest.getD 1 0]) (rest.drop 2) → QF (.nx [some (.ref o2), some (.int sg), some (.int (R 0 1)), x3, x4, x5, x6, x7, x8]) s2) :
    wp (exL (P.tbl n) isT [some (.ref o), some (.int sg), some (.int d), x3, x4, x5, x6, x7, x8]) s QF NX := by
  have hsl := sl_ge
  have hr0 := h.rws.row 0 (by omega)
  have hr1 := h.rws.row 1 (by omega)
  have e0 : L2.atI (rg (k + 2) fun i => D.ref (p i)) 0 = some (.ref (p 0)) := rg_at (i := 0) (by omega)
  have e1 : L2.atI (rg (k + 2) fun i => D.ref (p i)) 1 = some (.ref (p 1)) := rg_at (i := 1) (by omega)
  have e01 : L2.atI (zr R (k + 2) 0) 1 = some (.int (R 0 1)) := rg_at (i := 1) (by omega)
  have hkN := h.len
  have hd9 : d.natAbs.log2 < 9000 := by
    have := log_of h.dl (by
      rcases Nat.eq_zero_or_pos K with h0 | h0
      · subst h0
        have := h.dl
        unfold Lg at this
        have := h.iv.dn
        omega
      · exact h0) (Nat.le_refl _)
    omega
  unfold isT
  simp! only [h.rws.top, e0, e1]
  refine ⟨by omega, ?_⟩
  simp! only [hr0, zr_len]
  have hrng : rngL [.int 2, .int ((k + 2 : Nat) : Int)] = some ((List.range (k + 2 - 2)).map fun i => .int ((2 + i : Nat) : Int)) := rngL2 (a := 2) (by omega) (by omega)
  rw [hrng, Nat.add_sub_cancel]
  simp! only []
  refine w_lcm (List.range k) _ (fun u => .lst (zr (nextR R d k) k u)) (by simp; omega) ?_ ?_
  · intro u hu
    have hu := List.mem_range.1 hu
    have hru := h.rws.row (2 + u) (by omega)
    have e2 : L2.atI (rg (k + 2) fun i => D.ref (p i)) ((2 + u : Nat) : Int) = some (.ref (p (2 + u))) := rg_at (by omega)
    have e3 : L2.atI (zr R (k + 2) 0) ((2 + u : Nat) : Int) = some (.int (R 0 (2 + u))) := rg_at (by omega)
    have e4 : L2.atI (zr R (k + 2) 1) ((2 + u : Nat) : Int) = some (.int (R 1 (2 + u))) := rg_at (by omega)
    simp! only [hr0, zr_len, hrng, Nat.add_sub_cancel]
    refine w_lcm (List.range k) _ (fun v => .int (nextR R d k u v)) (by simp; omega) ?_ ?_
    · intro v hv
      have hv := List.mem_range.1 hv
      have e5 : L2.atI (zr R (k + 2) 0) ((2 + v : Nat) : Int) = some (.int (R 0 (2 + v))) := rg_at (by omega)
      have e6 : L2.atI (zr R (k + 2) 1) ((2 + v : Nat) : Int) = some (.int (R 1 (2 + v))) := rg_at (by omega)
      have e7 : L2.atI (zr R (k + 2) (2 + u)) ((2 + v : Nat) : Int) = some (.int (R (2 + u) (2 + v))) := rg_at (by omega)
      simp! only [hr0, hr1, h.rws.top, e01, e2, hru, e7, e3, e6, e4, e5]
      refine ⟨lg2 (h.rl _ _ (by omega) (by omega)) (h.rl _ _ (by omega) (by omega)) (by omega) (by omega), lg2 (h.rl _ _ (by omega) (by omega)) (h.rl _ _ (by omega) (by omega)) (by omega) (by omega), lg2 (h.rl _ _ (by omega) (by omega)) (h.rl _ _ (by omega) (by omega)) (by omega) (by omega), ⟨h.iv.dn, hd9⟩, ?_⟩
      have e8 : nextR R d k u v = (R 0 1 * R (2 + u) (2 + v) - R 0 (2 + u) * R 1 (2 + v) + R 1 (2 + u) * R 0 (2 + v)).fdiv d := by
        unfold nextR
        rw [if_pos ⟨hu, hv⟩, Nat.add_comm u 2, Nat.add_comm v 2]
      refine congrArg some ?_
      refine congrArg D.int ?_
      exact e8.symm
    · have e10 : (List.range k).map (fun v => D.int (nextR R d k u v)) = zr (nextR R d k) k u := rfl
      rw [e10]
      exact ⟨rfl, rfl⟩
  · have e9 : (List.range k).map (fun u => D.lst (zr (nextR R d k) k u)) = rg k fun u => .lst (zr (nextR R d k) k u) := rfl
    rw [e9]
    simp! only [land_rws (fun i _ => zr_purs), rowsS_keep hr0, e01]
    have hiv := h.iv.next hp
    have hlen2 : (I ++ [rest.getD 0 0, rest.getD 1 0]).length + k = N := by simp; omega
    refine hq _ _ (fun i => s.length + i) _ _ ⟨rowsS_rws, hiv, hlen2, h.sgn, h.rl _ _ (by omega) (by omega), fun i j hi hj => ?_, by rw [rowsS_len]; have := h.big; omega, fun l hl => ?_, fun l c hc => ?_, ?_, fun i _ => ?_, fun q => ?_⟩
    · exact Nat.lt_of_le_of_lt (hiv.bound hA hw hlen2 hi hj) hK
    · by_cases hl2 : l < s.length
      · rw [rowsS_old hl2]; exact h.low l hl
      · have := h.rws.olt
        have := h.ob
        omega
    · obtain ⟨c', h1, h2⟩ := h.pre l c hc
      exact ⟨c', rowsS_keep h1, h2⟩
    · have := h.rws.olt
      have := h.ob
      omega
    · have := h.rws.olt
      have := h.ob
      omega
    · have := h.big
      omega
theorem eq_one {s : Sto} {l q : Nat} {a : Int} (h : s[l]? = some (.lst [.ref q])) (h2 : s[q]? = some (.lst [.int a])) : eqD s (.ref l) (.lst []) = some false := by
  have h1 : toP false s 66 (.ref l) = some (.list [.list [.int a]]) := by
    rw [toP_ref h]
    simp only [optL, toP_ref h2, toP_int]; rfl
  have h0 : toP false s 66 (.lst []) = some (.list []) := rfl
  have h3 : SeqAt.shaped (.list [.list [.int a]]) = true := by simp [SeqAt.shaped, PyData.canLay0, PyData.canLayAll0, PyData.depth, PyData.depthAll]
  have h4 : SeqAt.shaped (.list []) = true := by decide
  simp only [eqD, h1, h0]
  rw [if_pos ⟨h3, h4⟩]
  simp [PyData.eqv, PyData.eqvAll]
theorem k_intsum (n : Nat) {o : Nat} {p : Nat → Nat} {s0 : Sto}
    (hA : 0 < A) (hw : ∀ i j, (W i j).natAbs ≤ A) (hsk : ∀ i j, W i j = - W j i) (hK : (N * A) ^ N < 2 ^ K) (hK0 : 0 < K) (hK2 : K ≤ 8999) (hN : N ≤ 60)
    (h : Rws s0 o p N (zr W N)) (hb : b ≤ o) (hpb : ∀ i, i < N → b ≤ p i) :
    wp (call P (n + 2) F.integer_sum [.ref o]) s0 (fun r s' => (∃ z : Int, r = .int z ∧ (z : Rat) = pfs (rw0 W) (List.range N) ∧ z.natAbs ≤ (N * A) ^ N) ∧ s'.length = s0.length ∧ ∀ l : Nat, l < b → s'[l]? = s0[l]?) NX := by
  have hsl := sl_ge
  have hbig : ∀ z : Int, (z : Rat) = pfs (rw0 W) (List.range N) → z.natAbs ≤ (N * A) ^ N := by
    intro z hz
    rcases Nat.eq_zero_or_pos N with h0 | h0
    · subst h0
      have e : pfs (rw0 W) (List.range 0) = 1 := rfl
      rw [e] at hz
      have : z = 1 := by
        have c : ((1 : Int) : Rat) = 1 := by simp
        rw [← c] at hz
        exact_mod_cast hz
      subst this
      simp
    · have h2 := pfs_bd (w := rw0 W) hA h0 (k := N) (L := List.range N) (fun x y _ _ => bd_int.2 (hw x y)) (by simp) (by simp)
      rw [← hz] at h2
      exact bd_int.1 h2
  have hend : ∀ (s : Sto), s0.length ≤ s.length → (∀ l : Nat, l < b → s[l]? = s0[l]?) → (s.take s0.length).length = s0.length ∧ ∀ l : Nat, l < b → (s.take s0.length)[l]? = s0[l]? := by
    intro s h1 h2
    refine ⟨by rw [List.length_take]; omega, fun l hl => ?_⟩
    rw [List.getElem?_take]
    have := h.olt
    rw [if_pos (by omega), h2 l hl]
  refine w_call (F := c_integer_sum) rfl rfl ?_
  rw [is_body]
  simp! only []
  refine ⟨by omega, ?_⟩
  refine w_wh (fun k σ s => ∃ o p R d sg I rest x3 x4 x5 x6 x7 x8, σ = [some (.ref o), some (.int sg), some (.int d), x3, x4, x5, x6, x7, x8] ∧ Is N b A K W s0 s o p k R d sg I rest) ?_ wfuel N _ _ ?_ (by rw [show wfuel = 1000000 from rfl]; omega)
  · rintro k σ s ⟨o, p, R, d, sg, I, rest, x3, x4, x5, x6, x7, x8, rfl, H⟩
    have hkN := H.len
    simp! only [H.rws.top, rg_len, truth]
    refine wb_of ?_ ?_
    · intro hk
      have hk : 1 < k := by
        have := of_decide_eq_true hk
        omega
      refine ⟨by omega, ?_⟩
      obtain ⟨k, rfl⟩ : ∃ j, k = j + 2 := ⟨k - 2, by omega⟩
      have hr0 := H.rws.row 0 (by omega)
      have e0 : L2.atI (rg (k + 2) fun i => D.ref (p i)) 0 = some (.ref (p 0)) := rg_at (i := 0) (by omega)
      have hrng : rngL [.int 1, .int ((k + 2 : Nat) : Int)] = some ((List.range (k + 2 - 1)).map fun i => .int ((1 + i : Nat) : Int)) := rngL2 (a := 1) (by omega) (by omega)
      unfold isB
      simp! only [H.rws.top, rg_len, hrng]
      refine w_lcf (List.range (k + 2 - 1)) _ (fun i => decide (R 0 (1 + i) ≠ 0)) (fun i => .int ((1 + i : Nat) : Int)) (by simp; omega) ?_ ?_
      · intro i hi
        have hi := List.mem_range.1 hi
        have e1 : L2.atI (zr R (k + 2) 0) ((1 + i : Nat) : Int) = some (.int (R 0 (1 + i))) := rg_at (by omega)
        simp! only [H.rws.top, e0, hr0, e1, eq_int, Option.map_some, truth]
        by_cases hz : R 0 (1 + i) = 0
        · simp [hz, wb]
        · simp [hz, wb]
      · generalize hpl : (List.range (k + 2 - 1)).filter (fun i => decide (R 0 (1 + i) ≠ 0)) = pl
        have hmem : ∀ i, i ∈ pl ↔ i < k + 1 ∧ R 0 (1 + i) ≠ 0 := by
          intro i
          rw [← hpl]
          simp
        have e2 : pl.map (fun i => D.int ((1 + i : Nat) : Int)) = nv (pl.map fun i => 1 + i) := by simp [nv]
        rw [e2]
        have hpll : pl.length ≤ k + 1 := by
          rw [← hpl]
          have := List.length_filter_le (fun i => decide (R 0 (1 + i) ≠ 0)) (List.range (k + 2 - 1))
          simpa using this
        simp! only [la_lst nv_purs, eq_nil (W := pl.map fun i => 1 + i) sg0, truth]
        have Hs : ∀ c : D, Is N b A K W s0 (s ++ [c]) o p (k + 2) R d sg I rest := fun c => ⟨H.rws.congr (sgl H.rws.top |>.trans H.rws.top.symm) fun i hi => (sgl (H.rws.row i hi)).trans (H.rws.row i hi).symm, H.iv, H.len, H.sgn, H.dl, H.rl, by have := H.big; simp; omega, fun l hl => by
            have := H.rws.olt
            have := H.ob
            rw [List.getElem?_append_left (by omega)]
            exact H.low l hl, fun l x hx => by
            obtain ⟨c', h1, h2⟩ := H.pre l x hx
            exact ⟨c', sgl h1, h2⟩, H.ob, H.pb, H.cl⟩
        refine ⟨by omega, ?_⟩
        cases pl with
        | nil =>
          simp! only [List.map_nil, List.isEmpty_nil]
          rw [rk_clean rfl]
          have H2 := Hs (.lst (nv []))
          have hz : pfs (rw0 W) (List.range N) = 0 := H.iv.zero fun j h1 h2 => by
            have h3 := hmem (j - 1)
            have h4 : 1 + (j - 1) = j := by omega
            rw [h4] at h3
            by_cases h5 : R 0 j = 0
            · exact h5
            · have := h3.2 ⟨by omega, h5⟩
              simp at this
          refine ⟨okP_of H2.pre, ⟨0, rfl, by rw [hz]; simp, by simp⟩, hend _ H2.big H2.low⟩
        | cons a pl =>
          have ha := (hmem a).1 (List.mem_cons_self ..)
          have hne : (List.map (fun i => 1 + i) (a :: pl)).isEmpty = false := rfl
          have H2 := Hs (.lst (nv (List.map (fun i => 1 + i) (a :: pl))))
          have hp3 : (s ++ [.lst (nv (List.map (fun i => 1 + i) (a :: pl)))] : Sto)[s.length]? = some (.lst (nv (List.map (fun i => 1 + i) (a :: pl)))) := sg0
          generalize (s ++ [.lst (nv (List.map (fun i => 1 + i) (a :: pl)))] : Sto) = s1 at *
          have ea : L2.atI (nv ((1 + a) :: List.map (fun i => 1 + i) pl)) 0 = some (.int ((1 + a : Nat) : Int)) := (atI_nat (xs := nv ((1 + a) :: List.map (fun i => 1 + i) pl)) (i := 0)).trans rfl
          rw [hne]
          unfold isX
          simp! only [hp3, ea, truth]
          refine wb_of ?_ ?_
          · intro h1
            have h1 : 1 < 1 + a := by
              have := of_decide_eq_true h1
              omega
            have hx := k_exch (n := n) (R := fun i j => D.int (R i j)) H2.rws h1 (show 1 + a < k + 2 by omega) (by omega) (fun _ _ => rfl)
            refine wp_nx hx ?_
            rintro y s2 ⟨rfl, hl2, hr2, hf2⟩
            have hiv := H2.iv.exch hsk (R' := fun i j => R (tau (1 + a) i) (tau (1 + a) j)) h1 (show 1 + a < k + 2 by omega) (fun _ _ => rfl)
            have htl : ∀ i, i < k + 2 → tau (1 + a) i < k + 2 := fun i hi => tau_lt (by omega) (by omega) hi
            have hp1 : R (tau (1 + a) 0) (tau (1 + a) 1) ≠ 0 := by
              have t0 : tau (1 + a) 0 = 0 := by unfold tau; split <;> (try split) <;> omega
              have t1 : tau (1 + a) 1 = 1 + a := by unfold tau; split <;> omega
              rw [t0, t1]
              exact ha.2
            have H3 : Is N b A K W s0 s2 o (fun i => p (tau (1 + a) i)) (k + 2) (fun i j => R (tau (1 + a) i) (tau (1 + a) j)) d (0 - sg) I (Pf.exch rest (1 + a)) := by
              refine ⟨hr2, hiv, H2.len, by have := H2.sgn; omega, H2.dl, fun i j hi hj => H2.rl _ _ (htl i hi) (htl j hj), by rw [hl2]; exact H2.big, fun l hl => ?_, fun l c hc => ?_, H2.ob, fun i hi => H2.pb _ (htl i hi), fun q i hi => H2.cl q _ (htl i hi)⟩
              · rw [hf2 l (by have := H2.ob; omega) fun i hi => by have := H2.pb i hi; omega]
                exact H2.low l hl
              · by_cases hlo : l = o
                · subst hlo
                  refine ⟨_, hr2.top, .inr ?_⟩
                  have hcl := H2.cl (List.getElem?_eq_some_iff.1 hc).1
                  show D.clss s0.length (rg (k + 2) fun i => .ref (p (tau (1 + a) i))) = true
                  have : ∀ L : List Nat, (∀ i, i ∈ L → i < k + 2) → D.clss s0.length (L.map fun i => D.ref (p (tau (1 + a) i))) = true := by
                    intro L
                    induction L with
                    | nil => intro _; rfl
                    | cons x L ih =>
                      intro hL
                      simp only [List.map_cons, D.clss, D.cls, Bool.and_eq_true, decide_eq_true_eq]
                      exact ⟨hcl _ (htl x (hL x (List.mem_cons_self ..))), ih fun i hi => hL i (List.mem_cons_of_mem _ hi)⟩
                  exact this _ fun i hi => List.mem_range.1 hi
                · by_cases hex : ∃ i, i < k + 2 ∧ l = p i
                  · obtain ⟨i, hi, rfl⟩ := hex
                    have h3 := hr2.row (tau (1 + a) i) (htl i hi)
                    rw [tau_tau] at h3
                    exact ⟨_, h3, .inr (cleans_clss (rg_cleans fun _ => rfl))⟩
                  · rw [hf2 l hlo fun i hi q => hex ⟨i, hi, q⟩]
                    exact H2.pre l c hc
            refine k_isT (n := n + 1) hA hw hK hK2 hN H3 hp1 ?_
            intro s4 o4 p4 y5 y6 H4
            rw [tq_nx]
            exact ⟨k, by omega, _, _, _, _, _, _, _, _, _, _, _, _, _, rfl, H4⟩
          · intro h1
            have h1 : a = 0 := by
              have := of_decide_eq_false h1
              omega
            subst h1
            refine k_isT (n := n + 1) hA hw hK hK2 hN H2 ha.2 ?_
            intro s4 o4 p4 y5 y6 H4
            rw [tq_nx]
            exact ⟨k, by omega, _, _, _, _, _, _, _, _, _, _, _, _, _, rfl, H4⟩
    · intro hk
      have hk : k ≤ 1 := by
        have := of_decide_eq_false hk
        omega
      have hsd : sg.natAbs.log2 + d.natAbs.log2 < 1000000 := lg2 (j := 1) (by unfold Lg; have := H.sgn; omega) H.dl (by omega) (by omega)
      rw [rk_clean rfl, rk_clean rfl]
      have hend2 := hend s H.big H.low
      have hpre := okP_of H.pre
      refine ⟨by omega, ?_⟩
      have hk2 : k = 0 ∨ k = 1 := by omega
      rcases hk2 with rfl | rfl
      · have h0 : s[o]? = some (.lst (nv [])) := H.rws.top
        rw [eq_nil h0]
        have hz := H.iv.done0
        simp! only [List.isEmpty_nil]
        exact ⟨hsd, hpre, ⟨_, rfl, hz.symm, hbig _ hz.symm⟩, hend2⟩
      · have h0 : s[o]? = some (.lst [.ref (p 0)]) := H.rws.top
        have h1 : s[p 0]? = some (.lst [.int (R 0 0)]) := H.rws.row 0 (by omega)
        rw [eq_one h0 h1]
        have hz := H.iv.done1
        simp! only []
        exact ⟨hpre, ⟨0, rfl, by rw [hz]; simp, by simp⟩, hend2⟩
  · refine ⟨o, p, W, 1, 1, [], List.range N, _, _, _, _, _, _, rfl, h, Iv.start hsk, by simp, by decide, by unfold Lg; exact Nat.lt_of_lt_of_le (by decide) (Nat.pow_le_pow_right (by omega) hK0), fun i j hi hj => ?_, Nat.le_refl _, fun _ _ => rfl, fun l c hc => ⟨c, hc, .inl rfl⟩, hb, hpb, fun _ i hi => h.lt hi⟩
    refine Nat.lt_of_le_of_lt (Nat.le_trans (hw i j) ?_) hK
    have h1 : 1 * A ≤ N * A := Nat.mul_le_mul_right _ (by omega)
    have h2 : (N * A) ^ 1 ≤ (N * A) ^ N := Nat.pow_le_pow_right (Nat.mul_pos (by omega) hA) (by omega)
    rw [Nat.pow_one] at h2
    omega
end Fs
/-! scaled_rows, sum_of_rows, pair_sum -/
namespace Pf
/-- a skew matrix of n rows of fractions over D, of at most A / D -/
structure Mok (n D A : Nat) (M : Nat → Nat → Rat) : Prop where
  sk : ∀ i j, M i j = - M j i
  fb : ∀ i j, Fb D A (M i j)
  out : ∀ i j, ¬ (i < n ∧ j < n) → M i j = 0
/-- the whole numbers -/
def Wm (mu : Nat) (M : Nat → Nat → Rat) (i j : Nat) : Int := (M i j).num * ((mu / (M i j).den : Nat) : Int)
theorem num_zero : (0 : Rat).num = 0 := rfl
theorem Wm_sk {mu : Nat} {M : Nat → Nat → Rat} (h : ∀ i j, M i j = - M j i) (i j : Nat) : Wm mu M i j = - Wm mu M j i := by
  unfold Wm
  have h1 : (- M j i).num = - (M j i).num := by simp
  have h2 : (- M j i).den = (M j i).den := by simp
  rw [h i j, h1, h2, Int.neg_mul]
theorem Wm_bd {n D A mu : Nat} {M : Nat → Nat → Rat} (h : Mok n D A M) (hm : mu ∣ D) (hd : ∀ i j, i < n → j < n → (M i j).den ∣ mu) (i j : Nat) : (Wm mu M i j).natAbs ≤ A ∧ (Wm mu M i j : Rat) = (mu : Rat) * M i j := by
  by_cases hij : i < n ∧ j < n
  · obtain ⟨x, h1, h2, h3⟩ := (h.fb i j).bd hm (hd i j hij.1 hij.2)
    have : Wm mu M i j = x := by rw [h2]; rfl
    rw [this]
    refine ⟨h3, ?_⟩
    rw [← h1]; grind
  · have h0 := h.out i j hij
    unfold Wm
    rw [h0, num_zero, Int.zero_mul]
    refine ⟨by simp, ?_⟩
    simp
theorem pfs_whole {n mu : Nat} {M : Nat → Nat → Rat} {W : Nat → Nat → Int} (hmu : 0 < mu) (hW : ∀ i j, (W i j : Rat) = (mu : Rat) * M i j) {z : Int} (hz : (z : Rat) = pfs (rw0 W) (List.range n)) : (z : Rat) / (((mu ^ (n / 2) : Nat) : Int) : Rat) = pfs M (List.range n) := by
  have hc : (((mu ^ (n / 2) : Nat) : Int) : Rat) = (mu : Rat) ^ (n / 2) := by
    rw [nz, pow_cast]
  have hne : (((mu ^ (n / 2) : Nat) : Int) : Rat) ≠ 0 := by
    intro q
    have : ((mu ^ (n / 2) : Nat) : Int) = 0 := by exact_mod_cast q
    have := Nat.pow_pos (n := n / 2) hmu
    omega
  rcases Nat.mod_two_eq_zero_or_one n with h | h
  · have e : pfs (rw0 W) (List.range n) = pfs (fun x y => (mu : Rat) * M x y) (List.range n) := pfs_congr rfl fun x y _ _ => hW x y
    rw [e, pfs_scale (n := n / 2) (by simp; omega)] at hz
    rw [hc] at hne ⊢
    rw [hz]
    grind
  · have e1 : pfs (rw0 W) (List.range n) = 0 := pfs_odd (n := n) (by simp) h
    have e2 : pfs M (List.range n) = 0 := pfs_odd (n := n) (by simp) h
    rw [hz, e1, e2]
    grind
/-- the size of a pair sum of fractions -/
theorem Mok.pfs {n D A : Nat} {M : Nat → Nat → Rat} (h : Mok n D A M) (hD : 0 < D) (hA : 0 < A) : Fb (D ^ (n / 2)) ((n * A) ^ n) (pfs M (List.range n)) := by
  have hd : ∀ i j, i < n → j < n → (M i j).den ∣ D := fun i j _ _ => (h.fb i j).parts.1
  have hW := fun i j => (Wm_bd h (Nat.dvd_refl D) hd i j)
  obtain ⟨z, hz⟩ := pfs_int (w := rw0 (Wm D M)) (fun a b => ⟨Wm D M a b, rfl⟩) (L := List.range n) rfl
  have h1 := pfs_whole hD (fun i j => (hW i j).2) hz.symm
  rw [← h1]
  have hp : 0 < D ^ (n / 2) := Nat.pow_pos hD
  refine Fb.of (b := D ^ (n / 2)) hp hp (Nat.dvd_refl _) ?_
  rw [Nat.div_self hp, Nat.mul_one]
  rcases Nat.eq_zero_or_pos n with h0 | h0
  · subst h0
    have e : Pf.pfs (rw0 (Wm D M)) (List.range 0) = 1 := rfl
    rw [e] at hz
    have : z = 1 := by
      have c : ((1 : Int) : Rat) = 1 := by simp
      rw [← c] at hz
      exact_mod_cast hz.symm
    subst this
    simp
  · have h2 := pfs_bd (w := rw0 (Wm D M)) hA h0 (k := n) (L := List.range n) (fun x y _ _ => bd_int.2 (hW x y).1) (by simp) (by simp)
    rw [hz] at h2
    exact bd_int.1 h2
end Pf
namespace Fs
open PySem Pf
mutual
/-- fresh data -/
def D.fc : D → Bool
  | .non | .bl _ | .int _ | .str _ => true
  | .tup xs => D.fcs xs
  | .lst xs => D.fcs xs
  | _ => false
def D.fcs : List D → Bool
  | [] => true
  | x :: xs => D.fc x && D.fcs xs
end
mutual
theorem rb_fc {g : Nat → List Nat → Option (D × List Nat)} {b : Nat} : ∀ {d : D} {vis : List Nat}, d.fc = true → rbD g b d vis = some (d, vis)
  | .non, vis, _ => by simp only [rbD]
  | .bl _, vis, _ => by simp only [rbD]
  | .int _, vis, _ => by simp only [rbD]
  | .str _, vis, _ => by simp only [rbD]
  | .tup xs, vis, h => by simp only [D.fc] at h; simp only [rbD, rbs_fc h]; rfl
  | .lst xs, vis, h => by simp only [D.fc] at h; simp only [rbD, rbs_fc h]; rfl
  | .ref _, vis, h => by simp [D.fc] at h
  | .frl _, vis, h => by simp [D.fc] at h
  | .dic _, vis, h => by simp [D.fc] at h
  | .set _, vis, h => by simp [D.fc] at h
  | .exc _ _, vis, h => by simp [D.fc] at h
  | .lam _ _, vis, h => by simp [D.fc] at h
theorem rbs_fc {g : Nat → List Nat → Option (D × List Nat)} {b : Nat} : ∀ {ds : List D} {vis : List Nat}, D.fcs ds = true → rbDs g b ds vis = some (ds, vis)
  | [], vis, _ => by simp only [rbDs]
  | d :: ds, vis, h => by
    simp only [D.fcs, Bool.and_eq_true] at h
    simp only [rbDs, rb_fc h.1, Option.bind_some, rbs_fc h.2, Option.map_some]
end
theorem rk_fc {s : Sto} {b : Nat} {d : D} (h : d.fc = true) : rback s b d = some d := by
  simp only [rback, rb_fc h]; rfl
theorem fcs_of {ds : List D} (h : ∀ d ∈ ds, d.fc = true) : D.fcs ds = true := by
  induction ds with
  | nil => rfl
  | cons d ds ih =>
    simp only [D.fcs, Bool.and_eq_true]
    exact ⟨h d (List.mem_cons_self ..), ih fun x hx => h x (List.mem_cons_of_mem _ hx)⟩
theorem rg_fcs {n : Nat} {f : Nat → D} (h : ∀ i, (f i).fc = true) : D.fcs (rg n f) = true := fcs_of fun d hd => by
  obtain ⟨i, _, rfl⟩ := List.mem_map.1 hd
  exact h i
theorem fdiv_nat {a b : Nat} : (a : Int).fdiv (b : Int) = ((a / b : Nat) : Int) := by
  rw [Int.fdiv_eq_ediv_of_nonneg _ (by omega)]; rfl
theorem Lg.nat {k a : Nat} (h : a < 2 ^ k) : Lg k (a : Int) := h
theorem lcm_eq {a b : Nat} : a / Nat.gcd a b * b = Nat.lcm a b := by
  unfold Nat.lcm
  rw [Nat.div_mul_right_comm (Nat.gcd_dvd_left a b)]
theorem k_lcm (n : Nat) {a b : Nat} (ha : a < 2 ^ 8999) (hb : b < 2 ^ 8999) (ha0 : 0 < a) (st : Sto) :
    wp (call P (n + 1) F.common_multiple [.int (a : Nat), .int (b : Nat)]) st (fun r s' => r = .int ((Nat.lcm a b : Nat) : Int) ∧ s' = st) NX := by
  have hsl := sl_ge
  refine w_call (F := c_common_multiple) rfl rfl ?_
  unfold c_common_multiple
  simp! only []
  refine ⟨by omega, ?_⟩
  refine w_wh (fun k σ s => ∃ x y : Nat, σ = [some (.int (a : Nat)), some (.int (b : Nat)), some (.int (x : Int)), some (.int (y : Int))] ∧ st = s ∧ Nat.gcd x y = Nat.gcd a b ∧ k = eu x y) ?_ wfuel (eu a b) _ _ ⟨a, b, rfl, rfl, rfl, rfl⟩ (euK (by omega) ha hb)
  rintro k σ s ⟨x, y, rfl, rfl, hg, rfl⟩
  simp! only [truth]
  refine wb_of ?_ ?_
  · intro hy
    have hy : 0 < y := by
      have := of_decide_eq_true hy
      omega
    refine ⟨?_, by omega, by omega, eu y (x % y), eu_step hy, y, x % y, ?_, ?_, rfl⟩
    · have := eu_step (a := x) hy; omega
    · rw [fmod_nat]
    · rw [gcd_step]; exact hg
  · intro hy
    have hy : y = 0 := by
      have := of_decide_eq_false hy
      omega
    subst hy
    rw [Nat.gcd_zero_right] at hg
    subst hg
    have hg0 : 0 < Nat.gcd a b := Nat.gcd_pos_of_pos_left _ ha0
    have hgl : Nat.gcd a b ≤ a := Nat.le_of_dvd ha0 (Nat.gcd_dvd_left a b)
    have hlog := log_of (b := (a : Int)) (Lg.nat ha) (by omega) (s := ((Nat.gcd a b : Nat) : Int)) (by omega)
    rw [fdiv_nat]
    have h1 : Lg 8999 ((a / Nat.gcd a b : Nat) : Int) := Lg.nat (Nat.lt_of_le_of_lt (Nat.div_le_self _ _) ha)
    refine ⟨⟨by omega, by omega⟩, lg2 h1 (Lg.nat hb) (by omega) (by omega), okP_self, ?_⟩
    have e : ((a / Nat.gcd a b : Nat) : Int) * (b : Int) = ((Nat.lcm a b : Nat) : Int) := by
      rw [← lcm_eq]; simp
    rw [rk_clean rfl, e]
    exact ⟨rfl, by simp⟩
end Fs
namespace Fs
open PySem Pf
theorem k_scaled (n : Nat) {o m D0 A : Nat} {p : Nat → Nat} {s : Sto} {M : Nat → Nat → Rat} (h : Rws s o p m fun i => fw1 m (M i)) (hM : Mok m D0 A M) (hD0 : 0 < D0) (hD : D0 < 2 ^ 4000) (hA : A < 2 ^ 4000) (hm : m ≤ 60) :
    wp (call P (n + 2) F.scaled_rows [.ref o]) s (fun r s' => (∃ mu : Nat, r = .tup [.lst (rg m fun i => .lst (zr (Wm mu M) m i)), .int (mu : Nat)] ∧ 0 < mu ∧ mu ∣ D0 ∧ ∀ i j, i < m → j < m → (M i j).den ∣ mu) ∧ s' = s) NX := by
  have hsl := sl_ge
  have hsz : ∀ i j, Sz 4000 (M i j) := fun i j => Sz.of (hM.fb i j) hD hA
  refine w_call (F := c_scaled_rows) rfl rfl ?_
  unfold c_scaled_rows
  simp! only [h.top]
  refine w_forPC (List.range m) (fun i => .ref (p i)) (fun pre σ s2 => ∃ x2 x3, ∃ mu : Nat, σ = [some (.ref o), some (.int (mu : Nat)), x2, x3] ∧ s = s2 ∧ 0 < mu ∧ mu ∣ D0 ∧ ∀ i j, i ∈ pre → j < m → (M i j).den ∣ mu) ⟨_, _, 1, rfl, rfl, by omega, Nat.one_dvd _, fun i j q => by simp at q⟩ ?_ ?_ ?_
  · rintro pre σ s2 ⟨_, _, _, _, rfl, _⟩
    exact h.top
  · rintro pre i post σ s2 hL ⟨x2, x3, mu, rfl, rfl, hmu, hmd, hall⟩
    have hi : i < m := List.mem_range.1 (by rw [hL]; simp)
    have hr := h.row i hi
    simp! only [hr]
    refine w_forPC (List.range m) (fun j => fr (M i j)) (fun pr σ s2 => ∃ x3, ∃ mu : Nat, σ = [some (.ref o), some (.int (mu : Nat)), some (.ref (p i)), x3] ∧ s = s2 ∧ 0 < mu ∧ mu ∣ D0 ∧ (∀ a j, a ∈ pre → j < m → (M a j).den ∣ mu) ∧ ∀ j, j ∈ pr → (M i j).den ∣ mu) ⟨_, mu, rfl, rfl, hmu, hmd, hall, fun j q => by simp at q⟩ ?_ ?_ ?_
    · rintro pre σ s2 ⟨_, _, _, rfl, _⟩
      exact hr
    · rintro pr j post σ s2 hL ⟨x3, mu, rfl, rfl, hmu, hmd, hall, hrow⟩
      simp! only [la_fr, gi_fr1]
      have hmu2 : mu < 2 ^ 8999 := Nat.lt_of_le_of_lt (Nat.le_of_dvd hD0 hmd) (Nat.lt_of_lt_of_le hD (Nat.pow_le_pow_right (by omega) (by omega)))
      have hde2 : (M i j).den < 2 ^ 8999 := Nat.lt_of_le_of_lt (Nat.le_of_dvd hD0 (hM.fb i j).parts.1) (Nat.lt_of_lt_of_le hD (Nat.pow_le_pow_right (by omega) (by omega)))
      refine wp_nx (k_lcm (n := n) hmu2 hde2 hmu s) ?_
      rintro y s' ⟨rfl, rfl⟩
      simp! only []
      refine ⟨_, Nat.lcm mu (M i j).den, rfl, Nat.lcm_pos hmu (M i j).den_pos, Nat.lcm_dvd hmd (hM.fb i j).parts.1, fun a b ha hb => Nat.dvd_trans (hall a b ha hb) (Nat.dvd_lcm_left _ _), fun b hb => ?_⟩
      rcases List.mem_append.1 hb with hb | hb
      · exact Nat.dvd_trans (hrow b hb) (Nat.dvd_lcm_left _ _)
      · rw [List.mem_singleton] at hb
        subst hb
        exact Nat.dvd_lcm_right _ _
    · rintro σ s2 ⟨x3, mu, rfl, rfl, hmu, hmd, hall, hrow⟩
      refine ⟨_, _, mu, rfl, rfl, hmu, hmd, fun a b ha hb => ?_⟩
      rcases List.mem_append.1 ha with ha | ha
      · exact hall a b ha hb
      · rw [List.mem_singleton] at ha
        subst ha
        exact hrow b (List.mem_range.2 hb)
  · rintro σ s2 ⟨x2, x3, mu, rfl, rfl, hmu, hmd, hall⟩
    have hmu2 : mu < 2 ^ 4000 := Nat.lt_of_le_of_lt (Nat.le_of_dvd hD0 hmd) hD
    simp! only [h.top]
    refine w_lcmC (l := o) (List.range m) (fun i => .ref (p i)) (fun i => .lst (zr (Wm mu M) m i)) (by simp; omega) h.top ?_ ?_
    · intro i hi
      have hi := List.mem_range.1 hi
      have hr := h.row i hi
      simp! only [hr]
      refine w_lcmC (l := p i) (List.range m) (fun j => fr (M i j)) (fun j => .int (Wm mu M i j)) (by simp; omega) hr ?_ ?_
      · intro j hj
        have hj := List.mem_range.1 hj
        have hdl := log_of (hsz i j).2 (by omega) (Nat.le_refl _)
        simp! only [la_fr, gi_fr0, gi_fr1]
        rw [fdiv_nat]
        have h1 : Lg 4000 ((mu / (M i j).den : Nat) : Int) := Lg.nat (Nat.lt_of_le_of_lt (Nat.div_le_self _ _) hmu2)
        exact ⟨⟨den_pos' _, by omega⟩, lg2 (hsz i j).1 h1 (by omega) (by omega), rfl⟩
      · exact ⟨rfl, rfl⟩
    · refine ⟨by omega, okP_self, ?_⟩
      have e : (List.range m).map (fun i => D.lst (zr (Wm mu M) m i)) = rg m fun i => .lst (zr (Wm mu M) m i) := rfl
      rw [e, rk_fc (by
        simp only [D.fc, D.fcs, Bool.and_true]
        exact rg_fcs fun i => by
          simp only [D.fc]
          exact rg_fcs fun _ => rfl)]
      exact ⟨⟨mu, rfl, hmu, hmd, fun i j hi hj => hall i j (List.mem_range.2 hi) hj⟩, by simp⟩
theorem take_eq {st s2 : Sto} (hl : st.length ≤ s2.length) (h : ∀ l : Nat, l < st.length → s2[l]? = st[l]?) : s2.take st.length = st := by
  refine List.ext_getElem? fun l => ?_
  rw [List.getElem?_take]
  by_cases hl2 : l < st.length
  · rw [if_pos hl2, h l hl2]
  · rw [if_neg hl2, List.getElem?_eq_none (by omega)]
theorem okP_eq {st s2 : Sto} {b : Nat} (h : ∀ l : Nat, l < st.length → s2[l]? = st[l]?) : okPre st s2 b = true :=
  okP_of fun l c hc => ⟨c, (h l (List.getElem?_eq_some_iff.1 hc).1).trans hc, .inl rfl⟩
theorem k_sumrows (n : Nat) {m D0 A : Nat} {M : Nat → Nat → Rat} (hM : Mok m D0 A M) (hD0 : 0 < D0) (hA0 : 0 < A) (hD : D0 ^ (m + 1) < 2 ^ 4000) (hA : (m * A) ^ m < 2 ^ 4000) (hA1 : A < 2 ^ 4000) (hm : m ≤ 60) (st : Sto) :
    wp (call P (n + 4) F.sum_of_rows [.lst (rg m fun i => .lst (fw1 m (M i)))]) st (fun r s' => r = fr (pfs M (List.range m)) ∧ s' = st) NX := by
  have hsl := sl_ge
  have hD1 : D0 < 2 ^ 4000 := by
    have : D0 ^ 1 ≤ D0 ^ (m + 1) := Nat.pow_le_pow_right hD0 (by omega)
    rw [Nat.pow_one] at this
    omega
  refine w_call (F := c_sum_of_rows) rfl rfl ?_
  unfold c_sum_of_rows
  have e : lands [.lst (rg m fun i => .lst (fw1 m (M i)))] st = ([.ref (st.length + m)], rowsS st m fun i => fw1 m (M i)) := by
    simp only [lands, land_rws (fun i _ => fw1_purs)]
  rw [e]
  have hR := rowsS_rws (s := st) (n := m) (c := fun i => fw1 m (M i))
  have hold : ∀ l : Nat, l < st.length → (rowsS st m fun i => fw1 m (M i))[l]? = st[l]? := fun l hl => rowsS_old hl
  have hlen : (rowsS st m fun i => fw1 m (M i)).length = st.length + m + 1 := rowsS_len
  generalize (rowsS st m fun i => fw1 m (M i)) = s1 at *
  simp! only []
  refine wp_nx (k_scaled (n := n + 1) hR hM hD0 hD1 hA1 hm) ?_
  rintro y s' ⟨⟨mu, rfl, hmu, hmd, hden⟩, rfl⟩
  have hW := fun i j => Wm_bd hM hmd hden i j
  have hmuD : mu ≤ D0 := Nat.le_of_dvd hD0 hmd
  simp! only [land_rws (fun i _ => zr_purs), rowsS_keep hR.top, rg_len]
  have hR2 := rowsS_rws (s := s') (n := m) (c := zr (Wm mu M) m)
  have hold2 : ∀ l : Nat, l < s'.length → (rowsS s' m (zr (Wm mu M) m))[l]? = s'[l]? := fun l hl => rowsS_old hl
  have hlen2 : (rowsS s' m (zr (Wm mu M) m)).length = s'.length + m + 1 := rowsS_len
  generalize (rowsS s' m (zr (Wm mu M) m)) = s2 at *
  have hf2 : (m : Int).fdiv 2 = ((m / 2 : Nat) : Int) := fdiv_nat (b := 2)
  rw [hf2, rngL1' (by omega)]
  simp! only []
  refine ⟨by decide, ?_⟩
  have hpow : ∀ k, k ≤ m → mu ^ k < 2 ^ 4000 := fun k hk => by
    have h1 : mu ^ k ≤ D0 ^ k := Nat.pow_le_pow_left hmuD k
    have h2 : D0 ^ k ≤ D0 ^ (m + 1) := Nat.pow_le_pow_right hD0 (by omega)
    omega
  refine w_forP (List.range (m / 2)) _ (fun pre σ s => (∃ x4, σ = [some (.ref (st.length + m)), some (.ref (s'.length + m)), some (.int (mu : Nat)), some (.int ((mu ^ pre.length : Nat) : Int)), x4]) ∧ s2 = s) ⟨⟨_, rfl⟩, rfl⟩ ?_ ?_
  · rintro pre c post σ s hL ⟨⟨x4, rfl⟩, rfl⟩
    have hp := range_split hL
    simp! only []
    refine ⟨lg2 (Lg.nat (hpow pre.length (by omega))) (Lg.nat (Nat.lt_of_le_of_lt hmuD hD1)) (by omega) (by omega), ?_⟩
    have : ((mu ^ pre.length : Nat) : Int) * (mu : Int) = ((mu ^ (pre.length + 1) : Nat) : Int) := by
      rw [Nat.pow_succ]; simp
    rw [this]
    exact ⟨_, rfl⟩
  · rintro σ s ⟨⟨x4, rfl⟩, rfl⟩
    simp! only []
    refine wp_nx (k_intsum (n := n + 1) (b := st.length) (K := 4000) hA0 (fun i j => (hW i j).1) (Wm_sk hM.sk) hA (by omega) (by omega) hm hR2 (by omega) (fun i _ => by omega)) ?_
    rintro y s3 ⟨⟨z, rfl, hz, hzb⟩, hl3, hf3⟩
    have hb0 : ((mu ^ (List.range (m / 2)).length : Nat) : Int) ≠ 0 := by
      have := Nat.pow_pos (n := (List.range (m / 2)).length) hmu
      omega
    have hrl : (List.range (m / 2)).length = m / 2 := by simp
    refine wp_nx (k_fraction (n := n) (k := 4000) (by omega) (by omega) (show Lg 400000 z from Nat.lt_of_lt_of_le (Nat.lt_of_le_of_lt hzb hA) (Nat.pow_le_pow_right (by omega) (by omega))) (Lg.nat (hpow _ (by rw [hrl]; omega))) hb0 s3) ?_
    rintro y s4 ⟨rfl, rfl⟩
    rw [hrl, pfs_whole hmu (fun i j => (hW i j).2) hz, rk_clean fr_clean]
    have hfr : ∀ l : Nat, l < st.length → s4[l]? = st[l]? := fun l hl => by
      rw [hf3 l hl, hold2 l (by omega), hold l hl]
    exact ⟨okP_eq hfr, rfl, take_eq (by omega) hfr⟩
theorem k_pairsum (n : Nat) {m D0 A : Nat} {M : Nat → Nat → Rat} (hM : Mok m D0 A M) (hD0 : 0 < D0) (hA0 : 0 < A) (hD : D0 ^ (m + 1) < 2 ^ 4000) (hA : (m * A) ^ m < 2 ^ 4000) (hA1 : A < 2 ^ 4000) (hm : m ≤ 60) (st : Sto) :
    wp (call P (n + 5) F.pair_sum [.tup (mt m M)]) st (fun r s' => r = fr (pfs M (List.range m)) ∧ s' = st) NX := by
  have hsl := sl_ge
  have hD1 : D0 < 2 ^ 4000 := by
    have : D0 ^ 1 ≤ D0 ^ (m + 1) := Nat.pow_le_pow_right hD0 (by omega)
    rw [Nat.pow_one] at this
    omega
  refine w_call (F := c_pair_sum) rfl rfl ?_
  unfold c_pair_sum
  simp! only [la_tup mt_purs]
  refine wp_nx (k_needmat (n := n) hm (fun i j _ _ => (Sz.of (hM.fb i j) hD1 hA1).mono (by omega)) (fun i j _ _ => hM.sk i j) st) ?_
  rintro y s' ⟨rfl, rfl⟩
  refine w_lcm (List.range m) (fun i => .tup (fw1 m (M i))) (fun i => .lst (fw1 m (M i))) (by simp; omega) ?_ ?_
  · intro i hi
    simp! only [la_tup fw1_purs, seqv_tup]
  · have e : (List.range m).map (fun i => D.lst (fw1 m (M i))) = rg m fun i => .lst (fw1 m (M i)) := rfl
    rw [e]
    refine wp_nx (k_sumrows (n := n) hM hD0 hA0 hD hA hA1 hm _) ?_
    rintro y s2 ⟨rfl, rfl⟩
    refine ⟨okP_self, ?_⟩
    rw [rk_clean fr_clean]
    exact ⟨rfl, by simp⟩
end Fs
/-! random matrices -/
namespace Fs
open PySem Pf
/-- s stands on st, where only the source at l went on -/
structure Sq (st s : Sto) (l : Nat) (N : Int) : Prop where
  lt : l < st.length
  le : st.length ≤ s.length
  up : Up st (s.take st.length) l N
theorem Sq.sr {st s : Sto} {l : Nat} {N : Int} (h : Sq st s l N) : Sr s l N := by
  obtain ⟨a, b, c, h1, h2, h3⟩ := h.up.sr h.lt
  refine ⟨a, b, c, ?_, h2, h3⟩
  rw [List.getElem?_take, if_pos h.lt] at h1
  exact h1
theorem Sq.start {st : Sto} {l : Nat} {N : Int} (h : Sr st l N) : Sq st st l N := ⟨h.lt, Nat.le_refl _, by rw [List.take_length]; exact h.up⟩
theorem Sq.next {st s s' : Sto} {l : Nat} {N M : Int} (h : Sq st s l N) (h2 : Up s s' l M) : Sq st s' l M := by
  obtain ⟨a, b, c, rfl, h3, h4⟩ := h2
  refine ⟨h.lt, by rw [List.length_set]; exact h.le, ?_⟩
  rw [List.take_set]
  obtain ⟨a', b', c', h5, _, _⟩ := h.up
  rw [h5, List.set_set]
  exact ⟨a, b, c, rfl, h3, h4⟩
theorem Sq.set {st s : Sto} {l q : Nat} {N : Int} {c : D} (h : Sq st s l N) (hq : st.length ≤ q) : Sq st (s.set q c) l N := by
  refine ⟨h.lt, by rw [List.length_set]; exact h.le, ?_⟩
  rw [List.take_set, List.set_eq_of_length_le (by rw [List.length_take]; omega)]
  exact h.up
theorem Sq.app {st s r : Sto} {l : Nat} {N : Int} (h : Sq st s l N) : Sq st (s ++ r) l N := by
  refine ⟨h.lt, by rw [List.length_append]; have := h.le; omega, ?_⟩
  rw [List.take_append_of_le_length h.le]
  exact h.up
theorem Sq.rows {st s : Sto} {l n : Nat} {N : Int} {c : Nat → List D} (h : Sq st s l N) : Sq st (rowsS s n c) l N := by
  unfold rowsS
  exact h.app.app
theorem Sq.mono {st s : Sto} {l : Nat} {N M : Int} (h : Sq st s l N) (hM : N ≤ M) : Sq st s l M := ⟨h.lt, h.le, h.up.mono hM⟩
theorem Sq.fin {st s : Sto} {l : Nat} {N : Int} (h : Sq st s l N) : okPre st s st.length = true := by
  obtain ⟨a, b, c, h5, _, _⟩ := h.up
  refine okP_of fun i x hx => ?_
  have hi : i < st.length := (List.getElem?_eq_some_iff.1 hx).1
  have h6 : s[i]? = (st.set l (src a b c))[i]? := by
    rw [← h5, List.getElem?_take, if_pos hi]
  by_cases hil : i = l
  · subst hil
    refine ⟨src a b c, ?_, .inr rfl⟩
    rw [h6]; simp [hi]
  · refine ⟨x, ?_, .inl rfl⟩
    rw [h6, List.getElem?_set_ne (fun q => hil q.symm)]
    exact hx
theorem Rws.set {s : Sto} {o m : Nat} {p : Nat → Nat} {c : Nat → List D} (h : Rws s o p m c) {i : Nat} (hi : i < m) (x : List D) : Rws (s.set (p i) (.lst x)) o p m fun j => if j = i then x else c j := by
  refine ⟨?_, fun j hj => ?_, h.inj, h.off⟩
  · rw [List.getElem?_set_ne (h.off i hi)]; exact h.top
  · by_cases hji : j = i
    · subst hji
      have := h.lt hi
      rw [if_pos rfl]
      simp [this]
    · rw [if_neg hji, List.getElem?_set_ne (fun q => hji (h.inj _ _ hi hj q).symm)]
      exact h.row j hj
theorem Rws.far {s : Sto} {o m l : Nat} {p : Nat → Nat} {c : Nat → List D} {x : D} (h : Rws s o p m c) (h1 : l ≠ o) (h2 : ∀ i, i < m → l ≠ p i) : Rws (s.set l x) o p m c :=
  h.congr (List.getElem?_set_ne h1) fun i hi => List.getElem?_set_ne (h2 i hi)
theorem fw1_len {n : Nat} {f : Nat → Rat} : (fw1 n f).length = n := rg_len
theorem fw1_set {n i : Nat} {f : Nat → Rat} {e : Rat} : (fw1 n f).set i (fr e) = fw1 n fun j => if j = i then e else f j := by
  unfold fw1
  rw [rg_set]
  exact rg_congr fun j _ => by
    by_cases h : j = i
    · simp [h]
    · simp [h]
theorem fw1_at {n i : Nat} {f : Nat → Rat} (h : i < n) : L2.atI (fw1 n f) (i : Int) = some (fr (f i)) := rg_at h
theorem fr_zero : D.tup [.int 0, .int 1] = fr 0 := rfl
/-- one entry and its opposite changed -/
def put2 (M : Nat → Nat → Rat) (u v : Nat) (e : Rat) (i j : Nat) : Rat := if i = u ∧ j = v then e else if i = v ∧ j = u then -e else M i j
theorem put2_ok {n D0 A u v : Nat} {M : Nat → Nat → Rat} {e : Rat} (h : Mok n D0 A M) (hu : u < n) (hv : v < n) (huv : u ≠ v) (he : Fb D0 A e) : Mok n D0 A (put2 M u v e) := by
  refine ⟨fun i j => ?_, fun i j => ?_, fun i j hij => ?_⟩
  · unfold put2
    by_cases h1 : i = u ∧ j = v
    · have h2 : ¬ (j = u ∧ i = v) := fun q => huv (h1.1.symm.trans q.2)
      have h3 : j = v ∧ i = u := ⟨h1.2, h1.1⟩
      rw [if_pos h1, if_neg h2, if_pos h3]
      grind
    · by_cases h2 : i = v ∧ j = u
      · have h3 : j = u ∧ i = v := ⟨h2.2, h2.1⟩
        rw [if_neg h1, if_pos h2, if_pos h3]
      · have h3 : ¬ (j = u ∧ i = v) := fun q => h2 ⟨q.2, q.1⟩
        have h4 : ¬ (j = v ∧ i = u) := fun q => h1 ⟨q.2, q.1⟩
        rw [if_neg h1, if_neg h2, if_neg h3, if_neg h4]
        exact h.sk i j
  · unfold put2
    split
    · exact he
    · split
      · exact he.neg
      · exact h.fb i j
  · unfold put2
    have h1 : ¬ (i = u ∧ j = v) := fun q => hij ⟨by omega, by omega⟩
    have h2 : ¬ (i = v ∧ j = u) := fun q => hij ⟨by omega, by omega⟩
    rw [if_neg h1, if_neg h2]
    exact h.out i j hij
theorem Mok.zero {n D0 A : Nat} (hD : 0 < D0) : Mok n D0 A fun _ _ => 0 := ⟨fun _ _ => by grind, fun _ _ => Fb.zero hD, fun _ _ _ => rfl⟩
/-- rows[u][v], rows[v][u] = e, -e : the rows afterwards -/
theorem put2_rws {s : Sto} {o n u v : Nat} {p : Nat → Nat} {M : Nat → Nat → Rat} {e : Rat} (h : Rws s o p n fun i => fw1 n (M i)) (hu : u < n) (hv : v < n) (huv : u ≠ v) :
    Rws ((s.set (p u) (.lst ((fw1 n (M u)).set v (fr e)))).set (p v) (.lst ((fw1 n (M v)).set u (fr (-e))))) o p n fun i => fw1 n (put2 M u v e i) := by
  have h1 := (h.set hu ((fw1 n (M u)).set v (fr e))).set hv ((fw1 n (M v)).set u (fr (-e)))
  refine h1.cg fun i hi => ?_
  by_cases hiv : i = v
  · subst hiv
    rw [if_pos rfl, fw1_set]
    refine rg_congr fun j hj => ?_
    unfold put2
    have : ¬ (i = u ∧ j = i) := fun q => huv q.1.symm
    rw [if_neg this]
    by_cases hju : j = u
    · simp [hju]
    · simp [hju]
  · rw [if_neg hiv]
    by_cases hiu : i = u
    · subst hiu
      rw [if_pos rfl, fw1_set]
      refine rg_congr fun j hj => ?_
      unfold put2
      by_cases hjv : j = v
      · simp [hjv]
      · simp [hjv, hiv]
    · rw [if_neg hiu]
      refine rg_congr fun j hj => ?_
      unfold put2
      simp [hiu, hiv]
theorem fb_entry {a : Int} {z A : Nat} (ha : a.natAbs ≤ 4 * A) (hz : z < 3) : Fb 6 (24 * A) ((a : Rat) / (((1 + (z : Int) : Int)) : Rat)) := by
  have h1 : ((1 + (z : Int) : Int) : Rat) = ((1 + z : Nat) : Rat) := by
    have : (1 + (z : Int) : Int) = ((1 + z : Nat) : Int) := by omega
    rw [this, nz]
  rw [h1]
  have hz2 : z = 0 ∨ z = 1 ∨ z = 2 := by omega
  rcases hz2 with rfl | rfl | rfl
  · exact Fb.of (by omega) (by omega) (by decide) (by show a.natAbs * 6 ≤ 24 * A; omega)
  · exact Fb.of (by omega) (by omega) (by decide) (by show a.natAbs * 3 ≤ 24 * A; omega)
  · exact Fb.of (by omega) (by omega) (by decide) (by show a.natAbs * 2 ≤ 24 * A; omega)
theorem k_random (n : Nat) {st : Sto} {l m Ab : Nat} {N ab : Int} (hm : m ≤ 60) (hN : N + 20000 ≤ 2 ^ 30) (hab : ab.natAbs ≤ Ab) (hAb : Ab < 2 ^ 4000) (h : Sr st l N) :
    wp (call P (n + 3) F._law_random_matrix [.ref l, .int (m : Nat), .int ab]) st (fun r s' => (∃ M, r = .tup (mt m M) ∧ Mok m 6 (24 * Ab) M) ∧ Up st s' l (N + 10800)) NX := by
  have hsl := sl_ge
  have hll := h.lt
  generalize hd : D.int ((m : Nat) : Int) = d
  refine w_call (F := c__law_random_matrix) rfl rfl ?_
  subst hd
  unfold c__law_random_matrix
  simp! only [rngL1' (show m ≤ 2 ^ 20 by omega)]
  refine w_lcm (List.range m) _ (fun _ => .lst (fw1 m fun _ => 0)) (by simp; omega) ?_ ?_
  · intro u _
    simp! only [rngL1' (show m ≤ 2 ^ 20 by omega)]
    refine w_lcm (List.range m) _ (fun _ => fr 0) (by simp; omega) ?_ ?_
    · intro v _
      simp! only [fr_zero]
      omega
    · exact ⟨rfl, rfl⟩
  have e0 : (List.range m).map (fun _ => D.lst (fw1 m fun _ => 0)) = rg m fun i => .lst (fw1 m ((fun _ _ => (0 : Rat)) i)) := rfl
  rw [e0]
  simp! only [land_rws (fun i _ => fw1_purs), rngL1' (show m ≤ 2 ^ 20 by omega)]
  have hS0 : Sq st (rowsS st m fun i => fw1 m ((fun _ _ => (0 : Rat)) i)) l N := (Sq.start h).rows
  have hR0 := rowsS_rws (s := st) (n := m) (c := fun i => fw1 m ((fun _ _ => (0 : Rat)) i))
  generalize (rowsS st m fun i => fw1 m ((fun _ _ => (0 : Rat)) i)) = s0 at *
  refine w_forP (List.range m) _ (fun pre σ s => ∃ x4 x5 x6 x7 x8 M, σ = [some (.ref l), some (.int (m : Nat)), some (.int ab), some (.ref (st.length + m)), x4, x5, x6, x7, x8] ∧ Rws s (st.length + m) (fun i => st.length + i) m (fun i => fw1 m (M i)) ∧ Mok m 6 (24 * Ab) M ∧ Sq st s l (N + 180 * pre.length)) ⟨_, _, _, _, _, _, rfl, hR0, Mok.zero (by omega), hS0.mono (by simp)⟩ ?_ ?_
  · rintro pre u post σ s hL ⟨x4, x5, x6, x7, x8, M, rfl, hR, hM, hS⟩
    obtain ⟨_, hu, hpl⟩ := range_split hL
    simp! only [rngL1' (show u ≤ 2 ^ 20 by omega)]
    refine w_forP (List.range u) _ (fun pr σ s => ∃ x4 x6 x7 M, σ = [some (.ref l), some (.int (m : Nat)), some (.int ab), some (.ref (st.length + m)), x4, some (.int (u : Nat)), x6, x7, x8] ∧ Rws s (st.length + m) (fun i => st.length + i) m (fun i => fw1 m (M i)) ∧ Mok m 6 (24 * Ab) M ∧ Sq st s l (N + 180 * u + 3 * pr.length)) ⟨_, _, _, _, rfl, hR, hM, hS.mono (by rw [hpl]; simp)⟩ ?_ ?_
    · rintro pr v po σ s hL ⟨x4, x6, x7, M, rfl, hR, hM, hS⟩
      obtain ⟨_, hv, hprl⟩ := range_split hL
      simp! only []
      refine wp_nx (k_next (n := n + 1) (m := 9) (by omega) (by omega) (by omega) hS.sr) ?_
      rintro y s1 ⟨⟨x, rfl, hx0, hx1⟩, hu1⟩
      have hS1 := hS.next hu1
      have hl1 := hu1.len
      simp! only []
      refine wp_nx (k_next (n := n + 1) (m := 3) (by omega) (by omega) (by omega) hS1.sr) ?_
      rintro y s2 ⟨⟨y, rfl, hy0, hy1⟩, hu2⟩
      have hS2 := hS1.next hu2
      simp! only [bi_intb]
      have hnum : ∃ w : Int, (x - 4) * (if decide (0 < y) = true then 1 else 0) = w ∧ w.natAbs ≤ 4 := by
        by_cases hy : 0 < y
        · refine ⟨x - 4, by simp [hy], by omega⟩
        · refine ⟨0, by simp [hy], by omega⟩
      obtain ⟨w, hw, hw4⟩ := hnum
      have hlg1 : Lg 3 (if decide (0 < y) = true then 1 else 0) := by
        unfold Lg; split <;> decide
      refine ⟨lg2 (j := 3) (k := 3) (by unfold Lg; omega) hlg1 (by omega) (by omega), ?_⟩
      rw [hw]
      have hwl : Lg 3 w := by unfold Lg; omega
      have habl : Lg 4000 ab := Nat.lt_of_le_of_lt hab hAb
      refine ⟨lg2 hwl habl (by omega) (by omega), ?_⟩
      refine wp_nx (k_next (n := n + 1) (m := 3) (by omega) (by omega) (by omega) hS2.sr) ?_
      rintro y3 s3 ⟨⟨z, rfl, hz0, hz1⟩, hu3⟩
      have hS3 := hS2.next hu3
      obtain ⟨z, rfl⟩ : ∃ a : Nat, z = (a : Int) := ⟨z.toNat, by omega⟩
      simp! only []
      refine wp_nx (k_lfrac (n := n + 1) (k := 4000) (by omega) (by omega) ((hwl.mul habl).mono (by omega)) (show Lg 4000 (1 + (z : Int)) from Lg.mono (j := 3) (by unfold Lg; omega) (by omega)) (by omega) s3) ?_
      rintro y4 s4 ⟨rfl, rfl⟩
      have hfb : Fb 6 (24 * Ab) (((w * ab : Int) : Rat) / ((1 + (z : Int) : Int) : Rat)) := by
        refine fb_entry ?_ (by omega)
        rw [Int.natAbs_mul]
        exact Nat.mul_le_mul hw4 hab
      generalize ((w * ab : Int) : Rat) / ((1 + (z : Int) : Int) : Rat) = e at *
      have hR4 : Rws s4 (st.length + m) (fun i => st.length + i) m fun i => fw1 m (M i) := by
        obtain ⟨a1, b1, c1, rfl, _, _⟩ := hu1
        obtain ⟨a2, b2, c2, rfl, _, _⟩ := hu2
        obtain ⟨a3, b3, c3, rfl, _, _⟩ := hu3
        exact ((hR.far (by omega) fun i _ => by omega).far (by omega) fun i _ => by omega).far (by omega) fun i _ => by omega
      have hvu : v < m := by omega
      have hne : u ≠ v := by omega
      have hlt1 := hR4.lt hu
      have hlt2 := hR4.lt hvu
      have t1 : L2.atI (rg m fun i => D.ref (st.length + i)) (u : Int) = some (.ref (st.length + u)) := rg_at hu
      have t2 : L2.atI (rg m fun i => D.ref (st.length + i)) (v : Int) = some (.ref (st.length + v)) := rg_at hvu
      have r1 := hR4.row u hu
      have r2 := hR4.row v hvu
      have s1o : ∀ c : D, (s4.set (st.length + u) c)[st.length + m]? = some (.lst (rg m fun i => .ref (st.length + i))) := fun c => by
        rw [List.getElem?_set_ne (by omega)]; exact hR4.top
      have s1v : ∀ c : D, (s4.set (st.length + u) c)[st.length + v]? = some (.lst (fw1 m (M v))) := fun c => by
        rw [List.getElem?_set_ne (by omega)]; exact r2
      simp! only [la_fr, gi_fr0, gi_fr1, fr_neg, hR4.top, t1, r1, fw1_len, ixN_nat hvu, s1o, t2, s1v, ixN_nat hu]
      refine ⟨by omega, by omega, ?_⟩
      refine ⟨_, _, _, put2 M u v e, rfl, ?_, put2_ok hM hu hvu hne hfb, ?_⟩
      · exact put2_rws hR4 hu hvu hne
      · exact (hS3.set (by omega)).set (by omega) |>.mono (by simp; omega)
    · rintro σ s ⟨x4, x6, x7, M, rfl, hR, hM, hS⟩
      exact ⟨_, _, _, _, _, M, rfl, hR, hM, hS.mono (by simp; omega)⟩
  · rintro σ s ⟨x4, x5, x6, x7, x8, M, rfl, hR, hM, hS⟩
    simp! only [hR.top]
    refine w_lcmC (l := st.length + m) (List.range m) (fun i => .ref (st.length + i)) (fun i => .tup (fw1 m (M i))) (by simp; omega) hR.top ?_ ?_
    · intro i hi
      have hi := List.mem_range.1 hi
      simp! only [seqv_ref, hR.row i hi, sqC_lst]
    · simp! only [seqv_lst]
      have e1 : (List.range m).map (fun i => D.tup (fw1 m (M i))) = mt m M := rfl
      refine ⟨hS.fin, ?_⟩
      rw [e1, rk_clean mtt_clean]
      refine ⟨⟨M, rfl, hM⟩, hS.up.mono ?_⟩
      simp; omega
end Fs
namespace Fs
open PySem Pf
/-- s stands on st -/
def On (st s : Sto) : Prop := st.length ≤ s.length ∧ ∀ l : Nat, l < st.length → s[l]? = st[l]?
theorem On.refl {st : Sto} : On st st := ⟨Nat.le_refl _, fun _ _ => rfl⟩
theorem On.app {st s r : Sto} (h : On st s) : On st (s ++ r) := ⟨by rw [List.length_append]; have := h.1; omega, fun l hl => by rw [List.getElem?_append_left (by have := h.1; omega), h.2 l hl]⟩
theorem On.rows {st s : Sto} {n : Nat} {c : Nat → List D} (h : On st s) : On st (rowsS s n c) := by unfold rowsS; exact h.app.app
theorem On.set {st s : Sto} {q : Nat} {c : D} (h : On st s) (hq : st.length ≤ q) : On st (s.set q c) := ⟨by rw [List.length_set]; exact h.1, fun l hl => by rw [List.getElem?_set_ne (by omega), h.2 l hl]⟩
theorem On.fin {st s : Sto} (h : On st s) : okPre st s st.length = true := okP_eq h.2
theorem On.take {st s : Sto} (h : On st s) : s.take st.length = st := take_eq h.1 h.2
theorem On.up {st s s' : Sto} {l : Nat} {N : Int} (h : On st s) (hl : st.length ≤ l) (hu : Up s s' l N) : On st s' := by
  obtain ⟨a, b, c, rfl, _, _⟩ := hu
  exact h.set hl
theorem Sr.app {s r : Sto} {l : Nat} {N : Int} (h : Sr s l N) : Sr (s ++ r) l N := by
  obtain ⟨a, b, c, h0, h1, h2⟩ := h
  exact ⟨a, b, c, sgl h0, h1, h2⟩
theorem pw4 {x a k b : Nat} (hx : x ≤ 2 ^ a) (hk : k ≤ b) (h : a * b < 4000) : x ^ k < 2 ^ 4000 := by
  have h1 : x ^ k ≤ (2 ^ a) ^ k := Nat.pow_le_pow_left hx k
  rw [← Nat.pow_mul] at h1
  have h2 : a * k ≤ a * b := Nat.mul_le_mul_left _ hk
  exact Nat.lt_of_le_of_lt h1 (Nat.pow_lt_pow_right (by omega) (by omega))
section
variable {T : Tbl} {σ : Env} {s : Sto} {E : D → Sto → Prop} {Q : D → Sto → Prop} {QF : Fl → Sto → Prop} {γ : Type}
/-- enumerate over a list that stands in the store and stays -/
theorem w_forPEC {g : D → Env → M Env} {b : Env → M Fl} {l : Nat} (L : List γ) (h : γ → D) (I : List γ → Env → Sto → Prop) (h0 : I [] σ s)
    (hc : ∀ p σ s, I p σ s → s[l]? = some (.lst (L.map h)))
    (hb : ∀ pre c post σ s, L = pre ++ c :: post → I pre σ s → wp (g (.tup [.int (pre.length : Nat), h c]) σ) s (fun σ1 s1 => wp (b σ1) s1 (tq (I (pre ++ [c])) QF) NX) NX)
    (hq : ∀ σ s, I L σ s → QF (.nx σ) s) : wp (forLoop (.enum 0 (.cell l)) g b ((It.enum 0 (.cell l)).len s + 1) 0 σ) s QF E := by
  refine w_forAux (numb 0 (L.map h)) (fun i σ s => i ≤ L.length ∧ I (L.take i) σ s) ?_ ?_ ?_ _ 0 σ s ⟨Nat.zero_le _, by simpa using h0⟩ (Nat.zero_le _) ?_
  · rintro i σ s ⟨hi, hI⟩
    have hcc := hc _ _ _ hI
    have h1 := enum_next (k := 0) (xs := L.map h) (i := i) (s := s) (by simpa using hi)
    rw [← h1]
    simp only [It.next, Src.at, Src.len, hcc]
    cases (L.map h)[i]? <;> rfl
  · rintro i d σ s ⟨hi, hI⟩ e
    rw [numb_get, List.getElem?_map] at e
    cases e2 : L[i]? with
    | none => rw [e2] at e; cases e
    | some c =>
      rw [e2] at e
      cases e
      have hi2 : i < L.length := (List.getElem?_eq_some_iff.1 e2).1
      have := hb (L.take i) c _ σ s (split_at e2) hI
      rw [List.length_take, Nat.min_eq_left (Nat.le_of_lt hi2)] at this
      rw [Int.zero_add]
      refine wp_nx this fun σ1 s1 h1 => wp_nx h1 fun f s2 h2 => ?_
      rw [← take_snoc e2] at h2
      cases f <;> first
        | exact ⟨hi2, h2⟩
        | exact h2
  · rintro σ s ⟨_, hI⟩
    rw [numb_len, List.length_map, List.take_length] at hI
    exact hq σ s hI
  · rw [numb_len]
    have hcc := hc _ _ _ h0
    simp only [It.len, Src.len, hcc, List.length_map]; omega
theorem b_addLL {xs ys : List D} : wp (binD .add (.lst xs) (.lst ys)) s Q E = (xs.length + ys.length ≤ sizeLine ∧ Q (.lst (xs ++ ys)) s) := by
  by_cases h : xs.length + ys.length ≤ sizeLine
  · simp only [wp_def, binD, lstv_lst, if_pos h]
    exact propext ⟨fun q => ⟨h, q⟩, fun q => q.2⟩
  · simp only [wp_def, binD, lstv_lst, if_neg h]
    exact propext ⟨False.elim, fun q => h q.1⟩
theorem sl_ref {l : Nat} {lo hi : Option Int} : wp (slcD (.ref l) lo hi) s Q E = og (lpC s[l]?) (fun xs => Q (.lst (cutD xs lo hi)) s) := by
  simp only [wp_def, slcD, lstv_ref]
  cases lpC s[l]? <;> rfl
theorem sl_lst {xs : List D} {lo hi : Option Int} : wp (slcD (.lst xs) lo hi) s Q E = Q (.lst (cutD xs lo hi)) s := by
  simp only [wp_def, slcD, lstv_lst]; rfl
theorem sl_tup {xs : List D} {lo hi : Option Int} : wp (slcD (.tup xs) lo hi) s Q E = Q (.tup (cutD xs lo hi)) s := by
  simp only [wp_def, slcD]; rfl
theorem cut_nat {xs : List D} {a b : Nat} (hab : a ≤ b) (hb : b ≤ xs.length) : cutD xs (some (a : Int)) (some (b : Int)) = (xs.drop a).take (b - a) := by
  unfold cutD
  rw [HT.sIx_nat, HT.sIx_nat, Nat.min_eq_left (show a ≤ xs.length by omega), Nat.min_eq_left hb]
end
theorem rg_cut {n a b : Nat} {f : Nat → D} (hab : a ≤ b) (hb : b ≤ n) : cutD (rg n f) (some (a : Int)) (some (b : Int)) = rg (b - a) fun i => f (a + i) := by
  rw [cut_nat hab (by rw [rg_len]; exact hb)]
  refine List.ext_getElem? fun i => ?_
  by_cases hi : i < b - a
  · rw [rg_get hi, List.getElem?_take, if_pos hi, List.getElem?_drop, rg_get (by omega)]
  · rw [List.getElem?_eq_none (by rw [List.length_take]; omega), List.getElem?_eq_none (by rw [rg_len]; omega)]
end Fs
namespace Fs
open PySem Pf
theorem lt200 {A : Nat} (h : A ≤ 2 ^ 200) : A < 2 ^ 4000 := Nat.lt_of_le_of_lt h (Nat.pow_lt_pow_right (a := 2) (m := 200) (n := 4000) (by omega) (by omega))
theorem lt10 {A : Nat} (h : A ≤ 2 ^ 10) : A < 2 ^ 4000 := Nat.lt_of_le_of_lt h (Nat.pow_lt_pow_right (a := 2) (m := 10) (n := 4000) (by omega) (by omega))
end Fs
/-! the law's pair sum by its definition -/
namespace Fs
open PySem Pf
theorem pwg {x a k b c : Nat} (hx : x ≤ 2 ^ a) (hk : k ≤ b) (h : a * b < c) : x ^ k < 2 ^ c := by
  have h1 : x ^ k ≤ (2 ^ a) ^ k := Nat.pow_le_pow_left hx k
  rw [← Nat.pow_mul] at h1
  have h2 : a * k ≤ a * b := Nat.mul_le_mul_left _ hk
  exact Nat.lt_of_le_of_lt h1 (Nat.pow_lt_pow_right (by omega) (by omega))
/-- fractions that suffice for up to 8 rows -/
structure Mts (m D0 A : Nat) (M : Nat → Nat → Rat) : Prop where
  ok : Mok m D0 A M
  d0 : 0 < D0
  a0 : 0 < A
  d : D0 ≤ 2 ^ 10
  a : A ≤ 2 ^ 200
  m : m ≤ 10
theorem Mts.c {m D0 A : Nat} {M : Nat → Nat → Rat} (h : Mts m D0 A M) : 8 * A * D0 ≤ 2 ^ 213 := by
  have h1 : 8 * A ≤ 8 * 2 ^ 200 := Nat.mul_le_mul_left _ h.a
  have h2 : 8 * A * D0 ≤ 8 * 2 ^ 200 * 2 ^ 10 := Nat.mul_le_mul h1 h.d
  have h3 : (8 : Nat) * 2 ^ 200 * 2 ^ 10 = 2 ^ 213 := by decide
  omega
theorem Mts.pfs {m D0 A : Nat} {M : Nat → Nat → Rat} (h : Mts m D0 A M) {K : List Nat} (hK : K.length ≤ 8) : Sz 1800 (pfs M K) :=
  Sz.of (fb_pfs h.d0 h.a0 h.ok.fb hK) (pwg (a := 10) (b := 8) h.d hK (by omega)) (pwg (a := 213) (b := 8) h.c hK (by omega))
theorem Mts.tm {m D0 A : Nat} {M : Nat → Nat → Rat} (h : Mts m D0 A M) {v : Nat} {L : List Nat} {t : Nat} (hL : L.length + 1 ≤ 8) (ht : t ≤ L.length) : Sz 1800 (sm t (tm M v L)) :=
  Sz.of (fb_tm h.d0 h.a0 h.ok.fb rfl hL ht) (pwg (a := 10) (b := 8) h.d hL (by omega)) (pwg (a := 213) (b := 8) h.c hL (by omega))
theorem Mts.en {m D0 A : Nat} {M : Nat → Nat → Rat} (h : Mts m D0 A M) (i j : Nat) : Sz 1800 (M i j) :=
  Sz.of (h.ok.fb i j) (by have := pwg (x := D0) (a := 10) (k := 1) (b := 1) (c := 1800) h.d (by omega) (by omega); rwa [Nat.pow_one] at this) (by have := pwg (x := A) (a := 200) (k := 1) (b := 1) (c := 1800) h.a (by omega) (by omega); rwa [Nat.pow_one] at this)
theorem cut_lo {v j : Nat} {L : List Nat} (hj : j < L.length) : cutD (nv (v :: L)) (some 1) (some ((1 + j : Nat) : Int)) = nv (L.take j) := by
  have h := cut_nat (xs := nv (v :: L)) (a := 1) (b := 1 + j) (by omega) (by rw [nv_len, List.length_cons]; omega)
  have e : (((1 : Nat)) : Int) = 1 := rfl
  rw [e] at h
  rw [h]
  have e2 : 1 + j - 1 = j := by omega
  rw [e2]
  simp [nv, List.map_take]
theorem cut_hi {v j : Nat} {L : List Nat} (hj : j < L.length) : cutD (nv (v :: L)) (some (((1 + j : Nat) : Int) + 1)) none = nv (L.drop (j + 1)) := by
  have e : ((1 + j : Nat) : Int) + 1 = ((j + 2 : Nat) : Int) := by omega
  rw [e]
  unfold cutD
  rw [HT.sIx_nat, HT.sIx_none, Nat.min_eq_left (by rw [nv_len, List.length_cons]; omega), List.take_of_length_le (by rw [List.length_drop]; exact Nat.le_refl _)]
  show ((nv (v :: L)).drop (j + 1 + 1)) = _
  simp [nv, List.map_drop]
theorem num0 {q : Rat} : q.num = 0 ↔ q = 0 := by
  constructor
  · intro h
    have := rat_eq q
    rw [h] at this
    have h2 : q * ((q.den : Nat) : Rat) = 0 := by rw [this]; simp
    have h3 := den_rat q
    have h4 : q = q * ((q.den : Nat) : Rat) / ((q.den : Nat) : Rat) := by grind
    rw [h4, h2]; grind
  · rintro rfl; rfl
theorem call_lps {n : Nat} {a b : D} {st : Sto} {Q E : D → Sto → Prop} (h : wp (exL (P.tbl n) c__law_pair_sum.body ((lands [a, b] st).1.map some ++ List.replicate (c__law_pair_sum.ns - c__law_pair_sum.np) none)) (lands [a, b] st).2 (lv st Q E) NX) : wp (call P (n + 1) F._law_pair_sum [a, b]) st Q E := w_call (F := c__law_pair_sum) rfl rfl h
theorem k_lps_body {e m D0 A l : Nat} {M : Nat → Nat → Rat} {K : List Nat} (hM : Mts m D0 A M) (hK : ∀ v, v ∈ K → v < m) (hK8 : K.length ≤ 8) {st s : Sto} (hO : On st s) (hs : s[l]? = some (.lst (nv K)))
    (ih : ∀ K' : List Nat, K'.length < K.length → (∀ v, v ∈ K' → v < m) → ∀ s : Sto, wp (call P (e + 2) F._law_pair_sum [.tup (mt m M), .lst (nv K')]) s (fun r s' => r = fr (pfs M K') ∧ s' = s) NX) :
    wp (exL (P.tbl (e + 2)) c__law_pair_sum.body [some (.tup (mt m M)), some (.ref l), none, none, none, none]) s (lv st (fun r s' => r = fr (pfs M K) ∧ s' = st) NX) NX := by
  have hsl := sl_ge
  unfold c__law_pair_sum
  have e11 : D.tup [.int 1, .int 1] = fr 1 := rfl
  have hm2 : (K.length : Int).fmod 2 = ((K.length % 2 : Nat) : Int) := fmod_nat (b := 2)
  cases K with
  | nil =>
    simp! only [eq_nil hs, List.isEmpty_nil, truth]
    refine ⟨by omega, by omega, hO.fin, ?_⟩
    rw [e11, rk_clean fr_clean, pfs_nil]
    exact ⟨rfl, hO.take⟩
  | cons v L =>
    have hv : v < m := hK v (List.mem_cons_self ..)
    rw [List.length_cons] at hK8 hm2
    have hne : (v :: L).isEmpty = false := rfl
    simp! only [eq_nil hs, hne, truth, fr_zero, la_fr, hs, nv_len, hm2, eq_int]
    refine ⟨by omega, by omega, by decide, ?_⟩
    have hb : ∃ b : Nat, b ≤ L.length + 1 ∧ (b = L.length + 1 ∨ b = 0 ∧ L.length % 2 = 0) ∧ ∀ X : Nat → Prop, (X b → wb (decide ((((L.length + 1) % 2 : Nat) : Int) = 0)) (X (L.length + 1)) (X 0)) := by
      by_cases h : (L.length + 1) % 2 = 0
      · refine ⟨L.length + 1, Nat.le_refl _, .inl rfl, fun X hX => ?_⟩
        have : decide ((((L.length + 1) % 2 : Nat) : Int) = 0) = true := decide_eq_true (by omega)
        rw [this]; exact hX
      · refine ⟨0, by omega, .inr ⟨rfl, by omega⟩, fun X hX => ?_⟩
        have : decide ((((L.length + 1) % 2 : Nat) : Int) = 0) = false := decide_eq_false (by omega)
        rw [this]; exact hX
    obtain ⟨b, hb1, hb2, hb3⟩ := hb
    refine hb3 (fun b => og (rngL [.int 1, .int ((b : Nat) : Int)]) _) ?_
    have hrng : rngL [.int 1, .int ((b : Nat) : Int)] = some ((List.range (b - 1)).map fun i => .int ((1 + i : Nat) : Int)) := rngL2 (a := 1) (by omega) (by omega)
    simp only [hrng, og_s]
    refine w_forP (List.range (b - 1)) _ (fun pre σ s' => (∃ x3 x4 x5, σ = [some (.tup (mt m M)), some (.ref l), some (fr (sm pre.length (tm M v L))), x3, x4, x5]) ∧ s = s') ⟨⟨_, _, _, rfl⟩, rfl⟩ ?_ ?_
    · rintro pre j post σ s' hL ⟨⟨x3, x4, x5, rfl⟩, rfl⟩
      obtain ⟨_, hj, hpl⟩ := range_split hL
      have hj : j < L.length := by omega
      rw [hpl]
      have hx : L[j]? = some L[j] := List.getElem?_eq_getElem hj
      have hcm : L[j] < m := hK _ (List.mem_cons_of_mem _ (List.getElem_mem _))
      have t1 : L2.atI (nv (v :: L)) 0 = some (.int (v : Int)) := atI_nat (xs := nv (v :: L)) (i := 0)
      have t2 : L2.atI (nv (v :: L)) ((1 + j : Nat) : Int) = some (.int ((L[j] : Nat) : Int)) := by
        rw [atI_nat, Nat.add_comm, nv_get, List.getElem?_cons_succ, hx]; rfl
      have t3 : L2.atI (mt m M) (v : Int) = some (.tup (fw1 m (M v))) := rg_at hv
      have t4 : L2.atI (fw1 m (M v)) ((L[j] : Nat) : Int) = some (fr (M v L[j])) := fw1_at hcm
      have hsucc : sm (j + 1) (tm M v L) = sm j (tm M v L) + tm M v L j := rfl
      have htm : tm M v L j = sg j * (M v L[j] * pfs M (L.eraseIdx j)) := by
        unfold tm
        rw [hx]
        simp only [at']; grind
      have hm3 : ((1 + j : Nat) : Int).fmod 2 = (((1 + j) % 2 : Nat) : Int) := fmod_nat (b := 2)
      simp! only [hs, t1, t3, t2, t4, gi_fr0, la_fr, eq_int, Option.map_some, truth]
      by_cases hz : M v L[j] = 0
      · have e1 : (!decide ((M v L[j]).num = 0)) = false := by rw [hz]; rfl
        simp! only [e1]
        have e2 : sm (j + 1) (tm M v L) = sm j (tm M v L) := by
          rw [hsucc, htm, hz]; grind
        rw [hpl, e2]
        exact ⟨_, _, _, rfl⟩
      · have e1 : (!decide ((M v L[j]).num = 0)) = true := by
          have : ¬ (M v L[j]).num = 0 := fun q => hz (num0.1 q)
          rw [decide_eq_false this]; rfl
        have e3 : nv (L.take j) ++ nv (L.drop (j + 1)) = nv (L.eraseIdx j) := by
          rw [← nv_app, List.eraseIdx_eq_take_drop_succ]
        have hel : (L.eraseIdx j).length + 1 = L.length := by rw [List.length_eraseIdx_of_lt hj]; omega
        simp! only [e1, hs, sl_ref, cut_lo hj, cut_hi hj, b_addLL, e3, nv_len]
        refine ⟨?_, ?_⟩
        · rw [List.length_take, List.length_drop]; omega
        refine wp_nx (ih (L.eraseIdx j) (by rw [List.length_cons]; omega) (fun x hx => hK x (List.mem_cons_of_mem _ (List.mem_of_mem_eraseIdx hx))) s) ?_
        rintro y s2 ⟨rfl, rfl⟩
        have hpS : Sz 1800 (pfs M (L.eraseIdx j)) := hM.pfs (by omega)
        refine wp_nx (k_ltimes (n := e) (k := 1800) (by omega) (hM.en _ _) hpS _) ?_
        rintro y s2 ⟨rfl, rfl⟩
        have hprod : Sz 3600 (M v L[j] * pfs M (L.eraseIdx j)) := by
          have h1 := (hM.ok.fb v L[j]).mul (fb_pfs hM.d0 hM.a0 hM.ok.fb (N := 8) (L := L.eraseIdx j) (by omega))
          refine Sz.of h1 ?_ ?_
          · have a1 := pwg (x := D0) (a := 10) (k := (L.eraseIdx j).length) (b := 8) (c := 100) hM.d (by omega) (by omega)
            have a2 : D0 < 2 ^ 100 := by have := pwg (x := D0) (a := 10) (k := 1) (b := 1) (c := 100) hM.d (by omega) (by omega); rwa [Nat.pow_one] at this
            have a3 : D0 * D0 ^ (L.eraseIdx j).length < 2 ^ 100 * 2 ^ 100 := Nat.mul_lt_mul'' a2 a1
            rw [← Nat.pow_add] at a3
            exact Nat.lt_of_lt_of_le a3 (Nat.pow_le_pow_right (by omega) (by omega))
          · have a1 := pwg (x := 8 * A * D0) (a := 213) (k := (L.eraseIdx j).length) (b := 8) (c := 1800) hM.c (by omega) (by omega)
            have a2 : A < 2 ^ 1800 := by have := pwg (x := A) (a := 200) (k := 1) (b := 1) (c := 1800) hM.a (by omega) (by omega); rwa [Nat.pow_one] at this
            have a3 : A * (8 * A * D0) ^ (L.eraseIdx j).length < 2 ^ 1800 * 2 ^ 1800 := Nat.mul_lt_mul'' a2 a1
            rw [← Nat.pow_add] at a3
            exact a3
        have hneg : ∀ {k : Nat} {q : Rat}, Sz k q → Sz k (-q) := fun {k q} h => by
          have h1 : (-q).num = -q.num := by simp
          have h2 : (-q).den = q.den := by simp
          refine ⟨?_, by rw [h2]; exact h.2⟩
          rw [h1]
          have := h.1
          unfold Lg at *
          omega
        have hsm : Sz 3600 (sm j (tm M v L)) := (hM.tm (by omega) (by omega)).mono (by omega)
        simp! only [la_fr, hm3, eq_int, truth]
        refine ⟨by decide, ?_⟩
        rcases Nat.mod_two_eq_zero_or_one j with h2 | h2
        · have e4 : decide ((((1 + j) % 2 : Nat) : Int) = 1) = true := decide_eq_true (by omega)
          have e5 : sg j = 1 := by unfold sg; rw [if_pos h2]
          simp! only [e4]
          refine wp_nx (k_lplus (n := e) (k := 3600) (by omega) hsm hprod _) ?_
          rintro y s2 ⟨rfl, rfl⟩
          simp! only [la_fr]
          have e6 : sm j (tm M v L) + M v L[j] * pfs M (L.eraseIdx j) = sm (j + 1) (tm M v L) := by
            rw [hsucc, htm, e5]; grind
          rw [e6, hpl]
          exact ⟨_, _, _, rfl⟩
        · have e4 : decide ((((1 + j) % 2 : Nat) : Int) = 1) = false := decide_eq_false (by omega)
          have e5 : sg j = -1 := by unfold sg; rw [if_neg (by omega)]
          simp! only [e4, gi_fr0, gi_fr1, fr_neg]
          refine ⟨by omega, ?_⟩
          refine wp_nx (k_lplus (n := e) (k := 3600) (by omega) hsm (hneg hprod) _) ?_
          rintro y s2 ⟨rfl, rfl⟩
          simp! only [la_fr]
          have e6 : sm j (tm M v L) + -(M v L[j] * pfs M (L.eraseIdx j)) = sm (j + 1) (tm M v L) := by
            rw [hsucc, htm, e5]; grind
          rw [e6, hpl]
          exact ⟨_, _, _, rfl⟩
    · rintro σ s' ⟨⟨x3, x4, x5, rfl⟩, rfl⟩
      simp! only []
      refine ⟨hO.fin, ?_⟩
      have hlast : sm (List.range (b - 1)).length (tm M v L) = pfs M (v :: L) := by
        rw [List.length_range]
        rcases hb2 with rfl | ⟨rfl, hodd⟩
        · rw [Nat.add_sub_cancel]; exact pfs_tm.symm
        · have : pfs M (v :: L) = 0 := pfs_odd (n := L.length + 1) (by simp) (by omega)
          rw [this]; rfl
      rw [hlast, rk_clean fr_clean]
      exact ⟨rfl, hO.take⟩
theorem k_lps {m D0 A : Nat} {M : Nat → Nat → Rat} (hM : Mts m D0 A M) : ∀ (k : Nat) (e : Nat), k ≤ e → ∀ (K : List Nat), K.length ≤ k → K.length ≤ 8 → (∀ v, v ∈ K → v < m) → ∀ s : Sto,
    wp (call P (e + 3) F._law_pair_sum [.tup (mt m M), .lst (nv K)]) s (fun r s' => r = fr (pfs M K) ∧ s' = s) NX
  | k, e, hke, K, hKk, hK8, hK, s => by
    apply call_lps
    have el : lands [.tup (mt m M), .lst (nv K)] s = ([.tup (mt m M), .ref s.length], s ++ [.lst (nv K)]) := by
      simp only [lands, la_tup mt_purs, la_lst nv_purs]
    rw [el]
    refine k_lps_body hM hK hK8 (On.refl.app (r := [.lst (nv K)])) sg0 ?_
    intro K' h1 h2 s2
    match k, hKk with
    | 0, hKk => omega
    | k + 1, hKk =>
      obtain ⟨e', rfl⟩ : ∃ e', e = e' + 1 := ⟨e - 1, by omega⟩
      exact k_lps hM k e' (by omega) K' (by omega) (by omega) h2 s2
theorem k_lpsR {m D0 A l : Nat} {M : Nat → Nat → Rat} (hM : Mts m D0 A M) (e : Nat) (he : 8 ≤ e) {K : List Nat} (hK8 : K.length ≤ 8) (hK : ∀ v, v ∈ K → v < m) {s : Sto} (hs : s[l]? = some (.lst (nv K))) :
    wp (call P (e + 3) F._law_pair_sum [.tup (mt m M), .ref l]) s (fun r s' => r = fr (pfs M K) ∧ s' = s) NX := by
  apply call_lps
  have el : lands [.tup (mt m M), .ref l] s = ([.tup (mt m M), .ref l], s) := by
    simp only [lands, la_tup mt_purs, la_ref]
  rw [el]
  refine k_lps_body hM hK hK8 On.refl hs ?_
  intro K' h1 h2 s2
  obtain ⟨e', rfl⟩ : ∃ e', e = e' + 1 := ⟨e - 1, by omega⟩
  exact k_lps hM 7 e' (by omega) K' (by omega) (by omega) h2 s2
end Fs
namespace Fs
open PySem Pf
theorem ofS_ok (x : String) : PyData.strOk (Str.ofString x) = true := by
  have h := cpsOfBytes_string x
  simp only [PyData.strOk, Str.ofString]
  rw [h, List.all_toArray, List.all_eq_true]
  intro c hc
  obtain ⟨ch, _, rfl⟩ := List.mem_map.1 hc
  rw [decide_eq_true_eq]
  have h2 := ch.valid
  have h3 : ch.toNat = ch.val.toNat := rfl
  rw [h3]
  rcases h2 with h2 | h2
  · have : ch.val.toNat < 0xD800 := h2
    omega
  · exact h2.2
theorem app_ok {a b : Str} (h : PyData.strOk a = true) (h2 : PyData.strOk b = true) : PyData.strOk (a ++ b) = true := by
  have e : (a ++ b).cps = a.cps ++ b.cps := rfl
  simp only [PyData.strOk] at *
  rw [e, Array.all_append, h, h2]; rfl
theorem join_ok {s : Str} (h : PyData.strOk s = true) : ∀ {L : List Str}, (∀ x, x ∈ L → PyData.strOk x = true) → PyData.strOk (s.join L) = true
  | [], _ => by simp only [Str.join]; decide +kernel
  | [a], hL => by simp only [Str.join]; exact hL a (by simp)
  | a :: b :: L, hL => by
    have ih := join_ok h (L := b :: L) fun x hx => hL x (List.mem_cons_of_mem _ hx)
    simp only [Str.join]
    exact app_ok (app_ok (hL a (by simp)) h) ih
theorem tupT_ok {L : List Str} (hL : ∀ x, x ∈ L → PyData.strOk x = true) : PyData.strOk (tupleText L) = true := by
  simp only [tupleText]
  exact app_ok (app_ok (ofS_ok _) (join_ok (ofS_ok _) hL)) (ofS_ok _)
theorem shownAll_map : ∀ {L : List PyData}, PyData.shownAll L = L.map PyData.shown
  | [] => by simp [PyData.shownAll]
  | a :: L => by simp [PyData.shownAll, shownAll_map]
/-! repr of a fraction -/
def pfr (q : Rat) : PyData := .tuple [.int q.num, .int ((q.den : Nat) : Int)]
theorem toP_fr {s : Sto} {q : Rat} : toP false s 60 (fr q) = some (pfr q) := rfl
theorem pfr_ok {q : Rat} : SeqAt.shaped (.str (pfr q).shown) = true := by
  have h : PyData.strOk (pfr q).shown = true := by
    simp only [pfr, PyData.shown]
    refine tupT_ok fun x hx => ?_
    rw [shownAll_map] at hx
    simp only [List.map_cons, List.map_nil, List.mem_cons, List.not_mem_nil, or_false] at hx
    rcases hx with rfl | rfl <;> (simp only [PyData.shown]; exact ofS_ok _)
  simp only [SeqAt.shaped, PyData.canLay0, PyData.depth]
  rw [h]; rfl
theorem pfr_good {q : Rat} {k : Nat} (hk : k ≤ 1900) (hk0 : 0 < k) (h : Sz k q) : (pfr q).showable = true ∧ (pfr q).shown.length ≤ sizeLine ∧ (pfr q).depth ≤ 60 ∧ (pfr q).hasDict = false := by
  have h1 := log_of h.1 hk0 (Nat.le_refl _)
  have h2 := log_of h.2 hk0 (Nat.le_refl _)
  refine ⟨?_, ?_, ?_, ?_⟩
  · simp only [pfr, PyData.showable, PyData.showableAll, Bool.and_true, Bool.and_eq_true, decide_eq_true_eq]
    omega
  · have l1 := PyProof.Rows.int_text_len_1921 (i := q.num) (by omega)
    have l2 := PyProof.Rows.int_text_len_1921 (i := ((q.den : Nat) : Int)) (by omega)
    have hsl := sl_ge
    simp only [pfr, PyData.shown, PyData.shownAll, tupleText, Str.join, Str.length_append]
    have e1 : (Str.ofString "(").length = 1 := by decide +kernel
    have e2 : ∀ (c : Prop) [Decidable c], (Str.ofString (if c then ",)" else ")")).length ≤ 2 := fun c _ => by split <;> decide +kernel
    have e3 : (Str.ofString ", ").length = 2 := by decide +kernel
    refine Nat.le_trans (Nat.add_le_add_left (e2 _) _) ?_
    rw [e1, e3]
    omega
  · simp [pfr, PyData.depth, PyData.depthAll]
  · simp [pfr, PyData.hasDict, PyData.hasDictAll]
theorem eq_rep {s : Sto} {q : Rat} : eqD s (.str (pfr q).shown) (.str (pfr q).shown) = some true := by
  have h1 : toP false s 66 (.str (pfr q).shown) = some (.str (pfr q).shown) := rfl
  simp only [eqD, h1]
  rw [if_pos ⟨pfr_ok, pfr_ok⟩]
  simp [PyData.eqv]
end Fs
/-! k23: the law -/
namespace Fs
open PySem Pf
theorem k_psM (n : Nat) {m D0 A : Nat} {M : Nat → Nat → Rat} (h : Mts m D0 A M) (st : Sto) :
    wp (call P (n + 5) F.pair_sum [.tup (mt m M)]) st (fun r s' => r = fr (pfs M (List.range m)) ∧ s' = st) NX := by
  have hm := h.m
  refine k_pairsum n h.ok h.d0 h.a0 (pw4 (a := 10) (b := 11) h.d (by omega) (by omega)) (pw4 (a := 204) (b := 10) ?_ hm (by omega)) (lt200 h.a) (by omega) st
  have h1 : m * A ≤ 10 * 2 ^ 200 := Nat.mul_le_mul hm h.a
  have h2 : (10 : Nat) * 2 ^ 200 ≤ 2 ^ 204 := by decide
  omega
theorem zero_psM (n : Nat) {m : Nat} (hm : m ≤ 60) (st : Sto) :
    wp (call P (n + 5) F.pair_sum [.tup (mt m fun _ _ => 0)]) st (fun r s' => r = fr (pfs (fun _ _ => 0) (List.range m)) ∧ s' = st) NX := by
  refine k_pairsum n (D0 := 1) (A := 1) (Mok.zero (by omega)) (by omega) (by omega) (by rw [Nat.one_pow]; exact Nat.one_lt_two_pow (by omega)) ?_ (Nat.one_lt_two_pow (by omega)) hm st
  rw [Nat.mul_one]
  exact pw4 (a := 6) (b := 60) (by omega) (by omega) (by omega)
theorem pfs_zero {m : Nat} (hm : 0 < m) : pfs (fun _ _ => 0) (List.range m) = 0 := by
  obtain ⟨k, rfl⟩ : ∃ k, m = k + 1 := ⟨m - 1, by omega⟩
  rw [List.range_succ_eq_map]
  exact pfs_zero_row fun x _ => rfl
/-- too many rows -/
theorem k_needbad (n : Nat) {xs : List D} (hp : D.purs xs = true) (h1 : 60 < xs.length) (st : Sto) :
    wp (call P (n + 1) F.need_matrix [.tup xs]) st (fun _ _ => False) (fun e s' => e = .exc Kx.BadMatrix [] ∧ s' = st) := by
  refine w_call (F := c_need_matrix) rfl rfl ?_
  unfold c_need_matrix
  have e : decide ((60 : Int) < (xs.length : Int)) = true := decide_eq_true (by omega)
  have hf : (P.tbl n).fld Kx.BadMatrix = none := rfl
  simp! only [la_tup hp, e, truth, s_rse, e_mk0 hf]
  exact ⟨okP_self, by simp [D.cls, D.clss]⟩
theorem k_psbad (n : Nat) {xs : List D} (hp : D.purs xs = true) (h1 : 60 < xs.length) (st : Sto) :
    wp (call P (n + 2) F.pair_sum [.tup xs]) st (fun _ _ => False) (fun e s' => e = .exc Kx.BadMatrix [] ∧ s' = st) := by
  refine w_call (F := c_pair_sum) rfl rfl ?_
  unfold c_pair_sum
  simp! only [la_tup hp]
  refine wp_of (k_needbad (n := n) hp h1 st) (fun _ _ h => h.elim) ?_
  rintro e s' ⟨rfl, rfl⟩
  simp! only []
  exact ⟨okP_self, by simp [D.cls, D.clss]⟩
theorem rep_fr {m : Nat} : rep m [.tup [.int 0, .int 1]] = fw1 m fun _ => 0 := by
  rw [rep_one]
  unfold fw1 rg
  rw [List.map_const', List.length_range]
  rfl
theorem rep_mt {m : Nat} : rep m [.tup (rep m [.tup [.int 0, .int 1]])] = mt m fun _ _ => 0 := by
  rw [rep_fr, rep_one]
  unfold mt
  rw [show (rg m fun i => D.tup (fw1 m fun _ => 0)) = List.replicate m (D.tup (fw1 m fun _ => 0)) from by
    unfold rg; rw [List.map_const', List.length_range]]
theorem call_ps {n : Nat} {a : D} {s : Sto} {Q : D → Sto → Prop} {E : D → Sto → Prop} {xs : List D} (e : a = .tup xs) (h : wp (call P n F.pair_sum [.tup xs]) s Q E) : wp (call P n F.pair_sum [a]) s Q E := by rw [e]; exact h
theorem k_limit (n : Nat) (st : Sto) : wp (call P (n + 6) F._law_limit_right []) st (fun r s' => r = .bl true ∧ s' = st) NX := by
  have hsl := sl_ge
  refine w_call (F := c__law_limit_right) rfl rfl ?_
  unfold c__law_limit_right
  have r61 := rep_mt (m := 61)
  have r60 := rep_mt (m := 60)
  have l61 : (mt 61 fun _ _ => 0).length = 61 := rg_len
  have p61 : D.purs (mt 61 fun _ _ => 0) = true := mt_purs
  have q61 : D.purs (rep 61 [.tup [.int 0, .int 1]]) = true := by rw [rep_fr]; exact fw1_purs
  have q60 : D.purs (rep 60 [.tup [.int 0, .int 1]]) = true := by rw [rep_fr]; exact fw1_purs
  have t61 : Int.toNat 61 = 61 := rfl
  have t60 : Int.toNat 60 = 60 := rfl
  have p1 : D.purs [.tup [.int 0, .int 1]] = true := rfl
  have pp61 : D.purs [.tup (rep 61 [.tup [.int 0, .int 1]])] = true := by simp only [D.purs, D.pur, q61, Bool.and_self]
  have pp60 : D.purs [.tup (rep 60 [.tup [.int 0, .int 1]])] = true := by simp only [D.purs, D.pur, q60, Bool.and_self]
  have i1 : ([D.tup [.int 0, .int 1]] : List D).isEmpty = false := rfl
  have i61 : ([D.tup (rep 61 [.tup [.int 0, .int 1]])] : List D).isEmpty = false := rfl
  have i60 : ([D.tup (rep 60 [.tup [.int 0, .int 1]])] : List D).isEmpty = false := rfl
  generalize hx61 : rep 61 [.tup [.int 0, .int 1]] = x61 at *
  generalize hx60 : rep 60 [.tup [.int 0, .int 1]] = x60 at *
  have hit : ([Kx.BadMatrix].any fun k => (P.tbl (n + 5)).anc Kx.BadMatrix k) = true := rfl
  simp! only [s_tri, t61, hx61]
  refine ⟨by omega, by omega, ⟨p1, i1, by omega, by omega, by omega⟩, by omega, ⟨pp61, i61, by omega, by omega, by omega⟩, ?_⟩
  refine call_ps (congrArg D.tup r61) ?_
  refine wp_of (k_psbad (n := n + 3) p61 (by omega) st) (fun _ _ h => h.elim) ?_
  rintro e s' ⟨rfl, rfl⟩
  have hz60 := zero_psM n (m := 60) (Nat.le_refl _) s'
  rw [pfs_zero (by omega)] at hz60
  simp! only [xq_ex, x_hit hit, inS, oq_nx, outS, t60, hx60, la_exc, isD_exc, Option.map_some]
  refine ⟨by omega, by omega, ⟨p1, i1, by omega, by omega, by omega⟩, by omega, ⟨pp60, i60, by omega, by omega, by omega⟩, ?_⟩
  refine call_ps (congrArg D.tup r60) ?_
  refine wp_nx hz60 ?_
  rintro y s2 ⟨rfl, rfl⟩
  simp! only [fr_zero, eq_fr]
  refine ⟨by omega, okP_self, ?_⟩
  rw [rk_clean rfl]
  exact ⟨rfl, by simp⟩
theorem K_law3 {n : Nat} : ∃ K : Nat, (if (if ((n : Nat) : Int) < 3 then ((n : Nat) : Int) else 3) > 1 then (if ((n : Nat) : Int) < 3 then ((n : Nat) : Int) else 3) else 1) = (K : Int) ∧ K ≤ 3 := by
  refine ⟨(if (if ((n : Nat) : Int) < 3 then ((n : Nat) : Int) else 3) > 1 then (if ((n : Nat) : Int) < 3 then ((n : Nat) : Int) else 3) else 1).toNat, ?_, ?_⟩
  · split <;> split <;> omega
  · split <;> split <;> omega
theorem k_law {ns : List Int} (hns : ns.length ≤ 63) : wp (call P 13 F.law [.ref 0]) [.frl (zv ns)] (fun r s' => r = .bl true ∧ s' = [.frl (zv ns)]) NX := by
  have hsl := sl_ge
  refine w_call (F := c_law) rfl rfl ?_
  unfold c_law
  have h0 : ([D.frl (zv ns)] : Sto)[0]? = some (.frl (zv ns)) := rfl
  have hz : (zv ns).length = ns.length := by simp
  obtain ⟨K, hK, hK2⟩ := K_law3 (n := ns.length)
  have hbig : (10 : Int) ^ (Int.toNat 40) + 9 = ((10 ^ 40 + 9 : Nat) : Int) := by decide
  simp! only [leC_frl, hz, hK, rngL1' (show K ≤ 2 ^ 20 by omega)]
  refine w_forP (List.range K) _ (fun pre σ s => (∃ x1 x2 x3 x4 x5, σ = [some (.ref 0), x1, x2, x3, x4, x5]) ∧ On [D.frl (zv ns)] s) ⟨⟨_, _, _, _, _, rfl⟩, On.refl⟩ ?_ ?_
  · rintro pre k post σ s hr ⟨⟨x1, x2, x3, x4, x5, rfl⟩, hO⟩
    obtain ⟨_, hk, _⟩ := range_split hr
    have hs0 : s[0]? = some (.frl (zv ns)) := (hO.2 0 (Nat.lt_succ_self 0)).trans h0
    have hl1 : 1 ≤ s.length := hO.1
    simp! only []
    refine wp_nx (k_source 11 (by omega) hns hs0) ?_
    rintro y s' ⟨⟨a, b, c, rfl, hb0, hb1⟩, rfl⟩
    have hla : land (src a b c) s' = (.ref s'.length, s' ++ [src a b c]) := la_lst (xs := [.int a, .int b, .int c]) rfl
    simp! only [hla]
    have hO1 := hO.app (r := [src a b c])
    have hS1 : Sr (s' ++ [src a b c]) s'.length 24 := ⟨a, b, c, sg0, hb0, hb1⟩
    generalize (s' ++ [src a b c] : Sto) = s1 at *
    generalize hl : s'.length = l at *
    rw [hbig]
    refine ⟨by omega, by omega, ?_⟩
    refine w_for [D.int 1, D.int ((10 ^ 40 + 9 : Nat) : Int)] (fun i σ s => (∃ x3 x4 x5, σ = [some (.ref 0), some (.int (k : Nat)), some (.ref l), x3, x4, x5]) ∧ On [D.frl (zv ns)] s ∧ Sr s l (24 + 20000 * i)) ⟨⟨_, _, _, rfl⟩, hO1, by simpa using hS1⟩ ?_ ?_
    · rintro i d σ s ⟨⟨x3, x4, x5, rfl⟩, hO2, hS2⟩ hd
      have hi : i < 2 := by
        have := (List.getElem?_eq_some_iff.1 hd).1
        simpa using this
      obtain ⟨Ab, rfl, hA0, hA⟩ : ∃ Ab : Nat, d = .int ((Ab : Nat) : Int) ∧ 0 < Ab ∧ Ab ≤ 10 ^ 40 + 9 := by
        have h2 : i = 0 ∨ i = 1 := by omega
        rcases h2 with rfl | rfl
        · cases hd; exact ⟨1, rfl, by omega, by decide⟩
        · cases hd; exact ⟨10 ^ 40 + 9, rfl, by decide, Nat.le_refl _⟩
      have hA200 : 24 * Ab ≤ 2 ^ 200 := by
        have h1 : 24 * Ab ≤ 24 * (10 ^ 40 + 9) := Nat.mul_le_mul_left _ hA
        have h2 : 24 * (10 ^ 40 + 9) ≤ 2 ^ 200 := by decide
        omega
      have hA4 : Ab < 2 ^ 4000 := lt200 (by omega)
      clear hd
      simp! only []
      refine wp_nx (k_next (n := 11) (m := 8) (by omega) (by omega) (by omega) hS2) ?_
      rintro y s2 ⟨⟨x, rfl, hx0, hx1⟩, hu2⟩
      have hS3 := hu2.sr hS2.lt
      have hO3 := hO2.up hl1 hu2
      obtain ⟨m, rfl⟩ : ∃ m : Nat, x = (m : Int) := ⟨x.toNat, by omega⟩
      have hm7 : m ≤ 7 := by omega
      simp! only []
      refine wp_nx (k_random (n := 9) (ab := ((Ab : Nat) : Int)) (Ab := Ab) (by omega) (by omega) (by omega) hA4 hS3) ?_
      rintro y s3 ⟨⟨M, rfl, hM⟩, hu3⟩
      have hS4 := hu3.sr hS3.lt
      have hO4 := hO3.up hl1 hu3
      have hMt : Mts m 6 (24 * Ab) M := ⟨hM, by omega, by omega, by omega, hA200, by omega⟩
      have hq : Sz 1800 (pfs M (List.range m)) := hMt.pfs (by simp; omega)
      simp! only [la_tup mt_purs]
      refine wp_nx (k_psM (n := 7) hMt _) ?_
      rintro y s6 ⟨rfl, rfl⟩
      simp! only [toP_fr]
      refine ⟨pfr_good (by omega) (by omega) hq, rgOk_nat (by omega), ?_⟩
      simp! only [Int.toNat_natCast, rngN_nv]
      refine wp_nx (k_lps hMt 8 9 (by omega) (List.range m) (by simp; omega) (by simp; omega) (fun v hv => List.mem_range.1 hv) _) ?_
      rintro y s7 ⟨rfl, rfl⟩
      simp! only [toP_fr, eq_rep, Option.map_some, truth]
      refine ⟨pfr_good (by omega) (by omega) hq, ⟨_, _, _, rfl⟩, hO4, hS4.mono (by omega)⟩
    · rintro σ s ⟨⟨x3, x4, x5, rfl⟩, hO2, hS2⟩
      exact ⟨⟨_, _, _, _, _, rfl⟩, hO2⟩
  · rintro σ s ⟨⟨x1, x2, x3, x4, x5, rfl⟩, hO⟩
    have z0 := zero_psM (n := 7) (m := 0) (by omega) s
    have z1 := zero_psM (n := 7) (m := 1) (by omega) s
    rw [pfs_zero (by omega)] at z1
    have e0 : pfs (fun _ _ => (0 : Rat)) (List.range 0) = 1 := rfl
    rw [e0] at z0
    have e11 : D.tup [.int 1, .int 1] = fr 1 := rfl
    have m0 : (D.tup [] : D) = .tup (mt 0 fun _ _ => 0) := rfl
    have m1 : (D.tup [.tup [fr 0]] : D) = .tup (mt 1 fun _ _ => 0) := rfl
    simp! only [e11, fr_zero]
    refine ⟨by omega, call_ps m0 (wp_nx z0 ?_)⟩
    rintro y s7 ⟨rfl, rfl⟩
    simp! only [eq_fr]
    refine ⟨by omega, by omega, by omega, by omega, call_ps m1 (wp_nx z1 ?_)⟩
    rintro y s7 ⟨rfl, rfl⟩
    simp! only [eq_fr]
    refine ⟨by omega, wp_nx (k_limit (n := 6) _) ?_⟩
    rintro y s7 ⟨rfl, rfl⟩
    refine ⟨hO.fin, ?_⟩
    rw [rk_clean rfl]
    exact ⟨rfl, hO.take⟩
end Fs
namespace Fs
open PySem L2 PyProof.Rows PySem.Spec
abbrev pw : Program := PySem.Challenge.pw_flatsum_k23_pair_sums_by_their_definitio
def top (i : Nat) : Stmt := pw.main.body.getD i (.Pass ⟨0, 0, 0, 0⟩)
structure Ev (w : World) (K : PySem.W.Frag) (mg : Str → Option Value) (base : Heap) (Z : Wc) (n : Nat) : Prop where
  f_abs : mg "abs" = none
  f_all : mg "all" = none
  f_bool : mg "bool" = none
  f_int : mg "int" = none
  f_isinstance : mg "isinstance" = none
  f_len : mg "len" = none
  f_list : mg "list" = none
  f_max : mg "max" = none
  f_min : mg "min" = none
  f_range : mg "range" = none
  f_repr : mg "repr" = none
  f_tuple : mg "tuple" = none
  q_MAX_NODES : ∃ t, mg "MAX_NODES" = some (.int 60 t)
  e_BadMatrix : ExF K mg "BadMatrix" (Z.ca Kx.BadMatrix)
  l_BadMatrix : Z.fl Kx.BadMatrix = fldF Kx.BadMatrix
  m_BadMatrix : ∀ c, PySem.W.exmOne K (.ref (Z.ca c)) (.ref (Z.ca Kx.BadMatrix)) = some (ancF c Kx.BadMatrix)
  C_is_integer : Cal pw w K mg base Z P n F.is_integer "is_integer" ["value"]
  C_common_divisor : Cal pw w K mg base Z P n F.common_divisor "common_divisor" ["a", "b"]
  C_is_fraction : Cal pw w K mg base Z P n F.is_fraction "is_fraction" ["value"]
  C_reduced : Cal pw w K mg base Z P n F.reduced "reduced" ["numerator", "denominator"]
  C_fraction : Cal pw w K mg base Z P n F.fraction "fraction" ["numerator", "denominator"]
  C_is_row : Cal pw w K mg base Z P n F.is_row "is_row" ["row", "size"]
  C_need_matrix : Cal pw w K mg base Z P n F.need_matrix "need_matrix" ["matrix"]
  C_common_multiple : Cal pw w K mg base Z P n F.common_multiple "common_multiple" ["one", "other"]
  C_scaled_rows : Cal pw w K mg base Z P n F.scaled_rows "scaled_rows" ["rows"]
  C_exchanged : Cal pw w K mg base Z P n F.exchanged "exchanged" ["rows", "one", "other"]
  C_integer_sum : Cal pw w K mg base Z P n F.integer_sum "integer_sum" ["rows"]
  C_sum_of_rows : Cal pw w K mg base Z P n F.sum_of_rows "sum_of_rows" ["rows"]
  C_pair_sum : Cal pw w K mg base Z P n F.pair_sum "pair_sum" ["matrix"]
  C__law_source : Cal pw w K mg base Z P n F._law_source "_law_source" ["_law_script", "_law_k"]
  C__law_next : Cal pw w K mg base Z P n F._law_next "_law_next" ["_law_source_here", "_law_many"]
  C__law_fraction : Cal pw w K mg base Z P n F._law_fraction "_law_fraction" ["_law_above", "_law_below"]
  C__law_plus : Cal pw w K mg base Z P n F._law_plus "_law_plus" ["_law_one", "_law_other"]
  C__law_times : Cal pw w K mg base Z P n F._law_times "_law_times" ["_law_one", "_law_other"]
  C__law_pair_sum : Cal pw w K mg base Z P n F._law_pair_sum "_law_pair_sum" ["_law_rows", "_law_kept"]
  C__law_random_matrix : Cal pw w K mg base Z P n F._law_random_matrix "_law_random_matrix" ["_law_source_here", "_law_size", "_law_above"]
  C__law_limit_right : Cal pw w K mg base Z P n F._law_limit_right "_law_limit_right" []
  C_law : Cal pw w K mg base Z P n F.law "law" ["_law_script"]
theorem bd_is_integer {w : World} {K : PySem.W.Frag} {mg : Str → Option Value} {base : Heap} {Z : Wc} {n : Nat} (hK : K = Z.K) (E : Ev w K mg base Z n) {cdv : Value} {A : Around} {outer : List PySem.Env} {s : Shared} {H : Hp} {Ek : XK} {fa : Addr} (hr : Room n (A.deeper (envOfC "is_integer" (defScope (top 6)) s.heap.objs.size fa cdv))) (hgd : A.guards = some []) :
    PSs (cxOf (L2.CX pw w) pw w K mg base [("value" : Str)] "is_integer" (defScope (top 6)) fa cdv A outer s H Ek) (defBody (top 6)) (iL (P.tbl n) Z (fun cls dx _ H' => Ek cls dx H') c_is_integer.body) := by
  obtain ⟨t_MAX_NODES, q_MAX_NODES⟩ := E.q_MAX_NODES
  have hu65 : (cxOf (L2.CX pw w) pw w K mg base [("value" : Str)] "is_integer" (defScope (top 6)) fa cdv A outer s H Ek).A.units + 65 < cLine := (by have h := hr.un; show (A.deeper (envOfC "is_integer" (defScope (top 6)) s.heap.objs.size fa cdv)).units + 65 < cLine; omega)
  have hu64 : (cxOf (L2.CX pw w) pw w K mg base [("value" : Str)] "is_integer" (defScope (top 6)) fa cdv A outer s H Ek).A.units + 64 < cLine := by omega
  have hu1 : (cxOf (L2.CX pw w) pw w K mg base [("value" : Str)] "is_integer" (defScope (top 6)) fa cdv A outer s H Ek).A.units + 1 < cLine := by omega
  have hN : (cxOf (L2.CX pw w) pw w K mg base [("value" : Str)] "is_integer" (defScope (top 6)) fa cdv A outer s H Ek).N.Nodup := by show List.Nodup [("value" : Str)]; decide +kernel
  have tk : Takes (cxOf (L2.CX pw w) pw w K mg base [("value" : Str)] "is_integer" (defScope (top 6)) fa cdv A outer s H Ek) (fun cls dx _ H' => Ek cls dx H') := takes_of rfl rfl rfl rfl
  have hp : PassesOwn (model pw w) (cxOf (L2.CX pw w) pw w K mg base [("value" : Str)] "is_integer" (defScope (top 6)) fa cdv A outer s H Ek).A (cxOf (L2.CX pw w) pw w K mg base [("value" : Str)] "is_integer" (defScope (top 6)) fa cdv A outer s H Ek).env (cxOf (L2.CX pw w) pw w K mg base [("value" : Str)] "is_integer" (defScope (top 6)) fa cdv A outer s H Ek).xe := passes_of rfl
  exact (ssl_cons (ss_ret (se_and (se_isT (t := "int") hK okT_int (by rfl) E.f_isinstance (by rfl) E.f_int (by decide +kernel) (se_loc (i := 0) rfl (by first | exact Or.inl rfl | exact Or.inr (Or.inl rfl) | exact Or.inr (Or.inr rfl)) rfl rfl) (by decide) (by rfl) rfl rfl rfl) (se_one (se_nt hK (se_isT (t := "bool") hK okT_bool (by rfl) E.f_isinstance (by rfl) E.f_bool (by decide +kernel) (se_loc (i := 0) rfl (by first | exact Or.inl rfl | exact Or.inr (Or.inl rfl) | exact Or.inr (Or.inr rfl)) rfl rfl) (by decide) (by rfl) rfl rfl rfl)))))
  ssl_nil)
theorem bd_common_divisor {w : World} {K : PySem.W.Frag} {mg : Str → Option Value} {base : Heap} {Z : Wc} {n : Nat} (hK : K = Z.K) (E : Ev w K mg base Z n) {cdv : Value} {A : Around} {outer : List PySem.Env} {s : Shared} {H : Hp} {Ek : XK} {fa : Addr} (hr : Room n (A.deeper (envOfC "common_divisor" (defScope (top 7)) s.heap.objs.size fa cdv))) (hgd : A.guards = some []) :
    PSs (cxOf (L2.CX pw w) pw w K mg base [("a" : Str), ("b" : Str)] "common_divisor" (defScope (top 7)) fa cdv A outer s H Ek) (defBody (top 7)) (iL (P.tbl n) Z (fun cls dx _ H' => Ek cls dx H') c_common_divisor.body) := by
  obtain ⟨t_MAX_NODES, q_MAX_NODES⟩ := E.q_MAX_NODES
  have hu65 : (cxOf (L2.CX pw w) pw w K mg base [("a" : Str), ("b" : Str)] "common_divisor" (defScope (top 7)) fa cdv A outer s H Ek).A.units + 65 < cLine := (by have h := hr.un; show (A.deeper (envOfC "common_divisor" (defScope (top 7)) s.heap.objs.size fa cdv)).units + 65 < cLine; omega)
  have hu64 : (cxOf (L2.CX pw w) pw w K mg base [("a" : Str), ("b" : Str)] "common_divisor" (defScope (top 7)) fa cdv A outer s H Ek).A.units + 64 < cLine := by omega
  have hu1 : (cxOf (L2.CX pw w) pw w K mg base [("a" : Str), ("b" : Str)] "common_divisor" (defScope (top 7)) fa cdv A outer s H Ek).A.units + 1 < cLine := by omega
  have hN : (cxOf (L2.CX pw w) pw w K mg base [("a" : Str), ("b" : Str)] "common_divisor" (defScope (top 7)) fa cdv A outer s H Ek).N.Nodup := by show List.Nodup [("a" : Str), ("b" : Str)]; decide +kernel
  have tk : Takes (cxOf (L2.CX pw w) pw w K mg base [("a" : Str), ("b" : Str)] "common_divisor" (defScope (top 7)) fa cdv A outer s H Ek) (fun cls dx _ H' => Ek cls dx H') := takes_of rfl rfl rfl rfl
  have hp : PassesOwn (model pw w) (cxOf (L2.CX pw w) pw w K mg base [("a" : Str), ("b" : Str)] "common_divisor" (defScope (top 7)) fa cdv A outer s H Ek).A (cxOf (L2.CX pw w) pw w K mg base [("a" : Str), ("b" : Str)] "common_divisor" (defScope (top 7)) fa cdv A outer s H Ek).env (cxOf (L2.CX pw w) pw w K mg base [("a" : Str), ("b" : Str)] "common_divisor" (defScope (top 7)) fa cdv A outer s H Ek).xe := passes_of rfl
  exact (ssl_cons (ss_par2 (i := 0) (j := 1) rfl hN rfl rfl (by decide) rfl rfl (sa_cons (se_bi (b := .abs) (fun _ => bi_abs) (by rfl) E.f_abs (by decide +kernel) (sa_cons (se_loc (i := 0) rfl (by first | exact Or.inl rfl | exact Or.inr (Or.inl rfl) | exact Or.inr (Or.inr rfl)) rfl rfl) sa_nil rfl)) (sa_cons (se_bi (b := .abs) (fun _ => bi_abs) (by rfl) E.f_abs (by decide +kernel) (sa_cons (se_loc (i := 1) rfl (by first | exact Or.inl rfl | exact Or.inr (Or.inl rfl) | exact Or.inr (Or.inr rfl)) rfl rfl) sa_nil rfl)) sa_nil rfl) rfl) (by rfl))
  (ssl_cons (ss_whl hp (st_cmp1 (op := .gt) hK hu65 (se_loc (i := 1) rfl (by first | exact Or.inl rfl | exact Or.inr (Or.inl rfl) | exact Or.inr (Or.inr rfl)) rfl rfl) se_int) (ssl_cons (ss_par2 (i := 0) (j := 1) rfl hN rfl rfl (by decide) rfl rfl (sa_cons (se_loc (i := 1) rfl (by first | exact Or.inl rfl | exact Or.inr (Or.inl rfl) | exact Or.inr (Or.inr rfl)) rfl rfl) (sa_cons (se_bin (op := .mod) hK (se_loc (i := 0) rfl (by first | exact Or.inl rfl | exact Or.inr (Or.inl rfl) | exact Or.inr (Or.inr rfl)) rfl rfl) (se_loc (i := 1) rfl (by first | exact Or.inl rfl | exact Or.inr (Or.inl rfl) | exact Or.inr (Or.inr rfl)) rfl rfl)) sa_nil rfl) rfl) (by rfl))
  ssl_nil))
  (ssl_cons (ss_ret (se_loc (i := 0) rfl (by first | exact Or.inl rfl | exact Or.inr (Or.inl rfl) | exact Or.inr (Or.inr rfl)) rfl rfl))
  ssl_nil)))
theorem bd_is_fraction {w : World} {K : PySem.W.Frag} {mg : Str → Option Value} {base : Heap} {Z : Wc} {n : Nat} (hK : K = Z.K) (E : Ev w K mg base Z n) {cdv : Value} {A : Around} {outer : List PySem.Env} {s : Shared} {H : Hp} {Ek : XK} {fa : Addr} (hr : Room n (A.deeper (envOfC "is_fraction" (defScope (top 8)) s.heap.objs.size fa cdv))) (hgd : A.guards = some []) :
    PSs (cxOf (L2.CX pw w) pw w K mg base [("value" : Str), ("item" : Str)] "is_fraction" (defScope (top 8)) fa cdv A outer s H Ek) (defBody (top 8)) (iL (P.tbl n) Z (fun cls dx _ H' => Ek cls dx H') c_is_fraction.body) := by
  obtain ⟨t_MAX_NODES, q_MAX_NODES⟩ := E.q_MAX_NODES
  have hu65 : (cxOf (L2.CX pw w) pw w K mg base [("value" : Str), ("item" : Str)] "is_fraction" (defScope (top 8)) fa cdv A outer s H Ek).A.units + 65 < cLine := (by have h := hr.un; show (A.deeper (envOfC "is_fraction" (defScope (top 8)) s.heap.objs.size fa cdv)).units + 65 < cLine; omega)
  have hu64 : (cxOf (L2.CX pw w) pw w K mg base [("value" : Str), ("item" : Str)] "is_fraction" (defScope (top 8)) fa cdv A outer s H Ek).A.units + 64 < cLine := by omega
  have hu1 : (cxOf (L2.CX pw w) pw w K mg base [("value" : Str), ("item" : Str)] "is_fraction" (defScope (top 8)) fa cdv A outer s H Ek).A.units + 1 < cLine := by omega
  have hN : (cxOf (L2.CX pw w) pw w K mg base [("value" : Str), ("item" : Str)] "is_fraction" (defScope (top 8)) fa cdv A outer s H Ek).N.Nodup := by show List.Nodup [("value" : Str), ("item" : Str)]; decide +kernel
  have tk : Takes (cxOf (L2.CX pw w) pw w K mg base [("value" : Str), ("item" : Str)] "is_fraction" (defScope (top 8)) fa cdv A outer s H Ek) (fun cls dx _ H' => Ek cls dx H') := takes_of rfl rfl rfl rfl
  have hp : PassesOwn (model pw w) (cxOf (L2.CX pw w) pw w K mg base [("value" : Str), ("item" : Str)] "is_fraction" (defScope (top 8)) fa cdv A outer s H Ek).A (cxOf (L2.CX pw w) pw w K mg base [("value" : Str), ("item" : Str)] "is_fraction" (defScope (top 8)) fa cdv A outer s H Ek).env (cxOf (L2.CX pw w) pw w K mg base [("value" : Str), ("item" : Str)] "is_fraction" (defScope (top 8)) fa cdv A outer s H Ek).xe := passes_of rfl
  exact (ssl_cons (ss_if (st_w (sw_or (st_not (st_val (se_isT (t := "tuple") hK okT_tuple (by rfl) E.f_isinstance (by rfl) E.f_tuple (by decide +kernel) (se_loc (i := 0) rfl (by first | exact Or.inl rfl | exact Or.inr (Or.inl rfl) | exact Or.inr (Or.inr rfl)) rfl rfl) (by decide) (by rfl) rfl rfl rfl) (fun _ => rfl) hK)) (sw_or (st_cmp1 (op := .ne) hK hu65 (se_bi (b := .len) (fun _ => bi_len hK) (by rfl) E.f_len (by decide +kernel) (sa_cons (se_loc (i := 0) rfl (by first | exact Or.inl rfl | exact Or.inr (Or.inl rfl) | exact Or.inr (Or.inr rfl)) rfl rfl) sa_nil rfl)) se_int) (sw_or1 (st_not (st_val (se_bi (b := .all) (fun _ => bi_all hK rfl) (by rfl) E.f_all (by decide +kernel) (sa_cons (se_lc (own := [("item", 1)]) rfl hN (by first | (show blkC [("value" : Str), ("item" : Str)] (defScope (top 8)) _ _ = true; decide +kernel) | rfl) (by decide +kernel) (si_val hK (se_loc (i := 0) rfl (by first | exact Or.inl rfl | exact Or.inr (Or.inl rfl) | exact Or.inr (Or.inr rfl)) rfl rfl)) (fun _ _ _ _ _ => (sg_nm (i := 1) hN rfl (by first | exact Or.inl rfl | exact Or.inr rfl) (by first | exact Or.inl rfl | exact Or.inr rfl))) (fun _ _ _ _ _ => sts_nil) (fun _ _ _ _ _ => (se_callC E.C_is_integer hr hgd tkF (by rfl) (sa_cons (se_loc (i := 1) rfl (by first | exact Or.inl rfl | exact Or.inr (Or.inl rfl) | exact Or.inr (Or.inr rfl)) rfl rfl) sa_nil rfl)))) sa_nil rfl)) (fun _ => rfl) hK)))))) (ssl_cons (ss_ret se_bl)
  ssl_nil) ssl_nil)
  (ssl_cons (ss_ret (se_and (se_cmp1 (op := .gt) hK hu65 (se_sub hK hu1 (se_loc (i := 0) rfl (by first | exact Or.inl rfl | exact Or.inr (Or.inl rfl) | exact Or.inr (Or.inr rfl)) rfl rfl) se_int (fun _ _ => rfl)) se_int) (se_one (se_cmp1 (op := .eq) hK hu65 (se_callC E.C_common_divisor hr hgd tk (by rfl) (sa_cons (se_sub hK hu1 (se_loc (i := 0) rfl (by first | exact Or.inl rfl | exact Or.inr (Or.inl rfl) | exact Or.inr (Or.inr rfl)) rfl rfl) se_int (fun _ _ => rfl)) (sa_cons (se_sub hK hu1 (se_loc (i := 0) rfl (by first | exact Or.inl rfl | exact Or.inr (Or.inl rfl) | exact Or.inr (Or.inr rfl)) rfl rfl) se_int (fun _ _ => rfl)) sa_nil rfl) rfl)) se_int))))
  ssl_nil))
theorem bd_reduced {w : World} {K : PySem.W.Frag} {mg : Str → Option Value} {base : Heap} {Z : Wc} {n : Nat} (hK : K = Z.K) (E : Ev w K mg base Z n) {cdv : Value} {A : Around} {outer : List PySem.Env} {s : Shared} {H : Hp} {Ek : XK} {fa : Addr} (hr : Room n (A.deeper (envOfC "reduced" (defScope (top 9)) s.heap.objs.size fa cdv))) (hgd : A.guards = some []) :
    PSs (cxOf (L2.CX pw w) pw w K mg base [("numerator" : Str), ("denominator" : Str), ("divisor" : Str)] "reduced" (defScope (top 9)) fa cdv A outer s H Ek) (defBody (top 9)) (iL (P.tbl n) Z (fun cls dx _ H' => Ek cls dx H') c_reduced.body) := by
  obtain ⟨t_MAX_NODES, q_MAX_NODES⟩ := E.q_MAX_NODES
  have hu65 : (cxOf (L2.CX pw w) pw w K mg base [("numerator" : Str), ("denominator" : Str), ("divisor" : Str)] "reduced" (defScope (top 9)) fa cdv A outer s H Ek).A.units + 65 < cLine := (by have h := hr.un; show (A.deeper (envOfC "reduced" (defScope (top 9)) s.heap.objs.size fa cdv)).units + 65 < cLine; omega)
  have hu64 : (cxOf (L2.CX pw w) pw w K mg base [("numerator" : Str), ("denominator" : Str), ("divisor" : Str)] "reduced" (defScope (top 9)) fa cdv A outer s H Ek).A.units + 64 < cLine := by omega
  have hu1 : (cxOf (L2.CX pw w) pw w K mg base [("numerator" : Str), ("denominator" : Str), ("divisor" : Str)] "reduced" (defScope (top 9)) fa cdv A outer s H Ek).A.units + 1 < cLine := by omega
  have hN : (cxOf (L2.CX pw w) pw w K mg base [("numerator" : Str), ("denominator" : Str), ("divisor" : Str)] "reduced" (defScope (top 9)) fa cdv A outer s H Ek).N.Nodup := by show List.Nodup [("numerator" : Str), ("denominator" : Str), ("divisor" : Str)]; decide +kernel
  have tk : Takes (cxOf (L2.CX pw w) pw w K mg base [("numerator" : Str), ("denominator" : Str), ("divisor" : Str)] "reduced" (defScope (top 9)) fa cdv A outer s H Ek) (fun cls dx _ H' => Ek cls dx H') := takes_of rfl rfl rfl rfl
  have hp : PassesOwn (model pw w) (cxOf (L2.CX pw w) pw w K mg base [("numerator" : Str), ("denominator" : Str), ("divisor" : Str)] "reduced" (defScope (top 9)) fa cdv A outer s H Ek).A (cxOf (L2.CX pw w) pw w K mg base [("numerator" : Str), ("denominator" : Str), ("divisor" : Str)] "reduced" (defScope (top 9)) fa cdv A outer s H Ek).env (cxOf (L2.CX pw w) pw w K mg base [("numerator" : Str), ("denominator" : Str), ("divisor" : Str)] "reduced" (defScope (top 9)) fa cdv A outer s H Ek).xe := passes_of rfl
  exact (ssl_cons (ss_asg (se_callC E.C_common_divisor hr hgd tk (by rfl) (sa_cons (se_loc (i := 0) rfl (by first | exact Or.inl rfl | exact Or.inr (Or.inl rfl) | exact Or.inr (Or.inr rfl)) rfl rfl) (sa_cons (se_loc (i := 1) rfl (by first | exact Or.inl rfl | exact Or.inr (Or.inl rfl) | exact Or.inr (Or.inr rfl)) rfl rfl) sa_nil rfl) rfl)) (sg_nm (i := 2) hN rfl (by first | exact Or.inl rfl | exact Or.inr rfl) (by first | exact Or.inl rfl | exact Or.inr rfl)) rfl rfl rfl)
  (ssl_cons (ss_if (st_cmp1 (op := .lt) hK hu65 (se_loc (i := 1) rfl (by first | exact Or.inl rfl | exact Or.inr (Or.inl rfl) | exact Or.inr (Or.inr rfl)) rfl rfl) se_int) (ssl_cons (ss_asg (se_bin (op := .sub) hK se_int (se_loc (i := 2) rfl (by first | exact Or.inl rfl | exact Or.inr (Or.inl rfl) | exact Or.inr (Or.inr rfl)) rfl rfl)) (sg_nm (i := 2) hN rfl (by first | exact Or.inl rfl | exact Or.inr rfl) (by first | exact Or.inl rfl | exact Or.inr rfl)) rfl rfl rfl)
  ssl_nil) ssl_nil)
  (ssl_cons (ss_ret (se_tup (sa_cons (se_bin (op := .fdiv) hK (se_loc (i := 0) rfl (by first | exact Or.inl rfl | exact Or.inr (Or.inl rfl) | exact Or.inr (Or.inr rfl)) rfl rfl) (se_loc (i := 2) rfl (by first | exact Or.inl rfl | exact Or.inr (Or.inl rfl) | exact Or.inr (Or.inr rfl)) rfl rfl)) (sa_cons (se_bin (op := .fdiv) hK (se_loc (i := 1) rfl (by first | exact Or.inl rfl | exact Or.inr (Or.inl rfl) | exact Or.inr (Or.inr rfl)) rfl rfl) (se_loc (i := 2) rfl (by first | exact Or.inl rfl | exact Or.inr (Or.inl rfl) | exact Or.inr (Or.inr rfl)) rfl rfl)) sa_nil rfl) rfl)))
  ssl_nil)))
theorem bd_fraction {w : World} {K : PySem.W.Frag} {mg : Str → Option Value} {base : Heap} {Z : Wc} {n : Nat} (hK : K = Z.K) (E : Ev w K mg base Z n) {cdv : Value} {A : Around} {outer : List PySem.Env} {s : Shared} {H : Hp} {Ek : XK} {fa : Addr} (hr : Room n (A.deeper (envOfC "fraction" (defScope (top 10)) s.heap.objs.size fa cdv))) (hgd : A.guards = some []) :
    PSs (cxOf (L2.CX pw w) pw w K mg base [("numerator" : Str), ("denominator" : Str)] "fraction" (defScope (top 10)) fa cdv A outer s H Ek) (defBody (top 10)) (iL (P.tbl n) Z (fun cls dx _ H' => Ek cls dx H') c_fraction.body) := by
  obtain ⟨t_MAX_NODES, q_MAX_NODES⟩ := E.q_MAX_NODES
  have hu65 : (cxOf (L2.CX pw w) pw w K mg base [("numerator" : Str), ("denominator" : Str)] "fraction" (defScope (top 10)) fa cdv A outer s H Ek).A.units + 65 < cLine := (by have h := hr.un; show (A.deeper (envOfC "fraction" (defScope (top 10)) s.heap.objs.size fa cdv)).units + 65 < cLine; omega)
  have hu64 : (cxOf (L2.CX pw w) pw w K mg base [("numerator" : Str), ("denominator" : Str)] "fraction" (defScope (top 10)) fa cdv A outer s H Ek).A.units + 64 < cLine := by omega
  have hu1 : (cxOf (L2.CX pw w) pw w K mg base [("numerator" : Str), ("denominator" : Str)] "fraction" (defScope (top 10)) fa cdv A outer s H Ek).A.units + 1 < cLine := by omega
  have hN : (cxOf (L2.CX pw w) pw w K mg base [("numerator" : Str), ("denominator" : Str)] "fraction" (defScope (top 10)) fa cdv A outer s H Ek).N.Nodup := by show List.Nodup [("numerator" : Str), ("denominator" : Str)]; decide +kernel
  have tk : Takes (cxOf (L2.CX pw w) pw w K mg base [("numerator" : Str), ("denominator" : Str)] "fraction" (defScope (top 10)) fa cdv A outer s H Ek) (fun cls dx _ H' => Ek cls dx H') := takes_of rfl rfl rfl rfl
  have hp : PassesOwn (model pw w) (cxOf (L2.CX pw w) pw w K mg base [("numerator" : Str), ("denominator" : Str)] "fraction" (defScope (top 10)) fa cdv A outer s H Ek).A (cxOf (L2.CX pw w) pw w K mg base [("numerator" : Str), ("denominator" : Str)] "fraction" (defScope (top 10)) fa cdv A outer s H Ek).env (cxOf (L2.CX pw w) pw w K mg base [("numerator" : Str), ("denominator" : Str)] "fraction" (defScope (top 10)) fa cdv A outer s H Ek).xe := passes_of rfl
  exact (ssl_cons (ss_if (st_w (sw_or (st_not (st_val (se_callC E.C_is_integer hr hgd tk (by rfl) (sa_cons (se_loc (i := 0) rfl (by first | exact Or.inl rfl | exact Or.inr (Or.inl rfl) | exact Or.inr (Or.inr rfl)) rfl rfl) sa_nil rfl)) (fun _ => rfl) hK)) (sw_or1 (st_not (st_val (se_callC E.C_is_integer hr hgd tk (by rfl) (sa_cons (se_loc (i := 1) rfl (by first | exact Or.inl rfl | exact Or.inr (Or.inl rfl) | exact Or.inr (Or.inr rfl)) rfl rfl) sa_nil rfl)) (fun _ => rfl) hK))))) (ssl_cons ss_hole
  ssl_nil) ssl_nil)
  (ssl_cons (ss_if (st_cmp1 (op := .eq) hK hu65 (se_loc (i := 1) rfl (by first | exact Or.inl rfl | exact Or.inr (Or.inl rfl) | exact Or.inr (Or.inr rfl)) rfl rfl) se_int) (ssl_cons ss_hole
  ssl_nil) ssl_nil)
  (ssl_cons (ss_ret (se_callC E.C_reduced hr hgd tk (by rfl) (sa_cons (se_loc (i := 0) rfl (by first | exact Or.inl rfl | exact Or.inr (Or.inl rfl) | exact Or.inr (Or.inr rfl)) rfl rfl) (sa_cons (se_loc (i := 1) rfl (by first | exact Or.inl rfl | exact Or.inr (Or.inl rfl) | exact Or.inr (Or.inr rfl)) rfl rfl) sa_nil rfl) rfl)))
  ssl_nil)))
theorem bd_is_row {w : World} {K : PySem.W.Frag} {mg : Str → Option Value} {base : Heap} {Z : Wc} {n : Nat} (hK : K = Z.K) (E : Ev w K mg base Z n) {cdv : Value} {A : Around} {outer : List PySem.Env} {s : Shared} {H : Hp} {Ek : XK} {fa : Addr} (hr : Room n (A.deeper (envOfC "is_row" (defScope (top 12)) s.heap.objs.size fa cdv))) (hgd : A.guards = some []) :
    PSs (cxOf (L2.CX pw w) pw w K mg base [("row" : Str), ("size" : Str), ("entry" : Str)] "is_row" (defScope (top 12)) fa cdv A outer s H Ek) (defBody (top 12)) (iL (P.tbl n) Z (fun cls dx _ H' => Ek cls dx H') c_is_row.body) := by
  obtain ⟨t_MAX_NODES, q_MAX_NODES⟩ := E.q_MAX_NODES
  have hu65 : (cxOf (L2.CX pw w) pw w K mg base [("row" : Str), ("size" : Str), ("entry" : Str)] "is_row" (defScope (top 12)) fa cdv A outer s H Ek).A.units + 65 < cLine := (by have h := hr.un; show (A.deeper (envOfC "is_row" (defScope (top 12)) s.heap.objs.size fa cdv)).units + 65 < cLine; omega)
  have hu64 : (cxOf (L2.CX pw w) pw w K mg base [("row" : Str), ("size" : Str), ("entry" : Str)] "is_row" (defScope (top 12)) fa cdv A outer s H Ek).A.units + 64 < cLine := by omega
  have hu1 : (cxOf (L2.CX pw w) pw w K mg base [("row" : Str), ("size" : Str), ("entry" : Str)] "is_row" (defScope (top 12)) fa cdv A outer s H Ek).A.units + 1 < cLine := by omega
  have hN : (cxOf (L2.CX pw w) pw w K mg base [("row" : Str), ("size" : Str), ("entry" : Str)] "is_row" (defScope (top 12)) fa cdv A outer s H Ek).N.Nodup := by show List.Nodup [("row" : Str), ("size" : Str), ("entry" : Str)]; decide +kernel
  have tk : Takes (cxOf (L2.CX pw w) pw w K mg base [("row" : Str), ("size" : Str), ("entry" : Str)] "is_row" (defScope (top 12)) fa cdv A outer s H Ek) (fun cls dx _ H' => Ek cls dx H') := takes_of rfl rfl rfl rfl
  have hp : PassesOwn (model pw w) (cxOf (L2.CX pw w) pw w K mg base [("row" : Str), ("size" : Str), ("entry" : Str)] "is_row" (defScope (top 12)) fa cdv A outer s H Ek).A (cxOf (L2.CX pw w) pw w K mg base [("row" : Str), ("size" : Str), ("entry" : Str)] "is_row" (defScope (top 12)) fa cdv A outer s H Ek).env (cxOf (L2.CX pw w) pw w K mg base [("row" : Str), ("size" : Str), ("entry" : Str)] "is_row" (defScope (top 12)) fa cdv A outer s H Ek).xe := passes_of rfl
  exact (ssl_cons (ss_ret (se_and (se_isT (t := "tuple") hK okT_tuple (by rfl) E.f_isinstance (by rfl) E.f_tuple (by decide +kernel) (se_loc (i := 0) rfl (by first | exact Or.inl rfl | exact Or.inr (Or.inl rfl) | exact Or.inr (Or.inr rfl)) rfl rfl) (by decide) (by rfl) rfl rfl rfl) (se_and (se_cmp1 (op := .eq) hK hu65 (se_bi (b := .len) (fun _ => bi_len hK) (by rfl) E.f_len (by decide +kernel) (sa_cons (se_loc (i := 0) rfl (by first | exact Or.inl rfl | exact Or.inr (Or.inl rfl) | exact Or.inr (Or.inr rfl)) rfl rfl) sa_nil rfl)) (se_loc (i := 1) rfl (by first | exact Or.inl rfl | exact Or.inr (Or.inl rfl) | exact Or.inr (Or.inr rfl)) rfl rfl)) (se_one (se_bi (b := .all) (fun _ => bi_all hK rfl) (by rfl) E.f_all (by decide +kernel) (sa_cons (se_lc (own := [("entry", 2)]) rfl hN (by first | (show blkC [("row" : Str), ("size" : Str), ("entry" : Str)] (defScope (top 12)) _ _ = true; decide +kernel) | rfl) (by decide +kernel) (si_val hK (se_loc (i := 0) rfl (by first | exact Or.inl rfl | exact Or.inr (Or.inl rfl) | exact Or.inr (Or.inr rfl)) rfl rfl)) (fun _ _ _ _ _ => (sg_nm (i := 2) hN rfl (by first | exact Or.inl rfl | exact Or.inr rfl) (by first | exact Or.inl rfl | exact Or.inr rfl))) (fun _ _ _ _ _ => sts_nil) (fun _ _ _ _ _ => (se_callC E.C_is_fraction hr hgd tkF (by rfl) (sa_cons (se_loc (i := 2) rfl (by first | exact Or.inl rfl | exact Or.inr (Or.inl rfl) | exact Or.inr (Or.inr rfl)) rfl rfl) sa_nil rfl)))) sa_nil rfl))))))
  ssl_nil)
theorem bd_need_matrix {w : World} {K : PySem.W.Frag} {mg : Str → Option Value} {base : Heap} {Z : Wc} {n : Nat} (hK : K = Z.K) (E : Ev w K mg base Z n) {cdv : Value} {A : Around} {outer : List PySem.Env} {s : Shared} {H : Hp} {Ek : XK} {fa : Addr} (hr : Room n (A.deeper (envOfC "need_matrix" (defScope (top 13)) s.heap.objs.size fa cdv))) (hgd : A.guards = some []) :
    PSs (cxOf (L2.CX pw w) pw w K mg base [("matrix" : Str), ("size" : Str), ("row" : Str), ("u" : Str), ("v" : Str)] "need_matrix" (defScope (top 13)) fa cdv A outer s H Ek) (defBody (top 13)) (iL (P.tbl n) Z (fun cls dx _ H' => Ek cls dx H') c_need_matrix.body) := by
  obtain ⟨t_MAX_NODES, q_MAX_NODES⟩ := E.q_MAX_NODES
  have hu65 : (cxOf (L2.CX pw w) pw w K mg base [("matrix" : Str), ("size" : Str), ("row" : Str), ("u" : Str), ("v" : Str)] "need_matrix" (defScope (top 13)) fa cdv A outer s H Ek).A.units + 65 < cLine := (by have h := hr.un; show (A.deeper (envOfC "need_matrix" (defScope (top 13)) s.heap.objs.size fa cdv)).units + 65 < cLine; omega)
  have hu64 : (cxOf (L2.CX pw w) pw w K mg base [("matrix" : Str), ("size" : Str), ("row" : Str), ("u" : Str), ("v" : Str)] "need_matrix" (defScope (top 13)) fa cdv A outer s H Ek).A.units + 64 < cLine := by omega
  have hu1 : (cxOf (L2.CX pw w) pw w K mg base [("matrix" : Str), ("size" : Str), ("row" : Str), ("u" : Str), ("v" : Str)] "need_matrix" (defScope (top 13)) fa cdv A outer s H Ek).A.units + 1 < cLine := by omega
  have hN : (cxOf (L2.CX pw w) pw w K mg base [("matrix" : Str), ("size" : Str), ("row" : Str), ("u" : Str), ("v" : Str)] "need_matrix" (defScope (top 13)) fa cdv A outer s H Ek).N.Nodup := by show List.Nodup [("matrix" : Str), ("size" : Str), ("row" : Str), ("u" : Str), ("v" : Str)]; decide +kernel
  have tk : Takes (cxOf (L2.CX pw w) pw w K mg base [("matrix" : Str), ("size" : Str), ("row" : Str), ("u" : Str), ("v" : Str)] "need_matrix" (defScope (top 13)) fa cdv A outer s H Ek) (fun cls dx _ H' => Ek cls dx H') := takes_of rfl rfl rfl rfl
  have hp : PassesOwn (model pw w) (cxOf (L2.CX pw w) pw w K mg base [("matrix" : Str), ("size" : Str), ("row" : Str), ("u" : Str), ("v" : Str)] "need_matrix" (defScope (top 13)) fa cdv A outer s H Ek).A (cxOf (L2.CX pw w) pw w K mg base [("matrix" : Str), ("size" : Str), ("row" : Str), ("u" : Str), ("v" : Str)] "need_matrix" (defScope (top 13)) fa cdv A outer s H Ek).env (cxOf (L2.CX pw w) pw w K mg base [("matrix" : Str), ("size" : Str), ("row" : Str), ("u" : Str), ("v" : Str)] "need_matrix" (defScope (top 13)) fa cdv A outer s H Ek).xe := passes_of rfl
  exact (ssl_cons (ss_if (st_w (sw_or (st_not (st_val (se_isT (t := "tuple") hK okT_tuple (by rfl) E.f_isinstance (by rfl) E.f_tuple (by decide +kernel) (se_loc (i := 0) rfl (by first | exact Or.inl rfl | exact Or.inr (Or.inl rfl) | exact Or.inr (Or.inr rfl)) rfl rfl) (by decide) (by rfl) rfl rfl rfl) (fun _ => rfl) hK)) (sw_or1 (st_cmp1 (op := .gt) hK hu65 (se_bi (b := .len) (fun _ => bi_len hK) (by rfl) E.f_len (by decide +kernel) (sa_cons (se_loc (i := 0) rfl (by first | exact Or.inl rfl | exact Or.inr (Or.inl rfl) | exact Or.inr (Or.inr rfl)) rfl rfl) sa_nil rfl)) (se_glob (d := .int 60) (v := .int 60) (by rfl) q_MAX_NODES ⟨_, rfl⟩ (fun _ _ => ⟨rfl, rfl⟩) rfl))))) (ssl_cons (ss_rse0 rfl tk hK E.e_BadMatrix E.l_BadMatrix rfl (by decide) (by rfl) (sa_cons se_str sa_nil rfl) (by decide) rfl rfl)
  ssl_nil) ssl_nil)
  (ssl_cons (ss_asg (se_bi (b := .len) (fun _ => bi_len hK) (by rfl) E.f_len (by decide +kernel) (sa_cons (se_loc (i := 0) rfl (by first | exact Or.inl rfl | exact Or.inr (Or.inl rfl) | exact Or.inr (Or.inr rfl)) rfl rfl) sa_nil rfl)) (sg_nm (i := 1) hN rfl (by first | exact Or.inl rfl | exact Or.inr rfl) (by first | exact Or.inl rfl | exact Or.inr rfl)) rfl rfl rfl)
  (ssl_cons (ss_if (st_not (st_val (se_bi (b := .all) (fun _ => bi_all hK rfl) (by rfl) E.f_all (by decide +kernel) (sa_cons (se_lc (own := [("row", 2)]) rfl hN (by first | (show blkC [("matrix" : Str), ("size" : Str), ("row" : Str), ("u" : Str), ("v" : Str)] (defScope (top 13)) _ _ = true; decide +kernel) | rfl) (by decide +kernel) (si_val hK (se_loc (i := 0) rfl (by first | exact Or.inl rfl | exact Or.inr (Or.inl rfl) | exact Or.inr (Or.inr rfl)) rfl rfl)) (fun _ _ _ _ _ => (sg_nm (i := 2) hN rfl (by first | exact Or.inl rfl | exact Or.inr rfl) (by first | exact Or.inl rfl | exact Or.inr rfl))) (fun _ _ _ _ _ => sts_nil) (fun _ _ _ _ _ => (se_callC E.C_is_row hr hgd tkF (by rfl) (sa_cons (se_loc (i := 2) rfl (by first | exact Or.inl rfl | exact Or.inr (Or.inl rfl) | exact Or.inr (Or.inr rfl)) rfl rfl) (sa_cons (se_loc (i := 1) rfl (by first | exact Or.inl rfl | exact Or.inr (Or.inl rfl) | exact Or.inr (Or.inr rfl)) rfl rfl) sa_nil rfl) rfl)))) sa_nil rfl)) (fun _ => rfl) hK)) (ssl_cons (ss_rse0 rfl tk hK E.e_BadMatrix E.l_BadMatrix rfl (by decide) (by rfl) (sa_cons se_str sa_nil rfl) (by decide) rfl rfl)
  ssl_nil) ssl_nil)
  (ssl_cons (ss_for hp rfl (si_rng1 (by rfl) E.f_range (se_loc (i := 1) rfl (by first | exact Or.inl rfl | exact Or.inr (Or.inl rfl) | exact Or.inr (Or.inr rfl)) rfl rfl) rfl) (sg_nm (i := 3) hN rfl (by first | exact Or.inl rfl | exact Or.inr rfl) (by first | exact Or.inl rfl | exact Or.inr rfl)) (ssl_cons (ss_for hp rfl (si_rng2 (by rfl) E.f_range (se_loc (i := 3) rfl (by first | exact Or.inl rfl | exact Or.inr (Or.inl rfl) | exact Or.inr (Or.inr rfl)) rfl rfl) (se_loc (i := 1) rfl (by first | exact Or.inl rfl | exact Or.inr (Or.inl rfl) | exact Or.inr (Or.inr rfl)) rfl rfl) rfl rfl) (sg_nm (i := 4) hN rfl (by first | exact Or.inl rfl | exact Or.inr rfl) (by first | exact Or.inl rfl | exact Or.inr rfl)) (ssl_cons (ss_if (st_cmp1 (op := .ne) hK hu65 (se_sub hK hu1 (se_sub hK hu1 (se_loc (i := 0) rfl (by first | exact Or.inl rfl | exact Or.inr (Or.inl rfl) | exact Or.inr (Or.inr rfl)) rfl rfl) (se_loc (i := 3) rfl (by first | exact Or.inl rfl | exact Or.inr (Or.inl rfl) | exact Or.inr (Or.inr rfl)) rfl rfl) (fun _ _ => rfl)) (se_loc (i := 4) rfl (by first | exact Or.inl rfl | exact Or.inr (Or.inl rfl) | exact Or.inr (Or.inr rfl)) rfl rfl) (fun _ _ => rfl)) (se_tup (sa_cons (se_bin (op := .sub) hK se_int (se_sub hK hu1 (se_sub hK hu1 (se_sub hK hu1 (se_loc (i := 0) rfl (by first | exact Or.inl rfl | exact Or.inr (Or.inl rfl) | exact Or.inr (Or.inr rfl)) rfl rfl) (se_loc (i := 4) rfl (by first | exact Or.inl rfl | exact Or.inr (Or.inl rfl) | exact Or.inr (Or.inr rfl)) rfl rfl) (fun _ _ => rfl)) (se_loc (i := 3) rfl (by first | exact Or.inl rfl | exact Or.inr (Or.inl rfl) | exact Or.inr (Or.inr rfl)) rfl rfl) (fun _ _ => rfl)) se_int (fun _ _ => rfl))) (sa_cons (se_sub hK hu1 (se_sub hK hu1 (se_sub hK hu1 (se_loc (i := 0) rfl (by first | exact Or.inl rfl | exact Or.inr (Or.inl rfl) | exact Or.inr (Or.inr rfl)) rfl rfl) (se_loc (i := 4) rfl (by first | exact Or.inl rfl | exact Or.inr (Or.inl rfl) | exact Or.inr (Or.inr rfl)) rfl rfl) (fun _ _ => rfl)) (se_loc (i := 3) rfl (by first | exact Or.inl rfl | exact Or.inr (Or.inl rfl) | exact Or.inr (Or.inr rfl)) rfl rfl) (fun _ _ => rfl)) se_int (fun _ _ => rfl)) sa_nil rfl) rfl))) (ssl_cons (ss_rse0 rfl tk hK E.e_BadMatrix E.l_BadMatrix rfl (by decide) (by rfl) (sa_cons se_str sa_nil rfl) (by decide) rfl rfl)
  ssl_nil) ssl_nil)
  ssl_nil) (fun _ => rfl))
  ssl_nil) (fun _ => rfl))
  ssl_nil))))
theorem bd_common_multiple {w : World} {K : PySem.W.Frag} {mg : Str → Option Value} {base : Heap} {Z : Wc} {n : Nat} (hK : K = Z.K) (E : Ev w K mg base Z n) {cdv : Value} {A : Around} {outer : List PySem.Env} {s : Shared} {H : Hp} {Ek : XK} {fa : Addr} (hr : Room n (A.deeper (envOfC "common_multiple" (defScope (top 14)) s.heap.objs.size fa cdv))) (hgd : A.guards = some []) :
    PSs (cxOf (L2.CX pw w) pw w K mg base [("one" : Str), ("other" : Str), ("a" : Str), ("b" : Str)] "common_multiple" (defScope (top 14)) fa cdv A outer s H Ek) (defBody (top 14)) (iL (P.tbl n) Z (fun cls dx _ H' => Ek cls dx H') c_common_multiple.body) := by
  obtain ⟨t_MAX_NODES, q_MAX_NODES⟩ := E.q_MAX_NODES
  have hu65 : (cxOf (L2.CX pw w) pw w K mg base [("one" : Str), ("other" : Str), ("a" : Str), ("b" : Str)] "common_multiple" (defScope (top 14)) fa cdv A outer s H Ek).A.units + 65 < cLine := (by have h := hr.un; show (A.deeper (envOfC "common_multiple" (defScope (top 14)) s.heap.objs.size fa cdv)).units + 65 < cLine; omega)
  have hu64 : (cxOf (L2.CX pw w) pw w K mg base [("one" : Str), ("other" : Str), ("a" : Str), ("b" : Str)] "common_multiple" (defScope (top 14)) fa cdv A outer s H Ek).A.units + 64 < cLine := by omega
  have hu1 : (cxOf (L2.CX pw w) pw w K mg base [("one" : Str), ("other" : Str), ("a" : Str), ("b" : Str)] "common_multiple" (defScope (top 14)) fa cdv A outer s H Ek).A.units + 1 < cLine := by omega
  have hN : (cxOf (L2.CX pw w) pw w K mg base [("one" : Str), ("other" : Str), ("a" : Str), ("b" : Str)] "common_multiple" (defScope (top 14)) fa cdv A outer s H Ek).N.Nodup := by show List.Nodup [("one" : Str), ("other" : Str), ("a" : Str), ("b" : Str)]; decide +kernel
  have tk : Takes (cxOf (L2.CX pw w) pw w K mg base [("one" : Str), ("other" : Str), ("a" : Str), ("b" : Str)] "common_multiple" (defScope (top 14)) fa cdv A outer s H Ek) (fun cls dx _ H' => Ek cls dx H') := takes_of rfl rfl rfl rfl
  have hp : PassesOwn (model pw w) (cxOf (L2.CX pw w) pw w K mg base [("one" : Str), ("other" : Str), ("a" : Str), ("b" : Str)] "common_multiple" (defScope (top 14)) fa cdv A outer s H Ek).A (cxOf (L2.CX pw w) pw w K mg base [("one" : Str), ("other" : Str), ("a" : Str), ("b" : Str)] "common_multiple" (defScope (top 14)) fa cdv A outer s H Ek).env (cxOf (L2.CX pw w) pw w K mg base [("one" : Str), ("other" : Str), ("a" : Str), ("b" : Str)] "common_multiple" (defScope (top 14)) fa cdv A outer s H Ek).xe := passes_of rfl
  exact (ssl_cons (ss_par2 (i := 2) (j := 3) rfl hN rfl rfl (by decide) rfl rfl (sa_cons (se_loc (i := 0) rfl (by first | exact Or.inl rfl | exact Or.inr (Or.inl rfl) | exact Or.inr (Or.inr rfl)) rfl rfl) (sa_cons (se_loc (i := 1) rfl (by first | exact Or.inl rfl | exact Or.inr (Or.inl rfl) | exact Or.inr (Or.inr rfl)) rfl rfl) sa_nil rfl) rfl) (by rfl))
  (ssl_cons (ss_whl hp (st_cmp1 (op := .gt) hK hu65 (se_loc (i := 3) rfl (by first | exact Or.inl rfl | exact Or.inr (Or.inl rfl) | exact Or.inr (Or.inr rfl)) rfl rfl) se_int) (ssl_cons (ss_par2 (i := 2) (j := 3) rfl hN rfl rfl (by decide) rfl rfl (sa_cons (se_loc (i := 3) rfl (by first | exact Or.inl rfl | exact Or.inr (Or.inl rfl) | exact Or.inr (Or.inr rfl)) rfl rfl) (sa_cons (se_bin (op := .mod) hK (se_loc (i := 2) rfl (by first | exact Or.inl rfl | exact Or.inr (Or.inl rfl) | exact Or.inr (Or.inr rfl)) rfl rfl) (se_loc (i := 3) rfl (by first | exact Or.inl rfl | exact Or.inr (Or.inl rfl) | exact Or.inr (Or.inr rfl)) rfl rfl)) sa_nil rfl) rfl) (by rfl))
  ssl_nil))
  (ssl_cons (ss_ret (se_bin (op := .mul) hK (se_bin (op := .fdiv) hK (se_loc (i := 0) rfl (by first | exact Or.inl rfl | exact Or.inr (Or.inl rfl) | exact Or.inr (Or.inr rfl)) rfl rfl) (se_loc (i := 2) rfl (by first | exact Or.inl rfl | exact Or.inr (Or.inl rfl) | exact Or.inr (Or.inr rfl)) rfl rfl)) (se_loc (i := 1) rfl (by first | exact Or.inl rfl | exact Or.inr (Or.inl rfl) | exact Or.inr (Or.inr rfl)) rfl rfl)))
  ssl_nil)))
theorem bd_scaled_rows {w : World} {K : PySem.W.Frag} {mg : Str → Option Value} {base : Heap} {Z : Wc} {n : Nat} (hK : K = Z.K) (E : Ev w K mg base Z n) {cdv : Value} {A : Around} {outer : List PySem.Env} {s : Shared} {H : Hp} {Ek : XK} {fa : Addr} (hr : Room n (A.deeper (envOfC "scaled_rows" (defScope (top 15)) s.heap.objs.size fa cdv))) (hgd : A.guards = some []) :
    PSs (cxOf (L2.CX pw w) pw w K mg base [("rows" : Str), ("multiple" : Str), ("row" : Str), ("entry" : Str)] "scaled_rows" (defScope (top 15)) fa cdv A outer s H Ek) (defBody (top 15)) (iL (P.tbl n) Z (fun cls dx _ H' => Ek cls dx H') c_scaled_rows.body) := by
  obtain ⟨t_MAX_NODES, q_MAX_NODES⟩ := E.q_MAX_NODES
  have hu65 : (cxOf (L2.CX pw w) pw w K mg base [("rows" : Str), ("multiple" : Str), ("row" : Str), ("entry" : Str)] "scaled_rows" (defScope (top 15)) fa cdv A outer s H Ek).A.units + 65 < cLine := (by have h := hr.un; show (A.deeper (envOfC "scaled_rows" (defScope (top 15)) s.heap.objs.size fa cdv)).units + 65 < cLine; omega)
  have hu64 : (cxOf (L2.CX pw w) pw w K mg base [("rows" : Str), ("multiple" : Str), ("row" : Str), ("entry" : Str)] "scaled_rows" (defScope (top 15)) fa cdv A outer s H Ek).A.units + 64 < cLine := by omega
  have hu1 : (cxOf (L2.CX pw w) pw w K mg base [("rows" : Str), ("multiple" : Str), ("row" : Str), ("entry" : Str)] "scaled_rows" (defScope (top 15)) fa cdv A outer s H Ek).A.units + 1 < cLine := by omega
  have hN : (cxOf (L2.CX pw w) pw w K mg base [("rows" : Str), ("multiple" : Str), ("row" : Str), ("entry" : Str)] "scaled_rows" (defScope (top 15)) fa cdv A outer s H Ek).N.Nodup := by show List.Nodup [("rows" : Str), ("multiple" : Str), ("row" : Str), ("entry" : Str)]; decide +kernel
  have tk : Takes (cxOf (L2.CX pw w) pw w K mg base [("rows" : Str), ("multiple" : Str), ("row" : Str), ("entry" : Str)] "scaled_rows" (defScope (top 15)) fa cdv A outer s H Ek) (fun cls dx _ H' => Ek cls dx H') := takes_of rfl rfl rfl rfl
  have hp : PassesOwn (model pw w) (cxOf (L2.CX pw w) pw w K mg base [("rows" : Str), ("multiple" : Str), ("row" : Str), ("entry" : Str)] "scaled_rows" (defScope (top 15)) fa cdv A outer s H Ek).A (cxOf (L2.CX pw w) pw w K mg base [("rows" : Str), ("multiple" : Str), ("row" : Str), ("entry" : Str)] "scaled_rows" (defScope (top 15)) fa cdv A outer s H Ek).env (cxOf (L2.CX pw w) pw w K mg base [("rows" : Str), ("multiple" : Str), ("row" : Str), ("entry" : Str)] "scaled_rows" (defScope (top 15)) fa cdv A outer s H Ek).xe := passes_of rfl
  exact (ssl_cons (ss_asg se_int (sg_nm (i := 1) hN rfl (by first | exact Or.inl rfl | exact Or.inr rfl) (by first | exact Or.inl rfl | exact Or.inr rfl)) rfl rfl rfl)
  (ssl_cons (ss_for hp rfl (si_val hK (se_loc (i := 0) rfl (by first | exact Or.inl rfl | exact Or.inr (Or.inl rfl) | exact Or.inr (Or.inr rfl)) rfl rfl)) (sg_nm (i := 2) hN rfl (by first | exact Or.inl rfl | exact Or.inr rfl) (by first | exact Or.inl rfl | exact Or.inr rfl)) (ssl_cons (ss_for hp rfl (si_val hK (se_loc (i := 2) rfl (by first | exact Or.inl rfl | exact Or.inr (Or.inl rfl) | exact Or.inr (Or.inr rfl)) rfl rfl)) (sg_nm (i := 3) hN rfl (by first | exact Or.inl rfl | exact Or.inr rfl) (by first | exact Or.inl rfl | exact Or.inr rfl)) (ssl_cons (ss_asg (se_callC E.C_common_multiple hr hgd tk (by rfl) (sa_cons (se_loc (i := 1) rfl (by first | exact Or.inl rfl | exact Or.inr (Or.inl rfl) | exact Or.inr (Or.inr rfl)) rfl rfl) (sa_cons (se_sub hK hu1 (se_loc (i := 3) rfl (by first | exact Or.inl rfl | exact Or.inr (Or.inl rfl) | exact Or.inr (Or.inr rfl)) rfl rfl) se_int (fun _ _ => rfl)) sa_nil rfl) rfl)) (sg_nm (i := 1) hN rfl (by first | exact Or.inl rfl | exact Or.inr rfl) (by first | exact Or.inl rfl | exact Or.inr rfl)) rfl rfl rfl)
  ssl_nil) (fun _ => rfl))
  ssl_nil) (fun _ => rfl))
  (ssl_cons (ss_ret (se_tup (sa_cons (se_lc (own := [("row", 2)]) rfl hN (by first | (show blkC [("rows" : Str), ("multiple" : Str), ("row" : Str), ("entry" : Str)] (defScope (top 15)) _ _ = true; decide +kernel) | rfl) (by decide +kernel) (si_val hK (se_loc (i := 0) rfl (by first | exact Or.inl rfl | exact Or.inr (Or.inl rfl) | exact Or.inr (Or.inr rfl)) rfl rfl)) (fun _ _ _ _ _ => (sg_nm (i := 2) hN rfl (by first | exact Or.inl rfl | exact Or.inr rfl) (by first | exact Or.inl rfl | exact Or.inr rfl))) (fun _ _ _ _ _ => sts_nil) (fun _ _ _ _ _ => (se_lc (own := [("entry", 3)]) rfl hN (by first | (show blkC [("rows" : Str), ("multiple" : Str), ("row" : Str), ("entry" : Str)] (defScope (top 15)) _ _ = true; decide +kernel) | rfl) (by decide +kernel) (si_val hK (se_loc (i := 2) rfl (by first | exact Or.inl rfl | exact Or.inr (Or.inl rfl) | exact Or.inr (Or.inr rfl)) rfl rfl)) (fun _ _ _ _ _ => (sg_nm (i := 3) hN rfl (by first | exact Or.inl rfl | exact Or.inr rfl) (by first | exact Or.inl rfl | exact Or.inr rfl))) (fun _ _ _ _ _ => sts_nil) (fun _ _ _ _ _ => (se_bin (op := .mul) hK (se_sub hK hu1 (se_loc (i := 3) rfl (by first | exact Or.inl rfl | exact Or.inr (Or.inl rfl) | exact Or.inr (Or.inr rfl)) rfl rfl) se_int (fun _ _ => rfl)) (se_bin (op := .fdiv) hK (se_loc (i := 1) rfl (by first | exact Or.inl rfl | exact Or.inr (Or.inl rfl) | exact Or.inr (Or.inr rfl)) rfl rfl) (se_sub hK hu1 (se_loc (i := 3) rfl (by first | exact Or.inl rfl | exact Or.inr (Or.inl rfl) | exact Or.inr (Or.inr rfl)) rfl rfl) se_int (fun _ _ => rfl)))))))) (sa_cons (se_loc (i := 1) rfl (by first | exact Or.inl rfl | exact Or.inr (Or.inl rfl) | exact Or.inr (Or.inr rfl)) rfl rfl) sa_nil rfl) rfl)))
  ssl_nil)))
theorem bd_exchanged {w : World} {K : PySem.W.Frag} {mg : Str → Option Value} {base : Heap} {Z : Wc} {n : Nat} (hK : K = Z.K) (E : Ev w K mg base Z n) {cdv : Value} {A : Around} {outer : List PySem.Env} {s : Shared} {H : Hp} {Ek : XK} {fa : Addr} (hr : Room n (A.deeper (envOfC "exchanged" (defScope (top 16)) s.heap.objs.size fa cdv))) (hgd : A.guards = some []) :
    PSs (cxOf (L2.CX pw w) pw w K mg base [("rows" : Str), ("one" : Str), ("other" : Str), ("row" : Str)] "exchanged" (defScope (top 16)) fa cdv A outer s H Ek) (defBody (top 16)) (iL (P.tbl n) Z (fun cls dx _ H' => Ek cls dx H') c_exchanged.body) := by
  obtain ⟨t_MAX_NODES, q_MAX_NODES⟩ := E.q_MAX_NODES
  have hu65 : (cxOf (L2.CX pw w) pw w K mg base [("rows" : Str), ("one" : Str), ("other" : Str), ("row" : Str)] "exchanged" (defScope (top 16)) fa cdv A outer s H Ek).A.units + 65 < cLine := (by have h := hr.un; show (A.deeper (envOfC "exchanged" (defScope (top 16)) s.heap.objs.size fa cdv)).units + 65 < cLine; omega)
  have hu64 : (cxOf (L2.CX pw w) pw w K mg base [("rows" : Str), ("one" : Str), ("other" : Str), ("row" : Str)] "exchanged" (defScope (top 16)) fa cdv A outer s H Ek).A.units + 64 < cLine := by omega
  have hu1 : (cxOf (L2.CX pw w) pw w K mg base [("rows" : Str), ("one" : Str), ("other" : Str), ("row" : Str)] "exchanged" (defScope (top 16)) fa cdv A outer s H Ek).A.units + 1 < cLine := by omega
  have hN : (cxOf (L2.CX pw w) pw w K mg base [("rows" : Str), ("one" : Str), ("other" : Str), ("row" : Str)] "exchanged" (defScope (top 16)) fa cdv A outer s H Ek).N.Nodup := by show List.Nodup [("rows" : Str), ("one" : Str), ("other" : Str), ("row" : Str)]; decide +kernel
  have tk : Takes (cxOf (L2.CX pw w) pw w K mg base [("rows" : Str), ("one" : Str), ("other" : Str), ("row" : Str)] "exchanged" (defScope (top 16)) fa cdv A outer s H Ek) (fun cls dx _ H' => Ek cls dx H') := takes_of rfl rfl rfl rfl
  have hp : PassesOwn (model pw w) (cxOf (L2.CX pw w) pw w K mg base [("rows" : Str), ("one" : Str), ("other" : Str), ("row" : Str)] "exchanged" (defScope (top 16)) fa cdv A outer s H Ek).A (cxOf (L2.CX pw w) pw w K mg base [("rows" : Str), ("one" : Str), ("other" : Str), ("row" : Str)] "exchanged" (defScope (top 16)) fa cdv A outer s H Ek).env (cxOf (L2.CX pw w) pw w K mg base [("rows" : Str), ("one" : Str), ("other" : Str), ("row" : Str)] "exchanged" (defScope (top 16)) fa cdv A outer s H Ek).xe := passes_of rfl
  exact (ssl_cons (ss_asg (se_tup (sa_cons (se_sub hK hu1 (se_loc (i := 0) rfl (by first | exact Or.inl rfl | exact Or.inr (Or.inl rfl) | exact Or.inr (Or.inr rfl)) rfl rfl) (se_loc (i := 2) rfl (by first | exact Or.inl rfl | exact Or.inr (Or.inl rfl) | exact Or.inr (Or.inr rfl)) rfl rfl) (fun _ _ => rfl)) (sa_cons (se_sub hK hu1 (se_loc (i := 0) rfl (by first | exact Or.inl rfl | exact Or.inr (Or.inl rfl) | exact Or.inr (Or.inr rfl)) rfl rfl) (se_loc (i := 1) rfl (by first | exact Or.inl rfl | exact Or.inr (Or.inl rfl) | exact Or.inr (Or.inr rfl)) rfl rfl) (fun _ _ => rfl)) sa_nil rfl) rfl)) (sg_tup hK rfl (sgs_cons (sg_sub (W := fun cls dx _ H' => Ek cls dx H') hu1 (se_loc (i := 0) rfl (by first | exact Or.inl rfl | exact Or.inr (Or.inl rfl) | exact Or.inr (Or.inr rfl)) rfl rfl) (se_loc (i := 1) rfl (by first | exact Or.inl rfl | exact Or.inr (Or.inl rfl) | exact Or.inr (Or.inr rfl)) rfl rfl) (fun _ => rfl)) (sgs_cons (sg_sub (W := fun cls dx _ H' => Ek cls dx H') hu1 (se_loc (i := 0) rfl (by first | exact Or.inl rfl | exact Or.inr (Or.inl rfl) | exact Or.inr (Or.inr rfl)) rfl rfl) (se_loc (i := 2) rfl (by first | exact Or.inl rfl | exact Or.inr (Or.inl rfl) | exact Or.inr (Or.inr rfl)) rfl rfl) (fun _ => rfl)) sgs_nil rfl) rfl) rfl rfl rfl) rfl rfl rfl)
  (ssl_cons (ss_for hp rfl (si_val hK (se_loc (i := 0) rfl (by first | exact Or.inl rfl | exact Or.inr (Or.inl rfl) | exact Or.inr (Or.inr rfl)) rfl rfl)) (sg_nm (i := 3) hN rfl (by first | exact Or.inl rfl | exact Or.inr rfl) (by first | exact Or.inl rfl | exact Or.inr rfl)) (ssl_cons (ss_asg (se_tup (sa_cons (se_sub hK hu1 (se_loc (i := 3) rfl (by first | exact Or.inl rfl | exact Or.inr (Or.inl rfl) | exact Or.inr (Or.inr rfl)) rfl rfl) (se_loc (i := 2) rfl (by first | exact Or.inl rfl | exact Or.inr (Or.inl rfl) | exact Or.inr (Or.inr rfl)) rfl rfl) (fun _ _ => rfl)) (sa_cons (se_sub hK hu1 (se_loc (i := 3) rfl (by first | exact Or.inl rfl | exact Or.inr (Or.inl rfl) | exact Or.inr (Or.inr rfl)) rfl rfl) (se_loc (i := 1) rfl (by first | exact Or.inl rfl | exact Or.inr (Or.inl rfl) | exact Or.inr (Or.inr rfl)) rfl rfl) (fun _ _ => rfl)) sa_nil rfl) rfl)) (sg_tup hK rfl (sgs_cons (sg_sub (W := fun cls dx _ H' => Ek cls dx H') hu1 (se_loc (i := 3) rfl (by first | exact Or.inl rfl | exact Or.inr (Or.inl rfl) | exact Or.inr (Or.inr rfl)) rfl rfl) (se_loc (i := 1) rfl (by first | exact Or.inl rfl | exact Or.inr (Or.inl rfl) | exact Or.inr (Or.inr rfl)) rfl rfl) (fun _ => rfl)) (sgs_cons (sg_sub (W := fun cls dx _ H' => Ek cls dx H') hu1 (se_loc (i := 3) rfl (by first | exact Or.inl rfl | exact Or.inr (Or.inl rfl) | exact Or.inr (Or.inr rfl)) rfl rfl) (se_loc (i := 2) rfl (by first | exact Or.inl rfl | exact Or.inr (Or.inl rfl) | exact Or.inr (Or.inr rfl)) rfl rfl) (fun _ => rfl)) sgs_nil rfl) rfl) rfl rfl rfl) rfl rfl rfl)
  ssl_nil) (fun _ => rfl))
  ssl_nil))
theorem bd_integer_sum {w : World} {K : PySem.W.Frag} {mg : Str → Option Value} {base : Heap} {Z : Wc} {n : Nat} (hK : K = Z.K) (E : Ev w K mg base Z n) {cdv : Value} {A : Around} {outer : List PySem.Env} {s : Shared} {H : Hp} {Ek : XK} {fa : Addr} (hr : Room n (A.deeper (envOfC "integer_sum" (defScope (top 17)) s.heap.objs.size fa cdv))) (hgd : A.guards = some []) :
    PSs (cxOf (L2.CX pw w) pw w K mg base [("rows" : Str), ("sign" : Str), ("divisor" : Str), ("places" : Str), ("place" : Str), ("first" : Str), ("second" : Str), ("v" : Str), ("u" : Str)] "integer_sum" (defScope (top 17)) fa cdv A outer s H Ek) (defBody (top 17)) (iL (P.tbl n) Z (fun cls dx _ H' => Ek cls dx H') c_integer_sum.body) := by
  obtain ⟨t_MAX_NODES, q_MAX_NODES⟩ := E.q_MAX_NODES
  have hu65 : (cxOf (L2.CX pw w) pw w K mg base [("rows" : Str), ("sign" : Str), ("divisor" : Str), ("places" : Str), ("place" : Str), ("first" : Str), ("second" : Str), ("v" : Str), ("u" : Str)] "integer_sum" (defScope (top 17)) fa cdv A outer s H Ek).A.units + 65 < cLine := (by have h := hr.un; show (A.deeper (envOfC "integer_sum" (defScope (top 17)) s.heap.objs.size fa cdv)).units + 65 < cLine; omega)
  have hu64 : (cxOf (L2.CX pw w) pw w K mg base [("rows" : Str), ("sign" : Str), ("divisor" : Str), ("places" : Str), ("place" : Str), ("first" : Str), ("second" : Str), ("v" : Str), ("u" : Str)] "integer_sum" (defScope (top 17)) fa cdv A outer s H Ek).A.units + 64 < cLine := by omega
  have hu1 : (cxOf (L2.CX pw w) pw w K mg base [("rows" : Str), ("sign" : Str), ("divisor" : Str), ("places" : Str), ("place" : Str), ("first" : Str), ("second" : Str), ("v" : Str), ("u" : Str)] "integer_sum" (defScope (top 17)) fa cdv A outer s H Ek).A.units + 1 < cLine := by omega
  have hN : (cxOf (L2.CX pw w) pw w K mg base [("rows" : Str), ("sign" : Str), ("divisor" : Str), ("places" : Str), ("place" : Str), ("first" : Str), ("second" : Str), ("v" : Str), ("u" : Str)] "integer_sum" (defScope (top 17)) fa cdv A outer s H Ek).N.Nodup := by show List.Nodup [("rows" : Str), ("sign" : Str), ("divisor" : Str), ("places" : Str), ("place" : Str), ("first" : Str), ("second" : Str), ("v" : Str), ("u" : Str)]; decide +kernel
  have tk : Takes (cxOf (L2.CX pw w) pw w K mg base [("rows" : Str), ("sign" : Str), ("divisor" : Str), ("places" : Str), ("place" : Str), ("first" : Str), ("second" : Str), ("v" : Str), ("u" : Str)] "integer_sum" (defScope (top 17)) fa cdv A outer s H Ek) (fun cls dx _ H' => Ek cls dx H') := takes_of rfl rfl rfl rfl
  have hp : PassesOwn (model pw w) (cxOf (L2.CX pw w) pw w K mg base [("rows" : Str), ("sign" : Str), ("divisor" : Str), ("places" : Str), ("place" : Str), ("first" : Str), ("second" : Str), ("v" : Str), ("u" : Str)] "integer_sum" (defScope (top 17)) fa cdv A outer s H Ek).A (cxOf (L2.CX pw w) pw w K mg base [("rows" : Str), ("sign" : Str), ("divisor" : Str), ("places" : Str), ("place" : Str), ("first" : Str), ("second" : Str), ("v" : Str), ("u" : Str)] "integer_sum" (defScope (top 17)) fa cdv A outer s H Ek).env (cxOf (L2.CX pw w) pw w K mg base [("rows" : Str), ("sign" : Str), ("divisor" : Str), ("places" : Str), ("place" : Str), ("first" : Str), ("second" : Str), ("v" : Str), ("u" : Str)] "integer_sum" (defScope (top 17)) fa cdv A outer s H Ek).xe := passes_of rfl
  exact (ssl_cons (ss_asg (se_tup (sa_cons se_int (sa_cons se_int sa_nil rfl) rfl)) (sg_tup hK rfl (sgs_cons (sg_nm (i := 1) hN rfl (by first | exact Or.inl rfl | exact Or.inr rfl) (by first | exact Or.inl rfl | exact Or.inr rfl)) (sgs_cons (sg_nm (i := 2) hN rfl (by first | exact Or.inl rfl | exact Or.inr rfl) (by first | exact Or.inl rfl | exact Or.inr rfl)) sgs_nil rfl) rfl) rfl rfl rfl) rfl rfl rfl)
  (ssl_cons (ss_whl hp (st_cmp1 (op := .gt) hK hu65 (se_bi (b := .len) (fun _ => bi_len hK) (by rfl) E.f_len (by decide +kernel) (sa_cons (se_loc (i := 0) rfl (by first | exact Or.inl rfl | exact Or.inr (Or.inl rfl) | exact Or.inr (Or.inr rfl)) rfl rfl) sa_nil rfl)) se_int) (ssl_cons (ss_setLc (i := 3) (own := [("place", 4)]) rfl hN rfl rfl (by rfl) (by first | (show blkC [("rows" : Str), ("sign" : Str), ("divisor" : Str), ("places" : Str), ("place" : Str), ("first" : Str), ("second" : Str), ("v" : Str), ("u" : Str)] (defScope (top 17)) _ _ = true; decide +kernel) | rfl) (by decide +kernel) (si_rng2 (by rfl) E.f_range se_int (se_bi (b := .len) (fun _ => bi_len hK) (by rfl) E.f_len (by decide +kernel) (sa_cons (se_loc (i := 0) rfl (by first | exact Or.inl rfl | exact Or.inr (Or.inl rfl) | exact Or.inr (Or.inr rfl)) rfl rfl) sa_nil rfl)) rfl rfl) (fun _ _ _ _ _ => (sg_nm (i := 4) hN rfl (by first | exact Or.inl rfl | exact Or.inr rfl) (by first | exact Or.inl rfl | exact Or.inr rfl))) (fun _ _ _ _ _ => (sts_one (st_cmp1 (op := .ne) hK hu65 (se_sub hK hu1 (se_sub hK hu1 (se_loc (i := 0) rfl (by first | exact Or.inl rfl | exact Or.inr (Or.inl rfl) | exact Or.inr (Or.inr rfl)) rfl rfl) se_int (fun _ _ => rfl)) (se_loc (i := 4) rfl (by first | exact Or.inl rfl | exact Or.inr (Or.inl rfl) | exact Or.inr (Or.inr rfl)) rfl rfl) (fun _ _ => rfl)) se_int))) (fun _ _ _ _ _ => (se_loc (i := 4) rfl (by first | exact Or.inl rfl | exact Or.inr (Or.inl rfl) | exact Or.inr (Or.inr rfl)) rfl rfl)))
  (ssl_cons (ss_if (st_cmp1 (op := .eq) hK hu65 (se_loc (i := 3) rfl (by first | exact Or.inl rfl | exact Or.inr (Or.inl rfl) | exact Or.inr (Or.inr rfl)) rfl rfl) (se_lst sa_nil)) (ssl_cons (ss_ret se_int)
  ssl_nil) ssl_nil)
  (ssl_cons (ss_if (st_cmp1 (op := .gt) hK hu65 (se_sub hK hu1 (se_loc (i := 3) rfl (by first | exact Or.inl rfl | exact Or.inr (Or.inl rfl) | exact Or.inr (Or.inr rfl)) rfl rfl) se_int (fun _ _ => rfl)) se_int) (ssl_cons (ss_xpr (se_callC E.C_exchanged hr hgd tk (by rfl) (sa_cons (se_loc (i := 0) rfl (by first | exact Or.inl rfl | exact Or.inr (Or.inl rfl) | exact Or.inr (Or.inr rfl)) rfl rfl) (sa_cons se_int (sa_cons (se_sub hK hu1 (se_loc (i := 3) rfl (by first | exact Or.inl rfl | exact Or.inr (Or.inl rfl) | exact Or.inr (Or.inr rfl)) rfl rfl) se_int (fun _ _ => rfl)) sa_nil rfl) rfl) rfl)) rfl)
  (ssl_cons (ss_asg (se_bin (op := .sub) hK se_int (se_loc (i := 1) rfl (by first | exact Or.inl rfl | exact Or.inr (Or.inl rfl) | exact Or.inr (Or.inr rfl)) rfl rfl)) (sg_nm (i := 1) hN rfl (by first | exact Or.inl rfl | exact Or.inr rfl) (by first | exact Or.inl rfl | exact Or.inr rfl)) rfl rfl rfl)
  ssl_nil)) ssl_nil)
  (ssl_cons (ss_asg (se_tup (sa_cons (se_sub hK hu1 (se_loc (i := 0) rfl (by first | exact Or.inl rfl | exact Or.inr (Or.inl rfl) | exact Or.inr (Or.inr rfl)) rfl rfl) se_int (fun _ _ => rfl)) (sa_cons (se_sub hK hu1 (se_loc (i := 0) rfl (by first | exact Or.inl rfl | exact Or.inr (Or.inl rfl) | exact Or.inr (Or.inr rfl)) rfl rfl) se_int (fun _ _ => rfl)) sa_nil rfl) rfl)) (sg_tup hK rfl (sgs_cons (sg_nm (i := 5) hN rfl (by first | exact Or.inl rfl | exact Or.inr rfl) (by first | exact Or.inl rfl | exact Or.inr rfl)) (sgs_cons (sg_nm (i := 6) hN rfl (by first | exact Or.inl rfl | exact Or.inr rfl) (by first | exact Or.inl rfl | exact Or.inr rfl)) sgs_nil rfl) rfl) rfl rfl rfl) rfl rfl rfl)
  (ssl_cons (ss_asg (se_lc (own := [("u", 8)]) rfl hN (by first | (show blkC [("rows" : Str), ("sign" : Str), ("divisor" : Str), ("places" : Str), ("place" : Str), ("first" : Str), ("second" : Str), ("v" : Str), ("u" : Str)] (defScope (top 17)) _ _ = true; decide +kernel) | rfl) (by decide +kernel) (si_rng2 (by rfl) E.f_range se_int (se_bi (b := .len) (fun _ => bi_len hK) (by rfl) E.f_len (by decide +kernel) (sa_cons (se_loc (i := 5) rfl (by first | exact Or.inl rfl | exact Or.inr (Or.inl rfl) | exact Or.inr (Or.inr rfl)) rfl rfl) sa_nil rfl)) rfl rfl) (fun _ _ _ _ _ => (sg_nm (i := 8) hN rfl (by first | exact Or.inl rfl | exact Or.inr rfl) (by first | exact Or.inl rfl | exact Or.inr rfl))) (fun _ _ _ _ _ => sts_nil) (fun _ _ _ _ _ => (se_lc (own := [("v", 7)]) rfl hN (by first | (show blkC [("rows" : Str), ("sign" : Str), ("divisor" : Str), ("places" : Str), ("place" : Str), ("first" : Str), ("second" : Str), ("v" : Str), ("u" : Str)] (defScope (top 17)) _ _ = true; decide +kernel) | rfl) (by decide +kernel) (si_rng2 (by rfl) E.f_range se_int (se_bi (b := .len) (fun _ => bi_len hK) (by rfl) E.f_len (by decide +kernel) (sa_cons (se_loc (i := 5) rfl (by first | exact Or.inl rfl | exact Or.inr (Or.inl rfl) | exact Or.inr (Or.inr rfl)) rfl rfl) sa_nil rfl)) rfl rfl) (fun _ _ _ _ _ => (sg_nm (i := 7) hN rfl (by first | exact Or.inl rfl | exact Or.inr rfl) (by first | exact Or.inl rfl | exact Or.inr rfl))) (fun _ _ _ _ _ => sts_nil) (fun _ _ _ _ _ => (se_bin (op := .fdiv) hK (se_bin (op := .add) hK (se_bin (op := .sub) hK (se_bin (op := .mul) hK (se_sub hK hu1 (se_loc (i := 5) rfl (by first | exact Or.inl rfl | exact Or.inr (Or.inl rfl) | exact Or.inr (Or.inr rfl)) rfl rfl) se_int (fun _ _ => rfl)) (se_sub hK hu1 (se_sub hK hu1 (se_loc (i := 0) rfl (by first | exact Or.inl rfl | exact Or.inr (Or.inl rfl) | exact Or.inr (Or.inr rfl)) rfl rfl) (se_loc (i := 8) rfl (by first | exact Or.inl rfl | exact Or.inr (Or.inl rfl) | exact Or.inr (Or.inr rfl)) rfl rfl) (fun _ _ => rfl)) (se_loc (i := 7) rfl (by first | exact Or.inl rfl | exact Or.inr (Or.inl rfl) | exact Or.inr (Or.inr rfl)) rfl rfl) (fun _ _ => rfl))) (se_bin (op := .mul) hK (se_sub hK hu1 (se_loc (i := 5) rfl (by first | exact Or.inl rfl | exact Or.inr (Or.inl rfl) | exact Or.inr (Or.inr rfl)) rfl rfl) (se_loc (i := 8) rfl (by first | exact Or.inl rfl | exact Or.inr (Or.inl rfl) | exact Or.inr (Or.inr rfl)) rfl rfl) (fun _ _ => rfl)) (se_sub hK hu1 (se_loc (i := 6) rfl (by first | exact Or.inl rfl | exact Or.inr (Or.inl rfl) | exact Or.inr (Or.inr rfl)) rfl rfl) (se_loc (i := 7) rfl (by first | exact Or.inl rfl | exact Or.inr (Or.inl rfl) | exact Or.inr (Or.inr rfl)) rfl rfl) (fun _ _ => rfl)))) (se_bin (op := .mul) hK (se_sub hK hu1 (se_loc (i := 6) rfl (by first | exact Or.inl rfl | exact Or.inr (Or.inl rfl) | exact Or.inr (Or.inr rfl)) rfl rfl) (se_loc (i := 8) rfl (by first | exact Or.inl rfl | exact Or.inr (Or.inl rfl) | exact Or.inr (Or.inr rfl)) rfl rfl) (fun _ _ => rfl)) (se_sub hK hu1 (se_loc (i := 5) rfl (by first | exact Or.inl rfl | exact Or.inr (Or.inl rfl) | exact Or.inr (Or.inr rfl)) rfl rfl) (se_loc (i := 7) rfl (by first | exact Or.inl rfl | exact Or.inr (Or.inl rfl) | exact Or.inr (Or.inr rfl)) rfl rfl) (fun _ _ => rfl)))) (se_loc (i := 2) rfl (by first | exact Or.inl rfl | exact Or.inr (Or.inl rfl) | exact Or.inr (Or.inr rfl)) rfl rfl)))))) (sg_nm (i := 0) hN rfl (by first | exact Or.inl rfl | exact Or.inr rfl) (by first | exact Or.inl rfl | exact Or.inr rfl)) rfl rfl rfl)
  (ssl_cons (ss_asg (se_sub hK hu1 (se_loc (i := 5) rfl (by first | exact Or.inl rfl | exact Or.inr (Or.inl rfl) | exact Or.inr (Or.inr rfl)) rfl rfl) se_int (fun _ _ => rfl)) (sg_nm (i := 2) hN rfl (by first | exact Or.inl rfl | exact Or.inr rfl) (by first | exact Or.inl rfl | exact Or.inr rfl)) rfl rfl rfl)
  ssl_nil)))))))
  (ssl_cons (ss_ret (se_ife (st_cmp1 (op := .eq) hK hu65 (se_loc (i := 0) rfl (by first | exact Or.inl rfl | exact Or.inr (Or.inl rfl) | exact Or.inr (Or.inr rfl)) rfl rfl) (se_lst sa_nil)) (se_bin (op := .mul) hK (se_loc (i := 1) rfl (by first | exact Or.inl rfl | exact Or.inr (Or.inl rfl) | exact Or.inr (Or.inr rfl)) rfl rfl) (se_loc (i := 2) rfl (by first | exact Or.inl rfl | exact Or.inr (Or.inl rfl) | exact Or.inr (Or.inr rfl)) rfl rfl)) se_int))
  ssl_nil)))
theorem bd_sum_of_rows {w : World} {K : PySem.W.Frag} {mg : Str → Option Value} {base : Heap} {Z : Wc} {n : Nat} (hK : K = Z.K) (E : Ev w K mg base Z n) {cdv : Value} {A : Around} {outer : List PySem.Env} {s : Shared} {H : Hp} {Ek : XK} {fa : Addr} (hr : Room n (A.deeper (envOfC "sum_of_rows" (defScope (top 18)) s.heap.objs.size fa cdv))) (hgd : A.guards = some []) :
    PSs (cxOf (L2.CX pw w) pw w K mg base [("rows" : Str), ("integers" : Str), ("multiple" : Str), ("below" : Str), ("turn" : Str)] "sum_of_rows" (defScope (top 18)) fa cdv A outer s H Ek) (defBody (top 18)) (iL (P.tbl n) Z (fun cls dx _ H' => Ek cls dx H') c_sum_of_rows.body) := by
  obtain ⟨t_MAX_NODES, q_MAX_NODES⟩ := E.q_MAX_NODES
  have hu65 : (cxOf (L2.CX pw w) pw w K mg base [("rows" : Str), ("integers" : Str), ("multiple" : Str), ("below" : Str), ("turn" : Str)] "sum_of_rows" (defScope (top 18)) fa cdv A outer s H Ek).A.units + 65 < cLine := (by have h := hr.un; show (A.deeper (envOfC "sum_of_rows" (defScope (top 18)) s.heap.objs.size fa cdv)).units + 65 < cLine; omega)
  have hu64 : (cxOf (L2.CX pw w) pw w K mg base [("rows" : Str), ("integers" : Str), ("multiple" : Str), ("below" : Str), ("turn" : Str)] "sum_of_rows" (defScope (top 18)) fa cdv A outer s H Ek).A.units + 64 < cLine := by omega
  have hu1 : (cxOf (L2.CX pw w) pw w K mg base [("rows" : Str), ("integers" : Str), ("multiple" : Str), ("below" : Str), ("turn" : Str)] "sum_of_rows" (defScope (top 18)) fa cdv A outer s H Ek).A.units + 1 < cLine := by omega
  have hN : (cxOf (L2.CX pw w) pw w K mg base [("rows" : Str), ("integers" : Str), ("multiple" : Str), ("below" : Str), ("turn" : Str)] "sum_of_rows" (defScope (top 18)) fa cdv A outer s H Ek).N.Nodup := by show List.Nodup [("rows" : Str), ("integers" : Str), ("multiple" : Str), ("below" : Str), ("turn" : Str)]; decide +kernel
  have tk : Takes (cxOf (L2.CX pw w) pw w K mg base [("rows" : Str), ("integers" : Str), ("multiple" : Str), ("below" : Str), ("turn" : Str)] "sum_of_rows" (defScope (top 18)) fa cdv A outer s H Ek) (fun cls dx _ H' => Ek cls dx H') := takes_of rfl rfl rfl rfl
  have hp : PassesOwn (model pw w) (cxOf (L2.CX pw w) pw w K mg base [("rows" : Str), ("integers" : Str), ("multiple" : Str), ("below" : Str), ("turn" : Str)] "sum_of_rows" (defScope (top 18)) fa cdv A outer s H Ek).A (cxOf (L2.CX pw w) pw w K mg base [("rows" : Str), ("integers" : Str), ("multiple" : Str), ("below" : Str), ("turn" : Str)] "sum_of_rows" (defScope (top 18)) fa cdv A outer s H Ek).env (cxOf (L2.CX pw w) pw w K mg base [("rows" : Str), ("integers" : Str), ("multiple" : Str), ("below" : Str), ("turn" : Str)] "sum_of_rows" (defScope (top 18)) fa cdv A outer s H Ek).xe := passes_of rfl
  exact (ssl_cons (ss_asg (se_callC E.C_scaled_rows hr hgd tk (by rfl) (sa_cons (se_loc (i := 0) rfl (by first | exact Or.inl rfl | exact Or.inr (Or.inl rfl) | exact Or.inr (Or.inr rfl)) rfl rfl) sa_nil rfl)) (sg_tup hK rfl (sgs_cons (sg_nm (i := 1) hN rfl (by first | exact Or.inl rfl | exact Or.inr rfl) (by first | exact Or.inl rfl | exact Or.inr rfl)) (sgs_cons (sg_nm (i := 2) hN rfl (by first | exact Or.inl rfl | exact Or.inr rfl) (by first | exact Or.inl rfl | exact Or.inr rfl)) sgs_nil rfl) rfl) rfl rfl rfl) rfl rfl rfl)
  (ssl_cons (ss_asg se_int (sg_nm (i := 3) hN rfl (by first | exact Or.inl rfl | exact Or.inr rfl) (by first | exact Or.inl rfl | exact Or.inr rfl)) rfl rfl rfl)
  (ssl_cons (ss_for hp rfl (si_rng1 (by rfl) E.f_range (se_bin (op := .fdiv) hK (se_bi (b := .len) (fun _ => bi_len hK) (by rfl) E.f_len (by decide +kernel) (sa_cons (se_loc (i := 0) rfl (by first | exact Or.inl rfl | exact Or.inr (Or.inl rfl) | exact Or.inr (Or.inr rfl)) rfl rfl) sa_nil rfl)) se_int) rfl) (sg_nm (i := 4) hN rfl (by first | exact Or.inl rfl | exact Or.inr rfl) (by first | exact Or.inl rfl | exact Or.inr rfl)) (ssl_cons (ss_asg (se_bin (op := .mul) hK (se_loc (i := 3) rfl (by first | exact Or.inl rfl | exact Or.inr (Or.inl rfl) | exact Or.inr (Or.inr rfl)) rfl rfl) (se_loc (i := 2) rfl (by first | exact Or.inl rfl | exact Or.inr (Or.inl rfl) | exact Or.inr (Or.inr rfl)) rfl rfl)) (sg_nm (i := 3) hN rfl (by first | exact Or.inl rfl | exact Or.inr rfl) (by first | exact Or.inl rfl | exact Or.inr rfl)) rfl rfl rfl)
  ssl_nil) (fun _ => rfl))
  (ssl_cons (ss_ret (se_callC E.C_fraction hr hgd tk (by rfl) (sa_cons (se_callC E.C_integer_sum hr hgd tk (by rfl) (sa_cons (se_loc (i := 1) rfl (by first | exact Or.inl rfl | exact Or.inr (Or.inl rfl) | exact Or.inr (Or.inr rfl)) rfl rfl) sa_nil rfl)) (sa_cons (se_loc (i := 3) rfl (by first | exact Or.inl rfl | exact Or.inr (Or.inl rfl) | exact Or.inr (Or.inr rfl)) rfl rfl) sa_nil rfl) rfl)))
  ssl_nil))))
theorem bd_pair_sum {w : World} {K : PySem.W.Frag} {mg : Str → Option Value} {base : Heap} {Z : Wc} {n : Nat} (hK : K = Z.K) (E : Ev w K mg base Z n) {cdv : Value} {A : Around} {outer : List PySem.Env} {s : Shared} {H : Hp} {Ek : XK} {fa : Addr} (hr : Room n (A.deeper (envOfC "pair_sum" (defScope (top 19)) s.heap.objs.size fa cdv))) (hgd : A.guards = some []) :
    PSs (cxOf (L2.CX pw w) pw w K mg base [("matrix" : Str), ("row" : Str)] "pair_sum" (defScope (top 19)) fa cdv A outer s H Ek) (defBody (top 19)) (iL (P.tbl n) Z (fun cls dx _ H' => Ek cls dx H') c_pair_sum.body) := by
  obtain ⟨t_MAX_NODES, q_MAX_NODES⟩ := E.q_MAX_NODES
  have hu65 : (cxOf (L2.CX pw w) pw w K mg base [("matrix" : Str), ("row" : Str)] "pair_sum" (defScope (top 19)) fa cdv A outer s H Ek).A.units + 65 < cLine := (by have h := hr.un; show (A.deeper (envOfC "pair_sum" (defScope (top 19)) s.heap.objs.size fa cdv)).units + 65 < cLine; omega)
  have hu64 : (cxOf (L2.CX pw w) pw w K mg base [("matrix" : Str), ("row" : Str)] "pair_sum" (defScope (top 19)) fa cdv A outer s H Ek).A.units + 64 < cLine := by omega
  have hu1 : (cxOf (L2.CX pw w) pw w K mg base [("matrix" : Str), ("row" : Str)] "pair_sum" (defScope (top 19)) fa cdv A outer s H Ek).A.units + 1 < cLine := by omega
  have hN : (cxOf (L2.CX pw w) pw w K mg base [("matrix" : Str), ("row" : Str)] "pair_sum" (defScope (top 19)) fa cdv A outer s H Ek).N.Nodup := by show List.Nodup [("matrix" : Str), ("row" : Str)]; decide +kernel
  have tk : Takes (cxOf (L2.CX pw w) pw w K mg base [("matrix" : Str), ("row" : Str)] "pair_sum" (defScope (top 19)) fa cdv A outer s H Ek) (fun cls dx _ H' => Ek cls dx H') := takes_of rfl rfl rfl rfl
  have hp : PassesOwn (model pw w) (cxOf (L2.CX pw w) pw w K mg base [("matrix" : Str), ("row" : Str)] "pair_sum" (defScope (top 19)) fa cdv A outer s H Ek).A (cxOf (L2.CX pw w) pw w K mg base [("matrix" : Str), ("row" : Str)] "pair_sum" (defScope (top 19)) fa cdv A outer s H Ek).env (cxOf (L2.CX pw w) pw w K mg base [("matrix" : Str), ("row" : Str)] "pair_sum" (defScope (top 19)) fa cdv A outer s H Ek).xe := passes_of rfl
  exact (ssl_cons (ss_xpr (se_callC E.C_need_matrix hr hgd tk (by rfl) (sa_cons (se_loc (i := 0) rfl (by first | exact Or.inl rfl | exact Or.inr (Or.inl rfl) | exact Or.inr (Or.inr rfl)) rfl rfl) sa_nil rfl)) rfl)
  (ssl_cons (ss_ret (se_callC E.C_sum_of_rows hr hgd tk (by rfl) (sa_cons (se_lc (own := [("row", 1)]) rfl hN (by first | (show blkC [("matrix" : Str), ("row" : Str)] (defScope (top 19)) _ _ = true; decide +kernel) | rfl) (by decide +kernel) (si_val hK (se_loc (i := 0) rfl (by first | exact Or.inl rfl | exact Or.inr (Or.inl rfl) | exact Or.inr (Or.inr rfl)) rfl rfl)) (fun _ _ _ _ _ => (sg_nm (i := 1) hN rfl (by first | exact Or.inl rfl | exact Or.inr rfl) (by first | exact Or.inl rfl | exact Or.inr rfl))) (fun _ _ _ _ _ => sts_nil) (fun _ _ _ _ _ => (se_bt (b := .list) (fun _ => bi_list hK) (by rfl) E.f_list (by decide +kernel) (sa_cons (se_loc (i := 1) rfl (by first | exact Or.inl rfl | exact Or.inr (Or.inl rfl) | exact Or.inr (Or.inr rfl)) rfl rfl) sa_nil rfl)))) sa_nil rfl)))
  ssl_nil))
theorem bd__law_source {w : World} {K : PySem.W.Frag} {mg : Str → Option Value} {base : Heap} {Z : Wc} {n : Nat} (hK : K = Z.K) (E : Ev w K mg base Z n) {cdv : Value} {A : Around} {outer : List PySem.Env} {s : Shared} {H : Hp} {Ek : XK} {fa : Addr} (hr : Room n (A.deeper (envOfC "_law_source" (defScope (top 21)) s.heap.objs.size fa cdv))) (hgd : A.guards = some []) :
    PSs (cxOf (L2.CX pw w) pw w K mg base [("_law_script" : Str), ("_law_k" : Str), ("_law_cell" : Str)] "_law_source" (defScope (top 21)) fa cdv A outer s H Ek) (defBody (top 21)) (iL (P.tbl n) Z (fun cls dx _ H' => Ek cls dx H') c__law_source.body) := by
  obtain ⟨t_MAX_NODES, q_MAX_NODES⟩ := E.q_MAX_NODES
  have hu65 : (cxOf (L2.CX pw w) pw w K mg base [("_law_script" : Str), ("_law_k" : Str), ("_law_cell" : Str)] "_law_source" (defScope (top 21)) fa cdv A outer s H Ek).A.units + 65 < cLine := (by have h := hr.un; show (A.deeper (envOfC "_law_source" (defScope (top 21)) s.heap.objs.size fa cdv)).units + 65 < cLine; omega)
  have hu64 : (cxOf (L2.CX pw w) pw w K mg base [("_law_script" : Str), ("_law_k" : Str), ("_law_cell" : Str)] "_law_source" (defScope (top 21)) fa cdv A outer s H Ek).A.units + 64 < cLine := by omega
  have hu1 : (cxOf (L2.CX pw w) pw w K mg base [("_law_script" : Str), ("_law_k" : Str), ("_law_cell" : Str)] "_law_source" (defScope (top 21)) fa cdv A outer s H Ek).A.units + 1 < cLine := by omega
  have hN : (cxOf (L2.CX pw w) pw w K mg base [("_law_script" : Str), ("_law_k" : Str), ("_law_cell" : Str)] "_law_source" (defScope (top 21)) fa cdv A outer s H Ek).N.Nodup := by show List.Nodup [("_law_script" : Str), ("_law_k" : Str), ("_law_cell" : Str)]; decide +kernel
  have tk : Takes (cxOf (L2.CX pw w) pw w K mg base [("_law_script" : Str), ("_law_k" : Str), ("_law_cell" : Str)] "_law_source" (defScope (top 21)) fa cdv A outer s H Ek) (fun cls dx _ H' => Ek cls dx H') := takes_of rfl rfl rfl rfl
  have hp : PassesOwn (model pw w) (cxOf (L2.CX pw w) pw w K mg base [("_law_script" : Str), ("_law_k" : Str), ("_law_cell" : Str)] "_law_source" (defScope (top 21)) fa cdv A outer s H Ek).A (cxOf (L2.CX pw w) pw w K mg base [("_law_script" : Str), ("_law_k" : Str), ("_law_cell" : Str)] "_law_source" (defScope (top 21)) fa cdv A outer s H Ek).env (cxOf (L2.CX pw w) pw w K mg base [("_law_script" : Str), ("_law_k" : Str), ("_law_cell" : Str)] "_law_source" (defScope (top 21)) fa cdv A outer s H Ek).xe := passes_of rfl
  exact (ssl_cons (ss_asg (se_ife (st_cmp1 (op := .ne) hK hu65 (se_loc (i := 0) rfl (by first | exact Or.inl rfl | exact Or.inr (Or.inl rfl) | exact Or.inr (Or.inr rfl)) rfl rfl) (se_lst sa_nil)) (se_sub hK hu1 (se_loc (i := 0) rfl (by first | exact Or.inl rfl | exact Or.inr (Or.inl rfl) | exact Or.inr (Or.inr rfl)) rfl rfl) (se_bin (op := .mod) hK (se_loc (i := 1) rfl (by first | exact Or.inl rfl | exact Or.inr (Or.inl rfl) | exact Or.inr (Or.inr rfl)) rfl rfl) (se_bi (b := .len) (fun _ => bi_len hK) (by rfl) E.f_len (by decide +kernel) (sa_cons (se_loc (i := 0) rfl (by first | exact Or.inl rfl | exact Or.inr (Or.inl rfl) | exact Or.inr (Or.inr rfl)) rfl rfl) sa_nil rfl))) (fun _ _ => rfl)) se_int) (sg_nm (i := 2) hN rfl (by first | exact Or.inl rfl | exact Or.inr rfl) (by first | exact Or.inl rfl | exact Or.inr rfl)) rfl rfl rfl)
  (ssl_cons (ss_ret (se_lst (sa_cons (se_loc (i := 2) rfl (by first | exact Or.inl rfl | exact Or.inr (Or.inl rfl) | exact Or.inr (Or.inr rfl)) rfl rfl) (sa_cons (se_bin (op := .mul) hK se_int (se_loc (i := 1) rfl (by first | exact Or.inl rfl | exact Or.inr (Or.inl rfl) | exact Or.inr (Or.inr rfl)) rfl rfl)) (sa_cons (se_ife (st_cmp1 (op := .ge) hK hu65 (se_loc (i := 2) rfl (by first | exact Or.inl rfl | exact Or.inr (Or.inl rfl) | exact Or.inr (Or.inr rfl)) rfl rfl) (se_bin (op := .pow) hK se_int se_int)) (se_bin (op := .fdiv) hK (se_loc (i := 2) rfl (by first | exact Or.inl rfl | exact Or.inr (Or.inl rfl) | exact Or.inr (Or.inr rfl)) rfl rfl) (se_bin (op := .pow) hK se_int se_int)) se_int) sa_nil rfl) rfl) rfl)))
  ssl_nil))
theorem bd__law_next {w : World} {K : PySem.W.Frag} {mg : Str → Option Value} {base : Heap} {Z : Wc} {n : Nat} (hK : K = Z.K) (E : Ev w K mg base Z n) {cdv : Value} {A : Around} {outer : List PySem.Env} {s : Shared} {H : Hp} {Ek : XK} {fa : Addr} (hr : Room n (A.deeper (envOfC "_law_next" (defScope (top 22)) s.heap.objs.size fa cdv))) (hgd : A.guards = some []) :
    PSs (cxOf (L2.CX pw w) pw w K mg base [("_law_source_here" : Str), ("_law_many" : Str), ("_law_found" : Str), ("_law_primes" : Str), ("_law_prime" : Str)] "_law_next" (defScope (top 22)) fa cdv A outer s H Ek) (defBody (top 22)) (iL (P.tbl n) Z (fun cls dx _ H' => Ek cls dx H') c__law_next.body) := by
  obtain ⟨t_MAX_NODES, q_MAX_NODES⟩ := E.q_MAX_NODES
  have hu65 : (cxOf (L2.CX pw w) pw w K mg base [("_law_source_here" : Str), ("_law_many" : Str), ("_law_found" : Str), ("_law_primes" : Str), ("_law_prime" : Str)] "_law_next" (defScope (top 22)) fa cdv A outer s H Ek).A.units + 65 < cLine := (by have h := hr.un; show (A.deeper (envOfC "_law_next" (defScope (top 22)) s.heap.objs.size fa cdv)).units + 65 < cLine; omega)
  have hu64 : (cxOf (L2.CX pw w) pw w K mg base [("_law_source_here" : Str), ("_law_many" : Str), ("_law_found" : Str), ("_law_primes" : Str), ("_law_prime" : Str)] "_law_next" (defScope (top 22)) fa cdv A outer s H Ek).A.units + 64 < cLine := by omega
  have hu1 : (cxOf (L2.CX pw w) pw w K mg base [("_law_source_here" : Str), ("_law_many" : Str), ("_law_found" : Str), ("_law_primes" : Str), ("_law_prime" : Str)] "_law_next" (defScope (top 22)) fa cdv A outer s H Ek).A.units + 1 < cLine := by omega
  have hN : (cxOf (L2.CX pw w) pw w K mg base [("_law_source_here" : Str), ("_law_many" : Str), ("_law_found" : Str), ("_law_primes" : Str), ("_law_prime" : Str)] "_law_next" (defScope (top 22)) fa cdv A outer s H Ek).N.Nodup := by show List.Nodup [("_law_source_here" : Str), ("_law_many" : Str), ("_law_found" : Str), ("_law_primes" : Str), ("_law_prime" : Str)]; decide +kernel
  have tk : Takes (cxOf (L2.CX pw w) pw w K mg base [("_law_source_here" : Str), ("_law_many" : Str), ("_law_found" : Str), ("_law_primes" : Str), ("_law_prime" : Str)] "_law_next" (defScope (top 22)) fa cdv A outer s H Ek) (fun cls dx _ H' => Ek cls dx H') := takes_of rfl rfl rfl rfl
  have hp : PassesOwn (model pw w) (cxOf (L2.CX pw w) pw w K mg base [("_law_source_here" : Str), ("_law_many" : Str), ("_law_found" : Str), ("_law_primes" : Str), ("_law_prime" : Str)] "_law_next" (defScope (top 22)) fa cdv A outer s H Ek).A (cxOf (L2.CX pw w) pw w K mg base [("_law_source_here" : Str), ("_law_many" : Str), ("_law_found" : Str), ("_law_primes" : Str), ("_law_prime" : Str)] "_law_next" (defScope (top 22)) fa cdv A outer s H Ek).env (cxOf (L2.CX pw w) pw w K mg base [("_law_source_here" : Str), ("_law_many" : Str), ("_law_found" : Str), ("_law_primes" : Str), ("_law_prime" : Str)] "_law_next" (defScope (top 22)) fa cdv A outer s H Ek).xe := passes_of rfl
  exact (ssl_cons (ss_if (st_cmp1 (op := .gt) hK hu65 (se_sub hK hu1 (se_loc (i := 0) rfl (by first | exact Or.inl rfl | exact Or.inr (Or.inl rfl) | exact Or.inr (Or.inr rfl)) rfl rfl) se_int (fun _ _ => rfl)) se_int) (ssl_cons (ss_asg (se_bin (op := .mod) hK (se_sub hK hu1 (se_loc (i := 0) rfl (by first | exact Or.inl rfl | exact Or.inr (Or.inl rfl) | exact Or.inr (Or.inr rfl)) rfl rfl) se_int (fun _ _ => rfl)) (se_loc (i := 1) rfl (by first | exact Or.inl rfl | exact Or.inr (Or.inl rfl) | exact Or.inr (Or.inr rfl)) rfl rfl)) (sg_nm (i := 2) hN rfl (by first | exact Or.inl rfl | exact Or.inr rfl) (by first | exact Or.inl rfl | exact Or.inr rfl)) rfl rfl rfl)
  (ssl_cons (ss_asg (se_bin (op := .fdiv) hK (se_sub hK hu1 (se_loc (i := 0) rfl (by first | exact Or.inl rfl | exact Or.inr (Or.inl rfl) | exact Or.inr (Or.inr rfl)) rfl rfl) se_int (fun _ _ => rfl)) (se_loc (i := 1) rfl (by first | exact Or.inl rfl | exact Or.inr (Or.inl rfl) | exact Or.inr (Or.inr rfl)) rfl rfl)) (sg_sub (W := fun cls dx _ H' => Ek cls dx H') hu1 (se_loc (i := 0) rfl (by first | exact Or.inl rfl | exact Or.inr (Or.inl rfl) | exact Or.inr (Or.inr rfl)) rfl rfl) se_int (fun _ => rfl)) rfl rfl rfl)
  (ssl_cons (ss_ret (se_loc (i := 2) rfl (by first | exact Or.inl rfl | exact Or.inr (Or.inl rfl) | exact Or.inr (Or.inr rfl)) rfl rfl))
  ssl_nil))) ssl_nil)
  (ssl_cons (ss_asg (se_bin (op := .add) hK (se_sub hK hu1 (se_loc (i := 0) rfl (by first | exact Or.inl rfl | exact Or.inr (Or.inl rfl) | exact Or.inr (Or.inr rfl)) rfl rfl) se_int (fun _ _ => rfl)) se_int) (sg_sub (W := fun cls dx _ H' => Ek cls dx H') hu1 (se_loc (i := 0) rfl (by first | exact Or.inl rfl | exact Or.inr (Or.inl rfl) | exact Or.inr (Or.inr rfl)) rfl rfl) se_int (fun _ => rfl)) rfl rfl rfl)
  (ssl_cons (ss_asg (se_lst (sa_cons se_int (sa_cons se_int (sa_cons se_int (sa_cons se_int (sa_cons se_int (sa_cons se_int (sa_cons se_int (sa_cons se_int sa_nil rfl) rfl) rfl) rfl) rfl) rfl) rfl) rfl)) (sg_nm (i := 3) hN rfl (by first | exact Or.inl rfl | exact Or.inr rfl) (by first | exact Or.inl rfl | exact Or.inr rfl)) rfl rfl rfl)
  (ssl_cons (ss_asg (se_sub hK hu1 (se_bin (op := .add) hK (se_loc (i := 3) rfl (by first | exact Or.inl rfl | exact Or.inr (Or.inl rfl) | exact Or.inr (Or.inr rfl)) rfl rfl) (se_lst (sa_cons se_int (sa_cons se_int (sa_cons se_int sa_nil rfl) rfl) rfl))) (se_bin (op := .mod) hK (se_sub hK hu1 (se_loc (i := 0) rfl (by first | exact Or.inl rfl | exact Or.inr (Or.inl rfl) | exact Or.inr (Or.inr rfl)) rfl rfl) se_int (fun _ _ => rfl)) se_int) (fun _ _ => rfl)) (sg_nm (i := 4) hN rfl (by first | exact Or.inl rfl | exact Or.inr rfl) (by first | exact Or.inl rfl | exact Or.inr rfl)) rfl rfl rfl)
  (ssl_cons (ss_ret (se_bin (op := .mod) hK (se_bin (op := .fdiv) hK (se_bin (op := .mod) hK (se_bin (op := .pow) hK (se_bin (op := .add) hK (se_bin (op := .add) hK (se_bin (op := .mod) hK (se_sub hK hu1 (se_loc (i := 0) rfl (by first | exact Or.inl rfl | exact Or.inr (Or.inl rfl) | exact Or.inr (Or.inr rfl)) rfl rfl) se_int (fun _ _ => rfl)) (se_loc (i := 4) rfl (by first | exact Or.inl rfl | exact Or.inr (Or.inl rfl) | exact Or.inr (Or.inr rfl)) rfl rfl)) (se_bin (op := .mul) hK se_int (se_sub hK hu1 (se_loc (i := 0) rfl (by first | exact Or.inl rfl | exact Or.inr (Or.inl rfl) | exact Or.inr (Or.inr rfl)) rfl rfl) se_int (fun _ _ => rfl)))) se_int) se_int) (se_loc (i := 4) rfl (by first | exact Or.inl rfl | exact Or.inr (Or.inl rfl) | exact Or.inr (Or.inr rfl)) rfl rfl)) se_int) (se_loc (i := 1) rfl (by first | exact Or.inl rfl | exact Or.inr (Or.inl rfl) | exact Or.inr (Or.inr rfl)) rfl rfl)))
  ssl_nil)))))
theorem bd__law_fraction {w : World} {K : PySem.W.Frag} {mg : Str → Option Value} {base : Heap} {Z : Wc} {n : Nat} (hK : K = Z.K) (E : Ev w K mg base Z n) {cdv : Value} {A : Around} {outer : List PySem.Env} {s : Shared} {H : Hp} {Ek : XK} {fa : Addr} (hr : Room n (A.deeper (envOfC "_law_fraction" (defScope (top 23)) s.heap.objs.size fa cdv))) (hgd : A.guards = some []) :
    PSs (cxOf (L2.CX pw w) pw w K mg base [("_law_above" : Str), ("_law_below" : Str), ("_law_one" : Str), ("_law_other" : Str)] "_law_fraction" (defScope (top 23)) fa cdv A outer s H Ek) (defBody (top 23)) (iL (P.tbl n) Z (fun cls dx _ H' => Ek cls dx H') c__law_fraction.body) := by
  obtain ⟨t_MAX_NODES, q_MAX_NODES⟩ := E.q_MAX_NODES
  have hu65 : (cxOf (L2.CX pw w) pw w K mg base [("_law_above" : Str), ("_law_below" : Str), ("_law_one" : Str), ("_law_other" : Str)] "_law_fraction" (defScope (top 23)) fa cdv A outer s H Ek).A.units + 65 < cLine := (by have h := hr.un; show (A.deeper (envOfC "_law_fraction" (defScope (top 23)) s.heap.objs.size fa cdv)).units + 65 < cLine; omega)
  have hu64 : (cxOf (L2.CX pw w) pw w K mg base [("_law_above" : Str), ("_law_below" : Str), ("_law_one" : Str), ("_law_other" : Str)] "_law_fraction" (defScope (top 23)) fa cdv A outer s H Ek).A.units + 64 < cLine := by omega
  have hu1 : (cxOf (L2.CX pw w) pw w K mg base [("_law_above" : Str), ("_law_below" : Str), ("_law_one" : Str), ("_law_other" : Str)] "_law_fraction" (defScope (top 23)) fa cdv A outer s H Ek).A.units + 1 < cLine := by omega
  have hN : (cxOf (L2.CX pw w) pw w K mg base [("_law_above" : Str), ("_law_below" : Str), ("_law_one" : Str), ("_law_other" : Str)] "_law_fraction" (defScope (top 23)) fa cdv A outer s H Ek).N.Nodup := by show List.Nodup [("_law_above" : Str), ("_law_below" : Str), ("_law_one" : Str), ("_law_other" : Str)]; decide +kernel
  have tk : Takes (cxOf (L2.CX pw w) pw w K mg base [("_law_above" : Str), ("_law_below" : Str), ("_law_one" : Str), ("_law_other" : Str)] "_law_fraction" (defScope (top 23)) fa cdv A outer s H Ek) (fun cls dx _ H' => Ek cls dx H') := takes_of rfl rfl rfl rfl
  have hp : PassesOwn (model pw w) (cxOf (L2.CX pw w) pw w K mg base [("_law_above" : Str), ("_law_below" : Str), ("_law_one" : Str), ("_law_other" : Str)] "_law_fraction" (defScope (top 23)) fa cdv A outer s H Ek).A (cxOf (L2.CX pw w) pw w K mg base [("_law_above" : Str), ("_law_below" : Str), ("_law_one" : Str), ("_law_other" : Str)] "_law_fraction" (defScope (top 23)) fa cdv A outer s H Ek).env (cxOf (L2.CX pw w) pw w K mg base [("_law_above" : Str), ("_law_below" : Str), ("_law_one" : Str), ("_law_other" : Str)] "_law_fraction" (defScope (top 23)) fa cdv A outer s H Ek).xe := passes_of rfl
  exact (ssl_cons (ss_par2 (i := 2) (j := 3) rfl hN rfl rfl (by decide) rfl rfl (sa_cons (se_bi (b := .abs) (fun _ => bi_abs) (by rfl) E.f_abs (by decide +kernel) (sa_cons (se_loc (i := 0) rfl (by first | exact Or.inl rfl | exact Or.inr (Or.inl rfl) | exact Or.inr (Or.inr rfl)) rfl rfl) sa_nil rfl)) (sa_cons (se_bi (b := .abs) (fun _ => bi_abs) (by rfl) E.f_abs (by decide +kernel) (sa_cons (se_loc (i := 1) rfl (by first | exact Or.inl rfl | exact Or.inr (Or.inl rfl) | exact Or.inr (Or.inr rfl)) rfl rfl) sa_nil rfl)) sa_nil rfl) rfl) (by rfl))
  (ssl_cons (ss_whl hp (st_cmp1 (op := .gt) hK hu65 (se_loc (i := 3) rfl (by first | exact Or.inl rfl | exact Or.inr (Or.inl rfl) | exact Or.inr (Or.inr rfl)) rfl rfl) se_int) (ssl_cons (ss_par2 (i := 2) (j := 3) rfl hN rfl rfl (by decide) rfl rfl (sa_cons (se_loc (i := 3) rfl (by first | exact Or.inl rfl | exact Or.inr (Or.inl rfl) | exact Or.inr (Or.inr rfl)) rfl rfl) (sa_cons (se_bin (op := .mod) hK (se_loc (i := 2) rfl (by first | exact Or.inl rfl | exact Or.inr (Or.inl rfl) | exact Or.inr (Or.inr rfl)) rfl rfl) (se_loc (i := 3) rfl (by first | exact Or.inl rfl | exact Or.inr (Or.inl rfl) | exact Or.inr (Or.inr rfl)) rfl rfl)) sa_nil rfl) rfl) (by rfl))
  ssl_nil))
  (ssl_cons (ss_asg (se_ife (st_cmp1 (op := .gt) hK hu65 (se_loc (i := 1) rfl (by first | exact Or.inl rfl | exact Or.inr (Or.inl rfl) | exact Or.inr (Or.inr rfl)) rfl rfl) se_int) (se_loc (i := 2) rfl (by first | exact Or.inl rfl | exact Or.inr (Or.inl rfl) | exact Or.inr (Or.inr rfl)) rfl rfl) (se_bin (op := .sub) hK se_int (se_loc (i := 2) rfl (by first | exact Or.inl rfl | exact Or.inr (Or.inl rfl) | exact Or.inr (Or.inr rfl)) rfl rfl))) (sg_nm (i := 2) hN rfl (by first | exact Or.inl rfl | exact Or.inr rfl) (by first | exact Or.inl rfl | exact Or.inr rfl)) rfl rfl rfl)
  (ssl_cons (ss_ret (se_tup (sa_cons (se_bin (op := .fdiv) hK (se_loc (i := 0) rfl (by first | exact Or.inl rfl | exact Or.inr (Or.inl rfl) | exact Or.inr (Or.inr rfl)) rfl rfl) (se_loc (i := 2) rfl (by first | exact Or.inl rfl | exact Or.inr (Or.inl rfl) | exact Or.inr (Or.inr rfl)) rfl rfl)) (sa_cons (se_bin (op := .fdiv) hK (se_loc (i := 1) rfl (by first | exact Or.inl rfl | exact Or.inr (Or.inl rfl) | exact Or.inr (Or.inr rfl)) rfl rfl) (se_loc (i := 2) rfl (by first | exact Or.inl rfl | exact Or.inr (Or.inl rfl) | exact Or.inr (Or.inr rfl)) rfl rfl)) sa_nil rfl) rfl)))
  ssl_nil))))
theorem bd__law_plus {w : World} {K : PySem.W.Frag} {mg : Str → Option Value} {base : Heap} {Z : Wc} {n : Nat} (hK : K = Z.K) (E : Ev w K mg base Z n) {cdv : Value} {A : Around} {outer : List PySem.Env} {s : Shared} {H : Hp} {Ek : XK} {fa : Addr} (hr : Room n (A.deeper (envOfC "_law_plus" (defScope (top 24)) s.heap.objs.size fa cdv))) (hgd : A.guards = some []) :
    PSs (cxOf (L2.CX pw w) pw w K mg base [("_law_one" : Str), ("_law_other" : Str)] "_law_plus" (defScope (top 24)) fa cdv A outer s H Ek) (defBody (top 24)) (iL (P.tbl n) Z (fun cls dx _ H' => Ek cls dx H') c__law_plus.body) := by
  obtain ⟨t_MAX_NODES, q_MAX_NODES⟩ := E.q_MAX_NODES
  have hu65 : (cxOf (L2.CX pw w) pw w K mg base [("_law_one" : Str), ("_law_other" : Str)] "_law_plus" (defScope (top 24)) fa cdv A outer s H Ek).A.units + 65 < cLine := (by have h := hr.un; show (A.deeper (envOfC "_law_plus" (defScope (top 24)) s.heap.objs.size fa cdv)).units + 65 < cLine; omega)
  have hu64 : (cxOf (L2.CX pw w) pw w K mg base [("_law_one" : Str), ("_law_other" : Str)] "_law_plus" (defScope (top 24)) fa cdv A outer s H Ek).A.units + 64 < cLine := by omega
  have hu1 : (cxOf (L2.CX pw w) pw w K mg base [("_law_one" : Str), ("_law_other" : Str)] "_law_plus" (defScope (top 24)) fa cdv A outer s H Ek).A.units + 1 < cLine := by omega
  have hN : (cxOf (L2.CX pw w) pw w K mg base [("_law_one" : Str), ("_law_other" : Str)] "_law_plus" (defScope (top 24)) fa cdv A outer s H Ek).N.Nodup := by show List.Nodup [("_law_one" : Str), ("_law_other" : Str)]; decide +kernel
  have tk : Takes (cxOf (L2.CX pw w) pw w K mg base [("_law_one" : Str), ("_law_other" : Str)] "_law_plus" (defScope (top 24)) fa cdv A outer s H Ek) (fun cls dx _ H' => Ek cls dx H') := takes_of rfl rfl rfl rfl
  have hp : PassesOwn (model pw w) (cxOf (L2.CX pw w) pw w K mg base [("_law_one" : Str), ("_law_other" : Str)] "_law_plus" (defScope (top 24)) fa cdv A outer s H Ek).A (cxOf (L2.CX pw w) pw w K mg base [("_law_one" : Str), ("_law_other" : Str)] "_law_plus" (defScope (top 24)) fa cdv A outer s H Ek).env (cxOf (L2.CX pw w) pw w K mg base [("_law_one" : Str), ("_law_other" : Str)] "_law_plus" (defScope (top 24)) fa cdv A outer s H Ek).xe := passes_of rfl
  exact (ssl_cons (ss_ret (se_callC E.C__law_fraction hr hgd tk (by rfl) (sa_cons (se_bin (op := .add) hK (se_bin (op := .mul) hK (se_sub hK hu1 (se_loc (i := 0) rfl (by first | exact Or.inl rfl | exact Or.inr (Or.inl rfl) | exact Or.inr (Or.inr rfl)) rfl rfl) se_int (fun _ _ => rfl)) (se_sub hK hu1 (se_loc (i := 1) rfl (by first | exact Or.inl rfl | exact Or.inr (Or.inl rfl) | exact Or.inr (Or.inr rfl)) rfl rfl) se_int (fun _ _ => rfl))) (se_bin (op := .mul) hK (se_sub hK hu1 (se_loc (i := 1) rfl (by first | exact Or.inl rfl | exact Or.inr (Or.inl rfl) | exact Or.inr (Or.inr rfl)) rfl rfl) se_int (fun _ _ => rfl)) (se_sub hK hu1 (se_loc (i := 0) rfl (by first | exact Or.inl rfl | exact Or.inr (Or.inl rfl) | exact Or.inr (Or.inr rfl)) rfl rfl) se_int (fun _ _ => rfl)))) (sa_cons (se_bin (op := .mul) hK (se_sub hK hu1 (se_loc (i := 0) rfl (by first | exact Or.inl rfl | exact Or.inr (Or.inl rfl) | exact Or.inr (Or.inr rfl)) rfl rfl) se_int (fun _ _ => rfl)) (se_sub hK hu1 (se_loc (i := 1) rfl (by first | exact Or.inl rfl | exact Or.inr (Or.inl rfl) | exact Or.inr (Or.inr rfl)) rfl rfl) se_int (fun _ _ => rfl))) sa_nil rfl) rfl)))
  ssl_nil)
theorem bd__law_times {w : World} {K : PySem.W.Frag} {mg : Str → Option Value} {base : Heap} {Z : Wc} {n : Nat} (hK : K = Z.K) (E : Ev w K mg base Z n) {cdv : Value} {A : Around} {outer : List PySem.Env} {s : Shared} {H : Hp} {Ek : XK} {fa : Addr} (hr : Room n (A.deeper (envOfC "_law_times" (defScope (top 25)) s.heap.objs.size fa cdv))) (hgd : A.guards = some []) :
    PSs (cxOf (L2.CX pw w) pw w K mg base [("_law_one" : Str), ("_law_other" : Str)] "_law_times" (defScope (top 25)) fa cdv A outer s H Ek) (defBody (top 25)) (iL (P.tbl n) Z (fun cls dx _ H' => Ek cls dx H') c__law_times.body) := by
  obtain ⟨t_MAX_NODES, q_MAX_NODES⟩ := E.q_MAX_NODES
  have hu65 : (cxOf (L2.CX pw w) pw w K mg base [("_law_one" : Str), ("_law_other" : Str)] "_law_times" (defScope (top 25)) fa cdv A outer s H Ek).A.units + 65 < cLine := (by have h := hr.un; show (A.deeper (envOfC "_law_times" (defScope (top 25)) s.heap.objs.size fa cdv)).units + 65 < cLine; omega)
  have hu64 : (cxOf (L2.CX pw w) pw w K mg base [("_law_one" : Str), ("_law_other" : Str)] "_law_times" (defScope (top 25)) fa cdv A outer s H Ek).A.units + 64 < cLine := by omega
  have hu1 : (cxOf (L2.CX pw w) pw w K mg base [("_law_one" : Str), ("_law_other" : Str)] "_law_times" (defScope (top 25)) fa cdv A outer s H Ek).A.units + 1 < cLine := by omega
  have hN : (cxOf (L2.CX pw w) pw w K mg base [("_law_one" : Str), ("_law_other" : Str)] "_law_times" (defScope (top 25)) fa cdv A outer s H Ek).N.Nodup := by show List.Nodup [("_law_one" : Str), ("_law_other" : Str)]; decide +kernel
  have tk : Takes (cxOf (L2.CX pw w) pw w K mg base [("_law_one" : Str), ("_law_other" : Str)] "_law_times" (defScope (top 25)) fa cdv A outer s H Ek) (fun cls dx _ H' => Ek cls dx H') := takes_of rfl rfl rfl rfl
  have hp : PassesOwn (model pw w) (cxOf (L2.CX pw w) pw w K mg base [("_law_one" : Str), ("_law_other" : Str)] "_law_times" (defScope (top 25)) fa cdv A outer s H Ek).A (cxOf (L2.CX pw w) pw w K mg base [("_law_one" : Str), ("_law_other" : Str)] "_law_times" (defScope (top 25)) fa cdv A outer s H Ek).env (cxOf (L2.CX pw w) pw w K mg base [("_law_one" : Str), ("_law_other" : Str)] "_law_times" (defScope (top 25)) fa cdv A outer s H Ek).xe := passes_of rfl
  exact (ssl_cons (ss_ret (se_callC E.C__law_fraction hr hgd tk (by rfl) (sa_cons (se_bin (op := .mul) hK (se_sub hK hu1 (se_loc (i := 0) rfl (by first | exact Or.inl rfl | exact Or.inr (Or.inl rfl) | exact Or.inr (Or.inr rfl)) rfl rfl) se_int (fun _ _ => rfl)) (se_sub hK hu1 (se_loc (i := 1) rfl (by first | exact Or.inl rfl | exact Or.inr (Or.inl rfl) | exact Or.inr (Or.inr rfl)) rfl rfl) se_int (fun _ _ => rfl))) (sa_cons (se_bin (op := .mul) hK (se_sub hK hu1 (se_loc (i := 0) rfl (by first | exact Or.inl rfl | exact Or.inr (Or.inl rfl) | exact Or.inr (Or.inr rfl)) rfl rfl) se_int (fun _ _ => rfl)) (se_sub hK hu1 (se_loc (i := 1) rfl (by first | exact Or.inl rfl | exact Or.inr (Or.inl rfl) | exact Or.inr (Or.inr rfl)) rfl rfl) se_int (fun _ _ => rfl))) sa_nil rfl) rfl)))
  ssl_nil)
theorem bd__law_pair_sum {w : World} {K : PySem.W.Frag} {mg : Str → Option Value} {base : Heap} {Z : Wc} {n : Nat} (hK : K = Z.K) (E : Ev w K mg base Z n) {cdv : Value} {A : Around} {outer : List PySem.Env} {s : Shared} {H : Hp} {Ek : XK} {fa : Addr} (hr : Room n (A.deeper (envOfC "_law_pair_sum" (defScope (top 26)) s.heap.objs.size fa cdv))) (hgd : A.guards = some []) :
    PSs (cxOf (L2.CX pw w) pw w K mg base [("_law_rows" : Str), ("_law_kept" : Str), ("_law_found" : Str), ("_law_k" : Str), ("_law_entry" : Str), ("_law_part" : Str)] "_law_pair_sum" (defScope (top 26)) fa cdv A outer s H Ek) (defBody (top 26)) (iL (P.tbl n) Z (fun cls dx _ H' => Ek cls dx H') c__law_pair_sum.body) := by
  obtain ⟨t_MAX_NODES, q_MAX_NODES⟩ := E.q_MAX_NODES
  have hu65 : (cxOf (L2.CX pw w) pw w K mg base [("_law_rows" : Str), ("_law_kept" : Str), ("_law_found" : Str), ("_law_k" : Str), ("_law_entry" : Str), ("_law_part" : Str)] "_law_pair_sum" (defScope (top 26)) fa cdv A outer s H Ek).A.units + 65 < cLine := (by have h := hr.un; show (A.deeper (envOfC "_law_pair_sum" (defScope (top 26)) s.heap.objs.size fa cdv)).units + 65 < cLine; omega)
  have hu64 : (cxOf (L2.CX pw w) pw w K mg base [("_law_rows" : Str), ("_law_kept" : Str), ("_law_found" : Str), ("_law_k" : Str), ("_law_entry" : Str), ("_law_part" : Str)] "_law_pair_sum" (defScope (top 26)) fa cdv A outer s H Ek).A.units + 64 < cLine := by omega
  have hu1 : (cxOf (L2.CX pw w) pw w K mg base [("_law_rows" : Str), ("_law_kept" : Str), ("_law_found" : Str), ("_law_k" : Str), ("_law_entry" : Str), ("_law_part" : Str)] "_law_pair_sum" (defScope (top 26)) fa cdv A outer s H Ek).A.units + 1 < cLine := by omega
  have hN : (cxOf (L2.CX pw w) pw w K mg base [("_law_rows" : Str), ("_law_kept" : Str), ("_law_found" : Str), ("_law_k" : Str), ("_law_entry" : Str), ("_law_part" : Str)] "_law_pair_sum" (defScope (top 26)) fa cdv A outer s H Ek).N.Nodup := by show List.Nodup [("_law_rows" : Str), ("_law_kept" : Str), ("_law_found" : Str), ("_law_k" : Str), ("_law_entry" : Str), ("_law_part" : Str)]; decide +kernel
  have tk : Takes (cxOf (L2.CX pw w) pw w K mg base [("_law_rows" : Str), ("_law_kept" : Str), ("_law_found" : Str), ("_law_k" : Str), ("_law_entry" : Str), ("_law_part" : Str)] "_law_pair_sum" (defScope (top 26)) fa cdv A outer s H Ek) (fun cls dx _ H' => Ek cls dx H') := takes_of rfl rfl rfl rfl
  have hp : PassesOwn (model pw w) (cxOf (L2.CX pw w) pw w K mg base [("_law_rows" : Str), ("_law_kept" : Str), ("_law_found" : Str), ("_law_k" : Str), ("_law_entry" : Str), ("_law_part" : Str)] "_law_pair_sum" (defScope (top 26)) fa cdv A outer s H Ek).A (cxOf (L2.CX pw w) pw w K mg base [("_law_rows" : Str), ("_law_kept" : Str), ("_law_found" : Str), ("_law_k" : Str), ("_law_entry" : Str), ("_law_part" : Str)] "_law_pair_sum" (defScope (top 26)) fa cdv A outer s H Ek).env (cxOf (L2.CX pw w) pw w K mg base [("_law_rows" : Str), ("_law_kept" : Str), ("_law_found" : Str), ("_law_k" : Str), ("_law_entry" : Str), ("_law_part" : Str)] "_law_pair_sum" (defScope (top 26)) fa cdv A outer s H Ek).xe := passes_of rfl
  exact (ssl_cons (ss_if (st_cmp1 (op := .eq) hK hu65 (se_loc (i := 1) rfl (by first | exact Or.inl rfl | exact Or.inr (Or.inl rfl) | exact Or.inr (Or.inr rfl)) rfl rfl) (se_lst sa_nil)) (ssl_cons (ss_ret (se_tup (sa_cons se_int (sa_cons se_int sa_nil rfl) rfl)))
  ssl_nil) ssl_nil)
  (ssl_cons (ss_asg (se_tup (sa_cons se_int (sa_cons se_int sa_nil rfl) rfl)) (sg_nm (i := 2) hN rfl (by first | exact Or.inl rfl | exact Or.inr rfl) (by first | exact Or.inl rfl | exact Or.inr rfl)) rfl rfl rfl)
  (ssl_cons (ss_for hp rfl (si_rng2 (by rfl) E.f_range se_int (se_ife (st_cmp1 (op := .eq) hK hu65 (se_bin (op := .mod) hK (se_bi (b := .len) (fun _ => bi_len hK) (by rfl) E.f_len (by decide +kernel) (sa_cons (se_loc (i := 1) rfl (by first | exact Or.inl rfl | exact Or.inr (Or.inl rfl) | exact Or.inr (Or.inr rfl)) rfl rfl) sa_nil rfl)) se_int) se_int) (se_bi (b := .len) (fun _ => bi_len hK) (by rfl) E.f_len (by decide +kernel) (sa_cons (se_loc (i := 1) rfl (by first | exact Or.inl rfl | exact Or.inr (Or.inl rfl) | exact Or.inr (Or.inr rfl)) rfl rfl) sa_nil rfl)) se_int) rfl rfl) (sg_nm (i := 3) hN rfl (by first | exact Or.inl rfl | exact Or.inr rfl) (by first | exact Or.inl rfl | exact Or.inr rfl)) (ssl_cons (ss_asg (se_sub hK hu1 (se_sub hK hu1 (se_loc (i := 0) rfl (by first | exact Or.inl rfl | exact Or.inr (Or.inl rfl) | exact Or.inr (Or.inr rfl)) rfl rfl) (se_sub hK hu1 (se_loc (i := 1) rfl (by first | exact Or.inl rfl | exact Or.inr (Or.inl rfl) | exact Or.inr (Or.inr rfl)) rfl rfl) se_int (fun _ _ => rfl)) (fun _ _ => rfl)) (se_sub hK hu1 (se_loc (i := 1) rfl (by first | exact Or.inl rfl | exact Or.inr (Or.inl rfl) | exact Or.inr (Or.inr rfl)) rfl rfl) (se_loc (i := 3) rfl (by first | exact Or.inl rfl | exact Or.inr (Or.inl rfl) | exact Or.inr (Or.inr rfl)) rfl rfl) (fun _ _ => rfl)) (fun _ _ => rfl)) (sg_nm (i := 4) hN rfl (by first | exact Or.inl rfl | exact Or.inr rfl) (by first | exact Or.inl rfl | exact Or.inr rfl)) rfl rfl rfl)
  (ssl_cons (ss_if (st_cmp1 (op := .ne) hK hu65 (se_sub hK hu1 (se_loc (i := 4) rfl (by first | exact Or.inl rfl | exact Or.inr (Or.inl rfl) | exact Or.inr (Or.inr rfl)) rfl rfl) se_int (fun _ _ => rfl)) se_int) (ssl_cons (ss_asg (se_callC E.C__law_times hr hgd tk (by rfl) (sa_cons (se_loc (i := 4) rfl (by first | exact Or.inl rfl | exact Or.inr (Or.inl rfl) | exact Or.inr (Or.inr rfl)) rfl rfl) (sa_cons (se_callC E.C__law_pair_sum hr hgd tk (by rfl) (sa_cons (se_loc (i := 0) rfl (by first | exact Or.inl rfl | exact Or.inr (Or.inl rfl) | exact Or.inr (Or.inr rfl)) rfl rfl) (sa_cons (se_bin (op := .add) hK (se_slc hK (se_loc (i := 1) rfl (by first | exact Or.inl rfl | exact Or.inr (Or.inl rfl) | exact Or.inr (Or.inr rfl)) rfl rfl) (so_some se_int) (so_some (se_loc (i := 3) rfl (by first | exact Or.inl rfl | exact Or.inr (Or.inl rfl) | exact Or.inr (Or.inr rfl)) rfl rfl))) (se_slc hK (se_loc (i := 1) rfl (by first | exact Or.inl rfl | exact Or.inr (Or.inl rfl) | exact Or.inr (Or.inr rfl)) rfl rfl) (so_some (se_bin (op := .add) hK (se_loc (i := 3) rfl (by first | exact Or.inl rfl | exact Or.inr (Or.inl rfl) | exact Or.inr (Or.inr rfl)) rfl rfl) se_int)) so_none)) sa_nil rfl) rfl)) sa_nil rfl) rfl)) (sg_nm (i := 5) hN rfl (by first | exact Or.inl rfl | exact Or.inr rfl) (by first | exact Or.inl rfl | exact Or.inr rfl)) rfl rfl rfl)
  (ssl_cons (ss_asg (se_callC E.C__law_plus hr hgd tk (by rfl) (sa_cons (se_loc (i := 2) rfl (by first | exact Or.inl rfl | exact Or.inr (Or.inl rfl) | exact Or.inr (Or.inr rfl)) rfl rfl) (sa_cons (se_ife (st_cmp1 (op := .eq) hK hu65 (se_bin (op := .mod) hK (se_loc (i := 3) rfl (by first | exact Or.inl rfl | exact Or.inr (Or.inl rfl) | exact Or.inr (Or.inr rfl)) rfl rfl) se_int) se_int) (se_loc (i := 5) rfl (by first | exact Or.inl rfl | exact Or.inr (Or.inl rfl) | exact Or.inr (Or.inr rfl)) rfl rfl) (se_tup (sa_cons (se_bin (op := .sub) hK se_int (se_sub hK hu1 (se_loc (i := 5) rfl (by first | exact Or.inl rfl | exact Or.inr (Or.inl rfl) | exact Or.inr (Or.inr rfl)) rfl rfl) se_int (fun _ _ => rfl))) (sa_cons (se_sub hK hu1 (se_loc (i := 5) rfl (by first | exact Or.inl rfl | exact Or.inr (Or.inl rfl) | exact Or.inr (Or.inr rfl)) rfl rfl) se_int (fun _ _ => rfl)) sa_nil rfl) rfl))) sa_nil rfl) rfl)) (sg_nm (i := 2) hN rfl (by first | exact Or.inl rfl | exact Or.inr rfl) (by first | exact Or.inl rfl | exact Or.inr rfl)) rfl rfl rfl)
  ssl_nil)) ssl_nil)
  ssl_nil)) (fun _ => rfl))
  (ssl_cons (ss_ret (se_loc (i := 2) rfl (by first | exact Or.inl rfl | exact Or.inr (Or.inl rfl) | exact Or.inr (Or.inr rfl)) rfl rfl))
  ssl_nil))))
theorem bd__law_random_matrix {w : World} {K : PySem.W.Frag} {mg : Str → Option Value} {base : Heap} {Z : Wc} {n : Nat} (hK : K = Z.K) (E : Ev w K mg base Z n) {cdv : Value} {A : Around} {outer : List PySem.Env} {s : Shared} {H : Hp} {Ek : XK} {fa : Addr} (hr : Room n (A.deeper (envOfC "_law_random_matrix" (defScope (top 27)) s.heap.objs.size fa cdv))) (hgd : A.guards = some []) :
    PSs (cxOf (L2.CX pw w) pw w K mg base [("_law_source_here" : Str), ("_law_size" : Str), ("_law_above" : Str), ("_law_rows" : Str), ("_law_v" : Str), ("_law_u" : Str), ("_law_number" : Str), ("_law_entry" : Str), ("_law_row" : Str)] "_law_random_matrix" (defScope (top 27)) fa cdv A outer s H Ek) (defBody (top 27)) (iL (P.tbl n) Z (fun cls dx _ H' => Ek cls dx H') c__law_random_matrix.body) := by
  obtain ⟨t_MAX_NODES, q_MAX_NODES⟩ := E.q_MAX_NODES
  have hu65 : (cxOf (L2.CX pw w) pw w K mg base [("_law_source_here" : Str), ("_law_size" : Str), ("_law_above" : Str), ("_law_rows" : Str), ("_law_v" : Str), ("_law_u" : Str), ("_law_number" : Str), ("_law_entry" : Str), ("_law_row" : Str)] "_law_random_matrix" (defScope (top 27)) fa cdv A outer s H Ek).A.units + 65 < cLine := (by have h := hr.un; show (A.deeper (envOfC "_law_random_matrix" (defScope (top 27)) s.heap.objs.size fa cdv)).units + 65 < cLine; omega)
  have hu64 : (cxOf (L2.CX pw w) pw w K mg base [("_law_source_here" : Str), ("_law_size" : Str), ("_law_above" : Str), ("_law_rows" : Str), ("_law_v" : Str), ("_law_u" : Str), ("_law_number" : Str), ("_law_entry" : Str), ("_law_row" : Str)] "_law_random_matrix" (defScope (top 27)) fa cdv A outer s H Ek).A.units + 64 < cLine := by omega
  have hu1 : (cxOf (L2.CX pw w) pw w K mg base [("_law_source_here" : Str), ("_law_size" : Str), ("_law_above" : Str), ("_law_rows" : Str), ("_law_v" : Str), ("_law_u" : Str), ("_law_number" : Str), ("_law_entry" : Str), ("_law_row" : Str)] "_law_random_matrix" (defScope (top 27)) fa cdv A outer s H Ek).A.units + 1 < cLine := by omega
  have hN : (cxOf (L2.CX pw w) pw w K mg base [("_law_source_here" : Str), ("_law_size" : Str), ("_law_above" : Str), ("_law_rows" : Str), ("_law_v" : Str), ("_law_u" : Str), ("_law_number" : Str), ("_law_entry" : Str), ("_law_row" : Str)] "_law_random_matrix" (defScope (top 27)) fa cdv A outer s H Ek).N.Nodup := by show List.Nodup [("_law_source_here" : Str), ("_law_size" : Str), ("_law_above" : Str), ("_law_rows" : Str), ("_law_v" : Str), ("_law_u" : Str), ("_law_number" : Str), ("_law_entry" : Str), ("_law_row" : Str)]; decide +kernel
  have tk : Takes (cxOf (L2.CX pw w) pw w K mg base [("_law_source_here" : Str), ("_law_size" : Str), ("_law_above" : Str), ("_law_rows" : Str), ("_law_v" : Str), ("_law_u" : Str), ("_law_number" : Str), ("_law_entry" : Str), ("_law_row" : Str)] "_law_random_matrix" (defScope (top 27)) fa cdv A outer s H Ek) (fun cls dx _ H' => Ek cls dx H') := takes_of rfl rfl rfl rfl
  have hp : PassesOwn (model pw w) (cxOf (L2.CX pw w) pw w K mg base [("_law_source_here" : Str), ("_law_size" : Str), ("_law_above" : Str), ("_law_rows" : Str), ("_law_v" : Str), ("_law_u" : Str), ("_law_number" : Str), ("_law_entry" : Str), ("_law_row" : Str)] "_law_random_matrix" (defScope (top 27)) fa cdv A outer s H Ek).A (cxOf (L2.CX pw w) pw w K mg base [("_law_source_here" : Str), ("_law_size" : Str), ("_law_above" : Str), ("_law_rows" : Str), ("_law_v" : Str), ("_law_u" : Str), ("_law_number" : Str), ("_law_entry" : Str), ("_law_row" : Str)] "_law_random_matrix" (defScope (top 27)) fa cdv A outer s H Ek).env (cxOf (L2.CX pw w) pw w K mg base [("_law_source_here" : Str), ("_law_size" : Str), ("_law_above" : Str), ("_law_rows" : Str), ("_law_v" : Str), ("_law_u" : Str), ("_law_number" : Str), ("_law_entry" : Str), ("_law_row" : Str)] "_law_random_matrix" (defScope (top 27)) fa cdv A outer s H Ek).xe := passes_of rfl
  exact (ssl_cons (ss_setLc (i := 3) (own := [("_law_u", 5)]) rfl hN rfl rfl (by rfl) (by first | (show blkC [("_law_source_here" : Str), ("_law_size" : Str), ("_law_above" : Str), ("_law_rows" : Str), ("_law_v" : Str), ("_law_u" : Str), ("_law_number" : Str), ("_law_entry" : Str), ("_law_row" : Str)] (defScope (top 27)) _ _ = true; decide +kernel) | rfl) (by decide +kernel) (si_rng1 (by rfl) E.f_range (se_loc (i := 1) rfl (by first | exact Or.inl rfl | exact Or.inr (Or.inl rfl) | exact Or.inr (Or.inr rfl)) rfl rfl) rfl) (fun _ _ _ _ _ => (sg_nm (i := 5) hN rfl (by first | exact Or.inl rfl | exact Or.inr rfl) (by first | exact Or.inl rfl | exact Or.inr rfl))) (fun _ _ _ _ _ => sts_nil) (fun _ _ _ _ _ => (se_lc (own := [("_law_v", 4)]) rfl hN (by first | (show blkC [("_law_source_here" : Str), ("_law_size" : Str), ("_law_above" : Str), ("_law_rows" : Str), ("_law_v" : Str), ("_law_u" : Str), ("_law_number" : Str), ("_law_entry" : Str), ("_law_row" : Str)] (defScope (top 27)) _ _ = true; decide +kernel) | rfl) (by decide +kernel) (si_rng1 (by rfl) E.f_range (se_loc (i := 1) rfl (by first | exact Or.inl rfl | exact Or.inr (Or.inl rfl) | exact Or.inr (Or.inr rfl)) rfl rfl) rfl) (fun _ _ _ _ _ => (sg_nm (i := 4) hN rfl (by first | exact Or.inl rfl | exact Or.inr rfl) (by first | exact Or.inl rfl | exact Or.inr rfl))) (fun _ _ _ _ _ => sts_nil) (fun _ _ _ _ _ => (se_tup (sa_cons se_int (sa_cons se_int sa_nil rfl) rfl))))))
  (ssl_cons (ss_for hp rfl (si_rng1 (by rfl) E.f_range (se_loc (i := 1) rfl (by first | exact Or.inl rfl | exact Or.inr (Or.inl rfl) | exact Or.inr (Or.inr rfl)) rfl rfl) rfl) (sg_nm (i := 5) hN rfl (by first | exact Or.inl rfl | exact Or.inr rfl) (by first | exact Or.inl rfl | exact Or.inr rfl)) (ssl_cons (ss_for hp rfl (si_rng1 (by rfl) E.f_range (se_loc (i := 5) rfl (by first | exact Or.inl rfl | exact Or.inr (Or.inl rfl) | exact Or.inr (Or.inr rfl)) rfl rfl) rfl) (sg_nm (i := 4) hN rfl (by first | exact Or.inl rfl | exact Or.inr rfl) (by first | exact Or.inl rfl | exact Or.inr rfl)) (ssl_cons (ss_asg (se_bin (op := .mul) hK (se_bin (op := .sub) hK (se_callC E.C__law_next hr hgd tk (by rfl) (sa_cons (se_loc (i := 0) rfl (by first | exact Or.inl rfl | exact Or.inr (Or.inl rfl) | exact Or.inr (Or.inr rfl)) rfl rfl) (sa_cons se_int sa_nil rfl) rfl)) se_int) (se_bt (b := .int) (fun _ => bi_int) (by rfl) E.f_int (by decide +kernel) (sa_cons (se_cmp1 (op := .gt) hK hu65 (se_callC E.C__law_next hr hgd tk (by rfl) (sa_cons (se_loc (i := 0) rfl (by first | exact Or.inl rfl | exact Or.inr (Or.inl rfl) | exact Or.inr (Or.inr rfl)) rfl rfl) (sa_cons se_int sa_nil rfl) rfl)) se_int) sa_nil rfl))) (sg_nm (i := 6) hN rfl (by first | exact Or.inl rfl | exact Or.inr rfl) (by first | exact Or.inl rfl | exact Or.inr rfl)) rfl rfl rfl)
  (ssl_cons (ss_asg (se_callC E.C__law_fraction hr hgd tk (by rfl) (sa_cons (se_bin (op := .mul) hK (se_loc (i := 6) rfl (by first | exact Or.inl rfl | exact Or.inr (Or.inl rfl) | exact Or.inr (Or.inr rfl)) rfl rfl) (se_loc (i := 2) rfl (by first | exact Or.inl rfl | exact Or.inr (Or.inl rfl) | exact Or.inr (Or.inr rfl)) rfl rfl)) (sa_cons (se_bin (op := .add) hK se_int (se_callC E.C__law_next hr hgd tk (by rfl) (sa_cons (se_loc (i := 0) rfl (by first | exact Or.inl rfl | exact Or.inr (Or.inl rfl) | exact Or.inr (Or.inr rfl)) rfl rfl) (sa_cons se_int sa_nil rfl) rfl))) sa_nil rfl) rfl)) (sg_nm (i := 7) hN rfl (by first | exact Or.inl rfl | exact Or.inr rfl) (by first | exact Or.inl rfl | exact Or.inr rfl)) rfl rfl rfl)
  (ssl_cons (ss_asg (se_tup (sa_cons (se_loc (i := 7) rfl (by first | exact Or.inl rfl | exact Or.inr (Or.inl rfl) | exact Or.inr (Or.inr rfl)) rfl rfl) (sa_cons (se_tup (sa_cons (se_bin (op := .sub) hK se_int (se_sub hK hu1 (se_loc (i := 7) rfl (by first | exact Or.inl rfl | exact Or.inr (Or.inl rfl) | exact Or.inr (Or.inr rfl)) rfl rfl) se_int (fun _ _ => rfl))) (sa_cons (se_sub hK hu1 (se_loc (i := 7) rfl (by first | exact Or.inl rfl | exact Or.inr (Or.inl rfl) | exact Or.inr (Or.inr rfl)) rfl rfl) se_int (fun _ _ => rfl)) sa_nil rfl) rfl)) sa_nil rfl) rfl)) (sg_tup hK rfl (sgs_cons (sg_sub (W := fun cls dx _ H' => Ek cls dx H') hu1 (se_sub hK hu1 (se_loc (i := 3) rfl (by first | exact Or.inl rfl | exact Or.inr (Or.inl rfl) | exact Or.inr (Or.inr rfl)) rfl rfl) (se_loc (i := 5) rfl (by first | exact Or.inl rfl | exact Or.inr (Or.inl rfl) | exact Or.inr (Or.inr rfl)) rfl rfl) (fun _ _ => rfl)) (se_loc (i := 4) rfl (by first | exact Or.inl rfl | exact Or.inr (Or.inl rfl) | exact Or.inr (Or.inr rfl)) rfl rfl) (fun _ => rfl)) (sgs_cons (sg_sub (W := fun cls dx _ H' => Ek cls dx H') hu1 (se_sub hK hu1 (se_loc (i := 3) rfl (by first | exact Or.inl rfl | exact Or.inr (Or.inl rfl) | exact Or.inr (Or.inr rfl)) rfl rfl) (se_loc (i := 4) rfl (by first | exact Or.inl rfl | exact Or.inr (Or.inl rfl) | exact Or.inr (Or.inr rfl)) rfl rfl) (fun _ _ => rfl)) (se_loc (i := 5) rfl (by first | exact Or.inl rfl | exact Or.inr (Or.inl rfl) | exact Or.inr (Or.inr rfl)) rfl rfl) (fun _ => rfl)) sgs_nil rfl) rfl) rfl rfl rfl) rfl rfl rfl)
  ssl_nil))) (fun _ => rfl))
  ssl_nil) (fun _ => rfl))
  (ssl_cons (ss_ret (se_bt (b := .tuple) (fun _ => bi_tuple hK) (by rfl) E.f_tuple (by decide +kernel) (sa_cons (se_lc (own := [("_law_row", 8)]) rfl hN (by first | (show blkC [("_law_source_here" : Str), ("_law_size" : Str), ("_law_above" : Str), ("_law_rows" : Str), ("_law_v" : Str), ("_law_u" : Str), ("_law_number" : Str), ("_law_entry" : Str), ("_law_row" : Str)] (defScope (top 27)) _ _ = true; decide +kernel) | rfl) (by decide +kernel) (si_val hK (se_loc (i := 3) rfl (by first | exact Or.inl rfl | exact Or.inr (Or.inl rfl) | exact Or.inr (Or.inr rfl)) rfl rfl)) (fun _ _ _ _ _ => (sg_nm (i := 8) hN rfl (by first | exact Or.inl rfl | exact Or.inr rfl) (by first | exact Or.inl rfl | exact Or.inr rfl))) (fun _ _ _ _ _ => sts_nil) (fun _ _ _ _ _ => (se_bt (b := .tuple) (fun _ => bi_tuple hK) (by rfl) E.f_tuple (by decide +kernel) (sa_cons (se_loc (i := 8) rfl (by first | exact Or.inl rfl | exact Or.inr (Or.inl rfl) | exact Or.inr (Or.inr rfl)) rfl rfl) sa_nil rfl)))) sa_nil rfl)))
  ssl_nil)))
theorem bd__law_limit_right {w : World} {K : PySem.W.Frag} {mg : Str → Option Value} {base : Heap} {Z : Wc} {n : Nat} (hK : K = Z.K) (E : Ev w K mg base Z n) {cdv : Value} {A : Around} {outer : List PySem.Env} {s : Shared} {H : Hp} {Ek : XK} {fa : Addr} (hr : Room n (A.deeper (envOfC "_law_limit_right" (defScope (top 28)) s.heap.objs.size fa cdv))) (hgd : A.guards = some []) :
    PSs (cxOf (L2.CX pw w) pw w K mg base [("_law_found" : Str), ("error" : Str)] "_law_limit_right" (defScope (top 28)) fa cdv A outer s H Ek) (defBody (top 28)) (iL (P.tbl n) Z (fun cls dx _ H' => Ek cls dx H') c__law_limit_right.body) := by
  obtain ⟨t_MAX_NODES, q_MAX_NODES⟩ := E.q_MAX_NODES
  have hu65 : (cxOf (L2.CX pw w) pw w K mg base [("_law_found" : Str), ("error" : Str)] "_law_limit_right" (defScope (top 28)) fa cdv A outer s H Ek).A.units + 65 < cLine := (by have h := hr.un; show (A.deeper (envOfC "_law_limit_right" (defScope (top 28)) s.heap.objs.size fa cdv)).units + 65 < cLine; omega)
  have hu64 : (cxOf (L2.CX pw w) pw w K mg base [("_law_found" : Str), ("error" : Str)] "_law_limit_right" (defScope (top 28)) fa cdv A outer s H Ek).A.units + 64 < cLine := by omega
  have hu1 : (cxOf (L2.CX pw w) pw w K mg base [("_law_found" : Str), ("error" : Str)] "_law_limit_right" (defScope (top 28)) fa cdv A outer s H Ek).A.units + 1 < cLine := by omega
  have hN : (cxOf (L2.CX pw w) pw w K mg base [("_law_found" : Str), ("error" : Str)] "_law_limit_right" (defScope (top 28)) fa cdv A outer s H Ek).N.Nodup := by show List.Nodup [("_law_found" : Str), ("error" : Str)]; decide +kernel
  have tk : Takes (cxOf (L2.CX pw w) pw w K mg base [("_law_found" : Str), ("error" : Str)] "_law_limit_right" (defScope (top 28)) fa cdv A outer s H Ek) (fun cls dx _ H' => Ek cls dx H') := takes_of rfl rfl rfl rfl
  have hp : PassesOwn (model pw w) (cxOf (L2.CX pw w) pw w K mg base [("_law_found" : Str), ("error" : Str)] "_law_limit_right" (defScope (top 28)) fa cdv A outer s H Ek).A (cxOf (L2.CX pw w) pw w K mg base [("_law_found" : Str), ("error" : Str)] "_law_limit_right" (defScope (top 28)) fa cdv A outer s H Ek).env (cxOf (L2.CX pw w) pw w K mg base [("_law_found" : Str), ("error" : Str)] "_law_limit_right" (defScope (top 28)) fa cdv A outer s H Ek).xe := passes_of rfl
  exact (ssl_cons (ss_asg se_non (sg_nm (i := 0) hN rfl (by first | exact Or.inl rfl | exact Or.inr rfl) (by first | exact Or.inl rfl | exact Or.inr rfl)) rfl rfl rfl)
  (ssl_cons (ss_tri (i := 1) (k := Kx.BadMatrix) rfl rfl rfl hN rfl rfl hK E.e_BadMatrix.gC (by rfl) (by decide) E.m_BadMatrix tk (fun Wb pnb xeb tkb hp => (ssl_cons (ss_xpr (se_callC E.C_pair_sum hr hgd tkb (by rfl) (sa_cons (se_bin (op := .mul) hK (se_tup (sa_cons (se_bin (op := .mul) hK (se_tup (sa_cons (se_tup (sa_cons se_int (sa_cons se_int sa_nil rfl) rfl)) sa_nil rfl)) se_int) sa_nil rfl)) se_int) sa_nil rfl)) rfl)
  ssl_nil)) (fun ab pns => (ssl_cons (ss_asg (se_loc (i := 1) rfl (by first | exact Or.inl rfl | exact Or.inr (Or.inl rfl) | exact Or.inr (Or.inr rfl)) rfl rfl) (sg_nm (i := 0) hN rfl (by first | exact Or.inl rfl | exact Or.inr rfl) (by first | exact Or.inl rfl | exact Or.inr rfl)) rfl rfl rfl)
  ssl_nil)))
  (ssl_cons (ss_ret (se_and (se_cmp1 (op := .ntN) hK hu65 (se_loc (i := 0) rfl (by first | exact Or.inl rfl | exact Or.inr (Or.inl rfl) | exact Or.inr (Or.inr rfl)) rfl rfl) se_non) (se_one (se_cmp1 (op := .eq) hK hu65 (se_callC E.C_pair_sum hr hgd tk (by rfl) (sa_cons (se_bin (op := .mul) hK (se_tup (sa_cons (se_bin (op := .mul) hK (se_tup (sa_cons (se_tup (sa_cons se_int (sa_cons se_int sa_nil rfl) rfl)) sa_nil rfl)) se_int) sa_nil rfl)) se_int) sa_nil rfl)) (se_tup (sa_cons se_int (sa_cons se_int sa_nil rfl) rfl))))))
  ssl_nil)))
theorem bd_law {w : World} {K : PySem.W.Frag} {mg : Str → Option Value} {base : Heap} {Z : Wc} {n : Nat} (hK : K = Z.K) (E : Ev w K mg base Z n) {cdv : Value} {A : Around} {outer : List PySem.Env} {s : Shared} {H : Hp} {Ek : XK} {fa : Addr} (hr : Room n (A.deeper (envOfC "law" (defScope (top 29)) s.heap.objs.size fa cdv))) (hgd : A.guards = some []) :
    PSs (cxOf (L2.CX pw w) pw w K mg base [("_law_script" : Str), ("_law_k" : Str), ("_law_source_here" : Str), ("_law_above" : Str), ("_law_size" : Str), ("_law_matrix" : Str)] "law" (defScope (top 29)) fa cdv A outer s H Ek) (defBody (top 29)) (iL (P.tbl n) Z (fun cls dx _ H' => Ek cls dx H') c_law.body) := by
  obtain ⟨t_MAX_NODES, q_MAX_NODES⟩ := E.q_MAX_NODES
  have hu65 : (cxOf (L2.CX pw w) pw w K mg base [("_law_script" : Str), ("_law_k" : Str), ("_law_source_here" : Str), ("_law_above" : Str), ("_law_size" : Str), ("_law_matrix" : Str)] "law" (defScope (top 29)) fa cdv A outer s H Ek).A.units + 65 < cLine := (by have h := hr.un; show (A.deeper (envOfC "law" (defScope (top 29)) s.heap.objs.size fa cdv)).units + 65 < cLine; omega)
  have hu64 : (cxOf (L2.CX pw w) pw w K mg base [("_law_script" : Str), ("_law_k" : Str), ("_law_source_here" : Str), ("_law_above" : Str), ("_law_size" : Str), ("_law_matrix" : Str)] "law" (defScope (top 29)) fa cdv A outer s H Ek).A.units + 64 < cLine := by omega
  have hu1 : (cxOf (L2.CX pw w) pw w K mg base [("_law_script" : Str), ("_law_k" : Str), ("_law_source_here" : Str), ("_law_above" : Str), ("_law_size" : Str), ("_law_matrix" : Str)] "law" (defScope (top 29)) fa cdv A outer s H Ek).A.units + 1 < cLine := by omega
  have hN : (cxOf (L2.CX pw w) pw w K mg base [("_law_script" : Str), ("_law_k" : Str), ("_law_source_here" : Str), ("_law_above" : Str), ("_law_size" : Str), ("_law_matrix" : Str)] "law" (defScope (top 29)) fa cdv A outer s H Ek).N.Nodup := by show List.Nodup [("_law_script" : Str), ("_law_k" : Str), ("_law_source_here" : Str), ("_law_above" : Str), ("_law_size" : Str), ("_law_matrix" : Str)]; decide +kernel
  have tk : Takes (cxOf (L2.CX pw w) pw w K mg base [("_law_script" : Str), ("_law_k" : Str), ("_law_source_here" : Str), ("_law_above" : Str), ("_law_size" : Str), ("_law_matrix" : Str)] "law" (defScope (top 29)) fa cdv A outer s H Ek) (fun cls dx _ H' => Ek cls dx H') := takes_of rfl rfl rfl rfl
  have hp : PassesOwn (model pw w) (cxOf (L2.CX pw w) pw w K mg base [("_law_script" : Str), ("_law_k" : Str), ("_law_source_here" : Str), ("_law_above" : Str), ("_law_size" : Str), ("_law_matrix" : Str)] "law" (defScope (top 29)) fa cdv A outer s H Ek).A (cxOf (L2.CX pw w) pw w K mg base [("_law_script" : Str), ("_law_k" : Str), ("_law_source_here" : Str), ("_law_above" : Str), ("_law_size" : Str), ("_law_matrix" : Str)] "law" (defScope (top 29)) fa cdv A outer s H Ek).env (cxOf (L2.CX pw w) pw w K mg base [("_law_script" : Str), ("_law_k" : Str), ("_law_source_here" : Str), ("_law_above" : Str), ("_law_size" : Str), ("_law_matrix" : Str)] "law" (defScope (top 29)) fa cdv A outer s H Ek).xe := passes_of rfl
  exact (ssl_cons (ss_for hp rfl (si_rng1 (by rfl) E.f_range (se_bi (b := .max2) (fun _ => bi_max2 rfl) (by rfl) E.f_max (by decide +kernel) (sa_cons se_int (sa_cons (se_bi (b := .min2) (fun _ => bi_min2 rfl) (by rfl) E.f_min (by decide +kernel) (sa_cons se_int (sa_cons (se_bi (b := .len) (fun _ => bi_len hK) (by rfl) E.f_len (by decide +kernel) (sa_cons (se_loc (i := 0) rfl (by first | exact Or.inl rfl | exact Or.inr (Or.inl rfl) | exact Or.inr (Or.inr rfl)) rfl rfl) sa_nil rfl)) sa_nil rfl) rfl)) sa_nil rfl) rfl)) rfl) (sg_nm (i := 1) hN rfl (by first | exact Or.inl rfl | exact Or.inr rfl) (by first | exact Or.inl rfl | exact Or.inr rfl)) (ssl_cons (ss_asg (se_callC E.C__law_source hr hgd tk (by rfl) (sa_cons (se_loc (i := 0) rfl (by first | exact Or.inl rfl | exact Or.inr (Or.inl rfl) | exact Or.inr (Or.inr rfl)) rfl rfl) (sa_cons (se_loc (i := 1) rfl (by first | exact Or.inl rfl | exact Or.inr (Or.inl rfl) | exact Or.inr (Or.inr rfl)) rfl rfl) sa_nil rfl) rfl)) (sg_nm (i := 2) hN rfl (by first | exact Or.inl rfl | exact Or.inr rfl) (by first | exact Or.inl rfl | exact Or.inr rfl)) rfl rfl rfl)
  (ssl_cons (ss_for hp rfl (si_val hK (se_tup (sa_cons se_int (sa_cons (se_bin (op := .add) hK (se_bin (op := .pow) hK se_int se_int) se_int) sa_nil rfl) rfl))) (sg_nm (i := 3) hN rfl (by first | exact Or.inl rfl | exact Or.inr rfl) (by first | exact Or.inl rfl | exact Or.inr rfl)) (ssl_cons (ss_asg (se_callC E.C__law_next hr hgd tk (by rfl) (sa_cons (se_loc (i := 2) rfl (by first | exact Or.inl rfl | exact Or.inr (Or.inl rfl) | exact Or.inr (Or.inr rfl)) rfl rfl) (sa_cons se_int sa_nil rfl) rfl)) (sg_nm (i := 4) hN rfl (by first | exact Or.inl rfl | exact Or.inr rfl) (by first | exact Or.inl rfl | exact Or.inr rfl)) rfl rfl rfl)
  (ssl_cons (ss_asg (se_callC E.C__law_random_matrix hr hgd tk (by rfl) (sa_cons (se_loc (i := 2) rfl (by first | exact Or.inl rfl | exact Or.inr (Or.inl rfl) | exact Or.inr (Or.inr rfl)) rfl rfl) (sa_cons (se_loc (i := 4) rfl (by first | exact Or.inl rfl | exact Or.inr (Or.inl rfl) | exact Or.inr (Or.inr rfl)) rfl rfl) (sa_cons (se_loc (i := 3) rfl (by first | exact Or.inl rfl | exact Or.inr (Or.inl rfl) | exact Or.inr (Or.inr rfl)) rfl rfl) sa_nil rfl) rfl) rfl)) (sg_nm (i := 5) hN rfl (by first | exact Or.inl rfl | exact Or.inr rfl) (by first | exact Or.inl rfl | exact Or.inr rfl)) rfl rfl rfl)
  (ssl_cons (ss_if (st_cmp1 (op := .ne) hK hu65 (se_bi (b := .repr) (fun _ => bi_repr hK hgd hu64) (by rfl) E.f_repr (by decide +kernel) (sa_cons (se_callC E.C_pair_sum hr hgd tk (by rfl) (sa_cons (se_loc (i := 5) rfl (by first | exact Or.inl rfl | exact Or.inr (Or.inl rfl) | exact Or.inr (Or.inr rfl)) rfl rfl) sa_nil rfl)) sa_nil rfl)) (se_bi (b := .repr) (fun _ => bi_repr hK hgd hu64) (by rfl) E.f_repr (by decide +kernel) (sa_cons (se_callC E.C__law_pair_sum hr hgd tk (by rfl) (sa_cons (se_loc (i := 5) rfl (by first | exact Or.inl rfl | exact Or.inr (Or.inl rfl) | exact Or.inr (Or.inr rfl)) rfl rfl) (sa_cons (se_lrng1 rfl (by rfl) E.f_list (by rfl) E.f_range (se_loc (i := 4) rfl (by first | exact Or.inl rfl | exact Or.inr (Or.inl rfl) | exact Or.inr (Or.inr rfl)) rfl rfl) rfl rfl) sa_nil rfl) rfl)) sa_nil rfl))) (ssl_cons (ss_ret se_bl)
  ssl_nil) ssl_nil)
  ssl_nil))) (fun _ => rfl))
  ssl_nil)) (fun _ => rfl))
  (ssl_cons (ss_ret (se_and (se_cmp1 (op := .eq) hK hu65 (se_callC E.C_pair_sum hr hgd tk (by rfl) (sa_cons (se_tup sa_nil) sa_nil rfl)) (se_tup (sa_cons se_int (sa_cons se_int sa_nil rfl) rfl))) (se_and (se_cmp1 (op := .eq) hK hu65 (se_callC E.C_pair_sum hr hgd tk (by rfl) (sa_cons (se_tup (sa_cons (se_tup (sa_cons (se_tup (sa_cons se_int (sa_cons se_int sa_nil rfl) rfl)) sa_nil rfl)) sa_nil rfl)) sa_nil rfl)) (se_tup (sa_cons se_int (sa_cons se_int sa_nil rfl) rfl))) (se_one (se_callC0 E.C__law_limit_right hr hgd tk (by rfl))))))
  ssl_nil))
structure Wf (w : World) (K : PySem.W.Frag) (mg : Str → Option Value) (ca : Nat → Addr) : Prop where
  z_ : ∀ c, ca (c + 1) = ca 0
  e_BadMatrix : ExF K mg "BadMatrix" (ca Kx.BadMatrix)
  m_BadMatrix : ∀ c, PySem.W.exmOne K (.ref (ca c)) (.ref (ca Kx.BadMatrix)) = some (ancF c Kx.BadMatrix)
  f_abs : mg "abs" = none
  f_all : mg "all" = none
  f_bool : mg "bool" = none
  f_int : mg "int" = none
  f_isinstance : mg "isinstance" = none
  f_len : mg "len" = none
  f_list : mg "list" = none
  f_max : mg "max" = none
  f_min : mg "min" = none
  f_range : mg "range" = none
  f_repr : mg "repr" = none
  f_tuple : mg "tuple" = none
  q_MAX_NODES : ∃ t, mg "MAX_NODES" = some (.int 60 t)
  d_is_integer : ∃ f fd, FunD K "is_integer" "is_integer" (defArgs (top 6)) (defBody (top 6)) (defScope (top 6)) [] [] f fd ∧ mg "is_integer" = some (.ref f)
  d_common_divisor : ∃ f fd, FunD K "common_divisor" "common_divisor" (defArgs (top 7)) (defBody (top 7)) (defScope (top 7)) [] [] f fd ∧ mg "common_divisor" = some (.ref f)
  d_is_fraction : ∃ f fd, FunD K "is_fraction" "is_fraction" (defArgs (top 8)) (defBody (top 8)) (defScope (top 8)) [] [] f fd ∧ mg "is_fraction" = some (.ref f)
  d_reduced : ∃ f fd, FunD K "reduced" "reduced" (defArgs (top 9)) (defBody (top 9)) (defScope (top 9)) [] [] f fd ∧ mg "reduced" = some (.ref f)
  d_fraction : ∃ f fd, FunD K "fraction" "fraction" (defArgs (top 10)) (defBody (top 10)) (defScope (top 10)) [] [] f fd ∧ mg "fraction" = some (.ref f)
  d_is_row : ∃ f fd, FunD K "is_row" "is_row" (defArgs (top 12)) (defBody (top 12)) (defScope (top 12)) [] [] f fd ∧ mg "is_row" = some (.ref f)
  d_need_matrix : ∃ f fd, FunD K "need_matrix" "need_matrix" (defArgs (top 13)) (defBody (top 13)) (defScope (top 13)) [] [] f fd ∧ mg "need_matrix" = some (.ref f)
  d_common_multiple : ∃ f fd, FunD K "common_multiple" "common_multiple" (defArgs (top 14)) (defBody (top 14)) (defScope (top 14)) [] [] f fd ∧ mg "common_multiple" = some (.ref f)
  d_scaled_rows : ∃ f fd, FunD K "scaled_rows" "scaled_rows" (defArgs (top 15)) (defBody (top 15)) (defScope (top 15)) [] [] f fd ∧ mg "scaled_rows" = some (.ref f)
  d_exchanged : ∃ f fd, FunD K "exchanged" "exchanged" (defArgs (top 16)) (defBody (top 16)) (defScope (top 16)) [] [] f fd ∧ mg "exchanged" = some (.ref f)
  d_integer_sum : ∃ f fd, FunD K "integer_sum" "integer_sum" (defArgs (top 17)) (defBody (top 17)) (defScope (top 17)) [] [] f fd ∧ mg "integer_sum" = some (.ref f)
  d_sum_of_rows : ∃ f fd, FunD K "sum_of_rows" "sum_of_rows" (defArgs (top 18)) (defBody (top 18)) (defScope (top 18)) [] [] f fd ∧ mg "sum_of_rows" = some (.ref f)
  d_pair_sum : ∃ f fd, FunD K "pair_sum" "pair_sum" (defArgs (top 19)) (defBody (top 19)) (defScope (top 19)) [] [] f fd ∧ mg "pair_sum" = some (.ref f)
  d__law_source : ∃ f fd, FunD K "_law_source" "_law_source" (defArgs (top 21)) (defBody (top 21)) (defScope (top 21)) [] [] f fd ∧ mg "_law_source" = some (.ref f)
  d__law_next : ∃ f fd, FunD K "_law_next" "_law_next" (defArgs (top 22)) (defBody (top 22)) (defScope (top 22)) [] [] f fd ∧ mg "_law_next" = some (.ref f)
  d__law_fraction : ∃ f fd, FunD K "_law_fraction" "_law_fraction" (defArgs (top 23)) (defBody (top 23)) (defScope (top 23)) [] [] f fd ∧ mg "_law_fraction" = some (.ref f)
  d__law_plus : ∃ f fd, FunD K "_law_plus" "_law_plus" (defArgs (top 24)) (defBody (top 24)) (defScope (top 24)) [] [] f fd ∧ mg "_law_plus" = some (.ref f)
  d__law_times : ∃ f fd, FunD K "_law_times" "_law_times" (defArgs (top 25)) (defBody (top 25)) (defScope (top 25)) [] [] f fd ∧ mg "_law_times" = some (.ref f)
  d__law_pair_sum : ∃ f fd, FunD K "_law_pair_sum" "_law_pair_sum" (defArgs (top 26)) (defBody (top 26)) (defScope (top 26)) [] [] f fd ∧ mg "_law_pair_sum" = some (.ref f)
  d__law_random_matrix : ∃ f fd, FunD K "_law_random_matrix" "_law_random_matrix" (defArgs (top 27)) (defBody (top 27)) (defScope (top 27)) [] [] f fd ∧ mg "_law_random_matrix" = some (.ref f)
  d__law_limit_right : ∃ f fd, FunD K "_law_limit_right" "_law_limit_right" (defArgs (top 28)) (defBody (top 28)) (defScope (top 28)) [] [] f fd ∧ mg "_law_limit_right" = some (.ref f)
  d_law : ∃ f fd, FunD K "law" "law" (defArgs (top 29)) (defBody (top 29)) (defScope (top 29)) [] [] f fd ∧ mg "law" = some (.ref f)
theorem cal_of {w : World} {K : PySem.W.Frag} {mg : Str → Option Value} {base : Heap} {Z : Wc} {n i t : Nat} {x : Str} {N ps : List Str} {F : Fn} (hF : P.fns i = some F) (hN : N.length = F.ns) (hps : ps.length = F.np) (S : FnScope N ps (defScope (top t)))
    (hd : ∃ f fd, FunD K x x (defArgs (top t)) (defBody (top t)) (defScope (top t)) [] [] f fd ∧ mg x = some (.ref f))
    (hb : ∀ f fd, FunD K x x (defArgs (top t)) (defBody (top t)) (defScope (top t)) [] [] f fd → Binds K fd ps [])
    (body : ∀ (cdv : Value) (A : Around) (outer : List PySem.Env) (s : Shared) (H : Hp) (Ek : XK) (fa : Addr), Room n (A.deeper (envOfC x (defScope (top t)) s.heap.objs.size fa cdv)) → A.guards = some [] →
      PSs (cxOf (L2.CX pw w) pw w K mg base N x (defScope (top t)) fa cdv A outer s H Ek) (defBody (top t)) (iL (P.tbl n) Z (fun cls dx _ H' => Ek cls dx H') F.body)) : Cal pw w K mg base Z P (n + 1) i x ps := by
  obtain ⟨f, fd, D, hm⟩ := hd
  refine ⟨f, fd, ?_, hm, D.kp, hb f fd D⟩
  obtain ⟨oc, od, dV, kV, doc, pm, an, cdv, ct, osl, rfl, lk, hc, _⟩ := D.ex
  rw [hps]
  exact fg_of lk hc S (fun vs H Q E ⟨hl, _⟩ => by rw [hl, hps]) fun A outer s H vs Q E hr hg h => ⟨_, body cdv A outer s H E f hr hg, enter_ok hF hN h⟩
theorem ev_all {w : World} {K : PySem.W.Frag} {mg : Str → Option Value} {base : Heap} {Z : Wc} (hK : K = Z.K) (hZ : Z.fl = fldF) (X : Wf w K mg Z.ca) : ∀ n, Ev w K mg base Z n
  | 0 => {
    e_BadMatrix := X.e_BadMatrix
    l_BadMatrix := (by rw [hZ])
    m_BadMatrix := X.m_BadMatrix
    f_abs := X.f_abs
    f_all := X.f_all
    f_bool := X.f_bool
    f_int := X.f_int
    f_isinstance := X.f_isinstance
    f_len := X.f_len
    f_list := X.f_list
    f_max := X.f_max
    f_min := X.f_min
    f_range := X.f_range
    f_repr := X.f_repr
    f_tuple := X.f_tuple
    q_MAX_NODES := X.q_MAX_NODES
    C_is_integer := (let ⟨f, fd, D, hm⟩ := X.d_is_integer; ⟨f, fd, fg_zero rfl, hm, D.kp, D.bindsN fun _ _ _ _ _ _ us hl => match us, hl with | [_], _ => rfl⟩)
    C_common_divisor := (let ⟨f, fd, D, hm⟩ := X.d_common_divisor; ⟨f, fd, fg_zero rfl, hm, D.kp, D.bindsN fun _ _ _ _ _ _ us hl => match us, hl with | [_, _], _ => rfl⟩)
    C_is_fraction := (let ⟨f, fd, D, hm⟩ := X.d_is_fraction; ⟨f, fd, fg_zero rfl, hm, D.kp, D.bindsN fun _ _ _ _ _ _ us hl => match us, hl with | [_], _ => rfl⟩)
    C_reduced := (let ⟨f, fd, D, hm⟩ := X.d_reduced; ⟨f, fd, fg_zero rfl, hm, D.kp, D.bindsN fun _ _ _ _ _ _ us hl => match us, hl with | [_, _], _ => rfl⟩)
    C_fraction := (let ⟨f, fd, D, hm⟩ := X.d_fraction; ⟨f, fd, fg_zero rfl, hm, D.kp, D.bindsN fun _ _ _ _ _ _ us hl => match us, hl with | [_, _], _ => rfl⟩)
    C_is_row := (let ⟨f, fd, D, hm⟩ := X.d_is_row; ⟨f, fd, fg_zero rfl, hm, D.kp, D.bindsN fun _ _ _ _ _ _ us hl => match us, hl with | [_, _], _ => rfl⟩)
    C_need_matrix := (let ⟨f, fd, D, hm⟩ := X.d_need_matrix; ⟨f, fd, fg_zero rfl, hm, D.kp, D.bindsN fun _ _ _ _ _ _ us hl => match us, hl with | [_], _ => rfl⟩)
    C_common_multiple := (let ⟨f, fd, D, hm⟩ := X.d_common_multiple; ⟨f, fd, fg_zero rfl, hm, D.kp, D.bindsN fun _ _ _ _ _ _ us hl => match us, hl with | [_, _], _ => rfl⟩)
    C_scaled_rows := (let ⟨f, fd, D, hm⟩ := X.d_scaled_rows; ⟨f, fd, fg_zero rfl, hm, D.kp, D.bindsN fun _ _ _ _ _ _ us hl => match us, hl with | [_], _ => rfl⟩)
    C_exchanged := (let ⟨f, fd, D, hm⟩ := X.d_exchanged; ⟨f, fd, fg_zero rfl, hm, D.kp, D.bindsN fun _ _ _ _ _ _ us hl => match us, hl with | [_, _, _], _ => rfl⟩)
    C_integer_sum := (let ⟨f, fd, D, hm⟩ := X.d_integer_sum; ⟨f, fd, fg_zero rfl, hm, D.kp, D.bindsN fun _ _ _ _ _ _ us hl => match us, hl with | [_], _ => rfl⟩)
    C_sum_of_rows := (let ⟨f, fd, D, hm⟩ := X.d_sum_of_rows; ⟨f, fd, fg_zero rfl, hm, D.kp, D.bindsN fun _ _ _ _ _ _ us hl => match us, hl with | [_], _ => rfl⟩)
    C_pair_sum := (let ⟨f, fd, D, hm⟩ := X.d_pair_sum; ⟨f, fd, fg_zero rfl, hm, D.kp, D.bindsN fun _ _ _ _ _ _ us hl => match us, hl with | [_], _ => rfl⟩)
    C__law_source := (let ⟨f, fd, D, hm⟩ := X.d__law_source; ⟨f, fd, fg_zero rfl, hm, D.kp, D.bindsN fun _ _ _ _ _ _ us hl => match us, hl with | [_, _], _ => rfl⟩)
    C__law_next := (let ⟨f, fd, D, hm⟩ := X.d__law_next; ⟨f, fd, fg_zero rfl, hm, D.kp, D.bindsN fun _ _ _ _ _ _ us hl => match us, hl with | [_, _], _ => rfl⟩)
    C__law_fraction := (let ⟨f, fd, D, hm⟩ := X.d__law_fraction; ⟨f, fd, fg_zero rfl, hm, D.kp, D.bindsN fun _ _ _ _ _ _ us hl => match us, hl with | [_, _], _ => rfl⟩)
    C__law_plus := (let ⟨f, fd, D, hm⟩ := X.d__law_plus; ⟨f, fd, fg_zero rfl, hm, D.kp, D.bindsN fun _ _ _ _ _ _ us hl => match us, hl with | [_, _], _ => rfl⟩)
    C__law_times := (let ⟨f, fd, D, hm⟩ := X.d__law_times; ⟨f, fd, fg_zero rfl, hm, D.kp, D.bindsN fun _ _ _ _ _ _ us hl => match us, hl with | [_, _], _ => rfl⟩)
    C__law_pair_sum := (let ⟨f, fd, D, hm⟩ := X.d__law_pair_sum; ⟨f, fd, fg_zero rfl, hm, D.kp, D.bindsN fun _ _ _ _ _ _ us hl => match us, hl with | [_, _], _ => rfl⟩)
    C__law_random_matrix := (let ⟨f, fd, D, hm⟩ := X.d__law_random_matrix; ⟨f, fd, fg_zero rfl, hm, D.kp, D.bindsN fun _ _ _ _ _ _ us hl => match us, hl with | [_, _, _], _ => rfl⟩)
    C__law_limit_right := (let ⟨f, fd, D, hm⟩ := X.d__law_limit_right; ⟨f, fd, fg_zero rfl, hm, D.kp, D.bindsN fun _ _ _ _ _ _ us hl => match us, hl with | [], _ => rfl⟩)
    C_law := (let ⟨f, fd, D, hm⟩ := X.d_law; ⟨f, fd, fg_zero rfl, hm, D.kp, D.bindsN fun _ _ _ _ _ _ us hl => match us, hl with | [_], _ => rfl⟩) }
  | n + 1 => {
    e_BadMatrix := X.e_BadMatrix
    l_BadMatrix := (by rw [hZ])
    m_BadMatrix := X.m_BadMatrix
    f_abs := X.f_abs
    f_all := X.f_all
    f_bool := X.f_bool
    f_int := X.f_int
    f_isinstance := X.f_isinstance
    f_len := X.f_len
    f_list := X.f_list
    f_max := X.f_max
    f_min := X.f_min
    f_range := X.f_range
    f_repr := X.f_repr
    f_tuple := X.f_tuple
    q_MAX_NODES := X.q_MAX_NODES
    C_is_integer := cal_of (N := [("value" : Str)]) (F := c_is_integer) rfl rfl rfl ⟨rfl, rfl, rfl, by decide +kernel, rfl, by decide +kernel, by decide +kernel⟩ X.d_is_integer (fun f fd D => D.bindsN fun _ _ _ _ _ _ us hl => match us, hl with | [_], _ => rfl) (fun _ _ _ _ _ _ _ hr hg => bd_is_integer hK (ev_all hK hZ X n) hr hg)
    C_common_divisor := cal_of (N := [("a" : Str), ("b" : Str)]) (F := c_common_divisor) rfl rfl rfl ⟨rfl, rfl, rfl, by decide +kernel, rfl, by decide +kernel, by decide +kernel⟩ X.d_common_divisor (fun f fd D => D.bindsN fun _ _ _ _ _ _ us hl => match us, hl with | [_, _], _ => rfl) (fun _ _ _ _ _ _ _ hr hg => bd_common_divisor hK (ev_all hK hZ X n) hr hg)
    C_is_fraction := cal_of (N := [("value" : Str), ("item" : Str)]) (F := c_is_fraction) rfl rfl rfl ⟨rfl, rfl, rfl, by decide +kernel, rfl, by decide +kernel, by decide +kernel⟩ X.d_is_fraction (fun f fd D => D.bindsN fun _ _ _ _ _ _ us hl => match us, hl with | [_], _ => rfl) (fun _ _ _ _ _ _ _ hr hg => bd_is_fraction hK (ev_all hK hZ X n) hr hg)
    C_reduced := cal_of (N := [("numerator" : Str), ("denominator" : Str), ("divisor" : Str)]) (F := c_reduced) rfl rfl rfl ⟨rfl, rfl, rfl, by decide +kernel, rfl, by decide +kernel, by decide +kernel⟩ X.d_reduced (fun f fd D => D.bindsN fun _ _ _ _ _ _ us hl => match us, hl with | [_, _], _ => rfl) (fun _ _ _ _ _ _ _ hr hg => bd_reduced hK (ev_all hK hZ X n) hr hg)
    C_fraction := cal_of (N := [("numerator" : Str), ("denominator" : Str)]) (F := c_fraction) rfl rfl rfl ⟨rfl, rfl, rfl, by decide +kernel, rfl, by decide +kernel, by decide +kernel⟩ X.d_fraction (fun f fd D => D.bindsN fun _ _ _ _ _ _ us hl => match us, hl with | [_, _], _ => rfl) (fun _ _ _ _ _ _ _ hr hg => bd_fraction hK (ev_all hK hZ X n) hr hg)
    C_is_row := cal_of (N := [("row" : Str), ("size" : Str), ("entry" : Str)]) (F := c_is_row) rfl rfl rfl ⟨rfl, rfl, rfl, by decide +kernel, rfl, by decide +kernel, by decide +kernel⟩ X.d_is_row (fun f fd D => D.bindsN fun _ _ _ _ _ _ us hl => match us, hl with | [_, _], _ => rfl) (fun _ _ _ _ _ _ _ hr hg => bd_is_row hK (ev_all hK hZ X n) hr hg)
    C_need_matrix := cal_of (N := [("matrix" : Str), ("size" : Str), ("row" : Str), ("u" : Str), ("v" : Str)]) (F := c_need_matrix) rfl rfl rfl ⟨rfl, rfl, rfl, by decide +kernel, rfl, by decide +kernel, by decide +kernel⟩ X.d_need_matrix (fun f fd D => D.bindsN fun _ _ _ _ _ _ us hl => match us, hl with | [_], _ => rfl) (fun _ _ _ _ _ _ _ hr hg => bd_need_matrix hK (ev_all hK hZ X n) hr hg)
    C_common_multiple := cal_of (N := [("one" : Str), ("other" : Str), ("a" : Str), ("b" : Str)]) (F := c_common_multiple) rfl rfl rfl ⟨rfl, rfl, rfl, by decide +kernel, rfl, by decide +kernel, by decide +kernel⟩ X.d_common_multiple (fun f fd D => D.bindsN fun _ _ _ _ _ _ us hl => match us, hl with | [_, _], _ => rfl) (fun _ _ _ _ _ _ _ hr hg => bd_common_multiple hK (ev_all hK hZ X n) hr hg)
    C_scaled_rows := cal_of (N := [("rows" : Str), ("multiple" : Str), ("row" : Str), ("entry" : Str)]) (F := c_scaled_rows) rfl rfl rfl ⟨rfl, rfl, rfl, by decide +kernel, rfl, by decide +kernel, by decide +kernel⟩ X.d_scaled_rows (fun f fd D => D.bindsN fun _ _ _ _ _ _ us hl => match us, hl with | [_], _ => rfl) (fun _ _ _ _ _ _ _ hr hg => bd_scaled_rows hK (ev_all hK hZ X n) hr hg)
    C_exchanged := cal_of (N := [("rows" : Str), ("one" : Str), ("other" : Str), ("row" : Str)]) (F := c_exchanged) rfl rfl rfl ⟨rfl, rfl, rfl, by decide +kernel, rfl, by decide +kernel, by decide +kernel⟩ X.d_exchanged (fun f fd D => D.bindsN fun _ _ _ _ _ _ us hl => match us, hl with | [_, _, _], _ => rfl) (fun _ _ _ _ _ _ _ hr hg => bd_exchanged hK (ev_all hK hZ X n) hr hg)
    C_integer_sum := cal_of (N := [("rows" : Str), ("sign" : Str), ("divisor" : Str), ("places" : Str), ("place" : Str), ("first" : Str), ("second" : Str), ("v" : Str), ("u" : Str)]) (F := c_integer_sum) rfl rfl rfl ⟨rfl, rfl, rfl, by decide +kernel, rfl, by decide +kernel, by decide +kernel⟩ X.d_integer_sum (fun f fd D => D.bindsN fun _ _ _ _ _ _ us hl => match us, hl with | [_], _ => rfl) (fun _ _ _ _ _ _ _ hr hg => bd_integer_sum hK (ev_all hK hZ X n) hr hg)
    C_sum_of_rows := cal_of (N := [("rows" : Str), ("integers" : Str), ("multiple" : Str), ("below" : Str), ("turn" : Str)]) (F := c_sum_of_rows) rfl rfl rfl ⟨rfl, rfl, rfl, by decide +kernel, rfl, by decide +kernel, by decide +kernel⟩ X.d_sum_of_rows (fun f fd D => D.bindsN fun _ _ _ _ _ _ us hl => match us, hl with | [_], _ => rfl) (fun _ _ _ _ _ _ _ hr hg => bd_sum_of_rows hK (ev_all hK hZ X n) hr hg)
    C_pair_sum := cal_of (N := [("matrix" : Str), ("row" : Str)]) (F := c_pair_sum) rfl rfl rfl ⟨rfl, rfl, rfl, by decide +kernel, rfl, by decide +kernel, by decide +kernel⟩ X.d_pair_sum (fun f fd D => D.bindsN fun _ _ _ _ _ _ us hl => match us, hl with | [_], _ => rfl) (fun _ _ _ _ _ _ _ hr hg => bd_pair_sum hK (ev_all hK hZ X n) hr hg)
    C__law_source := cal_of (N := [("_law_script" : Str), ("_law_k" : Str), ("_law_cell" : Str)]) (F := c__law_source) rfl rfl rfl ⟨rfl, rfl, rfl, by decide +kernel, rfl, by decide +kernel, by decide +kernel⟩ X.d__law_source (fun f fd D => D.bindsN fun _ _ _ _ _ _ us hl => match us, hl with | [_, _], _ => rfl) (fun _ _ _ _ _ _ _ hr hg => bd__law_source hK (ev_all hK hZ X n) hr hg)
    C__law_next := cal_of (N := [("_law_source_here" : Str), ("_law_many" : Str), ("_law_found" : Str), ("_law_primes" : Str), ("_law_prime" : Str)]) (F := c__law_next) rfl rfl rfl ⟨rfl, rfl, rfl, by decide +kernel, rfl, by decide +kernel, by decide +kernel⟩ X.d__law_next (fun f fd D => D.bindsN fun _ _ _ _ _ _ us hl => match us, hl with | [_, _], _ => rfl) (fun _ _ _ _ _ _ _ hr hg => bd__law_next hK (ev_all hK hZ X n) hr hg)
    C__law_fraction := cal_of (N := [("_law_above" : Str), ("_law_below" : Str), ("_law_one" : Str), ("_law_other" : Str)]) (F := c__law_fraction) rfl rfl rfl ⟨rfl, rfl, rfl, by decide +kernel, rfl, by decide +kernel, by decide +kernel⟩ X.d__law_fraction (fun f fd D => D.bindsN fun _ _ _ _ _ _ us hl => match us, hl with | [_, _], _ => rfl) (fun _ _ _ _ _ _ _ hr hg => bd__law_fraction hK (ev_all hK hZ X n) hr hg)
    C__law_plus := cal_of (N := [("_law_one" : Str), ("_law_other" : Str)]) (F := c__law_plus) rfl rfl rfl ⟨rfl, rfl, rfl, by decide +kernel, rfl, by decide +kernel, by decide +kernel⟩ X.d__law_plus (fun f fd D => D.bindsN fun _ _ _ _ _ _ us hl => match us, hl with | [_, _], _ => rfl) (fun _ _ _ _ _ _ _ hr hg => bd__law_plus hK (ev_all hK hZ X n) hr hg)
    C__law_times := cal_of (N := [("_law_one" : Str), ("_law_other" : Str)]) (F := c__law_times) rfl rfl rfl ⟨rfl, rfl, rfl, by decide +kernel, rfl, by decide +kernel, by decide +kernel⟩ X.d__law_times (fun f fd D => D.bindsN fun _ _ _ _ _ _ us hl => match us, hl with | [_, _], _ => rfl) (fun _ _ _ _ _ _ _ hr hg => bd__law_times hK (ev_all hK hZ X n) hr hg)
    C__law_pair_sum := cal_of (N := [("_law_rows" : Str), ("_law_kept" : Str), ("_law_found" : Str), ("_law_k" : Str), ("_law_entry" : Str), ("_law_part" : Str)]) (F := c__law_pair_sum) rfl rfl rfl ⟨rfl, rfl, rfl, by decide +kernel, rfl, by decide +kernel, by decide +kernel⟩ X.d__law_pair_sum (fun f fd D => D.bindsN fun _ _ _ _ _ _ us hl => match us, hl with | [_, _], _ => rfl) (fun _ _ _ _ _ _ _ hr hg => bd__law_pair_sum hK (ev_all hK hZ X n) hr hg)
    C__law_random_matrix := cal_of (N := [("_law_source_here" : Str), ("_law_size" : Str), ("_law_above" : Str), ("_law_rows" : Str), ("_law_v" : Str), ("_law_u" : Str), ("_law_number" : Str), ("_law_entry" : Str), ("_law_row" : Str)]) (F := c__law_random_matrix) rfl rfl rfl ⟨rfl, rfl, rfl, by decide +kernel, rfl, by decide +kernel, by decide +kernel⟩ X.d__law_random_matrix (fun f fd D => D.bindsN fun _ _ _ _ _ _ us hl => match us, hl with | [_, _, _], _ => rfl) (fun _ _ _ _ _ _ _ hr hg => bd__law_random_matrix hK (ev_all hK hZ X n) hr hg)
    C__law_limit_right := cal_of (N := [("_law_found" : Str), ("error" : Str)]) (F := c__law_limit_right) rfl rfl rfl ⟨rfl, rfl, rfl, by decide +kernel, rfl, by decide +kernel, by decide +kernel⟩ X.d__law_limit_right (fun f fd D => D.bindsN fun _ _ _ _ _ _ us hl => match us, hl with | [], _ => rfl) (fun _ _ _ _ _ _ _ hr hg => bd__law_limit_right hK (ev_all hK hZ X n) hr hg)
    C_law := cal_of (N := [("_law_script" : Str), ("_law_k" : Str), ("_law_source_here" : Str), ("_law_above" : Str), ("_law_size" : Str), ("_law_matrix" : Str)]) (F := c_law) rfl rfl rfl ⟨rfl, rfl, rfl, by decide +kernel, rfl, by decide +kernel, by decide +kernel⟩ X.d_law (fun f fd D => D.bindsN fun _ _ _ _ _ _ us hl => match us, hl with | [_], _ => rfl) (fun _ _ _ _ _ _ _ hr hg => bd_law hK (ev_all hK hZ X n) hr hg) }
def dd (n : Str) (i : Nat) : He.DefD := ⟨(n, none), n, n, defArgs (top i), defBody (top i), defScope (top i), [], []⟩
def fnL : List He.DefD := ([dd "is_integer" 6, dd "common_divisor" 7, dd "is_fraction" 8, dd "reduced" 9, dd "fraction" 10, dd "is_row" 12, dd "need_matrix" 13, dd "common_multiple" 14, dd "scaled_rows" 15, dd "exchanged" 16, dd "integer_sum" 17, dd "sum_of_rows" 18, dd "pair_sum" 19, dd "_law_source" 21, dd "_law_next" 22, dd "_law_fraction" 23, dd "_law_plus" 24, dd "_law_times" 25, dd "_law_pair_sum" 26, dd "_law_random_matrix" 27, dd "_law_limit_right" 28, dd "law" 29] : List He.DefD)
def faL : List He.Fa := ([.glo "is_integer", .glo "common_divisor", .glo "is_fraction", .glo "reduced", .glo "fraction", .glo "is_row", .glo "need_matrix", .glo "common_multiple", .glo "scaled_rows", .glo "exchanged", .glo "integer_sum", .glo "sum_of_rows", .glo "pair_sum", .glo "_law_source", .glo "_law_next", .glo "_law_fraction", .glo "_law_plus", .glo "_law_times", .glo "_law_pair_sum", .glo "_law_random_matrix", .glo "_law_limit_right", .glo "law", .free "abs", .free "all", .free "bool", .free "int", .free "isinstance", .free "len", .free "list", .free "max", .free "min", .free "range", .free "repr", .free "tuple", .int "MAX_NODES" 60, .glo "BadMatrix", .exc "BadMatrix", .exm "BadMatrix" "BadMatrix" true] : List He.Fa)
def caK (K : PySem.W.Frag) : Nat → Addr
  | 0 => He.ga K "BadMatrix"
  | _ => He.ga K "BadMatrix"
theorem wf_of {w : World} {K : PySem.W.Frag} {h : Heap} {mg : Str → Option Value} (X : K.In h) (G : h.Ns mainGlobals mg) (c : He.SaysD faL fnL K) : Wf w K mg (caK K) := {
  z_ := (fun _ => rfl)
  e_BadMatrix := (let q := He.exc_ok (c.fact 36 (f := .exc "BadMatrix") rfl); ⟨He.glo_ok X G (c.fact 35 (f := .glo "BadMatrix") rfl), q.1, q.2.1, q.2.2.1, q.2.2.2⟩)
  m_BadMatrix := (fun cc => match cc with | 0 => He.exm_ok (c.fact 37 (f := .exm "BadMatrix" "BadMatrix" true) rfl) | _ + 1 => He.exm_ok (c.fact 37 (f := .exm "BadMatrix" "BadMatrix" true) rfl))
  f_abs := He.free_ok X G (c.fact 22 (f := .free "abs") rfl)
  f_all := He.free_ok X G (c.fact 23 (f := .free "all") rfl)
  f_bool := He.free_ok X G (c.fact 24 (f := .free "bool") rfl)
  f_int := He.free_ok X G (c.fact 25 (f := .free "int") rfl)
  f_isinstance := He.free_ok X G (c.fact 26 (f := .free "isinstance") rfl)
  f_len := He.free_ok X G (c.fact 27 (f := .free "len") rfl)
  f_list := He.free_ok X G (c.fact 28 (f := .free "list") rfl)
  f_max := He.free_ok X G (c.fact 29 (f := .free "max") rfl)
  f_min := He.free_ok X G (c.fact 30 (f := .free "min") rfl)
  f_range := He.free_ok X G (c.fact 31 (f := .free "range") rfl)
  f_repr := He.free_ok X G (c.fact 32 (f := .free "repr") rfl)
  f_tuple := He.free_ok X G (c.fact 33 (f := .free "tuple") rfl)
  q_MAX_NODES := He.int_ok X G (c.fact 34 (f := .int "MAX_NODES" 60) rfl)
  d_is_integer := (let ⟨fd, F⟩ := c.def_ 0 (d := dd "is_integer" 6) rfl; ⟨_, fd, F, He.glo_ok X G (c.fact 0 (f := .glo "is_integer") rfl)⟩)
  d_common_divisor := (let ⟨fd, F⟩ := c.def_ 1 (d := dd "common_divisor" 7) rfl; ⟨_, fd, F, He.glo_ok X G (c.fact 1 (f := .glo "common_divisor") rfl)⟩)
  d_is_fraction := (let ⟨fd, F⟩ := c.def_ 2 (d := dd "is_fraction" 8) rfl; ⟨_, fd, F, He.glo_ok X G (c.fact 2 (f := .glo "is_fraction") rfl)⟩)
  d_reduced := (let ⟨fd, F⟩ := c.def_ 3 (d := dd "reduced" 9) rfl; ⟨_, fd, F, He.glo_ok X G (c.fact 3 (f := .glo "reduced") rfl)⟩)
  d_fraction := (let ⟨fd, F⟩ := c.def_ 4 (d := dd "fraction" 10) rfl; ⟨_, fd, F, He.glo_ok X G (c.fact 4 (f := .glo "fraction") rfl)⟩)
  d_is_row := (let ⟨fd, F⟩ := c.def_ 5 (d := dd "is_row" 12) rfl; ⟨_, fd, F, He.glo_ok X G (c.fact 5 (f := .glo "is_row") rfl)⟩)
  d_need_matrix := (let ⟨fd, F⟩ := c.def_ 6 (d := dd "need_matrix" 13) rfl; ⟨_, fd, F, He.glo_ok X G (c.fact 6 (f := .glo "need_matrix") rfl)⟩)
  d_common_multiple := (let ⟨fd, F⟩ := c.def_ 7 (d := dd "common_multiple" 14) rfl; ⟨_, fd, F, He.glo_ok X G (c.fact 7 (f := .glo "common_multiple") rfl)⟩)
  d_scaled_rows := (let ⟨fd, F⟩ := c.def_ 8 (d := dd "scaled_rows" 15) rfl; ⟨_, fd, F, He.glo_ok X G (c.fact 8 (f := .glo "scaled_rows") rfl)⟩)
  d_exchanged := (let ⟨fd, F⟩ := c.def_ 9 (d := dd "exchanged" 16) rfl; ⟨_, fd, F, He.glo_ok X G (c.fact 9 (f := .glo "exchanged") rfl)⟩)
  d_integer_sum := (let ⟨fd, F⟩ := c.def_ 10 (d := dd "integer_sum" 17) rfl; ⟨_, fd, F, He.glo_ok X G (c.fact 10 (f := .glo "integer_sum") rfl)⟩)
  d_sum_of_rows := (let ⟨fd, F⟩ := c.def_ 11 (d := dd "sum_of_rows" 18) rfl; ⟨_, fd, F, He.glo_ok X G (c.fact 11 (f := .glo "sum_of_rows") rfl)⟩)
  d_pair_sum := (let ⟨fd, F⟩ := c.def_ 12 (d := dd "pair_sum" 19) rfl; ⟨_, fd, F, He.glo_ok X G (c.fact 12 (f := .glo "pair_sum") rfl)⟩)
  d__law_source := (let ⟨fd, F⟩ := c.def_ 13 (d := dd "_law_source" 21) rfl; ⟨_, fd, F, He.glo_ok X G (c.fact 13 (f := .glo "_law_source") rfl)⟩)
  d__law_next := (let ⟨fd, F⟩ := c.def_ 14 (d := dd "_law_next" 22) rfl; ⟨_, fd, F, He.glo_ok X G (c.fact 14 (f := .glo "_law_next") rfl)⟩)
  d__law_fraction := (let ⟨fd, F⟩ := c.def_ 15 (d := dd "_law_fraction" 23) rfl; ⟨_, fd, F, He.glo_ok X G (c.fact 15 (f := .glo "_law_fraction") rfl)⟩)
  d__law_plus := (let ⟨fd, F⟩ := c.def_ 16 (d := dd "_law_plus" 24) rfl; ⟨_, fd, F, He.glo_ok X G (c.fact 16 (f := .glo "_law_plus") rfl)⟩)
  d__law_times := (let ⟨fd, F⟩ := c.def_ 17 (d := dd "_law_times" 25) rfl; ⟨_, fd, F, He.glo_ok X G (c.fact 17 (f := .glo "_law_times") rfl)⟩)
  d__law_pair_sum := (let ⟨fd, F⟩ := c.def_ 18 (d := dd "_law_pair_sum" 26) rfl; ⟨_, fd, F, He.glo_ok X G (c.fact 18 (f := .glo "_law_pair_sum") rfl)⟩)
  d__law_random_matrix := (let ⟨fd, F⟩ := c.def_ 19 (d := dd "_law_random_matrix" 27) rfl; ⟨_, fd, F, He.glo_ok X G (c.fact 19 (f := .glo "_law_random_matrix") rfl)⟩)
  d__law_limit_right := (let ⟨fd, F⟩ := c.def_ 20 (d := dd "_law_limit_right" 28) rfl; ⟨_, fd, F, He.glo_ok X G (c.fact 20 (f := .glo "_law_limit_right") rfl)⟩)
  d_law := (let ⟨fd, F⟩ := c.def_ 21 (d := dd "law" 29) rfl; ⟨_, fd, F, He.glo_ok X G (c.fact 21 (f := .glo "law") rfl)⟩) }
end Fs
namespace Fs
open PySem PySem.Spec PyProof.Rows L2
abbrev hdR : PySem.W.OpenRow := PySem.W.OpenLaw.row PySem.Challenge.rw_flatsum_k23_pair_sums_by_their_definitio
abbrev hdH : PySem.W.Hook := He.hookD 4 faL fnL
def hdO (s : PySem.W.SharedT) : He.AlD := He.obsDG 4 faL fnL (HandSHeadRun.getT s)
theorem hdE (s : PySem.W.SharedT) : hdO s = hdH.obs s.abs := He.obsDG_eq (HandSHeadRun.getT_eq s)
def hdL : List Str := ([("__name__" : Str), ("InvalidValue" : Str), ("BadFraction" : Str), ("BadMatrix" : Str), ("MAX_NODES" : Str), ("is_integer" : Str), ("common_divisor" : Str), ("is_fraction" : Str), ("reduced" : Str), ("fraction" : Str), ("is_row" : Str), ("need_matrix" : Str), ("common_multiple" : Str), ("scaled_rows" : Str), ("exchanged" : Str), ("integer_sum" : Str), ("sum_of_rows" : Str), ("pair_sum" : Str), ("_law_source" : Str), ("_law_next" : Str), ("_law_fraction" : Str), ("_law_plus" : Str), ("_law_times" : Str), ("_law_pair_sum" : Str), ("_law_random_matrix" : Str), ("_law_limit_right" : Str)] : List Str)
theorem hd_run (w : World) : HandSHeadRun.RunEq hdR (PySem.W.view hdR.prog [29]) hdH hdO 2500 hdL w := by
  intro os
  kernel_rfl
theorem Wf.del {w : World} {K : PySem.W.Frag} {mg : Str → Option Value} {a : Addr} {ca : Nat → Addr} (hL : LstAt K a) (X : Wf w K mg ca) : Wf w (kdel K a) mg ca := {
  z_ := X.z_
  e_BadMatrix := ExF.del hL X.e_BadMatrix
  m_BadMatrix := (fun c => match c with | 0 => exm_del hL X.e_BadMatrix X.e_BadMatrix (X.m_BadMatrix 0) | c + 1 => (by have h := exm_del hL X.e_BadMatrix X.e_BadMatrix (X.m_BadMatrix 0); rw [X.z_ c]; exact h))
  f_abs := X.f_abs
  f_all := X.f_all
  f_bool := X.f_bool
  f_int := X.f_int
  f_isinstance := X.f_isinstance
  f_len := X.f_len
  f_list := X.f_list
  f_max := X.f_max
  f_min := X.f_min
  f_range := X.f_range
  f_repr := X.f_repr
  f_tuple := X.f_tuple
  q_MAX_NODES := X.q_MAX_NODES
  d_is_integer := (let ⟨f, fd, D, hm⟩ := X.d_is_integer; ⟨f, fd, FunD.del hL D, hm⟩)
  d_common_divisor := (let ⟨f, fd, D, hm⟩ := X.d_common_divisor; ⟨f, fd, FunD.del hL D, hm⟩)
  d_is_fraction := (let ⟨f, fd, D, hm⟩ := X.d_is_fraction; ⟨f, fd, FunD.del hL D, hm⟩)
  d_reduced := (let ⟨f, fd, D, hm⟩ := X.d_reduced; ⟨f, fd, FunD.del hL D, hm⟩)
  d_fraction := (let ⟨f, fd, D, hm⟩ := X.d_fraction; ⟨f, fd, FunD.del hL D, hm⟩)
  d_is_row := (let ⟨f, fd, D, hm⟩ := X.d_is_row; ⟨f, fd, FunD.del hL D, hm⟩)
  d_need_matrix := (let ⟨f, fd, D, hm⟩ := X.d_need_matrix; ⟨f, fd, FunD.del hL D, hm⟩)
  d_common_multiple := (let ⟨f, fd, D, hm⟩ := X.d_common_multiple; ⟨f, fd, FunD.del hL D, hm⟩)
  d_scaled_rows := (let ⟨f, fd, D, hm⟩ := X.d_scaled_rows; ⟨f, fd, FunD.del hL D, hm⟩)
  d_exchanged := (let ⟨f, fd, D, hm⟩ := X.d_exchanged; ⟨f, fd, FunD.del hL D, hm⟩)
  d_integer_sum := (let ⟨f, fd, D, hm⟩ := X.d_integer_sum; ⟨f, fd, FunD.del hL D, hm⟩)
  d_sum_of_rows := (let ⟨f, fd, D, hm⟩ := X.d_sum_of_rows; ⟨f, fd, FunD.del hL D, hm⟩)
  d_pair_sum := (let ⟨f, fd, D, hm⟩ := X.d_pair_sum; ⟨f, fd, FunD.del hL D, hm⟩)
  d__law_source := (let ⟨f, fd, D, hm⟩ := X.d__law_source; ⟨f, fd, FunD.del hL D, hm⟩)
  d__law_next := (let ⟨f, fd, D, hm⟩ := X.d__law_next; ⟨f, fd, FunD.del hL D, hm⟩)
  d__law_fraction := (let ⟨f, fd, D, hm⟩ := X.d__law_fraction; ⟨f, fd, FunD.del hL D, hm⟩)
  d__law_plus := (let ⟨f, fd, D, hm⟩ := X.d__law_plus; ⟨f, fd, FunD.del hL D, hm⟩)
  d__law_times := (let ⟨f, fd, D, hm⟩ := X.d__law_times; ⟨f, fd, FunD.del hL D, hm⟩)
  d__law_pair_sum := (let ⟨f, fd, D, hm⟩ := X.d__law_pair_sum; ⟨f, fd, FunD.del hL D, hm⟩)
  d__law_random_matrix := (let ⟨f, fd, D, hm⟩ := X.d__law_random_matrix; ⟨f, fd, FunD.del hL D, hm⟩)
  d__law_limit_right := (let ⟨f, fd, D, hm⟩ := X.d__law_limit_right; ⟨f, fd, FunD.del hL D, hm⟩)
  d_law := (let ⟨f, fd, D, hm⟩ := X.d_law; ⟨f, fd, FunD.del hL D, hm⟩) }
theorem law_facts {w : World} {K : PySem.W.Frag} {mg : Str → Option Value} {fa a : Addr} {ca : Nat → Addr} (X : Wf w K mg ca) (hfa : mg ("law" : Str) = some (.ref fa)) (hL : LstAt K a) :
    ∃ (fd : FuncData) (sp : Sp), (∀ (s : Shared) (u : Value), BindsTo s fd ⟨[u], []⟩ [("_law_script", u)]) ∧
      (∀ (J : Hp) (ns : List Int), ns.length ≤ 63 → Only J → SqL (kdel K a) J a (ns.map V.int) → sp [.ref a] J (fun v _ => v = .bl true) fun _ _ _ => False) ∧
      ∀ base : Heap, (kdel K a).In base → base.Ns mainGlobals mg → FgOk pw w (kdel K a) mg base 13 fa fd ["_law_script"] sp := by
  have X2 := X.del hL
  obtain ⟨f, fd, FD, hm⟩ := X2.d_law
  have hff : f = fa := by
    have e := hfa.symm.trans hm
    cases e; rfl
  subst hff
  have hb := FunD.bindsA (ps := ["_law_script"]) FD fun _ _ _ _ _ _ us hl => match us, hl with | [_], _ => rfl
  refine ⟨fd, spI ⟨kdel K a, ca, fldF⟩ (call P 13 F.law) 1, fun s u => hb s [u] rfl, ?_, ?_⟩
  · intro J ns hl hO hS
    refine sp_start hO (by rw [kdel_at, if_pos rfl]) hS ?_
    obtain ⟨d, s', he, rfl, _⟩ := wp_run (k_law hl)
    exact ⟨s', he⟩
  · intro base _ _
    have E := ev_all (base := base) (Z := ⟨kdel K a, ca, fldF⟩) rfl rfl X2 12
    obtain ⟨oc, od, dV, kV, doc, pm, an, cdv, ct, osl, e, lk, hc, _⟩ := FD.ex
    subst e
    exact fg_of lk hc (N := [("_law_script" : Str), ("_law_k" : Str), ("_law_source_here" : Str), ("_law_above" : Str), ("_law_size" : Str), ("_law_matrix" : Str)]) ⟨rfl, rfl, rfl, by decide +kernel, rfl, by decide +kernel, by decide +kernel⟩ (fun vs H Q E ⟨hl, _⟩ => hl) fun A outer s H vs Q E2 hr hg h => ⟨_, bd_law rfl E hr hg, enter_ok (F := c_law) rfl rfl h⟩
end Fs
open PySem PySem.W PySem.Calls PyProof.Rows
theorem PySem.Challenge.cw_flatsum_k23_pair_sums_by_their_definitio_holds : PySem.Challenge.rw_flatsum_k23_pair_sums_by_their_definitio.Holds := by
  w_on; o_law
  refine HandSHeadRun.head_any (r := OpenLaw.row PySem.Challenge.rw_flatsum_k23_pair_sums_by_their_definitio) (q := view (OpenLaw.row PySem.Challenge.rw_flatsum_k23_pair_sums_by_their_definitio).prog [29]) (H := Fs.hdH) (ob := Fs.hdO) (M := 2500) (loose := Fs.hdL) (d := HandSHeadRun.topDef (OpenLaw.row PySem.Challenge.rw_flatsum_k23_pair_sums_by_their_definitio).prog 29) (kwd := []) Fs.hdE
    (by kernel_rfl) (fun s => by kernel_rfl) Fs.hd_run (by kernel_rfl) (by kernel_rfl) (by kernel_rfl) (by rfl) (by first | assumption | decide +kernel) (by decide +kernel) ⟨rfl, rfl, rfl, rfl, rfl, by decide +kernel⟩ ?hw ?hc
  case hw => w_witness2
  case hc =>
    refine Fs.walk_h (l := PySem.Challenge.rw_flatsum_k23_pair_sums_by_their_definitio) (n := 63) (k := 13) (x := "_law_script") rfl (by decide) (by kernel_rfl) ⟨rfl, by decide, by decide⟩ ?F
    intro w mg fa h a vs Y G hmg0 hobj
    obtain ⟨K, KX, c⟩ := Y
    have hmg : mg ("law" : PySem.Str) = some (.ref fa) := by
      have e : (HandSHeadRun.topDef (OpenLaw.row PySem.Challenge.rw_flatsum_k23_pair_sums_by_their_definitio).prog 29).name = ("law" : PySem.Str) := by kernel_rfl
      rw [← e]
      exact hmg0
    have hL : Fs.LstAt K a := fun o e => by
      have e2 := KX a o e
      rw [hobj] at e2
      cases e2
      exact ⟨_, _, rfl⟩
    obtain ⟨fd, sp, h1, h2, h3⟩ := Fs.law_facts (w := w) (Fs.wf_of KX G c) hmg hL
    exact ⟨Fs.kdel K a, fd, sp, Fs.kdel_in KX, h1, h2, h3⟩
