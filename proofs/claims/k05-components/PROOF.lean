import PyProof.Rows.All
import Wide.All
import OpenK.AllK
import Wide.FinOn
import KE.KStateDown
import Lean
import PySem.Challenge.RW_flatsum_k05_components
import PyProof.ReprReads
import HandS.Base
import HandS.List
import HandS.Call
import HandS.Exc
import HandS.Wide
import HandS.TupAny
import HandS.TupMul
import HandS.Style
import HandS.Deep
import HandS.Iter
import HandS.Comp
import HandS.Dict
import HandS.Small
import HandS.Flow
import HandS.TupSets
import HandS.SortOrd
import HandS.SetFor
import HandS.Set
import HandS.TupLen
import HandS.IsInst
import HandS.Text
import HandS.SortInts
import HandS.Conv
import HandS.WordsDict
import PyProof.ReprRoads
import PyProof.Rows.NestShow
import PyProof.FactsAll.list_3
import PyProof.FactsAll.dict_3
import KE.GoesEnum
import HandS.DictComp
import HandS.HeadEnd
import HandS.Defaults
import HandS.Head0
import HandS.Head1
import HandS.Head2
import HandS.HeadHook1
import HandS.HeadHook2
set_option Elab.async false
set_option linter.all false
set_option maxRecDepth 100000
set_option maxHeartbeats 0
/-! The little language: deep values, a store of cells, an evaluator. -/
namespace Fs
open PySem

/-- a key: one int or text, or a tuple of such -/
inductive Ky where
  | k (a : L2.Key) | t (as : List L2.Key)
  deriving DecidableEq

/-- deep values; lst, dic, set as a value: fresh and unshared; in the store: the cell's content -/
inductive D where
  | non | bl (b : Bool) | int (i : Int) | str (s : Str)
  | tup (xs : List D)
  | ref (l : Nat)
  | lst (xs : List D)
  | frl (xs : List D)
  | dic (kvs : List (Ky × D))
  | set (xs : List Int)
  | exc (c : Nat) (fs : List D)
  | lam (f : Nat) (cs : List D)
  deriving Inhabited

abbrev Env := List (Option D)
abbrev Sto := List D

mutual
def D.eqb : D → D → Bool
  | .non, .non => true
  | .bl a, .bl b => a == b
  | .int a, .int b => decide (a = b)
  | .str a, .str b => decide (a = b)
  | .tup xs, .tup ys => D.eqbs xs ys
  | .ref a, .ref b => decide (a = b)
  | .lst xs, .lst ys => D.eqbs xs ys
  | .frl xs, .frl ys => D.eqbs xs ys
  | .dic xs, .dic ys => D.eqbk xs ys
  | .set xs, .set ys => decide (xs = ys)
  | .exc c xs, .exc d ys => decide (c = d) && D.eqbs xs ys
  | .lam a xs, .lam b ys => decide (a = b) && D.eqbs xs ys
  | _, _ => false
def D.eqbs : List D → List D → Bool
  | [], [] => true
  | x :: xs, y :: ys => D.eqb x y && D.eqbs xs ys
  | _, _ => false
def D.eqbk : List (Ky × D) → List (Ky × D) → Bool
  | [], [] => true
  | (k, x) :: xs, (j, y) :: ys => decide (k = j) && (D.eqb x y && D.eqbk xs ys)
  | _, _ => false
end
mutual
theorem D.eqb_of : ∀ {a b : D}, D.eqb a b = true → a = b := by
  intro a b h
  cases a <;> cases b <;> simp only [D.eqb, Bool.and_eq_true, decide_eq_true_eq, beq_iff_eq, reduceCtorEq, Bool.false_eq_true] at h <;> first
    | rfl
    | exact congrArg _ h
    | exact congrArg _ (D.eqbs_of h)
    | exact congrArg _ (D.eqbk_of h)
    | (obtain ⟨h1, h2⟩ := h; rw [h1, D.eqbs_of h2])
theorem D.eqbs_of : ∀ {a b : List D}, D.eqbs a b = true → a = b := by
  intro a b h
  cases a <;> cases b <;> simp only [D.eqbs, Bool.and_eq_true, reduceCtorEq, Bool.false_eq_true] at h
  · rfl
  · rw [D.eqb_of h.1, D.eqbs_of h.2]
theorem D.eqbk_of : ∀ {a b : List (Ky × D)}, D.eqbk a b = true → a = b := by
  intro a b h
  cases a with
  | nil => cases b with
    | nil => rfl
    | cons q _ => obtain ⟨_, _⟩ := q; simp [D.eqbk] at h
  | cons p r => cases b with
    | nil => obtain ⟨_, _⟩ := p; simp [D.eqbk] at h
    | cons q s =>
      obtain ⟨k, x⟩ := p
      obtain ⟨j, y⟩ := q
      simp only [D.eqbk, Bool.and_eq_true, decide_eq_true_eq] at h
      rw [h.1, D.eqb_of h.2.1, D.eqbk_of h.2.2]
end
mutual
theorem D.eqb_self : ∀ a : D, D.eqb a a = true
  | .non => rfl
  | .bl b => by simp [D.eqb]
  | .int i => by simp [D.eqb]
  | .str s => by simp [D.eqb]
  | .tup xs => by simp only [D.eqb]; exact D.eqbs_self xs
  | .ref l => by simp [D.eqb]
  | .lst xs => by simp only [D.eqb]; exact D.eqbs_self xs
  | .frl xs => by simp only [D.eqb]; exact D.eqbs_self xs
  | .dic xs => by simp only [D.eqb]; exact D.eqbk_self xs
  | .set xs => by simp [D.eqb]
  | .exc c xs => by simp only [D.eqb, decide_true, Bool.true_and]; exact D.eqbs_self xs
  | .lam c xs => by simp only [D.eqb, decide_true, Bool.true_and]; exact D.eqbs_self xs
theorem D.eqbs_self : ∀ a : List D, D.eqbs a a = true
  | [] => rfl
  | x :: xs => by simp only [D.eqbs, D.eqb_self x, D.eqbs_self xs, Bool.and_self]
theorem D.eqbk_self : ∀ a : List (Ky × D), D.eqbk a a = true
  | [] => rfl
  | (k, x) :: xs => by simp only [D.eqbk, decide_true, D.eqb_self x, D.eqbk_self xs, Bool.and_self]
end
instance : DecidableEq D := fun a b => if h : D.eqb a b = true then .isTrue (D.eqb_of h) else .isFalse fun e => h (e ▸ D.eqb_self a)
end Fs
namespace Fs
open PySem

inductive R (α : Type) where
  | ok (a : α) (s : Sto) | exc (e : D) (s : Sto) | bad
abbrev M (α : Type) := Sto → R α
def bnd {α β : Type} (m : M α) (f : α → M β) : M β := fun s => match m s with
  | .ok a s' => f a s'
  | .exc e s' => .exc e s'
  | .bad => .bad
def ret {α : Type} (a : α) : M α := fun s => .ok a s
def bad {α : Type} : M α := fun _ => .bad
def opt {α β : Type} (o : Option α) (f : α → M β) : M β := match o with
  | some a => f a
  | none => bad
def gd {α : Type} (b : Bool) (m : M α) : M α := match b with
  | true => m
  | false => bad
/-- nothing is to be raised -/
def noX {α : Type} (m : M α) : M α := fun s => match m s with
  | .ok a s' => .ok a s'
  | _ => .bad

/-! ### landing, purity, reading back -/
mutual
/-- nothing fresh within -/
def D.pur : D → Bool
  | .non | .bl _ | .int _ | .str _ | .ref _ => true
  | .tup xs => D.purs xs
  | .exc _ xs => D.purs xs
  | .lam _ xs => D.purs xs
  | _ => false
def D.purs : List D → Bool
  | [] => true
  | x :: xs => D.pur x && D.purs xs
end
mutual
def land : D → Sto → D × Sto
  | .tup xs, st => let r := lands xs st; (.tup r.1, r.2)
  | .lst xs, st => let r := lands xs st; (.ref r.2.length, r.2 ++ [.lst r.1])
  | .frl xs, st => let r := lands xs st; (.ref r.2.length, r.2 ++ [.frl r.1])
  | .dic kvs, st => let r := landk kvs st; (.ref r.2.length, r.2 ++ [.dic r.1])
  | .set xs, st => (.ref st.length, st ++ [.set xs])
  | d, st => (d, st)
def lands : List D → Sto → List D × Sto
  | [], st => ([], st)
  | x :: xs, st => let r := land x st; let q := lands xs r.2; (r.1 :: q.1, q.2)
def landk : List (Ky × D) → Sto → List (Ky × D) × Sto
  | [], st => ([], st)
  | (k, x) :: xs, st => let r := land x st; let q := landk xs r.2; ((k, r.1) :: q.1, q.2)
end
def landM (d : D) : M D := fun st => let r := land d st; .ok r.1 r.2
mutual
/-- all references stand below b, nothing fresh -/
def D.cls (b : Nat) : D → Bool
  | .non | .bl _ | .int _ | .str _ => true
  | .ref l => decide (l < b)
  | .tup xs => D.clss b xs
  | .exc _ xs => D.clss b xs
  | .lam _ xs => D.clss b xs
  | _ => false
def D.clss (b : Nat) : List D → Bool
  | [] => true
  | x :: xs => D.cls b x && D.clss b xs
def D.clsk (b : Nat) : List (Ky × D) → Bool
  | [] => true
  | (_, x) :: xs => D.cls b x && D.clsk b xs
end
/-- a cell whose references stand below b -/
def cellCl (b : Nat) : D → Bool
  | .lst xs => D.clss b xs
  | .frl xs => D.clss b xs
  | .dic kvs => D.clsk b kvs
  | .set _ => true
  | _ => false
mutual
/-- read a value back: references from b on become the fresh things that stand there; each at most once -/
def rbD (g : Nat → List Nat → Option (D × List Nat)) (b : Nat) : D → List Nat → Option (D × List Nat)
  | .ref l, vis => match decide (l < b) with
    | true => some (.ref l, vis)
    | false => g l vis
  | .tup xs, vis => (rbDs g b xs vis).map fun r => (.tup r.1, r.2)
  | .non, vis => some (.non, vis)
  | .bl c, vis => some (.bl c, vis)
  | .int i, vis => some (.int i, vis)
  | .str s, vis => some (.str s, vis)
  | .lst xs, vis => (rbDs g b xs vis).map fun r => (.lst r.1, r.2)
  | .dic xs, vis => (rbDk g b xs vis).map fun r => (.dic r.1, r.2)
  | .set xs, vis => some (.set xs, vis)
  | .exc c xs, vis => match D.clss b xs with
    | true => some (.exc c xs, vis)
    | false => none
  | .lam c xs, vis => match D.clss b xs with
    | true => some (.lam c xs, vis)
    | false => none
  | .frl _, _ => none
def rbDs (g : Nat → List Nat → Option (D × List Nat)) (b : Nat) : List D → List Nat → Option (List D × List Nat)
  | [], vis => some ([], vis)
  | x :: xs, vis => (rbD g b x vis).bind fun r => (rbDs g b xs r.2).map fun q => (r.1 :: q.1, q.2)
def rbDk (g : Nat → List Nat → Option (D × List Nat)) (b : Nat) : List (Ky × D) → List Nat → Option (List (Ky × D) × List Nat)
  | [], vis => some ([], vis)
  | (k, x) :: xs, vis => (rbD g b x vis).bind fun r => (rbDk g b xs r.2).map fun q => ((k, r.1) :: q.1, q.2)
end
def rbC (st : Sto) (b : Nat) : Nat → Nat → List Nat → Option (D × List Nat)
  | 0, _, _ => none
  | n + 1, l, vis => match vis.contains l with
    | true => none
    | false => match st[l]? with
      | some (.lst xs) => rbD (rbC st b n) b (.lst xs) (l :: vis)
      | some (.dic xs) => rbD (rbC st b n) b (.dic xs) (l :: vis)
      | some (.set xs) => some (.set xs, l :: vis)
      | _ => none
def rback (st : Sto) (b : Nat) (d : D) : Option D := (rbD (rbC st b 8) b d []).map (·.1)
/-- the cells that stood before are as they were, or closed -/
def okPre : Sto → Sto → Nat → Bool
  | [], _, _ => true
  | c :: cs, c' :: cs', b => (decide (c = c') || cellCl b c') && okPre cs cs' b
  | _ :: _, [], _ => false
/-- a def is left: what it made and nobody holds is dropped, what it hands back is read back -/
def leaveD (st0 : Sto) (r : R D) : R D := match r with
  | .ok d st2 => match okPre st0 st2 st0.length, rback st2 st0.length d with
    | true, some d' => .ok d' (st2.take st0.length)
    | _, _ => .ok d st2
  | .exc e st2 => match okPre st0 st2 st0.length && D.cls st0.length e with
    | true => .exc e (st2.take st0.length)
    | false => .exc e st2
  | .bad => .bad

/-! ### values -/
def seqv (st : Sto) : D → Option (List D)
  | .tup xs => some xs
  | .lst xs => some xs
  | .ref l => match st[l]? with
    | some (.lst xs) => some xs
    | some (.frl xs) => some xs
    | _ => none
  | _ => none
def lstv (st : Sto) : D → Option (List D)
  | .lst xs => some xs
  | .ref l => match st[l]? with
    | some (.lst xs) => some xs
    | _ => none
  | _ => none
def dicv (st : Sto) : D → Option (List (Ky × D))
  | .dic xs => some xs
  | .ref l => match st[l]? with
    | some (.dic xs) => some xs
    | _ => none
  | _ => none
def setv (st : Sto) : D → Option (List Int)
  | .set xs => some xs
  | .ref l => match st[l]? with
    | some (.set xs) => some xs
    | _ => none
  | _ => none
def optL {α β : Type} (f : α → Option β) : List α → Option (List β)
  | [] => some []
  | x :: xs => match f x with
    | some y => (match optL f xs with
      | some ys => some (y :: ys)
      | none => none)
    | none => none
/-- as data; dz: whether {} counts -/
def toP (dz : Bool) (st : Sto) : Nat → D → Option PyData
  | 0, _ => none
  | n + 1, d => match d with
    | .non => some .none
    | .bl b => some (.bool b)
    | .int i => some (.int i)
    | .str s => some (.str s)
    | .tup xs => (optL (toP dz st n) xs).map .tuple
    | .lst xs => (optL (toP dz st n) xs).map .list
    | .frl xs => (optL (toP dz st n) xs).map .list
    | .ref l => (match st[l]? with
      | some (.lst xs) => (optL (toP dz st n) xs).map .list
      | some (.frl xs) => (optL (toP dz st n) xs).map .list
      | some (.dic []) => if dz then some (.dict []) else none
      | _ => none)
    | .dic [] => if dz then some (.dict []) else none
    | _ => none
/-- flat values, and their == -/
def flatD : D → Bool
  | .non | .bl _ | .int _ | .str _ => true
  | _ => false
def eqF : D → D → Bool
  | .non, .non => true
  | .bl a, .bl b => a == b
  | .bl a, .int b => (if a then 1 else 0) == b
  | .int a, .bl b => a == (if b then 1 else 0)
  | .int a, .int b => a == b
  | .str a, .str b => a == b
  | _, _ => false
def intv : D → Option Int
  | .int i => some i
  | _ => none
def blv : D → Option Bool
  | .bl b => some b
  | _ => none
def strv : D → Option Str
  | .str s => some s
  | _ => none
def keyA : D → Option L2.Key
  | .int i => some (.inl i)
  | .str s => some (.inr s)
  | _ => none
def keyOf : D → Option Ky
  | .int i => some (.k (.inl i))
  | .str s => some (.k (.inr s))
  | _ => none
def dget (k : Ky) : List (Ky × D) → Option D
  | [] => none
  | (j, v) :: r => if j = k then some v else dget k r
def dput (k : Ky) (v : D) : List (Ky × D) → List (Ky × D)
  | [] => [(k, v)]
  | (j, x) :: r => if j = k then (j, v) :: r else (j, x) :: dput k v r
def ddel (k : Ky) : List (Ky × D) → List (Ky × D)
  | [] => []
  | (j, x) :: r => if j = k then r else (j, x) :: ddel k r
/-- one kind of keys -/
def kyK : Ky → Bool
  | .k _ => true
  | .t _ => false
def okKeys (k : Ky) (kvs : List (Ky × D)) : Bool := kvs.all fun p => kyK p.1 == kyK k
def truth (st : Sto) : D → Option Bool
  | .non => some false
  | .bl b => some b
  | .int i => some (i != 0)
  | .str s => if s.length ≤ sizeLine then some ((s.length : Int) != 0) else none
  | .tup xs => some (!xs.isEmpty)
  | .lst xs => some (!xs.isEmpty)
  | .ref l => match st[l]? with
    | some (.lst xs) => some (!xs.isEmpty)
    | some (.frl xs) => some (!xs.isEmpty)
    | _ => none
  | _ => none

inductive Bop where
  | add | sub | mul | fdiv | mod | pow | shl | shr | band | bxor
  deriving DecidableEq
inductive Cop where
  | eq | ne | lt | le | gt | ge | isN | ntN | inn | nin
  deriving DecidableEq
def intOp (op : Bop) (i j : Int) : Option Int := match op with
  | .add => some (i + j)
  | .sub => some (i - j)
  | .mul => if i.natAbs.log2 + j.natAbs.log2 < 1000000 then some (i * j) else none
  | .fdiv => if j ≠ 0 ∧ j.natAbs.log2 < 9000 then some (i.fdiv j) else none
  | .mod => if j ≠ 0 then some (i.fmod j) else none
  | .pow => if 0 ≤ j ∧ j ≤ 1000000 ∧ i.natAbs < 2 ^ 64 then some (i ^ j.toNat) else none
  | .shl => if 0 ≤ j ∧ j ≤ 1000000 ∧ i.natAbs < 2 ^ 64 then some (i * 2 ^ j.toNat) else none
  | .shr => if 0 ≤ j then some (i / 2 ^ j.toNat) else none
  | .band => some (Builtin.bitAnd i j)
  | .bxor => some (Builtin.bitXor i j)
def rep (k : Nat) (xs : List D) : List D := (List.replicate k xs).flatten
def binD (op : Bop) (a b : D) : M D := fun st => match a, b with
  | .int i, .int j => (match intOp op i j with
    | some r => .ok (.int r) st
    | none => .bad)
  | .str x, .str y => (match op with
    | .add => if x.length + y.length ≤ sizeLine then .ok (.str (x ++ y)) st else .bad
    | _ => .bad)
  | .tup xs, .tup ys => (match op with
    | .add => if xs.length + ys.length ≤ sizeLine then .ok (.tup (xs ++ ys)) st else .bad
    | _ => .bad)
  | a, .int k => (match op, lstv st a with
    | .mul, some xs => if D.purs xs ∧ k < 2 ^ 63 ∧ -(2 ^ 63) ≤ k ∧ xs.length * k.toNat ≤ sizeLine then .ok (.lst (rep k.toNat xs)) st else .bad
    | _, _ => .bad)
  | a, b => (match op, lstv st a, lstv st b with
    | .add, some xs, some ys => if xs.length + ys.length ≤ sizeLine then .ok (.lst (xs ++ ys)) st else .bad
    | _, _, _ => .bad)
def isDic (st : Sto) : D → Bool
  | .dic _ => true
  | .ref l => match st[l]? with
    | some (.dic _) => true
    | _ => false
  | _ => false
def eqD (st : Sto) (a b : D) : Option Bool := match toP false st 66 a, toP false st 66 b with
  | some p, some q => if SeqAt.shaped p ∧ SeqAt.shaped q then some (PyData.eqv p q) else none
  | _, _ => none
def inD (st : Sto) (x y : D) : Option Bool := match y with
  | .str s => (match x with
    | .str t => some (!(Builtin.Str.occurrences s t 0 s.length 1).isEmpty)
    | _ => none)
  | y => match dicv st y with
    | some kvs => (match keyOf x with
      | some k => if okKeys k kvs then some (dget k kvs).isSome else none
      | none => none)
    | none => match y with
      | .tup ys => if flatD x ∧ ys.all flatD then some (ys.any fun z => eqF z x) else none
      | y => match seqv st y with
        | some ys => (match toP false st 66 x, optL (toP false st 65) ys with
          | some p, some qs => if SeqAt.shaped p ∧ SeqAt.shaped (.list qs) then some (qs.any fun z => PyData.eqv z p) else none
          | _, _ => none)
        | none => none
def cmpI (op : Cop) (i j : Int) : Option Bool := match op with
  | .lt => some (decide (i < j))
  | .le => some (decide (i ≤ j))
  | .gt => some (decide (j < i))
  | .ge => some (decide (j ≤ i))
  | _ => none
def isNon : D → Bool
  | .non => true
  | _ => false
/-- a is b, b None or a bool -/
def isD (a b : D) : Option Bool := match b with
  | .non => some (isNon a)
  | .bl c => (match a with
    | .bl d => some (d == c)
    | _ => none)
  | _ => none
def cmpD (op : Cop) (a b : D) (st : Sto) : Option Bool := match op with
  | .eq => eqD st a b
  | .ne => (eqD st a b).map (!·)
  | .isN => isD a b
  | .ntN => (isD a b).map (!·)
  | .inn => inD st a b
  | .nin => (inD st a b).map (!·)
  | op => match a, b with
    | .int i, .int j => cmpI op i j
    | _, _ => none

/-! ### built-ins -/
inductive Bi where
  | ssort | slen | suml | len | abs | min2 | max2 | min1 | max1 | sum | all | any | tuple | list | sorted | set | int | str | repr | dict
  | isT (t : String) | isC (cs : List Nat) | lrng | trng
  deriving DecidableEq
inductive Me where
  | append | pop | popi | extend | insert | index | count | get | setdefault | update | values | split | join | partition | replace | replace3 | bitlen
  deriving DecidableEq
def insI (i : Int) : List Int → List Int
  | [] => [i]
  | j :: r => if j ≤ i then j :: insI i r else i :: j :: r
def sortI : List Int → List Int
  | [] => []
  | i :: r => insI i (sortI r)
def lexL : List Int → List Int → Bool
  | [], [] => false
  | [], _ :: _ => true
  | _ :: _, [] => false
  | x :: xs, y :: ys => if x = y then lexL xs ys else decide (x < y)
def insL (i : List Int) : List (List Int) → List (List Int)
  | [] => [i]
  | j :: r => if lexL i j then i :: j :: r else j :: insL i r
def sortL : List (List Int) → List (List Int)
  | [] => []
  | i :: r => insL i (sortL r)
def tupI : D → Option (List Int)
  | .tup xs => optL intv xs
  | _ => none
def sortD (xs : List D) : Option (List D) := match optL intv xs with
  | some ns => some ((sortI ns).map .int)
  | none => match optL tupI xs with
    | some ls => some ((sortL ls).map fun l => .tup (l.map .int))
    | none => none
def dedI : List Int → List Int
  | [] => []
  | i :: r => if (dedI r).contains i then dedI r else i :: dedI r
def mn (xs : List Int) : Option Int := match xs with
  | [] => none
  | x :: r => some (r.foldl (fun a b => if b < a then b else a) x)
def mx (xs : List Int) : Option Int := match xs with
  | [] => none
  | x :: r => some (r.foldl (fun a b => if b > a then b else a) x)
def rngN (a c : Int) (n : Nat) : List D := (List.range n).map fun (i : Nat) => D.int (a + (i : Int) * c)
def rngL (ds : List D) : Option (List D) := match ds with
  | [.int b] => if -(2 ^ 62) ≤ b ∧ b < 2 ^ 62 then some (rngN 0 1 b.toNat) else none
  | [.int a, .int b] => if -(2 ^ 62) ≤ a ∧ a < 2 ^ 62 ∧ -(2 ^ 62) ≤ b ∧ b < 2 ^ 62 then some (rngN a 1 (b - a).toNat) else none
  | [.int a, .int b, .int c] => if c ≠ 0 ∧ c.natAbs < 1073741824 ∧ Builtin.Range.small a b c = true then some (rngN a c (Builtin.Range.rangeSize a b c).toNat) else none
  | _ => none
def rgOk (a b : Int) : Bool := decide (-(2 ^ 62) ≤ a ∧ a < 2 ^ 62 ∧ -(2 ^ 62) ≤ b ∧ b < 2 ^ 62 ∧ (b - a).toNat ≤ 2 ^ 24)
def isTy (st : Sto) (t : String) : D → Option Bool
  | .non => some false
  | .bl _ => some (t == "bool" || t == "int")
  | .int _ => some (t == "int")
  | .str _ => some (t == "str")
  | .tup _ => some (t == "tuple")
  | .lst _ => some (t == "list")
  | .dic _ => some (t == "dict")
  | .ref l => match st[l]? with
    | some (.lst _) => some (t == "list")
    | some (.frl _) => some (t == "list")
    | some (.dic _) => some (t == "dict")
    | _ => none
  | _ => none
structure Tbl where
  fn : Nat → List D → M D
  fld : Nat → Option Str
  anc : Nat → Nat → Bool
def keyI : Ky × D → Option Int
  | (.k (.inl i), _) => some i
  | _ => none
def pairv : D → Option (Ky × D)
  | .tup [k, v] => (keyOf k).map fun q => (q, v)
  | _ => none
def okInt (i : Int) : Bool := decide (i.natAbs.log2 < 1920)
/-- one argument -/
def b1 (f : D → M D) : List D → M D
  | [d] => f d
  | _ => bad
def b2 (f : D → D → M D) : List D → M D
  | [d, e] => f d e
  | _ => bad
def fLen (d : D) : M D := fun st => match d with
  | .str s => gd (decide (s.length ≤ sizeLine)) (ret (.int s.length)) st
  | d => match seqv st d with
    | some xs => .ok (.int xs.length) st
    | none => match dicv st d with
      | some kvs => .ok (.int kvs.length) st
      | none => .bad
def fAbs : D → M D
  | .int i => ret (.int (if i < 0 then -i else i))
  | _ => bad
def fMin2 : D → D → M D
  | .int i, .int j => ret (.int (if j < i then j else i))
  | _, _ => bad
def fMax2 : D → D → M D
  | .int i, .int j => ret (.int (if j > i then j else i))
  | _, _ => bad
/-- a list's ints -/
def lInt (st : Sto) (d : D) : Option (List Int) := match seqv st d with
  | some xs => (match d with
    | .tup _ => none
    | _ => optL intv xs)
  | none => none
def lBl (st : Sto) (d : D) : Option (List Bool) := match seqv st d with
  | some xs => (match d with
    | .tup _ => none
    | _ => optL blv xs)
  | none => none
def fMin1 (d : D) : M D := fun st => opt ((lInt st d).bind mn) (fun i => ret (.int i)) st
def fMax1 (d : D) : M D := fun st => opt ((lInt st d).bind mx) (fun i => ret (.int i)) st
def fSum (d : D) : M D := fun st => opt (lInt st d) (fun ns => ret (.int ns.sum)) st
def fAll (d : D) : M D := fun st => opt (lBl st d) (fun bs => ret (.bl (bs.all id))) st
def fAny (d : D) : M D := fun st => opt (lBl st d) (fun bs => ret (.bl (bs.any id))) st
def fTuple (d : D) : M D := fun st => opt (seqv st d) (fun xs => ret (.tup xs)) st
def fList (d : D) : M D := fun st => opt (seqv st d) (fun xs => ret (.lst xs)) st
/-- a dict's int keys -/
def dInts (st : Sto) (d : D) : Option (List Int) := match dicv st d with
  | some kvs => optL keyI kvs
  | none => none
def lTups (st : Sto) (d : D) : Option (List (List Int)) := match seqv st d with
  | some xs => (match d with
    | .tup _ => none
    | _ => optL tupI xs)
  | none => none
def fSorted (d : D) : M D := fun st => match lInt st d with
  | some ns => .ok (.lst ((sortI ns).map .int)) st
  | none => match lTups st d with
    | some ls => gd (ls.all fun l => !l.isEmpty) (ret (.lst ((sortL ls).map fun l => .tup (l.map .int)))) st
    | none => .bad
def fSsort (d : D) : M D := fun st => opt (lInt st d) (fun ns => gd (decide (ns.length < 64)) (ret (.lst ((sortI (dedI ns)).map .int)))) st
def fSlen (d : D) : M D := fun st => opt (lInt st d) (fun ns => gd (decide (ns.length < 64)) (ret (.int (dedI ns).length))) st
def fSuml : D → D → M D
  | d, .lst [] => fun st => opt ((lstv st d).bind (optL (lstv st))) (fun xss => gd (decide (xss.flatten.length ≤ sizeLine)) (ret (.lst xss.flatten))) st
  | _, _ => bad
def fDict (d : D) : M D := fun st => opt ((lstv st d).bind (optL pairv)) (fun kvs => gd (kvs.all fun p => D.pur p.2) (ret (.dic (kvs.foldl (fun a p => dput p.1 p.2 a) [])))) st
def fInt : D → M D
  | .bl c => ret (.int (if c then 1 else 0))
  | .int i => ret (.int i)
  | .str s => opt (PySem.intText? s) fun n => gd (decide (s.length ≤ 640)) (ret (.int n))
  | _ => bad
def fStr : D → M D
  | .int i => gd (okInt i) (ret (.str (toString i)))
  | .str s => ret (.str s)
  | _ => bad
def fRepr (d : D) : M D := fun st => opt (toP false st 60 d) (fun p => gd (decide (p.showable = true ∧ p.shown.length ≤ sizeLine ∧ p.depth ≤ 60 ∧ p.hasDict = false)) (ret (.str p.shown))) st
def fIsT (t : String) (d : D) : M D := fun st => opt (isTy st t d) (fun c => ret (.bl c)) st
def fIsC (T : Tbl) (cs : List Nat) : D → M D
  | .exc c _ => ret (.bl (cs.any fun k => T.anc c k))
  | .non => ret (.bl false)
  | _ => bad
def fLrng : List D → M D
  | [.int b] => gd (rgOk 0 b) (ret (.lst (rngN 0 1 b.toNat)))
  | [.int a, .int b] => gd (rgOk a b) (ret (.lst (rngN a 1 (b - a).toNat)))
  | _ => bad
def fTrng : List D → M D
  | [.int b] => gd (rgOk 0 b) (ret (.tup (rngN 0 1 b.toNat)))
  | [.int a, .int b] => gd (rgOk a b) (ret (.tup (rngN a 1 (b - a).toNat)))
  | _ => bad
def biD (T : Tbl) (b : Bi) (ds : List D) : M D := match b with
  | .len => b1 fLen ds
  | .abs => b1 fAbs ds
  | .min2 => b2 fMin2 ds
  | .max2 => b2 fMax2 ds
  | .min1 => b1 fMin1 ds
  | .max1 => b1 fMax1 ds
  | .sum => b1 fSum ds
  | .all => b1 fAll ds
  | .any => b1 fAny ds
  | .tuple => b1 fTuple ds
  | .list => b1 fList ds
  | .sorted => b1 fSorted ds
  | .ssort => b1 fSsort ds
  | .slen => b1 fSlen ds
  | .suml => b2 fSuml ds
  | .dict => b1 fDict ds
  | .set => bad
  | .int => b1 fInt ds
  | .str => b1 fStr ds
  | .repr => b1 fRepr ds
  | .isT t => b1 (fIsT t) ds
  | .isC cs => b1 (fIsC T cs) ds
  | .lrng => fLrng ds
  | .trng => fTrng ds
def upC (l : Nat) (c : D) (d : D) : M D := fun st => .ok d (st.set l c)
/-- what kind of thing: a method's receiver stays of its kind -/
def kndD (st : Sto) : D → Nat
  | .str _ => 1
  | .int _ => 2
  | .tup _ => 3
  | .lst _ => 4
  | .dic _ => 5
  | .ref l => match st[l]? with
    | some (.lst _) => 4
    | some (.frl _) => 4
    | some (.dic _) => 5
    | _ => 0
  | _ => 0
/-- the kinds that have the method -/
def meK : Me → Nat → Bool
  | .append, k | .pop, k | .extend, k | .insert, k | .index, k | .count, k => k == 4
  | .popi, k => k == 4 || k == 5
  | .get, k | .setdefault, k | .update, k | .values, k => k == 5
  | .bitlen, k => k == 2
  | _, _ => false
def lcell (st : Sto) (f : Nat → List D → M D) : D → M D
  | .ref l => match st[l]? with
    | some (.lst xs) => f l xs
    | _ => bad
  | _ => bad
def dcell (st : Sto) (f : Nat → List (Ky × D) → M D) : D → M D
  | .ref l => match st[l]? with
    | some (.dic xs) => f l xs
    | _ => bad
  | _ => bad
def mAppend (o d : D) : M D := fun st => lcell st (fun l xs => gd (decide (xs.length < sizeLine)) fun st => let r := land d st; .ok .non (r.2.set l (.lst (xs ++ [r.1])))) o st
def mPop (o : D) : M D := fun st => lcell st (fun l xs => opt xs[xs.length - 1]? fun y => fun st => .ok y (st.set l (.lst xs.dropLast))) o st
def mPopi (o k : D) : M D := fun st => lcell st (fun l xs => opt (intv k) fun i => gd (decide (-(2 ^ 63) ≤ i ∧ i < 2 ^ 63)) (opt (PySem.seqIndex? i xs.length) fun j => opt xs[j]? fun y => fun st => .ok y (st.set l (.lst (xs.eraseIdx j))))) o st
def mDpop (o k : D) : M D := fun st => dcell st (fun l kvs => opt (keyOf k) fun q => gd (okKeys q kvs) (opt (dget q kvs) fun y => fun st => .ok y (st.set l (.dic (ddel q kvs))))) o st
def mExtend (o d : D) : M D := fun st => lcell st (fun l xs => opt (lstv st d) fun ys => gd (decide (xs.length + ys.length ≤ sizeLine)) fun st => let r := lands ys st; .ok .non (r.2.set l (.lst (xs ++ r.1)))) o st
def mInsert (o i d : D) : M D := fun st => lcell st (fun l xs => opt (intv i) fun i => gd (decide (0 ≤ i ∧ i < 2 ^ 62 ∧ xs.length < sizeLine)) fun st => let r := land d st; .ok .non (r.2.set l (.lst (xs.take i.toNat ++ r.1 :: xs.drop i.toNat)))) o st
/-- the items as data -/
def dats (st : Sto) (o : D) : Option (List PyData) := match seqv st o with
  | some ys => optL (toP false st 65) ys
  | none => none
def mIndex (o d : D) : M D := fun st => opt (dats st o) (fun qs => opt (toP false st 66 d) fun p => gd (decide (SeqAt.shaped p = true ∧ SeqAt.shaped (.list qs) = true)) (opt (qs.findIdx? fun z => PyData.eqv z p) fun j => ret (.int (j : Nat)))) st
def mCount (o d : D) : M D := fun st => opt (dats st o) (fun qs => opt (toP false st 66 d) fun p => gd (decide (SeqAt.shaped p = true ∧ SeqAt.shaped (.list qs) = true)) (ret (.int (qs.countP fun z => PyData.eqv z p : Nat)))) st
def mGet (o k d : D) : M D := fun st => opt (dicv st o) (fun kvs => opt (keyOf k) fun q => gd (okKeys q kvs) (ret ((dget q kvs).getD d))) st
def mSetd (o k d : D) : M D := fun st => dcell st (fun l kvs => opt (keyOf k) fun q => gd (okKeys q kvs && decide (kvs.length < sizeLine)) (match dget q kvs with
  | some y => ret y
  | none => fun st => let r := land d st; .ok r.1 (r.2.set l (.dic (kvs ++ [(q, r.1)]))))) o st
def mUpdate (o d : D) : M D := fun st => dcell st (fun l kvs => opt (dicv st d) fun ys => gd (ys.all (fun p => D.pur p.2 && (kyK p.1 && okKeys p.1 kvs)) && decide (kvs.length + ys.length ≤ sizeLine)) fun st => .ok .non (st.set l (.dic (ys.foldl (fun a p => dput p.1 p.2 a) kvs)))) o st
def mValues (o : D) : M D := fun st => opt (dicv st o) (fun kvs => ret (.lst (kvs.map (·.2)))) st
def mBitlen : D → M D
  | .int i => gd (decide (0 ≤ i)) (ret (.int (if i = 0 then 0 else i.natAbs.log2 + 1)))
  | _ => bad
def b0 (f : M D) : List D → M D
  | [] => f
  | _ => bad
def meD (m : Me) (o : D) (ds : List D) : M D := match m with
  | .append => b1 (mAppend o) ds
  | .pop => b0 (mPop o) ds
  | .popi => fun st => match kndD st o with
    | 5 => b1 (mDpop o) ds st
    | _ => b1 (mPopi o) ds st
  | .extend => b1 (mExtend o) ds
  | .insert => b2 (mInsert o) ds
  | .index => b1 (mIndex o) ds
  | .count => b1 (mCount o) ds
  | .get => b2 (mGet o) ds
  | .setdefault => b2 (mSetd o) ds
  | .update => b1 (mUpdate o) ds
  | .values => b0 (mValues o) ds
  | .bitlen => b0 (mBitlen o) ds
  | _ => bad
def getI (a i : D) : M D := fun st => match i with
  | .int k => (match a with
    | .str z => if z.length ≤ sizeLine then (match L2.atI z.cps.toList k with
      | some c => .ok (.str ⟨#[c]⟩) st
      | none => .bad) else .bad
    | a => match seqv st a with
      | some xs => (match L2.atI xs k with
        | some y => .ok y st
        | none => .bad)
      | none => match dicv st a with
        | some kvs => if okKeys (.k (.inl k)) kvs then (match dget (.k (.inl k)) kvs with
          | some y => .ok y st
          | none => .bad) else .bad
        | none => .bad)
  | i => match keyOf i, dicv st a with
    | some q, some kvs => if okKeys q kvs then (match dget q kvs with
      | some y => .ok y st
      | none => .bad) else .bad
    | _, _ => .bad
/-- o[i] = d (d may be fresh) -/
def setI (o i d : D) : M Unit := fun st => match o with
  | .ref l => (match st[l]? with
    | some (.lst xs) => (match i with
      | .int k => (match L2.ixN xs.length k with
        | some j => (let r := land d st; .ok () (r.2.set l (.lst (xs.set j r.1))))
        | none => .bad)
      | _ => .bad)
    | some (.dic kvs) => (match keyOf i with
      | some q => if okKeys q kvs ∧ kvs.length < sizeLine then (let r := land d st; .ok () (r.2.set l (.dic (dput q r.1 kvs)))) else .bad
      | none => .bad)
    | _ => .bad)
  | _ => .bad
def cutD (xs : List D) (lo hi : Option Int) : List D := (xs.drop (HT.sIx xs.length 0 lo)).take (HT.sIx xs.length xs.length hi - HT.sIx xs.length 0 lo)
def slcD (a : D) (lo hi : Option Int) : M D := fun st => match a with
  | .tup xs => .ok (.tup (cutD xs lo hi)) st
  | a => match lstv st a with
    | some xs => .ok (.lst (cutD xs lo hi)) st
    | none => .bad
def revD (a : D) : M D := fun st => match lstv st a with
  | some xs => .ok (.lst xs.reverse) st
  | none => .bad
end Fs
namespace Fs
open PySem

mutual
inductive Ex where
  | loc (i : Nat)
  | con (d : D)
  | bin (op : Bop) (a b : Ex)
  | neg (a : Ex)
  | nt (a : Cn)
  | cmp (op : Cop) (a b : Ex)
  | chn (o1 o2 : Cop) (a b c : Ex)
  | and2 (a b : Ex)
  | or2 (a b : Ex)
  | ife (c : Cn) (a b : Ex)
  | tup (es : List Ex)
  | lst (es : List Ex)
  | dct (kvs : List Kv)
  | sub (a i : Ex)
  | slc (a : Ex) (lo hi : Option Ex)
  | rev (a : Ex)
  | call (f : Nat) (es : List Ex)
  | callp (f : Nat) (es : List Ex) (perm : List (Sum Nat D))
  | lamc (f : Nat) (cs : List Nat)
  | callv (e : Ex) (es : List Ex)
  | bi (b : Bi) (es : List Ex)
  | me (m : Me) (o : Ex) (es : List Ex)
  | attr (e : Ex) (f : Str)
  | mk (c : Nat) (es : List Ex)
  | lc (own : List Nat) (it : Ix) (tg : Tg) (ifs : List Cn) (e : Ex)
  | lc2 (own : List Nat) (it : Ix) (tg : Tg) (own2 : List Nat) (it2 : Ix) (tg2 : Tg) (e : Ex)
  | dc (own : List Nat) (it : Ix) (tg : Tg) (ifs : List Cn) (k v : Ex)
inductive Cn where
  | nt (a : Cn)
  | and2 (a b : Cn)
  | or2 (a b : Cn)
  | ife (c a b : Cn)
  | val (e : Ex)
inductive Kv where
  | mk (k v : Ex)
inductive Ix where
  | val (e : Ex)
  | rng (es : List Ex)
  | enum (s : Ex) (k : Int)
  | zip (strict : Bool) (es : List Ex)
  | keys (e : Ex)
  | vals (e : Ex)
  | items (e : Ex)
inductive Tg where
  | nm (i : Nat)
  | tup (ts : List Tg)
  | sub (o i : Ex)
  | attr (o : Ex) (f : Str)
end
inductive Sx where
  | asg (t : Tg) (e : Ex)
  | aug (i : Nat) (op : Bop) (e : Ex)
  | xpr (e : Ex)
  | ret (e : Ex)
  | ret0
  | iff (c : Cn) (a b : List Sx)
  | forr (it : Ix) (t : Tg) (b : List Sx)
  | whl (c : Cn) (b : List Sx)
  | brk | cnt | pas
  | rse (c : Nat) (es : List Ex)
  | tri (b : List Sx) (hs : List (List Nat × Option Nat × List Sx))

/-- what a walk draws from -/
inductive Src where
  | items (xs : List D)
  | cell (l : Nat)
inductive It where
  | one (s : Src) | enum (k : Int) (s : Src) | zip (strict : Bool) (ss : List Src)
def Src.at (s : Src) (i : Nat) (st : Sto) : Option (Option D) := match s with
  | .items xs => some xs[i]?
  | .cell l => match st[l]? with
    | some (.lst xs) => some xs[i]?
    | some (.frl xs) => some xs[i]?
    | _ => none
def Src.len (s : Src) (st : Sto) : Nat := match s with
  | .items xs => xs.length
  | .cell l => match st[l]? with
    | some (.lst xs) => xs.length
    | some (.frl xs) => xs.length
    | _ => 0
def allSome : List (Option D) → Option (List D)
  | [] => some []
  | none :: _ => none
  | some d :: r => match allSome r with
    | some ds => some (d :: ds)
    | none => none
/-- bad | the end | the next item -/
def It.next (t : It) (i : Nat) (st : Sto) : Option (Option D) := match t with
  | .one s => s.at i st
  | .enum k s => match s.at i st with
    | some (some d) => some (some (.tup [.int (k + (i : Nat)), d]))
    | some none => if s.len st = i then some none else none
    | none => none
  | .zip strict ss => match optL (fun s => Src.at s i st) ss with
    | some os => (match allSome os with
      | some ds => some (some (.tup ds))
      | none => if !strict || os.all (·.isNone) then some none else none)
    | none => none
def It.len (t : It) (st : Sto) : Nat := match t with
  | .one s => s.len st
  | .enum _ s => s.len st
  | .zip _ ss => match ss with
    | [] => 0
    | s :: _ => s.len st
def keysD (kvs : List (Ky × D)) : Option (List D) := optL (fun p => match p.1 with
  | .k (.inl i) => some (.int i)
  | .k (.inr s) => some (.str s)
  | .t as => some (.tup (as.map fun a => match a with
    | .inl i => .int i
    | .inr s => .str s))) kvs
def srcOf (d : D) : M Src := fun st => match d with
  | .tup xs => .ok (.items xs) st
  | .lst xs => .ok (.items xs) st
  | .ref l => (match st[l]? with
    | some (.lst _) => .ok (.cell l) st
    | some (.frl _) => .ok (.cell l) st
    | _ => .bad)
  | _ => .bad
def mapM' {α β : Type} (f : α → M β) : List α → M (List β)
  | [] => ret []
  | x :: xs => bnd (f x) fun y => bnd (mapM' f xs) fun ys => ret (y :: ys)
def wipe (σ : Env) (own : List Nat) : Env := own.foldr (fun i s => s.set i none) σ
/-- the loop of a comprehension: turns left, place, what is made so far -/
def lcLoop (it : It) (turn : D → Sto → R (Option D)) : Nat → Nat → List D → M (List D)
  | 0, _, _ => bad
  | n + 1, i, acc => fun st => match it.next i st with
    | none => .bad
    | some none => .ok acc st
    | some (some d) => match turn d st with
      | .ok (some y) st' => if acc.length < sizeLine then lcLoop it turn n (i + 1) (acc ++ [y]) st' else .bad
      | .ok none st' => lcLoop it turn n (i + 1) acc st'
      | _ => .bad
def andM (c : M Bool) (d : M Bool) : M Bool := bnd c fun b => match b with
  | true => d
  | false => ret false
/-- two loops in one comprehension -/
def lcLoop2 (it : It) (turn : D → List D → Sto → R (List D)) : Nat → Nat → List D → M (List D)
  | 0, _, _ => bad
  | n + 1, i, acc => fun st => match it.next i st with
    | none => .bad
    | some none => .ok acc st
    | some (some d) => match turn d acc st with
      | .ok acc' st' => lcLoop2 it turn n (i + 1) acc' st'
      | _ => .bad
def dcLoop (it : It) (turn : D → Sto → R (Option (Ky × D))) : Nat → Nat → List (Ky × D) → M (List (Ky × D))
  | 0, _, _ => bad
  | n + 1, i, acc => fun st => match it.next i st with
    | none => .bad
    | some none => .ok acc st
    | some (some d) => match turn d st with
      | .ok (some (k, y)) st' => if acc.length < sizeLine ∧ okKeys k acc = true ∧ D.pur y = true then dcLoop it turn n (i + 1) (dput k y acc) st' else .bad
      | .ok none st' => dcLoop it turn n (i + 1) acc st'
      | _ => .bad
def ofTup : D → Sto → Option (List D)
  | .tup xs, _ => some xs
  | _, _ => none
mutual
def ev (T : Tbl) : Ex → Env → M D
  | .loc i, σ => match σ[i]? with
    | some (some d) => ret d
    | _ => bad
  | .con d, _ => ret d
  | .bin op a b, σ => bnd (ev T a σ) fun x => bnd (ev T b σ) fun y => binD op x y
  | .neg a, σ => bnd (ev T a σ) fun x => opt (intv x) fun i => ret (.int (-i))
  | .nt a, σ => bnd (evT T a σ) fun c => ret (.bl (!c))
  | .cmp op a b, σ => bnd (ev T a σ) fun x => bnd (ev T b σ) fun y => fun st => opt (cmpD op x y st) (fun c => ret (.bl c)) st
  | .chn o1 o2 a b c, σ => bnd (ev T a σ) fun x => opt (intv x) fun i => bnd (ev T b σ) fun y => opt (intv y) fun j => opt (cmpI o1 i j) fun k => match k with
      | true => bnd (ev T c σ) fun z => opt (intv z) fun m => opt (cmpI o2 j m) fun r => ret (.bl r)
      | false => ret (.bl false)
  | .and2 a b, σ => bnd (ev T a σ) fun x => opt (blv x) fun c => match c with
    | true => ev T b σ
    | false => ret (.bl false)
  | .or2 a b, σ => bnd (ev T a σ) fun x => opt (blv x) fun c => match c with
    | true => ret (.bl true)
    | false => ev T b σ
  | .ife c a b, σ => bnd (evT T c σ) fun k => match k with
    | true => ev T a σ
    | false => ev T b σ
  | .tup es, σ => bnd (evs T es σ) fun ds => gd (decide (ds.length ≤ sizeLine)) (ret (.tup ds))
  | .lst es, σ => bnd (evs T es σ) fun ds => gd (decide (ds.length ≤ sizeLine)) (ret (.lst ds))
  | .dct kvs, σ => bnd (evkv T kvs σ) fun r => gd (match r with
    | [] => true
    | p :: _ => okKeys p.1 r && decide (r.length ≤ 15)) (ret (.dic (r.foldl (fun a p => dput p.1 p.2 a) [])))
  | .sub a i, σ => bnd (ev T a σ) fun x => bnd (ev T i σ) fun y => getI x y
  | .slc a lo hi, σ => bnd (ev T a σ) fun x => bnd (evo T lo σ) fun l => bnd (evo T hi σ) fun h => slcD x l h
  | .rev a, σ => bnd (ev T a σ) fun x => revD x
  | .call f es, σ => bnd (evs T es σ) fun ds => T.fn f ds
  | .callp f es perm, σ => bnd (evs T es σ) fun ds => opt (optL (fun p => match p with
      | .inl i => ds[i]?
      | .inr d => some d) perm) fun as => T.fn f as
  | .lamc f cs, σ => fun st => match optL (fun i => (σ[i]?).getD none) cs with
    | some ds => .ok (.lam f ds) st
    | none => .bad
  | .callv e es, σ => bnd (ev T e σ) fun x => bnd (evs T es σ) fun ds => match x with
    | .lam f cs => T.fn f (cs ++ ds)
    | _ => bad
  | .bi b es, σ => bnd (evs T es σ) fun ds => biD T b ds
  | .me m o es, σ => bnd (ev T o σ) fun x => fun st1 => gd (meK m (kndD st1 x)) (bnd (evs T es σ) fun ds => fun st2 => gd (kndD st1 x == kndD st2 x) (meD m x ds) st2) st1
  | .attr e f, σ => bnd (ev T e σ) fun x => match x with
    | .exc c [y] => gd (decide (T.fld c = some f)) (ret y)
    | _ => bad
  | .mk c es, σ => bnd (evs T es σ) fun ds => match T.fld c with
    | some _ => (match ds with
      | [d] => bnd (landM d) fun d' => ret (.exc c [d'])
      | _ => bad)
    | none => ret (.exc c [])
  | .lc own it tg ifs e, σ => bnd (evI T it σ) fun t => fun st =>
      bnd (lcLoop t (fun d => bnd (asgT T tg d (wipe σ own)) fun σ' => bnd (evTs T ifs σ') fun b => match b with
        | true => bnd (ev T e σ') fun y => ret (some y)
        | false => ret none) (t.len st + 1) 0 []) (fun ys => ret (.lst ys)) st
  | .lc2 own it tg own2 it2 tg2 e, σ => bnd (evI T it σ) fun t => fun st =>
      bnd (lcLoop2 t (fun d acc => bnd (asgT T tg d (wipe σ own)) fun σ' => bnd (evI T it2 σ') fun t2 => fun st2 =>
        lcLoop t2 (fun d2 => bnd (asgT T tg2 d2 (wipe σ' own2)) fun σ2 => bnd (ev T e σ2) fun y => ret (some y)) (t2.len st2 + 1) 0 acc st2) (t.len st + 1) 0 []) (fun ys => ret (.lst ys)) st
  | .dc own it tg ifs k v, σ => bnd (evI T it σ) fun t => fun st =>
      bnd (dcLoop t (fun d => bnd (asgT T tg d (wipe σ own)) fun σ' => bnd (evTs T ifs σ') fun b => match b with
        | true => bnd (ev T k σ') fun x => bnd (ev T v σ') fun y => opt (keyOf x) fun q => ret (some (q, y))
        | false => ret none) (t.len st + 1) 0 []) (fun ys => ret (.dic ys)) st
/-- a test -/
def evT (T : Tbl) : Cn → Env → M Bool
  | .nt a, σ => bnd (evT T a σ) fun c => ret (!c)
  | .and2 a b, σ => bnd (evT T a σ) fun c => match c with
    | true => evT T b σ
    | false => ret false
  | .or2 a b, σ => bnd (evT T a σ) fun c => match c with
    | true => ret true
    | false => evT T b σ
  | .ife c a b, σ => bnd (evT T c σ) fun k => match k with
    | true => evT T a σ
    | false => evT T b σ
  | .val e, σ => bnd (ev T e σ) fun x => fun st => opt (truth st x) ret st
def evs (T : Tbl) : List Ex → Env → M (List D)
  | [], _ => ret []
  | e :: es, σ => bnd (ev T e σ) fun x => bnd (evs T es σ) fun xs => ret (x :: xs)
def evTs (T : Tbl) : List Cn → Env → M Bool
  | [], _ => ret true
  | e :: es, σ => bnd (evT T e σ) fun c => match c with
    | true => evTs T es σ
    | false => ret false
def evo (T : Tbl) : Option Ex → Env → M (Option Int)
  | none, _ => ret none
  | some e, σ => bnd (ev T e σ) fun x => opt (intv x) fun i => ret (some i)
def evkv (T : Tbl) : List Kv → Env → M (List (Ky × D))
  | [], _ => ret []
  | .mk k v :: r, σ => bnd (ev T k σ) fun x => bnd (ev T v σ) fun y => opt (keyOf x) fun q => bnd (evkv T r σ) fun r => ret ((q, y) :: r)
def evI (T : Tbl) : Ix → Env → M It
  | .val e, σ => bnd (ev T e σ) fun x => bnd (srcOf x) fun s => ret (.one s)
  | .rng es, σ => bnd (evs T es σ) fun ds => opt (rngL ds) fun xs => ret (.one (.items xs))
  | .enum e k, σ => bnd (ev T e σ) fun x => bnd (srcOf x) fun s => ret (.enum k s)
  | .zip b es, σ => bnd (evs T es σ) fun ds => bnd (mapM' srcOf ds) fun ss => ret (.zip b ss)
  | .keys e, σ => bnd (ev T e σ) fun x => fun st => opt ((dicv st x).bind keysD) (fun ks => ret (.one (.items ks))) st
  | .vals e, σ => bnd (ev T e σ) fun x => fun st => opt (dicv st x) (fun kvs => ret (.one (.items (kvs.map (·.2))))) st
  | .items e, σ => bnd (ev T e σ) fun x => fun st => opt (dicv st x) (fun kvs => opt (keysD kvs) fun ks => ret (.one (.items ((ks.zip (kvs.map (·.2))).map fun p => .tup [p.1, p.2])))) st
def asgT (T : Tbl) : Tg → D → Env → M Env
  | .nm i, d, σ => bnd (landM d) fun d' => ret (σ.set i (some d'))
  | .tup ts, d, σ => fun st => match ofTup d st with
    | some ds => asgTs T ts ds σ st
    | none => .bad
  | .sub o i, d, σ => bnd (ev T o σ) fun x => bnd (ev T i σ) fun y => bnd (setI x y d) fun _ => ret σ
  | .attr _ _, _, _ => bad
def asgTs (T : Tbl) : List Tg → List D → Env → M Env
  | [], [], σ => ret σ
  | t :: ts, d :: ds, σ => bnd (asgT T t d σ) fun σ' => asgTs T ts ds σ'
  | _, _, _ => bad
end
end Fs
namespace Fs
open PySem

inductive Fl where
  | nx (σ : Env) | br (σ : Env) | ct (σ : Env) | rt (d : D) | ex (σ : Env) (e : D)
/-- what raises in m leaves the statement -/
def lft {α : Type} (σ : Env) (m : M α) (f : α → M Fl) : M Fl := fun s => match m s with
  | .ok a s' => f a s'
  | .exc e s' => .ok (.ex σ e) s'
  | .bad => .bad
def seqF (m : M Fl) (k : Env → M Fl) : M Fl := fun s => match m s with
  | .ok (.nx σ) s' => k σ s'
  | .ok f s' => .ok f s'
  | _ => .bad
def whLoop (c : Env → M Bool) (b : Env → M Fl) : Nat → Env → M Fl
  | 0, _ => bad
  | n + 1, σ => lft σ (c σ) fun k => match k with
    | false => ret (.nx σ)
    | true => fun s => match b σ s with
      | .ok (.nx σ') s' => whLoop c b n σ' s'
      | .ok (.ct σ') s' => whLoop c b n σ' s'
      | .ok (.br σ') s' => .ok (.nx σ') s'
      | .ok f s' => .ok f s'
      | _ => .bad
def forLoop (it : It) (g : D → Env → M Env) (b : Env → M Fl) : Nat → Nat → Env → M Fl
  | 0, _, _ => bad
  | n + 1, i, σ => fun s => match it.next i s with
    | none => .bad
    | some none => .ok (.nx σ) s
    | some (some d) => match noX (g d σ) s with
      | .ok σ1 s1 => (match b σ1 s1 with
        | .ok (.nx σ') s' => forLoop it g b n (i + 1) σ' s'
        | .ok (.ct σ') s' => forLoop it g b n (i + 1) σ' s'
        | .ok (.br σ') s' => .ok (.nx σ') s'
        | .ok f s' => .ok f s'
        | _ => .bad)
      | _ => .bad
def wfuel : Nat := 1000000
def outS (i : Option Nat) (σ : Env) : Env := match i with
  | some j => σ.set j none
  | none => σ
def inS (i : Option Nat) (e : D) (σ : Env) : Env := match i with
  | some j => σ.set j (some e)
  | none => σ
def outF (i : Option Nat) (m : M Fl) : M Fl := fun s => match m s with
  | .ok (.nx σ) s' => .ok (.nx (outS i σ)) s'
  | .ok (.br σ) s' => .ok (.br (outS i σ)) s'
  | .ok (.ct σ) s' => .ok (.ct (outS i σ)) s'
  | .ok (.rt d) s' => .ok (.rt d) s'
  | _ => .bad
mutual
def exS (T : Tbl) : Sx → Env → M Fl
  | .asg t e, σ => lft σ (ev T e σ) fun x => bnd (noX (asgT T t x σ)) fun σ' => ret (.nx σ')
  | .aug i op e, σ => match (σ[i]?).getD none with
    | some x => lft σ (ev T e σ) fun y => lft σ (binD op x y) fun z => bnd (landM z) fun z' => ret (.nx (σ.set i (some z')))
    | none => bad
  | .xpr e, σ => lft σ (ev T e σ) fun _ => ret (.nx σ)
  | .ret e, σ => lft σ (ev T e σ) fun x => ret (.rt x)
  | .ret0, _ => ret (.rt .non)
  | .iff c a b, σ => lft σ (evT T c σ) fun k => match k with
    | true => exL T a σ
    | false => exL T b σ
  | .forr it t b, σ => lft σ (evI T it σ) fun w => fun s => forLoop w (fun d σ => asgT T t d σ) (fun σ => exL T b σ) (w.len s + 1) 0 σ s
  | .whl c b, σ => whLoop (fun σ => evT T c σ) (fun σ => exL T b σ) wfuel σ
  | .brk, σ => ret (.br σ)
  | .cnt, σ => ret (.ct σ)
  | .pas, σ => ret (.nx σ)
  | .rse c es, σ => lft σ (ev T (.mk c es) σ) fun x => ret (.ex σ x)
  | .tri b hs, σ => fun s => match exL T b σ s with
    | .ok (.ex σ' e) s' => exH T hs e σ' s'
    | r => r
def exL (T : Tbl) : List Sx → Env → M Fl
  | [], σ => ret (.nx σ)
  | x :: xs, σ => seqF (exS T x σ) fun σ' => exL T xs σ'
def exH (T : Tbl) : List (List Nat × Option Nat × List Sx) → D → Env → M Fl
  | [], e, σ => ret (.ex σ e)
  | (cs, i, b) :: hs, e, σ => match e with
    | .exc c _ => (match cs.any fun k => T.anc c k with
      | true => outF i (exL T b (inS i e σ))
      | false => exH T hs e σ)
    | _ => bad
end
structure Fn where
  np : Nat
  ns : Nat
  body : List Sx
structure Pr where
  fns : Nat → Option Fn
  fld : Nat → Option Str
  anc : Nat → Nat → Bool
def outR (r : R Fl) : R D := match r with
  | .ok (.rt d) s => .ok d s
  | .ok (.nx _) s => .ok .non s
  | .ok (.ex _ e) s => .exc e s
  | _ => .bad
/-- a def at nesting depth n -/
def call (P : Pr) : Nat → Nat → List D → M D
  | 0, _, _ => bad
  | n + 1, f, ds => fun st => match P.fns f with
    | some F => (match decide (ds.length = F.np) with
      | true => leaveD st (outR (exL ⟨call P n, P.fld, P.anc⟩ F.body ((lands ds st).1.map some ++ List.replicate (F.ns - F.np) none) (lands ds st).2))
      | false => .bad)
    | none => .bad
def Pr.tbl (P : Pr) (n : Nat) : Tbl := ⟨call P n, P.fld, P.anc⟩
/-- what is not covered -/
def hole : Ex := .attr (.con .non) ⟨#[]⟩
end Fs
namespace Fs
open PySem
/-! ### sorting rows of numbers -/
theorem lex_trans : ∀ {a b c : List Int}, lexL a b = true → lexL b c = true → lexL a c = true
  | _, [], [], h, h2 => by simp [lexL] at h2
  | [], _ :: _, _ :: _, _, _ => by simp [lexL]
  | x :: a, [], _ :: _, h, _ => by simp [lexL] at h
  | [], [], _ :: _, h, _ => by simp [lexL] at h
  | _, _ :: _, [], _, h2 => by simp [lexL] at h2
  | x :: a, y :: b, z :: c, h, h2 => by
    simp only [lexL] at h h2 ⊢
    by_cases h3 : x = y
    · subst h3
      rw [if_pos rfl] at h
      by_cases h4 : x = z
      · subst h4
        rw [if_pos rfl] at h2 ⊢
        exact lex_trans h h2
      · rw [if_neg h4] at h2 ⊢
        exact h2
    · rw [if_neg h3] at h
      have h := of_decide_eq_true h
      by_cases h4 : y = z
      · subst h4
        rw [if_neg h3]
        exact decide_eq_true h
      · rw [if_neg h4] at h2
        have h2 := of_decide_eq_true h2
        rw [if_neg (by omega)]
        exact decide_eq_true (by omega)
theorem lex_tri : ∀ {a b : List Int}, lexL a b = false → lexL b a = false → a = b
  | [], [], _, _ => rfl
  | [], _ :: _, h, _ => by simp [lexL] at h
  | _ :: _, [], _, h => by simp [lexL] at h
  | x :: a, y :: b, h, h2 => by
    simp only [lexL] at h h2
    by_cases h3 : x = y
    · subst h3
      rw [if_pos rfl] at h h2
      rw [lex_tri h h2]
    · rw [if_neg h3] at h
      rw [if_neg (fun q => h3 q.symm)] at h2
      have h := of_decide_eq_false h
      have h2 := of_decide_eq_false h2
      omega
theorem lex_irr : ∀ {a : List Int}, lexL a a = false
  | [] => rfl
  | x :: a => by simp only [lexL, if_true]; exact lex_irr
theorem lex_asym {a b : List Int} (h : lexL a b = true) : lexL b a = false := by
  cases h2 : lexL b a with
  | false => rfl
  | true => have := lex_trans h h2; rw [lex_irr] at this; cases this
abbrev lexLe (a b : List Int) : Prop := lexL b a = false
theorem lexLe_trans {a b c : List Int} (h : lexLe a b) (h2 : lexLe b c) : lexLe a c := by
  unfold lexLe at *
  cases h3 : lexL c a with
  | false => rfl
  | true =>
    cases h4 : lexL a b with
    | true => have := lex_trans h3 h4; rw [h2] at this; cases this
    | false =>
      have := lex_tri h4 h
      subst this
      rw [h2] at h3; cases h3
theorem insL_perm (i : List Int) : ∀ r : List (List Int), (insL i r).Perm (i :: r)
  | [] => .refl _
  | j :: r => by
    simp only [insL]
    split
    · exact .refl _
    · exact (List.Perm.cons _ (insL_perm i r)).trans (List.Perm.swap ..)
theorem sortL_perm : ∀ r : List (List Int), (sortL r).Perm r
  | [] => .refl _
  | i :: r => by
    simp only [sortL]
    exact (insL_perm i _).trans (List.Perm.cons _ (sortL_perm r))
theorem insL_sorted (i : List Int) : ∀ {r : List (List Int)}, r.Pairwise lexLe → (insL i r).Pairwise lexLe
  | [], _ => by simp [insL]
  | j :: r, h => by
    simp only [insL]
    have h2 := List.pairwise_cons.1 h
    split
    · rename_i hj
      refine List.pairwise_cons.2 ⟨?_, h⟩
      intro a ha
      rcases List.mem_cons.1 ha with rfl | ha
      · exact lex_asym hj
      · exact lexLe_trans (lex_asym hj) (h2.1 a ha)
    · rename_i hj
      refine List.pairwise_cons.2 ⟨?_, insL_sorted i h2.2⟩
      intro a ha
      rcases List.mem_cons.1 ((insL_perm i r).mem_iff.1 ha) with rfl | ha
      · have : lexL a j = false := by simpa using hj
        exact this
      · exact h2.1 a ha
theorem sortL_sorted : ∀ r : List (List Int), (sortL r).Pairwise lexLe
  | [] => .nil
  | i :: r => by simp only [sortL]; exact insL_sorted i (sortL_sorted r)
theorem sortL_eq {r q : List (List Int)} (hp : r.Perm q) (hq : q.Pairwise fun a b => lexL a b = true) : sortL r = q :=
  List.Perm.eq_of_pairwise (le := lexLe) (fun a b _ _ h1 h2 => (lex_tri h1 h2).symm) (sortL_sorted r) (hq.imp fun h => lex_asym h) ((sortL_perm r).trans hp)
theorem dedI_mem {x : Int} : ∀ {L : List Int}, x ∈ dedI L ↔ x ∈ L
  | [] => by simp [dedI]
  | a :: L => by
    simp only [dedI]
    split
    · rename_i h
      rw [dedI_mem]
      have ha : a ∈ L := by rw [← dedI_mem (L := L)]; simpa using h
      constructor
      · exact List.mem_cons_of_mem _
      · intro hx
        rcases List.mem_cons.1 hx with rfl | hx
        · exact ha
        · exact hx
    · simp only [List.mem_cons, dedI_mem]
theorem dedI_nodup : ∀ {L : List Int}, (dedI L).Nodup
  | [] => by simp [dedI]
  | a :: L => by
    simp only [dedI]
    split
    · exact dedI_nodup
    · rename_i h
      refine List.nodup_cons.2 ⟨?_, dedI_nodup⟩
      simpa using h
end Fs
namespace Fs
open PySem L2

/-- what is known of the world: the written part, where the exceptions' classes lie, their fields -/
structure Wc where
  K : PySem.W.Frag
  ca : Nat → Addr
  fl : Nat → Option Str
/-- an exception's object, made and perhaps raised -/
def exoH (a C : Addr) (dx : Option Addr) : HO := .ext fun h => ∃ (oe : Obj) (vs : Array Value), h.get? a = some oe ∧ oe.cls = .ref C ∧ oe.dict = dx ∧ oe.data = .fields vs
/-- what may stand where a cell lies -/
def HCell : HO → Bool
  | .lst _ | .dK _ | .dT _ | .set _ _ => true
  | .frz _ (.lst _) => true
  | _ => false
section
variable (Z : Wc) (ρ : List Addr) (H : Hp)
mutual
/-- d is what v stands for; F: where its fresh things lie -/
def Rp : D → V → List Addr → Prop
  | .non, v, F => v = .non ∧ F = []
  | .bl b, v, F => v = .bl b ∧ F = []
  | .int i, v, F => v = .int i ∧ F = []
  | .str s, v, F => v = .str s ∧ F = []
  | .tup ds, v, F => ∃ a vs, v = .ref a ∧ SqT Z.K H a vs ∧ Rps ds vs F
  | .ref l, v, F => ∃ a, ρ[l]? = some a ∧ v = .ref a ∧ F = []
  | .lst ds, v, F => ∃ a vs G, v = .ref a ∧ H a = some (.lst vs) ∧ Rps ds vs G ∧ F = a :: G
  | .frl ds, v, F => ∃ a o vs G, v = .ref a ∧ H a = some (.frz o (.lst vs)) ∧ Rps ds vs G ∧ F = a :: G
  | .dic kvs, v, F => ∃ a G, v = .ref a ∧ F = a :: G ∧
      ((∃ ws, H a = some (.dK ws) ∧ RpK kvs ws G) ∨ ∃ ws, H a = some (.dT ws) ∧ RpT kvs ws G)
  | .set xs, v, F => ∃ a S, v = .ref a ∧ H a = some (.set S xs.length) ∧ xs.Nodup ∧ (∀ i, S i = xs.contains i) ∧ F = [a]
  | .exc c fs, v, F => ∃ a dx, v = .ref a ∧ H a = some (exoH a (Z.ca c) dx) ∧ RpX (Z.fl c) dx fs ∧ F = []
  | .lam _ _, _, _ => False
def RpX (f : Option Str) (dx : Option Addr) : List D → Prop
  | [] => f = none
  | d :: r => r = [] ∧ ∃ n x u, f = some n ∧ dx = some x ∧ H x = some (.xd [(n, u)]) ∧ Rp d u []
def Rps : List D → List V → List Addr → Prop
  | [], vs, F => vs = [] ∧ F = []
  | d :: ds, vs, F => ∃ v ws F1 F2, vs = v :: ws ∧ Rp d v F1 ∧ Rps ds ws F2 ∧ F = F1 ++ F2
def RpK : List (Ky × D) → List (L2.Key × V) → List Addr → Prop
  | [], ws, F => ws = [] ∧ F = []
  | (k, d) :: r, ws, F => ∃ j v ws' F1 F2, k = .k j ∧ ws = (j, v) :: ws' ∧ Rp d v F1 ∧ RpK r ws' F2 ∧ F = F1 ++ F2
def RpT : List (Ky × D) → List (List L2.Key × V) → List Addr → Prop
  | [], ws, F => ws = [] ∧ F = []
  | (k, d) :: r, ws, F => ∃ j v ws' F1 F2, k = .t j ∧ ws = (j, v) :: ws' ∧ Rp d v F1 ∧ RpT r ws' F2 ∧ F = F1 ++ F2
end
end

def isCell : D → Bool
  | .lst _ | .frl _ | .dic _ | .set _ => true
  | _ => false
/-- the store is held: cell l lies at ρ l -/
structure SR (Z : Wc) (ρ : List Addr) (st : Sto) (H : Hp) : Prop where
  len : ρ.length = st.length
  nd : ρ.Nodup
  kind : ∀ (l : Nat) (c : D), st[l]? = some c → isCell c = true
  cell : ∀ (l : Nat) (c : D) (a : Addr), st[l]? = some c → ρ[l]? = some a → Rp Z ρ H c (.ref a) [a]

/-- the names' values -/
def ER (Z : Wc) (ρ : List Addr) (H : Hp) (env : Env) (σ : L2.St) : Prop :=
  env.length = σ.length ∧ ∀ (i : Nat) (d : D), env[i]? = some (some d) → ∃ v, σ[i]? = some (some v) ∧ Rp Z ρ H d v []

/-- from (ρ, H) on: new cells N, fresh things F; all that was tracked and is no cell stands -/
def Stp (ρ : List Addr) (H : Hp) (ρ' : List Addr) (H' : Hp) (F : List Addr) : Prop :=
  ∃ N, ρ' = ρ ++ N ∧ (N ++ F).Nodup ∧ (∀ a ∈ N ++ F, H a = none) ∧ ∀ a o, H a = some o → a ∉ ρ → H' a = some o

section
variable {Z : Wc} {ρ ρ' ρ₁ ρ₂ : List Addr} {H H' H₁ H₂ : Hp} {st st' st₁ : Sto} {F F' F₁ F₂ : List Addr}

theorem Rps.length : ∀ {ds : List D} {vs : List V} {F : List Addr}, Rps Z ρ H ds vs F → ds.length = vs.length
  | [], vs, F, h => by obtain ⟨rfl, _⟩ := h; rfl
  | d :: ds, vs, F, h => by
    obtain ⟨v, ws, F1, F2, rfl, _, h2, _⟩ := h
    simp [Rps.length h2]

mutual
/-- fresh things are tracked -/
theorem Rp.there : ∀ {d : D} {v : V} {F : List Addr}, Rp Z ρ H d v F → ∀ a ∈ F, H a ≠ none
  | .non, v, F, h, a, ha => by obtain ⟨_, rfl⟩ := h; cases ha
  | .bl b, v, F, h, a, ha => by obtain ⟨_, rfl⟩ := h; cases ha
  | .int i, v, F, h, a, ha => by obtain ⟨_, rfl⟩ := h; cases ha
  | .str s, v, F, h, a, ha => by obtain ⟨_, rfl⟩ := h; cases ha
  | .tup ds, v, F, h, a, ha => by obtain ⟨_, _, _, _, h3⟩ := h; exact Rps.there h3 a ha
  | .ref l, v, F, h, a, ha => by obtain ⟨_, _, _, rfl⟩ := h; cases ha
  | .lst ds, v, F, h, a, ha => by
    obtain ⟨b, vs, G, _, hb, h3, rfl⟩ := h
    rcases List.mem_cons.mp ha with rfl | ha
    · rw [hb]; exact nofun
    · exact Rps.there h3 a ha
  | .frl ds, v, F, h, a, ha => by
    obtain ⟨b, o, vs, G, _, hb, h3, rfl⟩ := h
    rcases List.mem_cons.mp ha with rfl | ha
    · rw [hb]; exact nofun
    · exact Rps.there h3 a ha
  | .dic kvs, v, F, h, a, ha => by
    obtain ⟨b, G, _, rfl, h3⟩ := h
    rcases h3 with ⟨ws, hb, h4⟩ | ⟨ws, hb, h4⟩
    · rcases List.mem_cons.mp ha with rfl | ha
      · rw [hb]; exact nofun
      · exact RpK.there h4 a ha
    · rcases List.mem_cons.mp ha with rfl | ha
      · rw [hb]; exact nofun
      · exact RpT.there h4 a ha
  | .set xs, v, F, h, a, ha => by
    obtain ⟨b, S, _, hb, _, _, rfl⟩ := h
    rcases List.mem_cons.mp ha with rfl | ha
    · rw [hb]; exact nofun
    · cases ha
  | .exc _ _, v, F, h, a, ha => by obtain ⟨_, _, _, _, _, rfl⟩ := h; cases ha
  | .lam _ _, v, F, h, a, ha => h.elim
theorem Rps.there : ∀ {ds : List D} {vs : List V} {F : List Addr}, Rps Z ρ H ds vs F → ∀ a ∈ F, H a ≠ none
  | [], vs, F, h, a, ha => by obtain ⟨_, rfl⟩ := h; cases ha
  | d :: ds, vs, F, h, a, ha => by
    obtain ⟨v, ws, F1, F2, rfl, h1, h2, rfl⟩ := h
    rcases List.mem_append.mp ha with ha | ha
    · exact Rp.there h1 a ha
    · exact Rps.there h2 a ha
theorem RpK.there : ∀ {ds : List (Ky × D)} {vs : List (L2.Key × V)} {F : List Addr}, RpK Z ρ H ds vs F → ∀ a ∈ F, H a ≠ none
  | [], vs, F, h, a, ha => by obtain ⟨_, rfl⟩ := h; cases ha
  | (k, d) :: ds, vs, F, h, a, ha => by
    obtain ⟨j, v, ws, F1, F2, _, rfl, h1, h2, rfl⟩ := h
    rcases List.mem_append.mp ha with ha | ha
    · exact Rp.there h1 a ha
    · exact RpK.there h2 a ha
theorem RpT.there : ∀ {ds : List (Ky × D)} {vs : List (List L2.Key × V)} {F : List Addr}, RpT Z ρ H ds vs F → ∀ a ∈ F, H a ≠ none
  | [], vs, F, h, a, ha => by obtain ⟨_, rfl⟩ := h; cases ha
  | (k, d) :: ds, vs, F, h, a, ha => by
    obtain ⟨j, v, ws, F1, F2, _, rfl, h1, h2, rfl⟩ := h
    rcases List.mem_append.mp ha with ha | ha
    · exact Rp.there h1 a ha
    · exact RpT.there h2 a ha
end

theorem SqT.stay {K : PySem.W.Frag} (ht : ∀ a o, H a = some o → HCell o = false → H' a = some o) {a : Addr} {xs : List V} (h : SqT K H a xs) : SqT K H' a xs := by
  rcases h with h | h
  · refine .inl ?_
    rcases h with h | ⟨ob, h⟩
    · exact .inl (ht a _ h rfl)
    · exact .inr ⟨ob, ht a _ h rfl⟩
  · exact .inr h
mutual
/-- a value stays, where its fresh things, the tuples and the cells' places stay -/
theorem Rp.stay (hr : ∀ (l : Nat) (a : Addr), ρ[l]? = some a → ρ'[l]? = some a) (ht : ∀ a o, H a = some o → HCell o = false → H' a = some o) : ∀ {d : D} {v : V} {F : List Addr}, (∀ a ∈ F, ∀ o, H a = some o → H' a = some o) → Rp Z ρ H d v F → Rp Z ρ' H' d v F
  | .non, v, F, hk, h => h
  | .bl b, v, F, hk, h => h
  | .int i, v, F, hk, h => h
  | .str s, v, F, hk, h => h
  | .tup ds, v, F, hk, h => by
    obtain ⟨a, vs, e, h2, h3⟩ := h
    exact ⟨a, vs, e, SqT.stay ht h2, Rps.stay hr ht hk h3⟩
  | .ref l, v, F, hk, h => by
    obtain ⟨a, h1, e, f⟩ := h
    exact ⟨a, hr l a h1, e, f⟩
  | .lst ds, v, F, hk, h => by
    obtain ⟨a, vs, G, e, h2, h3, rfl⟩ := h
    exact ⟨a, vs, G, e, hk a List.mem_cons_self _ h2, Rps.stay hr ht (fun b hb => hk b (List.mem_cons_of_mem _ hb)) h3, rfl⟩
  | .frl ds, v, F, hk, h => by
    obtain ⟨a, o, vs, G, e, h2, h3, rfl⟩ := h
    exact ⟨a, o, vs, G, e, hk a List.mem_cons_self _ h2, Rps.stay hr ht (fun b hb => hk b (List.mem_cons_of_mem _ hb)) h3, rfl⟩
  | .dic kvs, v, F, hk, h => by
    obtain ⟨a, G, e, rfl, h3⟩ := h
    refine ⟨a, G, e, rfl, ?_⟩
    rcases h3 with ⟨ws, hb, h4⟩ | ⟨ws, hb, h4⟩
    · exact .inl ⟨ws, hk a List.mem_cons_self _ hb, RpK.stay hr ht (fun b hb => hk b (List.mem_cons_of_mem _ hb)) h4⟩
    · exact .inr ⟨ws, hk a List.mem_cons_self _ hb, RpT.stay hr ht (fun b hb => hk b (List.mem_cons_of_mem _ hb)) h4⟩
  | .set xs, v, F, hk, h => by
    obtain ⟨a, S, e, hb, n, z, rfl⟩ := h
    exact ⟨a, S, e, hk a List.mem_cons_self _ hb, n, z, rfl⟩
  | .exc c fs, v, F, hk, h => by
    obtain ⟨a, dx, e, h2, h3, f⟩ := h
    exact ⟨a, dx, e, ht a _ h2 rfl, RpX.stay hr ht h3, f⟩
  | .lam _ _, v, F, hk, h => h.elim
theorem RpX.stay (hr : ∀ (l : Nat) (a : Addr), ρ[l]? = some a → ρ'[l]? = some a) (ht : ∀ a o, H a = some o → HCell o = false → H' a = some o) {f : Option Str} {dx : Option Addr} : ∀ {ds : List D}, RpX Z ρ H f dx ds → RpX Z ρ' H' f dx ds
  | [], h => h
  | d :: r, h => by
    obtain ⟨e, n, x, u, h1, h2, h3, h4⟩ := h
    exact ⟨e, n, x, u, h1, h2, ht x _ h3 rfl, Rp.stay hr ht (by simp) h4⟩
theorem Rps.stay (hr : ∀ (l : Nat) (a : Addr), ρ[l]? = some a → ρ'[l]? = some a) (ht : ∀ a o, H a = some o → HCell o = false → H' a = some o) : ∀ {ds : List D} {vs : List V} {F : List Addr}, (∀ a ∈ F, ∀ o, H a = some o → H' a = some o) → Rps Z ρ H ds vs F → Rps Z ρ' H' ds vs F
  | [], vs, F, hk, h => h
  | d :: ds, vs, F, hk, h => by
    obtain ⟨v, ws, F1, F2, rfl, h1, h2, rfl⟩ := h
    exact ⟨v, ws, F1, F2, rfl, Rp.stay hr ht (fun b hb => hk b (List.mem_append_left _ hb)) h1, Rps.stay hr ht (fun b hb => hk b (List.mem_append_right _ hb)) h2, rfl⟩
theorem RpK.stay (hr : ∀ (l : Nat) (a : Addr), ρ[l]? = some a → ρ'[l]? = some a) (ht : ∀ a o, H a = some o → HCell o = false → H' a = some o) : ∀ {ds : List (Ky × D)} {vs : List (L2.Key × V)} {F : List Addr}, (∀ a ∈ F, ∀ o, H a = some o → H' a = some o) → RpK Z ρ H ds vs F → RpK Z ρ' H' ds vs F
  | [], vs, F, hk, h => h
  | (k, d) :: ds, vs, F, hk, h => by
    obtain ⟨j, v, ws, F1, F2, e, rfl, h1, h2, rfl⟩ := h
    exact ⟨j, v, ws, F1, F2, e, rfl, Rp.stay hr ht (fun b hb => hk b (List.mem_append_left _ hb)) h1, RpK.stay hr ht (fun b hb => hk b (List.mem_append_right _ hb)) h2, rfl⟩
theorem RpT.stay (hr : ∀ (l : Nat) (a : Addr), ρ[l]? = some a → ρ'[l]? = some a) (ht : ∀ a o, H a = some o → HCell o = false → H' a = some o) : ∀ {ds : List (Ky × D)} {vs : List (List L2.Key × V)} {F : List Addr}, (∀ a ∈ F, ∀ o, H a = some o → H' a = some o) → RpT Z ρ H ds vs F → RpT Z ρ' H' ds vs F
  | [], vs, F, hk, h => h
  | (k, d) :: ds, vs, F, hk, h => by
    obtain ⟨j, v, ws, F1, F2, e, rfl, h1, h2, rfl⟩ := h
    exact ⟨j, v, ws, F1, F2, e, rfl, Rp.stay hr ht (fun b hb => hk b (List.mem_append_left _ hb)) h1, RpT.stay hr ht (fun b hb => hk b (List.mem_append_right _ hb)) h2, rfl⟩
end

theorem SR.at (s : SR Z ρ st H) {l : Nat} {c : D} (h : st[l]? = some c) : ∃ a, ρ[l]? = some a ∧ isCell c = true ∧ Rp Z ρ H c (.ref a) [a] := by
  have hl : l < ρ.length := by rw [s.len]; exact (List.getElem?_eq_some_iff.mp h).1
  exact ⟨ρ[l], List.getElem?_eq_getElem hl, s.kind l c h, s.cell l c _ h (List.getElem?_eq_getElem hl)⟩
theorem SR.at' (s : SR Z ρ st H) {l : Nat} {a : Addr} (h : ρ[l]? = some a) : ∃ c, st[l]? = some c ∧ isCell c = true ∧ Rp Z ρ H c (.ref a) [a] := by
  have hl : l < st.length := by rw [← s.len]; exact (List.getElem?_eq_some_iff.mp h).1
  exact ⟨st[l], List.getElem?_eq_getElem hl, s.kind l _ (List.getElem?_eq_getElem hl), s.cell l _ a (List.getElem?_eq_getElem hl) h⟩
theorem Rp.hcell {c : D} {a : Addr} {F : List Addr} (h : Rp Z ρ H c (.ref a) F) (k : isCell c = true) : ∃ o, H a = some o ∧ HCell o = true := by
  cases c with
  | lst ds => obtain ⟨b, vs, G, z, h2, _, _⟩ := h; cases z; exact ⟨_, h2, rfl⟩
  | frl ds => obtain ⟨b, o, vs, G, z, h2, _, _⟩ := h; cases z; exact ⟨_, h2, rfl⟩
  | dic kvs => obtain ⟨b, G, z, _, h3⟩ := h; cases z; rcases h3 with ⟨ws, h2, _⟩ | ⟨ws, h2, _⟩ <;> exact ⟨_, h2, rfl⟩
  | set xs => obtain ⟨b, S, z, h2, _⟩ := h; cases z; exact ⟨_, h2, rfl⟩
  | _ => cases k
theorem SR.hcell (s : SR Z ρ st H) {a : Addr} (h : a ∈ ρ) : ∃ o, H a = some o ∧ HCell o = true := by
  obtain ⟨l, e⟩ := List.mem_iff_getElem?.mp h
  obtain ⟨c, _, k, r⟩ := s.at' e
  exact r.hcell k
theorem SR.has (s : SR Z ρ st H) {a : Addr} (h : a ∈ ρ) : H a ≠ none := by
  obtain ⟨o, e, _⟩ := s.hcell h
  rw [e]; exact nofun
theorem SR.fresh (s : SR Z ρ st H) {a : Addr} (h : H a = none) : a ∉ ρ := fun z => s.has z h
theorem SR.not_cell (s : SR Z ρ st H) {a : Addr} {o : HO} (h : H a = some o) (k : HCell o = false) : a ∉ ρ := fun z => by
  obtain ⟨u, e, q⟩ := s.hcell z
  rw [h] at e; cases e; rw [k] at q; cases q
theorem Stp.refl {F : List Addr} (n : F.Nodup) (h : ∀ a ∈ F, H a = none) : Stp ρ H ρ H F := ⟨[], by simp, by simpa using n, by simpa using h, fun _ _ e _ => e⟩
theorem Stp.id : Stp ρ H ρ H [] := Stp.refl List.nodup_nil (by simp)
theorem Stp.pre (s : Stp ρ H ρ' H' F) : ∀ (l : Nat) (a : Addr), ρ[l]? = some a → ρ'[l]? = some a := by
  obtain ⟨N, rfl, _⟩ := s
  intro l a h
  rw [List.getElem?_append_left (List.getElem?_eq_some_iff.mp h).1]
  exact h
theorem Stp.tup (s : Stp ρ H ρ' H' F) (r : SR Z ρ st H) : ∀ a o, H a = some o → HCell o = false → H' a = some o := by
  obtain ⟨N, _, _, _, k⟩ := s
  exact fun a o h q => k a o h (r.not_cell h q)
theorem Stp.keep (s : Stp ρ H ρ' H' F) {a : Addr} (h : a ∉ ρ) : ∀ o, H a = some o → H' a = some o := by
  obtain ⟨N, _, _, _, k⟩ := s
  exact fun o e => k a o e h
/-- a value from before -/
theorem Stp.val {d : D} {v : V} {G : List Addr} (s : Stp ρ H ρ' H' F) (r : SR Z ρ st H) (hG : ∀ a ∈ G, a ∉ ρ) (h : Rp Z ρ H d v G) : Rp Z ρ' H' d v G :=
  Rp.stay s.pre (s.tup r) (fun a ha => s.keep (hG a ha)) h
theorem Stp.vals {ds : List D} {vs : List V} {G : List Addr} (s : Stp ρ H ρ' H' F) (r : SR Z ρ st H) (hG : ∀ a ∈ G, a ∉ ρ) (h : Rps Z ρ H ds vs G) : Rps Z ρ' H' ds vs G :=
  Rps.stay s.pre (s.tup r) (fun a ha => s.keep (hG a ha)) h
theorem Stp.env {env : Env} {σ : L2.St} (s : Stp ρ H ρ' H' F) (r : SR Z ρ st H) (h : ER Z ρ H env σ) : ER Z ρ' H' env σ :=
  ⟨h.1, fun i d e => let ⟨v, h1, h2⟩ := h.2 i d e; ⟨v, h1, s.val r (by simp) h2⟩⟩
/-- the fresh things of a value made on the way are none of the cells -/
theorem Stp.out (s : Stp ρ H ρ' H' F) (r : SR Z ρ st H) : ∀ a ∈ F, a ∉ ρ' := by
  obtain ⟨N, rfl, n, f, _⟩ := s
  intro a ha z
  rcases List.mem_append.mp z with z | z
  · exact r.has z (f a (List.mem_append_right _ ha))
  · exact (List.nodup_append.mp n).2.2 a z a ha rfl
/-- one after the other: what the first made is still there -/
theorem Stp.trans {G : List Addr} (s : Stp ρ H ρ₁ H₁ F) (t : Stp ρ₁ H₁ ρ₂ H₂ G) (r : SR Z ρ st H) (r₁ : SR Z ρ₁ st₁ H₁) (hF : ∀ a ∈ F, H₁ a ≠ none) : Stp ρ H ρ₂ H₂ (F ++ G) := by
  have out := s.out r
  obtain ⟨N, rfl, n, f, k⟩ := s
  obtain ⟨N', rfl, n', f', k'⟩ := t
  have old : ∀ a ∈ N' ++ G, H a = none := fun a ha => by
    cases e : H a with
    | none => rfl
    | some o =>
      have z : a ∉ ρ := fun z => r₁.has (List.mem_append_left _ z) (f' a ha)
      have q := k a o e z
      rw [f' a ha] at q; cases q
  refine ⟨N ++ N', by simp [List.append_assoc], ?_, ?_, fun a o e z => ?_⟩
  · have nF := (List.nodup_append.mp n)
    have nG := (List.nodup_append.mp n')
    rw [List.append_assoc]
    refine List.nodup_append.mpr ⟨nF.1, ?_, ?_⟩
    · rw [← List.append_assoc]
      refine List.nodup_append.mpr ⟨List.nodup_append.mpr ⟨nG.1, nF.2.1, ?_⟩, nG.2.1, ?_⟩
      · intro a ha b hb e
        subst e
        exact hF a hb (f' a (List.mem_append_left _ ha))
      · intro a ha b hb e
        subst e
        rcases List.mem_append.mp ha with ha | ha
        · exact nG.2.2 a ha a hb rfl
        · exact hF a ha (f' a (List.mem_append_right _ hb))
    · intro a ha b hb e
      subst e
      rcases List.mem_append.mp hb with hb | hb
      · exact r₁.has (List.mem_append_right _ ha) (f' a (List.mem_append_left _ hb))
      · rcases List.mem_append.mp hb with hb | hb
        · exact nF.2.2 a ha a hb rfl
        · exact r₁.has (List.mem_append_right _ ha) (f' a (List.mem_append_right _ hb))
  · intro a ha
    rw [List.append_assoc] at ha
    rcases List.mem_append.mp ha with ha | ha
    · exact f a (List.mem_append_left _ ha)
    · rw [← List.append_assoc] at ha
      rcases List.mem_append.mp ha with ha | ha
      · rcases List.mem_append.mp ha with ha | ha
        · exact old a (List.mem_append_left _ ha)
        · exact f a (List.mem_append_right _ ha)
      · exact old a (List.mem_append_right _ ha)
  · have q := k a o e z
    refine k' a o q fun y => ?_
    rcases List.mem_append.mp y with y | y
    · exact z y
    · rw [f a (List.mem_append_left _ y)] at e; cases e
/-- the fresh things may be let go -/
theorem Stp.less {G : List Addr} (s : Stp ρ H ρ' H' F) (h : G.Sublist F) : Stp ρ H ρ' H' G := by
  obtain ⟨N, rfl, n, f, k⟩ := s
  refine ⟨N, rfl, n.sublist (List.Sublist.append (List.Sublist.refl _) h), fun a ha => f a ?_, k⟩
  exact (List.Sublist.append (List.Sublist.refl _) h).subset ha
theorem Stp.none (s : Stp ρ H ρ' H' F) : Stp ρ H ρ' H' [] := s.less (List.nil_sublist _)
theorem Stp.nodup (s : Stp ρ H ρ' H' F) : F.Nodup := by
  obtain ⟨N, rfl, n, f, k⟩ := s
  exact (List.nodup_append.mp n).2.1
end
end Fs
namespace Fs
open PySem L2

/-- the exception e in flight: its class, its own dict -/
def XcR (Z : Wc) (ρ : List Addr) (H : Hp) (e : D) (cls : Value) (dx : Option Addr) : Prop :=
  ∃ c fs, e = .exc c fs ∧ cls = .ref (Z.ca c) ∧ RpX Z ρ H (Z.fl c) dx fs

abbrev Rel (α β : Type) := List Addr → Hp → α → β → List Addr → Prop

/-- what is to be shown behind r, begun at (ρ, H) -/
def Post {α β : Type} (rel : Rel α β) (Z : Wc) (W : WX) (r : R α) (ρ : List Addr) (σ : L2.St) (H : Hp) (Q : β → Hp → Prop) : Prop := match r with
  | .ok d st' => ∀ ρ' H' v F, Stp ρ H ρ' H' F → SR Z ρ' st' H' → rel ρ' H' d v F → Q v H'
  | .exc e st' => ∀ ρ' H' cls dx, Stp ρ H ρ' H' [] → SR Z ρ' st' H' → XcR Z ρ' H' e cls dx → W cls dx σ H'
  | .bad => False

/-- where we are: behind a way from (ρ, H), with fresh things F in hand -/
structure Now (Z : Wc) (ρ : List Addr) (H : Hp) (ρ' : List Addr) (st' : Sto) (H' : Hp) (F : List Addr) : Prop where
  stp : Stp ρ H ρ' H' F
  sr : SR Z ρ' st' H'
  th : ∀ a ∈ F, H' a ≠ none
  out : ∀ a ∈ F, a ∉ ρ'
  nd : F.Nodup

section
variable {Z : Wc} {W : WX} {ρ ρ' ρ₁ ρ₂ : List Addr} {H H' H₁ H₂ : Hp} {st st' st₁ : Sto} {F F' F₁ F₂ G : List Addr} {σ : L2.St} {α β γ δ : Type} {rel : Rel α β} {rel₁ : Rel γ δ}

/-- a relation that speaks of tracked things and is carried along -/
structure RelOk (Z : Wc) (rel : Rel α β) : Prop where
  there : ∀ {ρ H d v F}, rel ρ H d v F → ∀ a ∈ F, H a ≠ none
  stay : ∀ {ρ H ρ' H' d v F}, (∀ (l : Nat) (a : Addr), ρ[l]? = some a → ρ'[l]? = some a) → (∀ a o, H a = some o → HCell o = false → H' a = some o) → (∀ a ∈ F, ∀ o, H a = some o → H' a = some o) → rel ρ H d v F → rel ρ' H' d v F
theorem rpOk : RelOk Z (Rp Z) := ⟨fun h => h.there, fun hr ht hk h => h.stay hr ht hk⟩
theorem rpsOk : RelOk Z (Rps Z) := ⟨fun h => h.there, fun hr ht hk h => h.stay hr ht hk⟩
/-- plain data -/
def RelEq (α : Type) : Rel α α := fun _ _ a b F => a = b ∧ F = []
theorem reqOk : RelOk Z (RelEq α) := ⟨fun h a ha => (by rw [h.2] at ha; cases ha), fun _ _ _ h => h⟩

theorem Now.start (s : SR Z ρ st H) : Now Z ρ H ρ st H [] := ⟨Stp.id, s, by simp, by simp, List.nodup_nil⟩
theorem Now.more (n : Now Z ρ H ρ₁ st₁ H₁ F) (s : SR Z ρ st H) (t : Stp ρ₁ H₁ ρ₂ H₂ G) (sr : SR Z ρ₂ st' H₂) (g : ∀ a ∈ G, H₂ a ≠ none) : Now Z ρ H ρ₂ st' H₂ (F ++ G) := by
  have tr := n.stp.trans t s n.sr n.th
  refine ⟨tr, sr, fun a ha => ?_, fun a ha => ?_, tr.nodup⟩
  · rcases List.mem_append.mp ha with ha | ha
    · have := n.th a ha
      intro z
      cases e : H₁ a with
      | none => exact this e
      | some o => have q := t.keep (n.out a ha) o e; rw [z] at q; cases q
    · exact g a ha
  · rcases List.mem_append.mp ha with ha | ha
    · obtain ⟨N, e, _, f, _⟩ := t
      intro z
      rw [e] at z
      rcases List.mem_append.mp z with z | z
      · exact n.out a ha z
      · exact n.th a ha (f a (List.mem_append_left _ z))
    · exact t.out n.sr a ha
theorem Now.less (n : Now Z ρ H ρ₁ st₁ H₁ F) (h : G.Sublist F) : Now Z ρ H ρ₁ st₁ H₁ G :=
  ⟨n.stp.less h, n.sr, fun a ha => n.th a (h.subset ha), fun a ha => n.out a (h.subset ha), n.nd.sublist h⟩
theorem Post.mono {r : R α} {Q Q' : β → Hp → Prop} (h : Post rel Z W r ρ σ H Q) (q : ∀ v H', Q v H' → Q' v H') : Post rel Z W r ρ σ H Q' := by
  cases r with
  | ok d s => exact fun ρ' H' v F a b c => q v H' (h ρ' H' v F a b c)
  | exc e s => exact h
  | bad => exact h
/-- the first of two: behind it stands where we are, and what is left to be shown -/
theorem Post.seq (ok : RelOk Z rel₁) {m : M γ} {f : γ → M α} {Q : β → Hp → Prop} (n : Now Z ρ H ρ₁ st₁ H₁ F) (s : SR Z ρ st H) (h : Post rel Z W (bnd m f st₁) ρ σ H Q) :
    Post rel₁ Z W (m st₁) ρ₁ σ H₁ (fun v H' => ∃ ρ' d st' G, Now Z ρ H ρ' st' H' (F ++ G) ∧ Stp ρ₁ H₁ ρ' H' G ∧ rel₁ ρ' H' d v G ∧ Post rel Z W (f d st') ρ σ H Q) := by
  unfold bnd at h
  cases e : m st₁ with
  | ok d s' =>
    rw [e] at h
    exact fun ρ' H' v G t sr r => ⟨ρ', d, s', G, n.more s t sr (ok.there r), t, r, h⟩
  | exc x s' =>
    rw [e] at h
    exact fun ρ' H' cls dx t sr r => h ρ' H' cls dx (n.more s t sr (by simp)).stp.none sr r
  | bad => rw [e] at h; exact h
/-- the rest is the whole -/
theorem Post.tail (ok : RelOk Z rel) {r : R α} {Q : β → Hp → Prop} (n : Now Z ρ H ρ₁ st₁ H₁ F) (s : SR Z ρ st H) (h : Post rel Z W r ρ σ H Q) : Post rel Z W r ρ₁ σ H₁ Q := by
  cases r with
  | ok d s' => exact fun ρ' H' v G t sr q => h ρ' H' v G ((n.more s t sr (ok.there q)).stp.less (List.sublist_append_right _ _)) sr q
  | exc x s' => exact fun ρ' H' cls dx t sr q => h ρ' H' cls dx (n.more s t sr (by simp)).stp.none sr q
  | bad => exact h
theorem Post.ret {d : α} {v : β} {Q : β → Hp → Prop} (h : Post rel Z W (ret d st') ρ σ H Q) (n : Now Z ρ H ρ' st' H' F) (r : rel ρ' H' d v F) : Q v H' := h ρ' H' v F n.stp n.sr r
theorem Post.ok {d : α} {v : β} {Q : β → Hp → Prop} (h : Post rel Z W (.ok d st') ρ σ H Q) (n : Now Z ρ H ρ' st' H' F) (r : rel ρ' H' d v F) : Q v H' := h ρ' H' v F n.stp n.sr r
/-- a new thing at p, tracked beside -/
theorem Now.new (n : Now Z ρ H ρ' st' H' F) (s : SR Z ρ st H) {p : Addr} {o : HO} (hp : H' p = none) : Now Z ρ H ρ' st' (upd H' p o) (p :: F) := by
  have hpr : p ∉ ρ' := n.sr.fresh hp
  have hpF : p ∉ F := fun z => n.th p z hp
  have up : ∀ a u, H' a = some u → upd H' p o a = some u := fun a u e => by rw [upd_ne (fun z => by rw [z, hp] at e; cases e)]; exact e
  obtain ⟨N, rfl, nd, f, k⟩ := n.stp
  have h0 : H p = none := by
    cases e : H p with
    | none => rfl
    | some u =>
      have := k p u e (fun z => hpr (List.mem_append_left _ z))
      rw [hp] at this; cases this
  refine ⟨⟨N, rfl, ?_, ?_, fun a u e z => up a u (k a u e z)⟩, ?_, ?_, ?_, List.nodup_cons.mpr ⟨hpF, n.nd⟩⟩
  · have q := List.nodup_append.mp nd
    refine List.nodup_append.mpr ⟨q.1, List.nodup_cons.mpr ⟨hpF, n.nd⟩, ?_⟩
    intro a ha b hb e
    subst e
    rcases List.mem_cons.mp hb with rfl | hb
    · exact hpr (List.mem_append_right _ ha)
    · exact q.2.2 a ha a hb rfl
  · intro a ha
    rcases List.mem_append.mp ha with ha | ha
    · exact f a (List.mem_append_left _ ha)
    · rcases List.mem_cons.mp ha with rfl | ha
      · exact h0
      · exact f a (List.mem_append_right _ ha)
  · refine ⟨n.sr.len, n.sr.nd, n.sr.kind, fun l c a h1 h2 => ?_⟩
    exact Rp.stay (fun _ _ e => e) (fun a u e _ => up a u e) (fun b _ u e => up b u e) (n.sr.cell l c a h1 h2)
  · intro a ha
    rcases List.mem_cons.mp ha with rfl | ha
    · rw [upd_same]; exact nofun
    · intro z
      cases e : H' a with
      | none => exact n.th a ha e
      | some u => rw [up a u e] at z; cases z
  · intro a ha
    rcases List.mem_cons.mp ha with rfl | ha
    · exact hpr
    · exact n.out a ha
theorem rp_up {p : Addr} {o : HO} (hp : H' p = none) {d : D} {v : V} (h : Rp Z ρ' H' d v F) : Rp Z ρ' (upd H' p o) d v F := by
  have up : ∀ a u, H' a = some u → upd H' p o a = some u := fun a u e => by rw [upd_ne (fun z => by rw [z, hp] at e; cases e)]; exact e
  exact Rp.stay (fun _ _ e => e) (fun a u e _ => up a u e) (fun b _ u e => up b u e) h
theorem rps_up {p : Addr} {o : HO} (hp : H' p = none) {d : List D} {v : List V} (h : Rps Z ρ' H' d v F) : Rps Z ρ' (upd H' p o) d v F := by
  have up : ∀ a u, H' a = some u → upd H' p o a = some u := fun a u e => by rw [upd_ne (fun z => by rw [z, hp] at e; cases e)]; exact e
  exact Rps.stay (fun _ _ e => e) (fun a u e _ => up a u e) (fun b _ u e => up b u e) h
theorem Rps.append : ∀ {xs ys : List D} {vs ws : List V} {F G : List Addr}, Rps Z ρ H xs vs F → Rps Z ρ H ys ws G → Rps Z ρ H (xs ++ ys) (vs ++ ws) (F ++ G)
  | [], ys, vs, ws, F, G, h, k => by obtain ⟨rfl, rfl⟩ := h; exact k
  | x :: xs, ys, vs, ws, F, G, h, k => by
    obtain ⟨v, ws', F1, F2, rfl, h1, h2, rfl⟩ := h
    exact ⟨v, ws' ++ ws, F1, F2 ++ G, rfl, h1, Rps.append h2 k, by simp [List.append_assoc]⟩

/-! ### lists and tuples as they are read -/
/-- a list of these items lies at a; what is fresh of it: F -/
theorem lstv_ok {d : D} {x : V} {xs : List D} (s : SR Z ρ st H) (r : Rp Z ρ H d x F) (e : lstv st d = some xs) :
    ∃ a vs G, x = .ref a ∧ H a = some (.lst vs) ∧ Rps Z ρ H xs vs G ∧ G.Sublist F := by
  cases d with
  | lst ds =>
    cases e
    obtain ⟨a, vs, G, rfl, h, r', rfl⟩ := r
    exact ⟨a, vs, G, rfl, h, r', List.sublist_cons_self _ _⟩
  | ref l =>
    obtain ⟨a, hl, rfl, rfl⟩ := r
    cases hc : st[l]? with
    | none => simp [lstv, hc] at e
    | some c =>
      have rc := s.cell l c a hc hl
      cases c with
      | lst ds =>
        simp only [lstv, hc, Option.some.injEq] at e
        subst e
        obtain ⟨a', vs, G, z, h, r', f⟩ := rc
        cases z
        obtain rfl : G = [] := by injection f with _ f; exact f.symm
        exact ⟨a, vs, [], rfl, h, r', List.Sublist.refl _⟩
      | _ => simp [lstv, hc] at e
  | _ => simp [lstv] at e
theorem seqv_ok {d : D} {x : V} {xs : List D} (s : SR Z ρ st H) (r : Rp Z ρ H d x F) (e : seqv st d = some xs) :
    ∃ a vs G, x = .ref a ∧ (SqL Z.K H a vs ∨ SqT Z.K H a vs) ∧ Rps Z ρ H xs vs G ∧ G.Sublist F := by
  by_cases ht : ∃ ys, d = .tup ys
  · obtain ⟨ys, rfl⟩ := ht
    cases e
    obtain ⟨a, vs, rfl, h, r'⟩ := r
    exact ⟨a, vs, F, rfl, .inr h, r', List.Sublist.refl _⟩
  · by_cases hf : ∃ l ys, d = .ref l ∧ st[l]? = some (.frl ys)
    · obtain ⟨l, ys, rfl, hc⟩ := hf
      obtain ⟨a, hl, rfl, rfl⟩ := r
      have rc := s.cell l _ a hc hl
      simp only [seqv, hc, Option.some.injEq] at e
      subst e
      obtain ⟨a', o, vs, G, z, h, r', f⟩ := rc
      cases z
      obtain rfl : G = [] := by injection f with _ f; exact f.symm
      exact ⟨a, vs, [], rfl, .inl (.inl (.inr ⟨o, h⟩)), r', List.Sublist.refl _⟩
    · have e' : lstv st d = some xs := by
        cases d with
        | tup ys => exact (ht ⟨ys, rfl⟩).elim
        | ref l =>
          cases hc : st[l]? with
          | none => simp [seqv, hc] at e
          | some c => cases c with
            | frl ys => exact (hf ⟨l, ys, rfl, hc⟩).elim
            | lst ys => simpa [seqv, lstv, hc] using e
            | _ => simp [seqv, hc] at e
        | _ => simpa [seqv, lstv] using e
      obtain ⟨a, vs, G, rfl, h, r', f⟩ := lstv_ok s r e'
      exact ⟨a, vs, G, rfl, .inl (SqL.of h), r', f⟩
theorem Rps.get : ∀ {xs : List D} {vs : List V} {F : List Addr} {i : Nat} {y : D}, Rps Z ρ H xs vs F → xs[i]? = some y → ∃ v G, vs[i]? = some v ∧ Rp Z ρ H y v G ∧ G.Sublist F
  | [], vs, F, i, y, h, e => by simp at e
  | x :: xs, vs, F, 0, y, h, e => by
    obtain ⟨v, ws, F1, F2, rfl, h1, h2, rfl⟩ := h
    cases e
    exact ⟨v, F1, rfl, h1, List.sublist_append_left _ _⟩
  | x :: xs, vs, F, i + 1, y, h, e => by
    obtain ⟨v, ws, F1, F2, rfl, h1, h2, rfl⟩ := h
    obtain ⟨u, G, a, b, c⟩ := Rps.get (i := i) h2 (by simpa using e)
    exact ⟨u, G, by simpa using a, b, c.trans (List.sublist_append_right _ _)⟩
theorem Rps.take : ∀ {xs : List D} {vs : List V} {F : List Addr} (n : Nat), Rps Z ρ H xs vs F → ∃ G, Rps Z ρ H (xs.take n) (vs.take n) G ∧ G.Sublist F
  | xs, vs, F, 0, h => ⟨[], by simp [Rps], List.nil_sublist _⟩
  | [], vs, F, n + 1, h => by obtain ⟨rfl, rfl⟩ := h; exact ⟨[], by simp [Rps], List.nil_sublist _⟩
  | x :: xs, vs, F, n + 1, h => by
    obtain ⟨v, ws, F1, F2, rfl, h1, h2, rfl⟩ := h
    obtain ⟨G, a, b⟩ := Rps.take n h2
    exact ⟨F1 ++ G, ⟨v, ws.take n, F1, G, rfl, h1, a, rfl⟩, List.Sublist.append (List.Sublist.refl _) b⟩
theorem Rps.drop : ∀ {xs : List D} {vs : List V} {F : List Addr} (n : Nat), Rps Z ρ H xs vs F → ∃ G, Rps Z ρ H (xs.drop n) (vs.drop n) G ∧ G.Sublist F
  | xs, vs, F, 0, h => ⟨F, h, List.Sublist.refl _⟩
  | [], vs, F, n + 1, h => by obtain ⟨rfl, rfl⟩ := h; exact ⟨[], by simp [Rps], List.nil_sublist _⟩
  | x :: xs, vs, F, n + 1, h => by
    obtain ⟨v, ws, F1, F2, rfl, h1, h2, rfl⟩ := h
    obtain ⟨G, a, b⟩ := Rps.drop n h2
    exact ⟨G, a, b.trans (List.sublist_append_right _ _)⟩
theorem Rps.reverse : ∀ {xs : List D} {vs : List V} {F : List Addr}, Rps Z ρ H xs vs F → ∃ G, Rps Z ρ H xs.reverse vs.reverse G ∧ G.Perm F
  | [], vs, F, h => by obtain ⟨rfl, rfl⟩ := h; exact ⟨[], by simp [Rps], List.Perm.refl _⟩
  | x :: xs, vs, F, h => by
    obtain ⟨v, ws, F1, F2, rfl, h1, h2, rfl⟩ := h
    obtain ⟨G, a, b⟩ := Rps.reverse h2
    refine ⟨G ++ F1, ?_, (b.append_right F1).trans List.perm_append_comm⟩
    rw [List.reverse_cons, List.reverse_cons]
    exact a.append ⟨v, [], F1, [], rfl, h1, ⟨rfl, rfl⟩, by simp⟩
mutual
/-- a value without fresh things -/
theorem Rp.pure : ∀ {d : D} {v : V} {F : List Addr}, D.pur d = true → Rp Z ρ H d v F → F = []
  | .non, v, F, p, h => h.2
  | .bl b, v, F, p, h => h.2
  | .int i, v, F, p, h => h.2
  | .str s, v, F, p, h => h.2
  | .ref l, v, F, p, h => by obtain ⟨_, _, _, f⟩ := h; exact f
  | .tup ds, v, F, p, h => by obtain ⟨a, vs, _, _, r⟩ := h; exact Rps.pure (by simpa [D.pur] using p) r
  | .exc c fs, v, F, p, h => by obtain ⟨_, _, _, _, _, f⟩ := h; exact f
  | .lst _, v, F, p, h => by simp [D.pur] at p
  | .frl _, v, F, p, h => by simp [D.pur] at p
  | .dic _, v, F, p, h => by simp [D.pur] at p
  | .set _, v, F, p, h => by simp [D.pur] at p
  | .lam _ _, v, F, p, h => h.elim
theorem Rps.pure : ∀ {ds : List D} {vs : List V} {F : List Addr}, D.purs ds = true → Rps Z ρ H ds vs F → F = []
  | [], vs, F, p, h => h.2
  | d :: ds, vs, F, p, h => by
    obtain ⟨v, ws, F1, F2, rfl, h1, h2, rfl⟩ := h
    simp only [D.purs, Bool.and_eq_true] at p
    rw [Rp.pure p.1 h1, Rps.pure p.2 h2]
    rfl
end
theorem Rps.rep {xs : List D} {vs : List V} (h : Rps Z ρ H xs vs []) : ∀ k : Nat, Rps Z ρ H (rep k xs) (List.replicate k vs).flatten []
  | 0 => by simp [Fs.rep, Rps]
  | k + 1 => by
    have := Rps.append h (Rps.rep h k)
    simpa [Fs.rep, List.replicate_succ] using this
end
end Fs
namespace Fs
open PySem L2
/-- an operation on two values does what f says -/
def rB (Z : Wc) (W : WX) (σ : L2.St) (f : D → D → M D) : R2 := fun x y H2 Q => ∃ ρ st H ρ2 st2 d1 d2 F1 F2, SR Z ρ st H ∧ Now Z ρ H ρ2 st2 H2 (F1 ++ F2) ∧ Rp Z ρ2 H2 d1 x F1 ∧ Rp Z ρ2 H2 d2 y F2 ∧ Post (Rp Z) Z W (f d1 d2 st2) ρ σ H Q
def pyB : Bop → Operator
  | .add => .Add | .sub => .Sub | .mul => .Mult | .fdiv => .FloorDiv | .mod => .Mod | .pow => .Pow | .shl => .LShift | .shr => .RShift | .band => .BitAnd | .bxor => .BitXor
section
variable {X : Cx} {Z : Wc} {W : WX} {σ0 : L2.St}
theorem op_fdivX : OpR X (binaryOp .FloorDiv) (rI (fun _ j => j ≠ 0 ∧ j.natAbs.log2 < 9000) fun i j => .int (i.fdiv j)) := opI fun i j _ _ _ _ _ hc q => PyProof.Rows.floordiv_int hc.1 q (.inl (PyProof.noPylong_of_log2 hc.2))
theorem int_ok {op : Bop} {i j r : Int} (e : intOp op i j = some r) {pins : List (Addr × Obj)} {s : Shared} {σ : L2.St} {H : Hp} {Q : VK} {v u : Value} (I : Inv X pins σ H s) (rx : RelV (.int i) v) (ry : RelV (.int j) u) (q : Q (.int r) H) :
    wpAny (model X.prog X.w) X.A (binaryOp (pyB op) v u) (EP X pins σ Q) X.xe s := by
  cases op with
  | add => cases e; exact op_add pins s σ H _ _ v u Q I rx ry ⟨i, j, rfl, rfl, q⟩
  | sub => cases e; exact op_sub pins s σ H _ _ v u Q I rx ry ⟨i, j, rfl, rfl, q⟩
  | mul =>
    simp only [intOp] at e
    split at e
    · cases e; rename_i c; exact op_mulW pins s σ H _ _ v u Q I rx ry ⟨i, j, rfl, rfl, c, q⟩
    · cases e
  | fdiv =>
    simp only [intOp] at e
    split at e
    · cases e; rename_i c; exact op_fdivX pins s σ H _ _ v u Q I rx ry ⟨i, j, rfl, rfl, c, q⟩
    · cases e
  | mod =>
    simp only [intOp] at e
    split at e
    · cases e; rename_i c; exact op_modN pins s σ H _ _ v u Q I rx ry ⟨i, j, rfl, rfl, c, q⟩
    · cases e
  | pow =>
    simp only [intOp] at e
    split at e
    · cases e; rename_i c; exact op_pow pins s σ H _ _ v u Q I rx ry ⟨i, j, rfl, rfl, c, q⟩
    · cases e
  | shl =>
    simp only [intOp] at e
    split at e
    · cases e; rename_i c; exact op_shl pins s σ H _ _ v u Q I rx ry ⟨i, j, rfl, rfl, c, q⟩
    · cases e
  | shr =>
    simp only [intOp] at e
    split at e
    · cases e; rename_i c; exact op_shr pins s σ H _ _ v u Q I rx ry ⟨i, j, rfl, rfl, c, q⟩
    · cases e
  | band => cases e; exact op_and pins s σ H _ _ v u Q I rx ry ⟨i, j, rfl, rfl, q⟩
  | bxor => cases e; exact op_xor pins s σ H _ _ v u Q I rx ry ⟨i, j, rfl, rfl, q⟩
end
end Fs
namespace Fs
open PySem L2
section
variable (T : Tbl) (Z : Wc) (W : WX)
def iE (e : Ex) : TE := fun σ H Q => ∃ ρ env st, ER Z ρ H env σ ∧ SR Z ρ st H ∧ Post (Rp Z) Z W (ev T e env st) ρ σ H Q
def iEs (es : List Ex) : TA := fun σ H Q => ∃ ρ env st, ER Z ρ H env σ ∧ SR Z ρ st H ∧ Post (Rps Z) Z W (evs T es env st) ρ σ H Q
def iT (c : Cn) : TT := fun σ H Q => ∃ ρ env st, ER Z ρ H env σ ∧ SR Z ρ st H ∧ Post (RelEq Bool) Z W (evT T c env st) ρ σ H Q
end
section
variable {X : Cx} {T : Tbl} {Z : Wc} {W : WX} {a b c e : Expr} {A B C : Ex} {pos : Pos}
theorem pe_weak {t t' : TE} (h : PE X e t) (w : ∀ σ H Q, t' σ H Q → t σ H Q) : PE X e t' := ⟨fun pins s σ H Q I q => h.run pins s σ H Q I (w σ H Q q)⟩
theorem pt_weak {t t' : TT} (h : PT X e t) (w : ∀ σ H Q, t' σ H Q → t σ H Q) : PT X e t' := ⟨fun pins s σ H Q I q => h.run pins s σ H Q I (w σ H Q q)⟩
theorem pa_weak {es : List Expr} {t t' : TA} (h : PA X es t) (w : ∀ σ H Q, t' σ H Q → t σ H Q) : PA X es t' := ⟨fun p pins s σ H Q I q => h.run p pins s σ H Q I (w σ H Q q)⟩

/-! names and constants -/
theorem se_loc {i : Nat} {x : Str} (hN : X.N[i]? = some x) (hv : Vis X.env.scope x) (hd : (x == ("__debug__" : Str)) = false) (hcd : (x == ("__classdict__" : Str)) = false) : PE X (.Name x pos) (iE T Z W (.loc i)) := by
  refine pe_weak (pe_var hN hv hd hcd) fun σ H Q ⟨ρ, env, st, er, sr, h⟩ => ?_
  simp only [ev] at h
  cases ei : env[i]? with
  | none => rw [ei] at h; exact h.elim
  | some o => cases o with
    | none => rw [ei] at h; exact h.elim
    | some d =>
      rw [ei] at h
      obtain ⟨v, hv, rv⟩ := er.2 i d ei
      exact ⟨v, hv, h.ret (Now.start sr) rv⟩
theorem con_ok {d : D} {v : V} (hr : ∀ ρ H, Rp Z ρ H d v []) {σ : L2.St} {H : Hp} {Q : VK} (h : iE T Z W (.con d) σ H Q) : tC v σ H Q := by
  obtain ⟨ρ, env, st, er, sr, h⟩ := h
  exact Post.ret (d := d) (by simpa only [ev] using h) (Now.start sr) (hr ρ H)
theorem se_int {i : Int} {j : Nat} : PE X (.Constant (.int i) j pos) (iE T Z W (.con (.int i))) := pe_weak pe_int fun _ _ _ => con_ok (d := .int i) fun _ _ => by exact ⟨rfl, rfl⟩
theorem se_bl {i : Bool} {j : Nat} : PE X (.Constant (.bool i) j pos) (iE T Z W (.con (.bl i))) := pe_weak pe_bl fun _ _ _ => con_ok (d := .bl i) fun _ _ => by exact ⟨rfl, rfl⟩
theorem se_str {i : Str} {j : Nat} : PE X (.Constant (.str i) j pos) (iE T Z W (.con (.str i))) := pe_weak pe_str fun _ _ _ => con_ok (d := .str i) fun _ _ => by exact ⟨rfl, rfl⟩
theorem se_non {j : Nat} : PE X (.Constant .none j pos) (iE T Z W (.con .non)) := pe_weak pe_non fun _ _ _ => con_ok (d := .non) fun _ _ => by exact ⟨rfl, rfl⟩
theorem se_glob {x : Str} {d : D} {v : V} {u : Value} (hg : Gl X x) (hm : X.mg x = some u) (r : RelV v u) (hr : ∀ ρ H, Rp Z ρ H d v []) (hd : (x == ("__debug__" : Str)) = false) : PE X (.Name x pos) (iE T Z W (.con d)) :=
  pe_weak (pe_glob hg hm r hd) fun _ _ _ => con_ok hr

/-! two values, then an operation -/
theorem two_ok {f : D → D → M D} {σ : L2.St} {H : Hp} {Q : VK} (h : ∃ ρ env st, ER Z ρ H env σ ∧ SR Z ρ st H ∧ Post (Rp Z) Z W (bnd (ev T A env) (fun x => bnd (ev T B env) fun y => f x y) st) ρ σ H Q) :
    tOp (rB Z W σ f) (iE T Z W A) (iE T Z W B) σ H Q := by
  obtain ⟨ρ, env, st, er, sr, h⟩ := h
  refine ⟨ρ, env, st, er, sr, (Post.seq rpOk (Now.start sr) sr h).mono ?_⟩
  rintro x H1 ⟨ρ1, d1, st1, F1, n1, t1, r1, h1⟩
  refine ⟨ρ1, env, st1, t1.env sr er, n1.sr, (Post.seq rpOk n1 sr h1).mono ?_⟩
  rintro y H2 ⟨ρ2, d2, st2, F2, n2, t2, r2, h2⟩
  exact ⟨ρ, st, H, ρ2, st2, d1, d2, F1, F2, sr, n2, t2.val n1.sr (fun a ha => n1.out a (List.mem_append_right _ ha)) r1, r2, h2⟩
theorem se_op {op : Operator} {f : D → D → M D} {E : Ex} (ho : ∀ σ, OpR X (binaryOp op) (rB Z W σ f)) (ha : PE X a (iE T Z W A)) (hb : PE X b (iE T Z W B))
    (he : ∀ env, ev T E env = bnd (ev T A env) (fun x => bnd (ev T B env) fun y => f x y)) : PE X (.BinOp a op b pos) (iE T Z W E) :=
  ⟨fun pins s σ H Q I q => by
    refine (pe_op (ho σ) ha hb).run pins s σ H Q I ?_
    obtain ⟨ρ, env, st, er, sr, h⟩ := q
    rw [he env] at h
    exact two_ok ⟨ρ, env, st, er, sr, h⟩⟩
theorem se_cmp {op : CmpOp} {f : D → D → M D} {E : Ex} (ho : ∀ σ, OpR X (compareOp op) (rB Z W σ f)) (ha : PE X a (iE T Z W A)) (hb : PE X b (iE T Z W B)) (hm : behindInMarks op b = false)
    (he : ∀ env, ev T E env = bnd (ev T A env) (fun x => bnd (ev T B env) fun y => f x y)) : PE X (.Compare a [op] [b] pos) (iE T Z W E) :=
  ⟨fun pins s σ H Q I q => by
    refine (pe_cmpR (ho σ) ha hb hm).run pins s σ H Q I ?_
    obtain ⟨ρ, env, st, er, sr, h⟩ := q
    rw [he env] at h
    exact two_ok ⟨ρ, env, st, er, sr, h⟩⟩
/-- one value, then an operation -/
def rU1 (Z : Wc) (W : WX) (σ : L2.St) (f : D → M D) : V → Hp → VK → Prop := fun x H2 Q => ∃ ρ st H ρ2 st2 d F, SR Z ρ st H ∧ Now Z ρ H ρ2 st2 H2 F ∧ Rp Z ρ2 H2 d x F ∧ Post (Rp Z) Z W (f d st2) ρ σ H Q
theorem one_ok {f : D → M D} {σ : L2.St} {H : Hp} {Q : VK} (h : ∃ ρ env st, ER Z ρ H env σ ∧ SR Z ρ st H ∧ Post (Rp Z) Z W (bnd (ev T A env) (fun x => f x) st) ρ σ H Q) :
    tUn (rU1 Z W σ f) (iE T Z W A) σ H Q := by
  obtain ⟨ρ, env, st, er, sr, h⟩ := h
  refine ⟨ρ, env, st, er, sr, (Post.seq rpOk (Now.start sr) sr h).mono ?_⟩
  rintro x H1 ⟨ρ1, d1, st1, F1, n1, t1, r1, h1⟩
  exact ⟨ρ, st, H, ρ1, st1, d1, F1, sr, n1, r1, h1⟩
theorem se_neg (ha : PE X a (iE T Z W A)) : PE X (.UnaryOp .USub a pos) (iE T Z W (.neg A)) :=
  ⟨fun pins s σ H Q I q => by
    have h := one_ok (f := fun x => opt (intv x) fun i => ret (.int (-i))) (A := A) (by simpa only [iE, ev] using q)
    refine (pe_un un_neg ha).run pins s σ H Q I ?_
    obtain ⟨ρ, env, st, er, sr, q⟩ := q
    simp only [ev] at q
    refine ⟨ρ, env, st, er, sr, (Post.seq rpOk (Now.start sr) sr q).mono ?_⟩
    rintro x H1 ⟨ρ1, d1, st1, F1, n1, t1, r1, h1⟩
    cases d1 with
    | int i =>
      obtain ⟨rfl, rfl⟩ := r1
      exact ⟨i, rfl, Post.ret h1 n1 ⟨rfl, rfl⟩⟩
    | _ => exact h1.elim⟩

/-! displays -/
theorem sa_nil : PA X [] (iEs T Z W []) := pa_weak pa_nil fun σ H Q ⟨ρ, env, st, er, sr, h⟩ => by
  simp only [evs] at h
  exact Post.ret h (Now.start sr) ⟨rfl, rfl⟩
theorem sa_cons {es : List Expr} {As : List Ex} (ha : PE X e (iE T Z W A)) (hr : PA X es (iEs T Z W As)) (hs : starEach (e :: es) X.env = (false, eval e X.env) :: starEach es X.env) : PA X (e :: es) (iEs T Z W (A :: As)) := by
  refine pa_weak (pa_cons ha hr hs) fun σ H Q ⟨ρ, env, st, er, sr, h⟩ => ?_
  simp only [evs] at h
  refine ⟨ρ, env, st, er, sr, (Post.seq rpOk (Now.start sr) sr h).mono ?_⟩
  rintro x H1 ⟨ρ1, d1, st1, F1, n1, t1, r1, h1⟩
  refine ⟨ρ1, env, st1, t1.env sr er, n1.sr, (Post.seq rpsOk n1 sr h1).mono ?_⟩
  rintro xs H2 ⟨ρ2, d2, st2, F2, n2, t2, r2, h2⟩
  exact Post.ret h2 n2 ⟨x, xs, F1, F2, rfl, t2.val n1.sr (fun a ha => n1.out a (List.mem_append_right _ ha)) r1, r2, rfl⟩
theorem se_tup {es : List Expr} {As : List Ex} {k : Nat} (ha : PA X es (iEs T Z W As)) : PE X (.Tuple es k pos) (iE T Z W (.tup As)) := by
  refine pe_weak (pe_tup ha) fun σ H Q ⟨ρ, env, st, er, sr, h⟩ => ?_
  simp only [ev] at h
  refine ⟨ρ, env, st, er, sr, (Post.seq rpsOk (Now.start sr) sr h).mono ?_⟩
  rintro xs H1 ⟨ρ1, d1, st1, F1, n1, t1, r1, h1⟩
  cases hz : decide (d1.length ≤ sizeLine) with
  | false => rw [hz] at h1; exact h1.elim
  | true =>
    rw [hz] at h1
    refine ⟨by rw [← r1.length]; exact of_decide_eq_true hz, fun p hp => ?_⟩
    exact Post.ret h1 ((n1.new sr hp).less (List.sublist_cons_self p _)) ⟨p, xs, rfl, SqT.of upd_same, rps_up hp r1⟩
theorem se_lst {es : List Expr} {As : List Ex} (ha : PA X es (iEs T Z W As)) : PE X (.List es pos) (iE T Z W (.lst As)) := by
  refine pe_weak (pe_lst ha) fun σ H Q ⟨ρ, env, st, er, sr, h⟩ => ?_
  simp only [ev] at h
  refine ⟨ρ, env, st, er, sr, (Post.seq rpsOk (Now.start sr) sr h).mono ?_⟩
  rintro xs H1 ⟨ρ1, d1, st1, F1, n1, t1, r1, h1⟩
  cases hz : decide (d1.length ≤ sizeLine) with
  | false => rw [hz] at h1; exact h1.elim
  | true =>
    rw [hz] at h1
    refine ⟨by rw [← r1.length]; exact of_decide_eq_true hz, fun p hp => ?_⟩
    exact Post.ret h1 (n1.new sr hp) ⟨p, xs, F1, rfl, upd_same, rps_up hp r1, rfl⟩

/-! tests -/
theorem st_not {C1 : Cn} (ha : PT X a (iT T Z W C1)) : PT X (.UnaryOp .Not a pos) (iT T Z W (.nt C1)) := by
  refine pt_weak (pt_not ha) fun σ H Q ⟨ρ, env, st, er, sr, h⟩ => ?_
  simp only [evT] at h
  refine ⟨ρ, env, st, er, sr, (Post.seq reqOk (Now.start sr) sr h).mono ?_⟩
  rintro c H1 ⟨ρ1, d1, st1, F1, n1, t1, ⟨rfl, rfl⟩, h1⟩
  exact Post.ret h1 n1 ⟨rfl, rfl⟩
theorem sw_val {C1 : Cn} (h : PT X a (iT T Z W C1)) (hw : ∀ whole, isTrue a X.env whole = isTrue a X.env (eval a X.env)) : PW X a (iT T Z W C1) := ⟨fun whole pins s σ H Q I q => by rw [hw whole]; exact h.run pins s σ H Q I q⟩
theorem sw_and1 {C1 : Cn} (ha : PT X a (iT T Z W C1)) : PW X (.BoolOp .And [a] pos) (iT T Z W C1) := pw_and1 ha
theorem sw_or1 {C1 : Cn} (ha : PT X a (iT T Z W C1)) : PW X (.BoolOp .Or [a] pos) (iT T Z W C1) := pw_or1 ha
theorem sw_and {C1 C2 : Cn} {rest : List Expr} (ha : PT X a (iT T Z W C1)) (hb : PW X (.BoolOp .And (b :: rest) pos) (iT T Z W C2)) : PW X (.BoolOp .And (a :: b :: rest) pos) (iT T Z W (.and2 C1 C2)) := by
  have w := pw_and ha hb
  refine ⟨fun whole pins s σ H Q I h => w.run whole pins s σ H Q I ?_⟩
  obtain ⟨ρ, env, st, er, sr, h⟩ := h
  simp only [evT] at h
  refine ⟨ρ, env, st, er, sr, (Post.seq reqOk (Now.start sr) sr h).mono ?_⟩
  rintro c H1 ⟨ρ1, d1, st1, F1, n1, t1, ⟨rfl, rfl⟩, h1⟩
  cases d1 with
  | true => exact ⟨ρ1, env, st1, t1.env sr er, n1.sr, h1.tail reqOk n1 sr⟩
  | false => exact Post.ret h1 n1 ⟨rfl, rfl⟩
theorem sw_or {C1 C2 : Cn} {rest : List Expr} (ha : PT X a (iT T Z W C1)) (hb : PW X (.BoolOp .Or (b :: rest) pos) (iT T Z W C2)) : PW X (.BoolOp .Or (a :: b :: rest) pos) (iT T Z W (.or2 C1 C2)) := by
  have w := pw_or ha hb
  refine ⟨fun whole pins s σ H Q I h => w.run whole pins s σ H Q I ?_⟩
  obtain ⟨ρ, env, st, er, sr, h⟩ := h
  simp only [evT] at h
  refine ⟨ρ, env, st, er, sr, (Post.seq reqOk (Now.start sr) sr h).mono ?_⟩
  rintro c H1 ⟨ρ1, d1, st1, F1, n1, t1, ⟨rfl, rfl⟩, h1⟩
  cases d1 with
  | false => exact ⟨ρ1, env, st1, t1.env sr er, n1.sr, h1.tail reqOk n1 sr⟩
  | true => exact Post.ret h1 n1 ⟨rfl, rfl⟩
theorem st_ife {C1 C2 C3 : Cn} (hc : PT X c (iT T Z W C1)) (ha : PT X a (iT T Z W C2)) (hb : PT X b (iT T Z W C3)) : PT X (.IfExp c a b pos) (iT T Z W (.ife C1 C2 C3)) := by
  refine ⟨fun pins s σ H Q I h => ?_⟩
  obtain ⟨ρ, env, st, er, sr, h⟩ := h
  simp only [evT] at h
  have w := hc.run pins s σ H (fun k H1 => if k = true then iT T Z W C2 σ H1 Q else iT T Z W C3 σ H1 Q) I ?_
  · refine PyProof.Rows.isTrue_IfExp (thn w fun k s1 ⟨H1, I1, q⟩ => ?_)
    cases k with
    | true => exact ha.run pins s1 σ H1 Q I1 (by simpa using q)
    | false => exact hb.run pins s1 σ H1 Q I1 (by simpa using q)
  · refine ⟨ρ, env, st, er, sr, (Post.seq reqOk (Now.start sr) sr h).mono ?_⟩
    rintro k H1 ⟨ρ1, d1, st1, F1, n1, t1, ⟨rfl, rfl⟩, h1⟩
    cases d1 with
    | true => exact ⟨ρ1, env, st1, t1.env sr er, n1.sr, h1.tail reqOk n1 sr⟩
    | false => exact ⟨ρ1, env, st1, t1.env sr er, n1.sr, h1.tail reqOk n1 sr⟩
theorem se_ife {C1 : Cn} (hc : PT X c (iT T Z W C1)) (ha : PE X a (iE T Z W A)) (hb : PE X b (iE T Z W B)) : PE X (.IfExp c a b pos) (iE T Z W (.ife C1 A B)) := by
  refine pe_weak (pe_ifExp hc ha hb) fun σ H Q ⟨ρ, env, st, er, sr, h⟩ => ?_
  simp only [ev] at h
  refine ⟨ρ, env, st, er, sr, (Post.seq reqOk (Now.start sr) sr h).mono ?_⟩
  rintro k H1 ⟨ρ1, d1, st1, F1, n1, t1, ⟨rfl, rfl⟩, h1⟩
  cases d1 with
  | true => exact ⟨ρ1, env, st1, t1.env sr er, n1.sr, h1.tail rpOk n1 sr⟩
  | false => exact ⟨ρ1, env, st1, t1.env sr er, n1.sr, h1.tail rpOk n1 sr⟩
/-- a bool's test -/
theorem st_val (ha : PE X a (iE T Z W A)) (he : ∀ whole, isTrue a X.env whole = (do let v ← whole; standAt a.pos; holding [v] (truthy v))) (hK : X.K = Z.K) : PT X a (iT T Z W (.val A)) := by
  refine pt_weak (pt_truth ha he) fun σ H Q ⟨ρ, env, st, er, sr, h⟩ => ?_
  simp only [evT] at h
  refine ⟨ρ, env, st, er, sr, (Post.seq rpOk (Now.start sr) sr h).mono ?_⟩
  rintro x H1 ⟨ρ1, d1, st1, F1, n1, t1, r1, h1⟩
  cases e : truth st1 d1 with
  | none => simp only [e] at h1; exact h1.elim
  | some k =>
    simp only [e] at h1
    have fin : Q k H1 := Post.ret h1 (n1.less (List.nil_sublist _)) ⟨rfl, rfl⟩
    refine ⟨k, ?_, fin⟩
    rw [hK]
    cases d1 with
    | non => obtain ⟨rfl, _⟩ := r1; simp only [truth, Option.some.injEq] at e; exact e.symm
    | bl b => obtain ⟨rfl, _⟩ := r1; simp only [truth, Option.some.injEq] at e; exact e.symm
    | int i => obtain ⟨rfl, _⟩ := r1; simp only [truth, Option.some.injEq] at e; exact e.symm
    | str z =>
      obtain ⟨rfl, _⟩ := r1
      simp only [truth] at e
      split at e
      · rename_i hz; cases e; exact ⟨hz, rfl⟩
      · cases e
    | tup ds =>
      obtain ⟨p, vs, rfl, hp, r⟩ := r1
      simp only [truth, Option.some.injEq] at e
      exact .inr (.inl ⟨vs, hp, by rw [← e]; cases ds <;> cases vs <;> simp_all [Rps]⟩)
    | lst ds =>
      obtain ⟨p, vs, G, rfl, hp, r, _⟩ := r1
      simp only [truth, Option.some.injEq] at e
      exact .inl ⟨vs, SqL.of hp, by rw [← e]; cases ds <;> cases vs <;> simp_all [Rps]⟩
    | ref l =>
      obtain ⟨p, hl, rfl, _⟩ := r1
      cases hc : st1[l]? with
      | none => simp [truth, hc] at e
      | some cc =>
        have rc := n1.sr.cell l cc p hc hl
        cases cc with
        | lst ds =>
          simp only [truth, hc, Option.some.injEq] at e
          obtain ⟨p', vs, G, z, hp, r, _⟩ := rc
          cases z
          exact .inl ⟨vs, SqL.of hp, by rw [← e]; cases ds <;> cases vs <;> simp_all [Rps]⟩
        | frl ds =>
          simp only [truth, hc, Option.some.injEq] at e
          obtain ⟨p', o, vs, G, z, hp, r, _⟩ := rc
          cases z
          exact .inl ⟨vs, .inl (.inr ⟨o, hp⟩), by rw [← e]; cases ds <;> cases vs <;> simp_all [Rps]⟩
        | _ => simp [truth, hc] at e
    | _ => simp [truth] at e
end
end Fs
namespace Fs
open PySem L2
section
variable {Z : Wc} {H : Hp}
theorem get_append {ρ N : List Addr} : ∀ (l : Nat) (a : Addr), ρ[l]? = some a → (ρ ++ N)[l]? = some a := fun l a h => by
  rw [List.getElem?_append_left (List.getElem?_eq_some_iff.mp h).1]; exact h
theorem Rp.wide {ρ N : List Addr} {d : D} {v : V} {F : List Addr} (h : Rp Z ρ H d v F) : Rp Z (ρ ++ N) H d v F := Rp.stay get_append (fun _ _ e _ => e) (fun _ _ _ e => e) h
theorem Rps.wide {ρ N : List Addr} {d : List D} {v : List V} {F : List Addr} (h : Rps Z ρ H d v F) : Rps Z (ρ ++ N) H d v F := Rps.stay get_append (fun _ _ e _ => e) (fun _ _ _ e => e) h
theorem RpK.wide {ρ N : List Addr} {d : List (Ky × D)} {v : List (L2.Key × V)} {F : List Addr} (h : RpK Z ρ H d v F) : RpK Z (ρ ++ N) H d v F := RpK.stay get_append (fun _ _ e _ => e) (fun _ _ _ e => e) h
theorem RpT.wide {ρ N : List Addr} {d : List (Ky × D)} {v : List (List L2.Key × V)} {F : List Addr} (h : RpT Z ρ H d v F) : RpT Z (ρ ++ N) H d v F := RpT.stay get_append (fun _ _ e _ => e) (fun _ _ _ e => e) h
theorem SR.push {ρ : List Addr} {st : Sto} {a : Addr} {c : D} (s : SR Z ρ st H) (ha : a ∉ ρ) (k : isCell c = true) (r : Rp Z ρ H c (.ref a) [a]) : SR Z (ρ ++ [a]) (st ++ [c]) H := by
  refine ⟨by simp [s.len], ?_, ?_, ?_⟩
  · refine List.nodup_append.mpr ⟨s.nd, by simp, ?_⟩
    intro x hx y hy e
    subst e
    cases List.mem_singleton.mp hy
    exact ha hx
  · intro l d h
    by_cases hl : l < st.length
    · rw [List.getElem?_append_left hl] at h; exact s.kind l d h
    · rw [List.getElem?_append_right (Nat.le_of_not_lt hl)] at h
      rcases hh : l - st.length with _ | n
      · rw [hh] at h; cases h; exact k
      · rw [hh] at h; simp at h
  · intro l d b h1 h2
    by_cases hl : l < st.length
    · rw [List.getElem?_append_left hl] at h1
      rw [List.getElem?_append_left (by rw [s.len]; exact hl)] at h2
      exact (s.cell l d b h1 h2).wide
    · have hl' := Nat.le_of_not_lt hl
      rw [List.getElem?_append_right hl'] at h1
      rw [List.getElem?_append_right (by rw [s.len]; exact hl'), s.len] at h2
      rcases hh : l - st.length with _ | n
      · rw [hh] at h1 h2; cases h1; cases h2; exact r.wide
      · rw [hh] at h1; simp at h1
theorem disj_step {ρ N F1 F2 : List Addr} (nd : (F1 ++ F2).Nodup) (fo : ∀ a ∈ F1 ++ F2, a ∉ ρ) (p : N.Perm F1) : ∀ a ∈ F2, a ∉ ρ ++ N := fun a ha z => by
  rcases List.mem_append.mp z with z | z
  · exact fo a (List.mem_append_right _ ha) z
  · exact (List.nodup_append.mp nd).2.2 a (p.mem_iff.mp z) a ha rfl
mutual
theorem land_ok : ∀ (d : D) {st : Sto} {ρ : List Addr} {v : V} {F : List Addr}, SR Z ρ st H → Rp Z ρ H d v F → (∀ a ∈ F, a ∉ ρ) → F.Nodup →
    ∃ N, N.Perm F ∧ SR Z (ρ ++ N) (land d st).2 H ∧ Rp Z (ρ ++ N) H (land d st).1 v []
  | .non, st, ρ, v, F, s, r, fo, nd => by obtain ⟨rfl, rfl⟩ := r; exact ⟨[], .refl _, by simpa [land] using s, by simp [land, Rp]⟩
  | .bl b, st, ρ, v, F, s, r, fo, nd => by obtain ⟨rfl, rfl⟩ := r; exact ⟨[], .refl _, by simpa [land] using s, by simp [land, Rp]⟩
  | .int b, st, ρ, v, F, s, r, fo, nd => by obtain ⟨rfl, rfl⟩ := r; exact ⟨[], .refl _, by simpa [land] using s, by simp [land, Rp]⟩
  | .str b, st, ρ, v, F, s, r, fo, nd => by obtain ⟨rfl, rfl⟩ := r; exact ⟨[], .refl _, by simpa [land] using s, by simp [land, Rp]⟩
  | .ref l, st, ρ, v, F, s, r, fo, nd => by
    obtain ⟨a, h1, rfl, rfl⟩ := r
    exact ⟨[], .refl _, by simpa [land] using s, ⟨a, by simpa using h1, rfl, rfl⟩⟩
  | .exc c fs, st, ρ, v, F, s, r, fo, nd => by
    have e : F = [] := by obtain ⟨_, _, _, _, _, f⟩ := r; exact f
    subst e
    exact ⟨[], .refl _, by simpa [land] using s, by simpa [land] using r⟩
  | .lam c fs, st, ρ, v, F, s, r, fo, nd => r.elim
  | .tup ds, st, ρ, v, F, s, r, fo, nd => by
    obtain ⟨a, vs, rfl, h, r'⟩ := r
    obtain ⟨N, p, s', q⟩ := lands_ok ds s r' fo nd
    exact ⟨N, p, by simpa [land] using s', ⟨a, vs, rfl, h, q⟩⟩
  | .lst ds, st, ρ, v, F, s, r, fo, nd => by
    obtain ⟨a, vs, G, rfl, h, r', rfl⟩ := r
    obtain ⟨N, p, s', q⟩ := lands_ok ds s r' (fun b hb => fo b (List.mem_cons_of_mem _ hb)) (List.nodup_cons.mp nd).2
    have na : a ∉ ρ ++ N := fun z => by
      rcases List.mem_append.mp z with z | z
      · exact fo a List.mem_cons_self z
      · exact (List.nodup_cons.mp nd).1 (p.mem_iff.mp z)
    have s2 := s'.push (c := .lst (lands ds st).1) na rfl ⟨a, vs, [], rfl, h, q, rfl⟩
    refine ⟨N ++ [a], (p.append_right [a]).trans List.perm_append_comm, by rw [← List.append_assoc]; exact s2, ⟨a, ?_, rfl, rfl⟩⟩
    rw [← List.append_assoc, List.getElem?_append_right (by rw [s'.len]; exact Nat.le_refl _), s'.len]
    simp
  | .frl ds, st, ρ, v, F, s, r, fo, nd => by
    obtain ⟨a, o, vs, G, rfl, h, r', rfl⟩ := r
    obtain ⟨N, p, s', q⟩ := lands_ok ds s r' (fun b hb => fo b (List.mem_cons_of_mem _ hb)) (List.nodup_cons.mp nd).2
    have na : a ∉ ρ ++ N := fun z => by
      rcases List.mem_append.mp z with z | z
      · exact fo a List.mem_cons_self z
      · exact (List.nodup_cons.mp nd).1 (p.mem_iff.mp z)
    have s2 := s'.push (c := .frl (lands ds st).1) na rfl ⟨a, o, vs, [], rfl, h, q, rfl⟩
    refine ⟨N ++ [a], (p.append_right [a]).trans List.perm_append_comm, by rw [← List.append_assoc]; exact s2, ⟨a, ?_, rfl, rfl⟩⟩
    rw [← List.append_assoc, List.getElem?_append_right (by rw [s'.len]; exact Nat.le_refl _), s'.len]
    simp
  | .dic kvs, st, ρ, v, F, s, r, fo, nd => by
    obtain ⟨a, G, rfl, rfl, hh⟩ := r
    rcases hh with ⟨ws, h, r'⟩ | ⟨ws, h, r'⟩
    · obtain ⟨N, p, s', q⟩ := landK_ok kvs s r' (fun b hb => fo b (List.mem_cons_of_mem _ hb)) (List.nodup_cons.mp nd).2
      have na : a ∉ ρ ++ N := fun z => by
        rcases List.mem_append.mp z with z | z
        · exact fo a List.mem_cons_self z
        · exact (List.nodup_cons.mp nd).1 (p.mem_iff.mp z)
      have s2 := s'.push (c := .dic (landk kvs st).1) na rfl ⟨a, [], rfl, rfl, .inl ⟨ws, h, q⟩⟩
      refine ⟨N ++ [a], (p.append_right [a]).trans List.perm_append_comm, by rw [← List.append_assoc]; exact s2, ⟨a, ?_, rfl, rfl⟩⟩
      rw [← List.append_assoc, List.getElem?_append_right (by rw [s'.len]; exact Nat.le_refl _), s'.len]
      simp
    · obtain ⟨N, p, s', q⟩ := landT_ok kvs s r' (fun b hb => fo b (List.mem_cons_of_mem _ hb)) (List.nodup_cons.mp nd).2
      have na : a ∉ ρ ++ N := fun z => by
        rcases List.mem_append.mp z with z | z
        · exact fo a List.mem_cons_self z
        · exact (List.nodup_cons.mp nd).1 (p.mem_iff.mp z)
      have s2 := s'.push (c := .dic (landk kvs st).1) na rfl ⟨a, [], rfl, rfl, .inr ⟨ws, h, q⟩⟩
      refine ⟨N ++ [a], (p.append_right [a]).trans List.perm_append_comm, by rw [← List.append_assoc]; exact s2, ⟨a, ?_, rfl, rfl⟩⟩
      rw [← List.append_assoc, List.getElem?_append_right (by rw [s'.len]; exact Nat.le_refl _), s'.len]
      simp
  | .set xs, st, ρ, v, F, s, r, fo, nd => by
    obtain ⟨a, S, rfl, h, n, z, rfl⟩ := r
    have na : a ∉ ρ := fo a List.mem_cons_self
    have s2 := s.push (c := .set xs) na rfl ⟨a, S, rfl, h, n, z, rfl⟩
    refine ⟨[a], .refl _, s2, ⟨a, ?_, rfl, rfl⟩⟩
    rw [List.getElem?_append_right (by rw [s.len]; exact Nat.le_refl _), s.len]
    simp
theorem lands_ok : ∀ (ds : List D) {st : Sto} {ρ : List Addr} {vs : List V} {F : List Addr}, SR Z ρ st H → Rps Z ρ H ds vs F → (∀ a ∈ F, a ∉ ρ) → F.Nodup →
    ∃ N, N.Perm F ∧ SR Z (ρ ++ N) (lands ds st).2 H ∧ Rps Z (ρ ++ N) H (lands ds st).1 vs []
  | [], st, ρ, v, F, s, r, fo, nd => by obtain ⟨rfl, rfl⟩ := r; exact ⟨[], .refl _, by simpa [lands] using s, by simp [lands, Rps]⟩
  | d :: ds, st, ρ, v, F, s, r, fo, nd => by
    obtain ⟨u, ws, F1, F2, rfl, r1, r2, rfl⟩ := r
    obtain ⟨N1, p1, s1, q1⟩ := land_ok d s r1 (fun a ha => fo a (List.mem_append_left _ ha)) (List.nodup_append.mp nd).1
    obtain ⟨N2, p2, s2, q2⟩ := lands_ok ds s1 r2.wide (disj_step nd fo p1) (List.nodup_append.mp nd).2.1
    refine ⟨N1 ++ N2, p1.append p2, by rw [← List.append_assoc]; exact s2, ?_⟩
    rw [← List.append_assoc]
    exact ⟨u, ws, [], [], rfl, q1.wide, q2, rfl⟩
theorem landK_ok : ∀ (ds : List (Ky × D)) {st : Sto} {ρ : List Addr} {vs : List (L2.Key × V)} {F : List Addr}, SR Z ρ st H → RpK Z ρ H ds vs F → (∀ a ∈ F, a ∉ ρ) → F.Nodup →
    ∃ N, N.Perm F ∧ SR Z (ρ ++ N) (landk ds st).2 H ∧ RpK Z (ρ ++ N) H (landk ds st).1 vs []
  | [], st, ρ, v, F, s, r, fo, nd => by obtain ⟨rfl, rfl⟩ := r; exact ⟨[], .refl _, by simpa [landk] using s, by simp [landk, RpK]⟩
  | (k, d) :: ds, st, ρ, v, F, s, r, fo, nd => by
    obtain ⟨j, u, ws, F1, F2, rfl, rfl, r1, r2, rfl⟩ := r
    obtain ⟨N1, p1, s1, q1⟩ := land_ok d s r1 (fun a ha => fo a (List.mem_append_left _ ha)) (List.nodup_append.mp nd).1
    obtain ⟨N2, p2, s2, q2⟩ := landK_ok ds s1 r2.wide (disj_step nd fo p1) (List.nodup_append.mp nd).2.1
    refine ⟨N1 ++ N2, p1.append p2, by rw [← List.append_assoc]; exact s2, ?_⟩
    rw [← List.append_assoc]
    exact ⟨j, u, ws, [], [], rfl, rfl, q1.wide, q2, rfl⟩
theorem landT_ok : ∀ (ds : List (Ky × D)) {st : Sto} {ρ : List Addr} {vs : List (List L2.Key × V)} {F : List Addr}, SR Z ρ st H → RpT Z ρ H ds vs F → (∀ a ∈ F, a ∉ ρ) → F.Nodup →
    ∃ N, N.Perm F ∧ SR Z (ρ ++ N) (landk ds st).2 H ∧ RpT Z (ρ ++ N) H (landk ds st).1 vs []
  | [], st, ρ, v, F, s, r, fo, nd => by obtain ⟨rfl, rfl⟩ := r; exact ⟨[], .refl _, by simpa [landk] using s, by simp [landk, RpT]⟩
  | (k, d) :: ds, st, ρ, v, F, s, r, fo, nd => by
    obtain ⟨j, u, ws, F1, F2, rfl, rfl, r1, r2, rfl⟩ := r
    obtain ⟨N1, p1, s1, q1⟩ := land_ok d s r1 (fun a ha => fo a (List.mem_append_left _ ha)) (List.nodup_append.mp nd).1
    obtain ⟨N2, p2, s2, q2⟩ := landT_ok ds s1 r2.wide (disj_step nd fo p1) (List.nodup_append.mp nd).2.1
    refine ⟨N1 ++ N2, p1.append p2, by rw [← List.append_assoc]; exact s2, ?_⟩
    rw [← List.append_assoc]
    exact ⟨j, u, ws, [], [], rfl, rfl, q1.wide, q2, rfl⟩
end
/-- landed: nothing fresh is left -/
theorem Now.landed {ρ ρ' N : List Addr} {H0 : Hp} {st st' : Sto} {F G : List Addr} (n : Now Z ρ H0 ρ' st H (F ++ G)) (p : N.Perm G) (s : SR Z (ρ' ++ N) st' H) : Now Z ρ H0 (ρ' ++ N) st' H F := by
  obtain ⟨M, rfl, nd, f, k⟩ := n.stp
  have pm : (M ++ N ++ F).Perm (M ++ (F ++ G)) := by
    rw [List.append_assoc]
    exact List.Perm.append_left M ((List.perm_append_comm (l₁ := N)).trans (List.Perm.append_left F p))
  have st1 : Stp ρ H0 (ρ ++ M ++ N) H F := ⟨M ++ N, by simp [List.append_assoc], pm.nodup_iff.mpr nd, fun a ha => f a (pm.mem_iff.mp ha), k⟩
  refine ⟨st1, s, fun a ha => n.th a (List.mem_append_left _ ha), fun a ha z => ?_, (List.nodup_append.mp n.nd).1⟩
  rcases List.mem_append.mp z with z | z
  · exact n.out a (List.mem_append_left _ ha) z
  · exact (List.nodup_append.mp n.nd).2.2 a ha a (p.mem_iff.mp z) rfl
end
end Fs
namespace Fs
open PySem L2
theorem perm4 {α : Type} (A B C E : List α) : ((A ++ B) ++ (C ++ E)).Perm ((A ++ C) ++ (E ++ B)) := by
  rw [List.append_assoc, List.append_assoc]
  refine List.Perm.append_left A ?_
  rw [← List.append_assoc, ← List.append_assoc]
  have h1 : (B ++ C ++ E).Perm (C ++ B ++ E) := List.Perm.append_right E List.perm_append_comm
  refine h1.trans ?_
  rw [List.append_assoc, List.append_assoc]
  exact List.Perm.append_left C List.perm_append_comm
section
variable {Z : Wc} {H : Hp} {ρ : List Addr} {st : Sto} {b : Nat}
/-- the places of locations -/
def locs (ρ : List Addr) (L : List Nat) : List Addr := L.filterMap fun m => ρ[m]?
theorem nodup_locs (n : ρ.Nodup) : ∀ {L : List Nat}, L.Nodup → (locs ρ L).Nodup
  | [], _ => List.nodup_nil
  | l :: L, h => by
    have ih := nodup_locs n (List.nodup_cons.mp h).2
    unfold locs at ih ⊢
    cases e : ρ[l]? with
    | none => simpa [List.filterMap_cons, e] using ih
    | some a =>
      simp only [List.filterMap_cons, e]
      refine List.nodup_cons.mpr ⟨fun z => ?_, ih⟩
      obtain ⟨m, hm, em⟩ := List.mem_filterMap.mp z
      have := (List.getElem?_inj (List.getElem?_eq_some_iff.mp e).1 n).mp (e.trans em.symm)
      subst this
      exact (List.nodup_cons.mp h).1 hm
theorem locs_append (L M : List Nat) : locs ρ (L ++ M) = locs ρ L ++ locs ρ M := List.filterMap_append
def RbG (Z : Wc) (ρ : List Addr) (H : Hp) (b : Nat) (g : Nat → List Nat → Option (D × List Nat)) : Prop := ∀ (l : Nat) (vis : List Nat) (d' : D) (vis' : List Nat), g l vis = some (d', vis') → b ≤ l →
  ∃ (L : List Nat) (G : List Addr), vis'.Perm (L ++ vis) ∧ L.Nodup ∧ (∀ m ∈ L, b ≤ m ∧ m ∉ vis) ∧ G.Perm (locs ρ L) ∧ ∀ a, ρ[l]? = some a → Rp Z (ρ.take b) H d' (.ref a) G
theorem vis_step {vis vis1 vis2 L1 L2 : List Nat} (p1 : vis1.Perm (L1 ++ vis)) (n1 : L1.Nodup) (o1 : ∀ m ∈ L1, b ≤ m ∧ m ∉ vis) (p2 : vis2.Perm (L2 ++ vis1)) (n2 : L2.Nodup) (o2 : ∀ m ∈ L2, b ≤ m ∧ m ∉ vis1) :
    vis2.Perm ((L2 ++ L1) ++ vis) ∧ (L2 ++ L1).Nodup ∧ ∀ m ∈ L2 ++ L1, b ≤ m ∧ m ∉ vis := by
  refine ⟨p2.trans (by rw [List.append_assoc]; exact List.Perm.append_left L2 p1), List.nodup_append.mpr ⟨n2, n1, ?_⟩, ?_⟩
  · intro x hx y hy e
    subst e
    exact (o2 x hx).2 (p1.mem_iff.mpr (List.mem_append_left _ hy))
  · intro m hm
    rcases List.mem_append.mp hm with hm | hm
    · exact ⟨(o2 m hm).1, fun z => (o2 m hm).2 (p1.mem_iff.mpr (List.mem_append_right _ z))⟩
    · exact o1 m hm
mutual
theorem clsRp : ∀ (d : D) {v : V} {F : List Addr}, D.cls b d = true → Rp Z ρ H d v F → Rp Z (ρ.take b) H d v F
  | .non, v, F, c, r => r
  | .bl _, v, F, c, r => r
  | .int _, v, F, c, r => r
  | .str _, v, F, c, r => r
  | .ref l, v, F, c, r => by
    obtain ⟨a, h, e, f⟩ := r
    simp only [D.cls, decide_eq_true_eq] at c
    exact ⟨a, by rw [List.getElem?_take_of_lt c]; exact h, e, f⟩
  | .tup ds, v, F, c, r => by
    obtain ⟨a, vs, e, h, r⟩ := r
    exact ⟨a, vs, e, h, clsRps ds (by simpa [D.cls] using c) r⟩
  | .exc k fs, v, F, c, r => by
    obtain ⟨a, dx, e, h, r, f⟩ := r
    exact ⟨a, dx, e, h, clsRpX fs (by simpa [D.cls] using c) r, f⟩
  | .lst _, v, F, c, r => by simp [D.cls] at c
  | .frl _, v, F, c, r => by simp [D.cls] at c
  | .dic _, v, F, c, r => by simp [D.cls] at c
  | .set _, v, F, c, r => by simp [D.cls] at c
  | .lam _ _, v, F, c, r => r.elim
theorem clsRpX : ∀ (ds : List D) {f : Option Str} {dx : Option Addr}, D.clss b ds = true → RpX Z ρ H f dx ds → RpX Z (ρ.take b) H f dx ds
  | [], f, dx, c, r => r
  | d :: ds, f, dx, c, r => by
    obtain ⟨e, n, x, u, h1, h2, h3, r⟩ := r
    simp only [D.clss, Bool.and_eq_true] at c
    exact ⟨e, n, x, u, h1, h2, h3, clsRp d c.1 r⟩
theorem clsRps : ∀ (ds : List D) {v : List V} {F : List Addr}, D.clss b ds = true → Rps Z ρ H ds v F → Rps Z (ρ.take b) H ds v F
  | [], v, F, c, r => r
  | d :: ds, v, F, c, r => by
    obtain ⟨u, ws, F1, F2, e, r1, r2, f⟩ := r
    simp only [D.clss, Bool.and_eq_true] at c
    exact ⟨u, ws, F1, F2, e, clsRp d c.1 r1, clsRps ds c.2 r2, f⟩
theorem clsRpK : ∀ (ds : List (Ky × D)) {v : List (L2.Key × V)} {F : List Addr}, D.clsk b ds = true → RpK Z ρ H ds v F → RpK Z (ρ.take b) H ds v F
  | [], v, F, c, r => r
  | (k, d) :: ds, v, F, c, r => by
    obtain ⟨j, u, ws, F1, F2, z, e, r1, r2, f⟩ := r
    simp only [D.clsk, Bool.and_eq_true] at c
    exact ⟨j, u, ws, F1, F2, z, e, clsRp d c.1 r1, clsRpK ds c.2 r2, f⟩
theorem clsRpT : ∀ (ds : List (Ky × D)) {v : List (List L2.Key × V)} {F : List Addr}, D.clsk b ds = true → RpT Z ρ H ds v F → RpT Z (ρ.take b) H ds v F
  | [], v, F, c, r => r
  | (k, d) :: ds, v, F, c, r => by
    obtain ⟨j, u, ws, F1, F2, z, e, r1, r2, f⟩ := r
    simp only [D.clsk, Bool.and_eq_true] at c
    exact ⟨j, u, ws, F1, F2, z, e, clsRp d c.1 r1, clsRpT ds c.2 r2, f⟩
end
mutual
/-- what is held has its references below -/
theorem cls_of : ∀ (d : D) {v : V}, Rp Z ρ H d v [] → D.cls ρ.length d = true
  | .non, v, r => rfl
  | .bl _, v, r => rfl
  | .int _, v, r => rfl
  | .str _, v, r => rfl
  | .ref l, v, r => by
    obtain ⟨a, h, _, _⟩ := r
    simpa [D.cls] using (List.getElem?_eq_some_iff.mp h).1
  | .tup ds, v, r => by obtain ⟨_, _, _, _, r⟩ := r; simpa [D.cls] using clss_of ds r
  | .exc c fs, v, r => by obtain ⟨_, _, _, _, r, _⟩ := r; simpa [D.cls] using clsX_of fs r
  | .lst ds, v, r => by obtain ⟨_, _, _, _, _, _, z⟩ := r; cases z
  | .frl ds, v, r => by obtain ⟨_, _, _, _, _, _, _, z⟩ := r; cases z
  | .dic ds, v, r => by obtain ⟨_, _, _, z, _⟩ := r; cases z
  | .set ds, v, r => by obtain ⟨_, _, _, _, _, _, z⟩ := r; cases z
  | .lam _ _, v, r => r.elim
theorem clsX_of : ∀ (ds : List D) {f : Option Str} {dx : Option Addr}, RpX Z ρ H f dx ds → D.clss ρ.length ds = true
  | [], f, dx, r => rfl
  | d :: ds, f, dx, r => by
    obtain ⟨rfl, n, x, u, _, _, _, r⟩ := r
    simp [D.clss, cls_of d r]
theorem clss_of : ∀ (ds : List D) {vs : List V}, Rps Z ρ H ds vs [] → D.clss ρ.length ds = true
  | [], vs, r => rfl
  | d :: ds, vs, r => by
    obtain ⟨u, ws, F1, F2, _, r1, r2, f⟩ := r
    obtain ⟨rfl, rfl⟩ := List.append_eq_nil_iff.mp f.symm
    simp [D.clss, cls_of d r1, clss_of ds r2]
theorem clsK_of : ∀ (ds : List (Ky × D)) {vs : List (L2.Key × V)}, RpK Z ρ H ds vs [] → D.clsk ρ.length ds = true
  | [], vs, r => rfl
  | (k, d) :: ds, vs, r => by
    obtain ⟨j, u, ws, F1, F2, _, _, r1, r2, f⟩ := r
    obtain ⟨rfl, rfl⟩ := List.append_eq_nil_iff.mp f.symm
    simp [D.clsk, cls_of d r1, clsK_of ds r2]
theorem clsT_of : ∀ (ds : List (Ky × D)) {vs : List (List L2.Key × V)}, RpT Z ρ H ds vs [] → D.clsk ρ.length ds = true
  | [], vs, r => rfl
  | (k, d) :: ds, vs, r => by
    obtain ⟨j, u, ws, F1, F2, _, _, r1, r2, f⟩ := r
    obtain ⟨rfl, rfl⟩ := List.append_eq_nil_iff.mp f.symm
    simp [D.clsk, cls_of d r1, clsT_of ds r2]
end
theorem cellCl_of {c : D} {a : Addr} (k : isCell c = true) (r : Rp Z ρ H c (.ref a) [a]) : cellCl ρ.length c = true := by
  cases c with
  | lst ds =>
    obtain ⟨b, vs, G, e, h1, r, f⟩ := r
    obtain rfl : G = [] := by injection f with _ f; exact f.symm
    simpa [cellCl] using clss_of ds r
  | frl ds =>
    obtain ⟨b, o, vs, G, e, h1, r, f⟩ := r
    obtain rfl : G = [] := by injection f with _ f; exact f.symm
    simpa [cellCl] using clss_of ds r
  | dic kvs =>
    obtain ⟨b, G, e, f, hh⟩ := r
    obtain rfl : G = [] := by injection f with _ f; exact f.symm
    rcases hh with ⟨ws, h1, r⟩ | ⟨ws, h1, r⟩
    · simpa [cellCl] using clsK_of kvs r
    · simpa [cellCl] using clsT_of kvs r
  | set xs => rfl
  | _ => cases k
theorem clsCell {c : D} {v : V} {F : List Addr} (h : cellCl b c = true) (r : Rp Z ρ H c v F) : Rp Z (ρ.take b) H c v F := by
  cases c with
  | lst ds =>
    obtain ⟨a, vs, G, e, h1, r, f⟩ := r
    exact ⟨a, vs, G, e, h1, clsRps ds (by simpa [cellCl] using h) r, f⟩
  | frl ds =>
    obtain ⟨a, o, vs, G, e, h1, r, f⟩ := r
    exact ⟨a, o, vs, G, e, h1, clsRps ds (by simpa [cellCl] using h) r, f⟩
  | dic kvs =>
    obtain ⟨a, G, e, f, hh⟩ := r
    have h' : D.clsk b kvs = true := by simpa [cellCl] using h
    refine ⟨a, G, e, f, ?_⟩
    rcases hh with ⟨ws, h1, r⟩ | ⟨ws, h1, r⟩
    · exact .inl ⟨ws, h1, clsRpK kvs h' r⟩
    · exact .inr ⟨ws, h1, clsRpT kvs h' r⟩
  | set xs => exact r
  | _ => simp [cellCl] at h
mutual
theorem rb_ok {g : Nat → List Nat → Option (D × List Nat)} (hg : RbG Z ρ H b g) : ∀ (d : D) {vis vis' : List Nat} {d' : D} {v : V} {F : List Addr}, rbD g b d vis = some (d', vis') → Rp Z ρ H d v F →
    ∃ (L : List Nat) (G : List Addr), vis'.Perm (L ++ vis) ∧ L.Nodup ∧ (∀ m ∈ L, b ≤ m ∧ m ∉ vis) ∧ G.Perm (F ++ locs ρ L) ∧ Rp Z (ρ.take b) H d' v G
  | .non, vis, vis', d', v, F, e, r => by
    simp only [rbD, Option.some.injEq, Prod.mk.injEq] at e
    obtain ⟨rfl, rfl⟩ := e
    exact ⟨[], F, .refl _, .nil, by simp, by simp [locs], r⟩
  | .bl _, vis, vis', d', v, F, e, r => by
    simp only [rbD, Option.some.injEq, Prod.mk.injEq] at e
    obtain ⟨rfl, rfl⟩ := e
    exact ⟨[], F, .refl _, .nil, by simp, by simp [locs], r⟩
  | .int _, vis, vis', d', v, F, e, r => by
    simp only [rbD, Option.some.injEq, Prod.mk.injEq] at e
    obtain ⟨rfl, rfl⟩ := e
    exact ⟨[], F, .refl _, .nil, by simp, by simp [locs], r⟩
  | .str _, vis, vis', d', v, F, e, r => by
    simp only [rbD, Option.some.injEq, Prod.mk.injEq] at e
    obtain ⟨rfl, rfl⟩ := e
    exact ⟨[], F, .refl _, .nil, by simp, by simp [locs], r⟩
  | .set _, vis, vis', d', v, F, e, r => by
    simp only [rbD, Option.some.injEq, Prod.mk.injEq] at e
    obtain ⟨rfl, rfl⟩ := e
    exact ⟨[], F, .refl _, .nil, by simp, by simp [locs], r⟩
  | .ref l, vis, vis', d', v, F, e, r => by
    simp only [rbD] at e
    cases hl : decide (l < b) with
    | true =>
      rw [hl] at e
      simp only [Option.some.injEq, Prod.mk.injEq] at e
      obtain ⟨rfl, rfl⟩ := e
      exact ⟨[], F, .refl _, .nil, by simp, by simp [locs], clsRp (b := b) (.ref l) (by simpa [D.cls] using hl) r⟩
    | false =>
      rw [hl] at e
      obtain ⟨a, h1, rfl, rfl⟩ := r
      obtain ⟨L, G, p, n, o, q, k⟩ := hg l vis d' vis' e (by simpa using hl)
      exact ⟨L, G, p, n, o, by simpa using q, k a h1⟩
  | .tup ds, vis, vis', d', v, F, e, r => by
    obtain ⟨a, vs, rfl, h, r⟩ := r
    simp only [rbD, Option.map_eq_some_iff] at e
    obtain ⟨⟨x, y⟩, e1, e2⟩ := e
    cases e2
    obtain ⟨L, G, p, n, o, q, k⟩ := rbs_ok hg ds e1 r
    exact ⟨L, G, p, n, o, q, ⟨a, vs, rfl, h, k⟩⟩
  | .lst ds, vis, vis', d', v, F, e, r => by
    obtain ⟨a, vs, G0, rfl, h, r, rfl⟩ := r
    simp only [rbD, Option.map_eq_some_iff] at e
    obtain ⟨⟨x, y⟩, e1, e2⟩ := e
    cases e2
    obtain ⟨L, G, p, n, o, q, k⟩ := rbs_ok hg ds e1 r
    exact ⟨L, a :: G, p, n, o, List.Perm.cons a q, ⟨a, vs, G, rfl, h, k, rfl⟩⟩
  | .dic kvs, vis, vis', d', v, F, e, r => by
    obtain ⟨a, G0, rfl, rfl, hh⟩ := r
    simp only [rbD, Option.map_eq_some_iff] at e
    obtain ⟨⟨x, y⟩, e1, e2⟩ := e
    cases e2
    rcases hh with ⟨ws, h, r⟩ | ⟨ws, h, r⟩
    · obtain ⟨L, G, p, n, o, q, k⟩ := rbK_ok hg kvs e1 r
      exact ⟨L, a :: G, p, n, o, List.Perm.cons a q, ⟨a, G, rfl, rfl, .inl ⟨ws, h, k⟩⟩⟩
    · obtain ⟨L, G, p, n, o, q, k⟩ := rbT_ok hg kvs e1 r
      exact ⟨L, a :: G, p, n, o, List.Perm.cons a q, ⟨a, G, rfl, rfl, .inr ⟨ws, h, k⟩⟩⟩
  | .exc c fs, vis, vis', d', v, F, e, r => by
    simp only [rbD] at e
    cases hc : D.clss b fs with
    | false => rw [hc] at e; cases e
    | true =>
      rw [hc] at e
      simp only [Option.some.injEq, Prod.mk.injEq] at e
      obtain ⟨rfl, rfl⟩ := e
      exact ⟨[], F, .refl _, .nil, by simp, by simp [locs], clsRp (b := b) (.exc c fs) (by simpa [D.cls] using hc) r⟩
  | .lam c fs, vis, vis', d', v, F, e, r => r.elim
  | .frl ds, vis, vis', d', v, F, e, r => by simp [rbD] at e
theorem rbs_ok {g : Nat → List Nat → Option (D × List Nat)} (hg : RbG Z ρ H b g) : ∀ (ds : List D) {vis vis' : List Nat} {ds' : List D} {vs : List V} {F : List Addr}, rbDs g b ds vis = some (ds', vis') → Rps Z ρ H ds vs F →
    ∃ (L : List Nat) (G : List Addr), vis'.Perm (L ++ vis) ∧ L.Nodup ∧ (∀ m ∈ L, b ≤ m ∧ m ∉ vis) ∧ G.Perm (F ++ locs ρ L) ∧ Rps Z (ρ.take b) H ds' vs G
  | [], vis, vis', d', v, F, e, r => by
    simp only [rbDs, Option.some.injEq, Prod.mk.injEq] at e
    obtain ⟨rfl, rfl⟩ := e
    exact ⟨[], F, .refl _, .nil, by simp, by simp [locs], r⟩
  | d :: ds, vis, vis', d', v, F, e, r => by
    obtain ⟨u, ws, F1, F2, rfl, r1, r2, rfl⟩ := r
    simp only [rbDs, Option.bind_eq_some_iff, Option.map_eq_some_iff] at e
    obtain ⟨⟨x, y⟩, e1, ⟨x2, y2⟩, e2, e3⟩ := e
    cases e3
    obtain ⟨L1, G1, p1, n1, o1, q1, k1⟩ := rb_ok hg d e1 r1
    obtain ⟨L2, G2, p2, n2, o2, q2, k2⟩ := rbs_ok hg ds e2 r2
    obtain ⟨p, n, o⟩ := vis_step p1 n1 o1 p2 n2 o2
    refine ⟨L2 ++ L1, G1 ++ G2, p, n, o, ?_, ⟨u, ws, G1, G2, rfl, k1, k2, rfl⟩⟩
    rw [locs_append]
    exact (q1.append q2).trans (perm4 _ _ _ _)
theorem rbK_ok {g : Nat → List Nat → Option (D × List Nat)} (hg : RbG Z ρ H b g) : ∀ (ds : List (Ky × D)) {vis vis' : List Nat} {ds' : List (Ky × D)} {vs : List (L2.Key × V)} {F : List Addr}, rbDk g b ds vis = some (ds', vis') → RpK Z ρ H ds vs F →
    ∃ (L : List Nat) (G : List Addr), vis'.Perm (L ++ vis) ∧ L.Nodup ∧ (∀ m ∈ L, b ≤ m ∧ m ∉ vis) ∧ G.Perm (F ++ locs ρ L) ∧ RpK Z (ρ.take b) H ds' vs G
  | [], vis, vis', d', v, F, e, r => by
    simp only [rbDk, Option.some.injEq, Prod.mk.injEq] at e
    obtain ⟨rfl, rfl⟩ := e
    exact ⟨[], F, .refl _, .nil, by simp, by simp [locs], r⟩
  | (k, d) :: ds, vis, vis', d', v, F, e, r => by
    obtain ⟨j, u, ws, F1, F2, rfl, rfl, r1, r2, rfl⟩ := r
    simp only [rbDk, Option.bind_eq_some_iff, Option.map_eq_some_iff] at e
    obtain ⟨⟨x, y⟩, e1, ⟨x2, y2⟩, e2, e3⟩ := e
    cases e3
    obtain ⟨L1, G1, p1, n1, o1, q1, k1⟩ := rb_ok hg d e1 r1
    obtain ⟨L2, G2, p2, n2, o2, q2, k2⟩ := rbK_ok hg ds e2 r2
    obtain ⟨p, n, o⟩ := vis_step p1 n1 o1 p2 n2 o2
    refine ⟨L2 ++ L1, G1 ++ G2, p, n, o, ?_, ⟨j, u, ws, G1, G2, rfl, rfl, k1, k2, rfl⟩⟩
    rw [locs_append]
    exact (q1.append q2).trans (perm4 _ _ _ _)
theorem rbT_ok {g : Nat → List Nat → Option (D × List Nat)} (hg : RbG Z ρ H b g) : ∀ (ds : List (Ky × D)) {vis vis' : List Nat} {ds' : List (Ky × D)} {vs : List (List L2.Key × V)} {F : List Addr}, rbDk g b ds vis = some (ds', vis') → RpT Z ρ H ds vs F →
    ∃ (L : List Nat) (G : List Addr), vis'.Perm (L ++ vis) ∧ L.Nodup ∧ (∀ m ∈ L, b ≤ m ∧ m ∉ vis) ∧ G.Perm (F ++ locs ρ L) ∧ RpT Z (ρ.take b) H ds' vs G
  | [], vis, vis', d', v, F, e, r => by
    simp only [rbDk, Option.some.injEq, Prod.mk.injEq] at e
    obtain ⟨rfl, rfl⟩ := e
    exact ⟨[], F, .refl _, .nil, by simp, by simp [locs], r⟩
  | (k, d) :: ds, vis, vis', d', v, F, e, r => by
    obtain ⟨j, u, ws, F1, F2, rfl, rfl, r1, r2, rfl⟩ := r
    simp only [rbDk, Option.bind_eq_some_iff, Option.map_eq_some_iff] at e
    obtain ⟨⟨x, y⟩, e1, ⟨x2, y2⟩, e2, e3⟩ := e
    cases e3
    obtain ⟨L1, G1, p1, n1, o1, q1, k1⟩ := rb_ok hg d e1 r1
    obtain ⟨L2, G2, p2, n2, o2, q2, k2⟩ := rbT_ok hg ds e2 r2
    obtain ⟨p, n, o⟩ := vis_step p1 n1 o1 p2 n2 o2
    refine ⟨L2 ++ L1, G1 ++ G2, p, n, o, ?_, ⟨j, u, ws, G1, G2, rfl, rfl, k1, k2, rfl⟩⟩
    rw [locs_append]
    exact (q1.append q2).trans (perm4 _ _ _ _)
end
theorem rbC_ok (s : SR Z ρ st H) : ∀ n, RbG Z ρ H b (rbC st b n)
  | 0 => fun l vis d' vis' e _ => by simp [rbC] at e
  | n + 1 => fun l vis d' vis' e hb => by
    simp only [rbC] at e
    cases hv : vis.contains l with
    | true => rw [hv] at e; cases e
    | false =>
      rw [hv] at e
      have nv : l ∉ vis := by simpa using hv
      cases hc : st[l]? with
      | none => rw [hc] at e; cases e
      | some c =>
        rw [hc] at e
        obtain ⟨a, ha, k, r⟩ := s.at hc
        have go : ∀ (d : D), c = d → rbD (rbC st b n) b d (l :: vis) = some (d', vis') → ∃ (L : List Nat) (G : List Addr), vis'.Perm (L ++ vis) ∧ L.Nodup ∧ (∀ m ∈ L, b ≤ m ∧ m ∉ vis) ∧ G.Perm (locs ρ L) ∧ ∀ a, ρ[l]? = some a → Rp Z (ρ.take b) H d' (.ref a) G := by
          intro d hd e
          rw [hd] at r
          obtain ⟨L, G, p, nd, o, q, kk⟩ := rb_ok (rbC_ok s n) d e r
          refine ⟨L ++ [l], G, ?_, ?_, ?_, ?_, ?_⟩
          · rw [List.append_assoc]; exact p
          · refine List.nodup_append.mpr ⟨nd, by simp, ?_⟩
            intro x hx y hy z
            subst z
            have ey := List.mem_singleton.mp hy
            exact (o _ hx).2 (by rw [ey]; exact List.mem_cons_self)
          · intro m hm
            rcases List.mem_append.mp hm with hm | hm
            · exact ⟨(o m hm).1, fun z => (o m hm).2 (List.mem_cons_of_mem _ z)⟩
            · cases List.mem_singleton.mp hm; exact ⟨hb, nv⟩
          · rw [locs_append]
            refine q.trans ?_
            have el : locs ρ [l] = [a] := by simp [locs, ha]
            rw [el]
            exact List.perm_append_comm
          · intro a' ha'
            rw [ha] at ha'
            cases ha'
            exact kk
        cases c with
        | lst ds => exact go _ rfl e
        | dic kvs => exact go _ rfl e
        | set xs =>
          have e' : rbD (rbC st b n) b (.set xs) (l :: vis) = some (d', vis') := by simpa [rbD] using e
          exact go _ rfl e'
        | _ => cases e
/-- the store cut back -/
theorem cut_ok {st0 : Sto} {ρ0 : List Addr} {H0 : Hp} (s0 : SR Z ρ0 st0 H0) (s : SR Z ρ st H) (hp : ρ.take st0.length = ρ0) (ok : okPre st0 st st0.length = true) : SR Z ρ0 (st.take st0.length) H := by
  have hl : st0.length ≤ st.length := by
    have : ρ0.length = st0.length := s0.len
    rw [← hp, List.length_take, s.len] at this
    omega
  have pre : ∀ (cs cs' : Sto) (l : Nat) (c c' : D), okPre cs cs' st0.length = true → cs[l]? = some c → cs'[l]? = some c' → c = c' ∨ cellCl st0.length c' = true := by
    intro cs
    induction cs with
    | nil => intro cs' l c c' _ h; simp at h
    | cons x xs ih =>
      intro cs' l c c' h h1 h2
      cases cs' with
      | nil => simp [okPre] at h
      | cons y ys =>
        simp only [okPre, Bool.and_eq_true, Bool.or_eq_true, decide_eq_true_eq] at h
        cases l with
        | zero => cases h1; cases h2; exact h.1
        | succ l => exact ih ys l c c' h.2 (by simpa using h1) (by simpa using h2)
  refine ⟨by rw [List.length_take, s0.len, Nat.min_eq_left hl], s0.nd, fun l c h => ?_, fun l c a h1 h2 => ?_⟩
  · rw [List.getElem?_take] at h
    split at h
    · exact s.kind l c h
    · cases h
  · rw [List.getElem?_take] at h1
    split at h1
    · rename_i hlt
      have h2' : ρ[l]? = some a := by
        rw [← hp, List.getElem?_take_of_lt hlt] at h2; exact h2
      have r := s.cell l c a h1 h2'
      have h0 : st0[l]? = some st0[l] := List.getElem?_eq_getElem hlt
      rcases pre st0 st l _ c ok h0 h1 with e | e
      · have r0 := s0.cell l _ a h0 h2
        rw [e] at r0
        have cl := cellCl_of (s.kind l c h1) r0
        rw [s0.len] at cl
        have := clsCell (b := st0.length) cl r
        rw [hp] at this; exact this
      · have := clsCell (b := st0.length) e r
        rw [hp] at this; exact this
    · cases h1

/-- what a callee is asked for, begun at an earlier place -/
def spI (Z : Wc) (g : List D → M D) (np : Nat) : Sp := fun vs H Q E => vs.length = np ∧ ∃ ρ0 st0 H0 ρ st ds F, SR Z ρ0 st0 H0 ∧ Now Z ρ0 H0 ρ st H F ∧ Rps Z ρ H ds vs F ∧ Post (Rp Z) Z (fun cls dx _ H' => E cls dx H') (g ds st) ρ0 [] H0 Q
/-- behind a def's body: what it made and nobody holds is let go -/
theorem leave_ok {ρ0 ρ ρ1 : List Addr} {st0 stc st1 st2 : Sto} {H0 Hc H2 : Hp} {W : WX} {d : D} {v : V} {F G N : List Addr} {σ : L2.St} {Q : VK} (s0 : SR Z ρ0 st0 H0) (n : Now Z ρ0 H0 ρ stc Hc F)
    (n2 : Now Z ρ0 H0 ρ1 st2 H2 G) (hp : ρ1.take stc.length = ρ) (r : Rp Z ρ1 H2 d v G)
    (h : Post (Rp Z) Z W (leaveD stc (.ok d st2)) ρ0 σ H0 Q) : Q v H2 := by
  unfold leaveD at h
  cases e1 : okPre stc st2 stc.length with
  | false =>
    simp only [e1] at h
    exact h ρ1 H2 v G n2.stp n2.sr r
  | true =>
    cases e2 : rback st2 stc.length d with
    | none =>
      simp only [e1, e2] at h
      exact h ρ1 H2 v G n2.stp n2.sr r
    | some d' =>
      simp only [e1, e2] at h
      unfold rback at e2
      simp only [Option.map_eq_some_iff] at e2
      obtain ⟨⟨x, vis'⟩, e3, rfl⟩ := e2
      obtain ⟨L, G', p, nd, o, q, k⟩ := rb_ok (rbC_ok (b := stc.length) n2.sr 8) d e3 r
      rw [hp] at k
      refine h ρ H2 v G' ?_ (cut_ok n.sr n2.sr hp e1) k
      obtain ⟨M, eM, ndM, fM, kM⟩ := n2.stp
      obtain ⟨M0, eM0, _, _, _⟩ := n.stp
      have sub : ∀ a ∈ locs ρ1 L, a ∈ M ∧ a ∉ M0 := by
        intro a ha
        obtain ⟨l, hl, el⟩ := List.mem_filterMap.mp ha
        have hge := (o l hl).1
        have lenρ : ρ.length = stc.length := n.sr.len
        have len0 : ρ0.length ≤ ρ.length := by rw [eM0]; simp
        constructor
        · rw [eM, List.getElem?_append_right (by omega)] at el
          exact List.mem_of_getElem? el
        · intro z
          have z1 : a ∈ ρ := by rw [eM0]; exact List.mem_append_right _ z
          obtain ⟨i, hi⟩ := List.mem_iff_getElem?.mp z1
          have hil : i < stc.length := by rw [← lenρ]; exact (List.getElem?_eq_some_iff.mp hi).1
          have hi' : ρ1[i]? = some a := by
            rw [← hp, List.getElem?_take_of_lt hil] at hi; exact hi
          have nd1 := n2.sr.nd
          have := (List.getElem?_inj (by exact (List.getElem?_eq_some_iff.mp hi').1) nd1).mp (hi'.trans el.symm)
          omega
      have m0 : ∀ a ∈ M0, a ∈ M := by
        intro a ha
        have z1 : a ∈ ρ := by rw [eM0]; exact List.mem_append_right _ ha
        have z2 : a ∈ ρ1 := by rw [← hp] at z1; exact List.mem_of_mem_take z1
        rw [eM] at z2
        rcases List.mem_append.mp z2 with z2 | z2
        · have nd0 := n.sr.nd
          rw [eM0] at nd0
          exact ((List.nodup_append.mp nd0).2.2 a z2 a ha rfl).elim
        · exact z2
      refine ⟨M0, eM0, ?_, ?_, kM⟩
      · have nd0 := n.sr.nd
        rw [eM0] at nd0
        have ndG := List.nodup_append.mp ndM
        refine List.nodup_append.mpr ⟨(List.nodup_append.mp nd0).2.1, ?_, ?_⟩
        · refine q.nodup_iff.mpr (List.nodup_append.mpr ⟨n2.nd, ?_, ?_⟩)
          · exact nodup_locs n2.sr.nd nd
          · intro a ha b hb z
            subst z
            exact ndG.2.2 a (sub a hb).1 a ha rfl
        · intro a ha b hb z
          subst z
          rcases List.mem_append.mp (q.mem_iff.mp hb) with hb | hb
          · exact ndG.2.2 a (m0 a ha) a hb rfl
          · exact (sub a hb).2 ha
      · intro a ha
        rcases List.mem_append.mp ha with ha | ha
        · exact fM a (List.mem_append_left _ (m0 a ha))
        · rcases List.mem_append.mp (q.mem_iff.mp ha) with ha | ha
          · exact fM a (List.mem_append_right _ ha)
          · exact fM a (List.mem_append_left _ (sub a ha).1)
/-- behind a def that an exception leaves -/
theorem leaveX_ok {ρ0 ρ ρ1 : List Addr} {st0 stc st1 st2 : Sto} {H0 Hc H2 : Hp} {W : WX} {e : D} {cls : Value} {dx : Option Addr} {F : List Addr} {σ : L2.St} {Q : VK} (n : Now Z ρ0 H0 ρ stc Hc F)
    (n2 : Now Z ρ0 H0 ρ1 st2 H2 []) (hp : ρ1.take stc.length = ρ) (r : XcR Z ρ1 H2 e cls dx)
    (h : Post (Rp Z) Z W (leaveD stc (.exc e st2)) ρ0 σ H0 Q) : W cls dx σ H2 := by
  unfold leaveD at h
  cases e1 : okPre stc st2 stc.length with
  | false =>
    simp only [e1, Bool.false_and] at h
    exact h ρ1 H2 cls dx n2.stp n2.sr r
  | true =>
    cases e2 : D.cls stc.length e with
    | false =>
      simp only [e1, e2, Bool.and_false] at h
      exact h ρ1 H2 cls dx n2.stp n2.sr r
    | true =>
      simp only [e1, e2, Bool.and_self] at h
      obtain ⟨c, fs, rfl, hc, rx⟩ := r
      have rx' := clsRpX (b := stc.length) fs (by simpa [D.cls] using e2) rx
      rw [hp] at rx'
      refine h ρ H2 cls dx ?_ (cut_ok n.sr n2.sr hp e1) ⟨c, fs, rfl, hc, rx'⟩
      obtain ⟨M, eM, ndM, fM, kM⟩ := n2.stp
      obtain ⟨M0, eM0, nd0, f0, _⟩ := n.stp
      exact ⟨M0, eM0, by simpa using (List.nodup_append.mp nd0).1, fun a ha => f0 a (List.mem_append_left _ (by simpa using ha)), kM⟩
end
end Fs
namespace Fs
open PySem L2 PyProof.Rows PySem.Spec
/-- the def at f keeps sp wherever nothing guards a repr -/
structure FgOk (P : Program) (w : World) (K : PySem.W.Frag) (mg : Str → Option Value) (base : Heap) (k : Nat) (f : Addr) (fd : FuncData) (ps : List Str) (sp : Sp) : Prop where
  len : ∀ vs H Q E, sp vs H Q E → vs.length = ps.length
  run : ∀ (A : Around) (outer : List PySem.Env) (s : Shared) (H : Hp) (args : Args) (us : List Value) (vs : List V) (Q : VK) (E : XK), Room k A → A.guards = some [] → Env0 P w K mg base A outer s H → BindsTo s fd args (ps.zip us) → Vals vs us → sp vs H Q E →
    codeAny (model P w) A (.call (.ref f) args) (CR (L2.CX P w) outer P w H s Q E) s
section
variable {P : Program} {w : World} {K : PySem.W.Frag} {mg : Str → Option Value} {base : Heap}
theorem FgOk.of {k : Nat} {f : Addr} {fd : FuncData} {ps : List Str} {sp : Sp} (F : FgOk P w K mg base k f fd ps sp) (g : ∀ A, Room k A → A.guards = some []) : FnOk P w K mg base (L2.CX P w) k f fd ps sp :=
  ⟨F.len, fun A outer s H args us vs Q E hr e0 hb r h => F.run A outer s H args us vs Q E hr (g A hr) e0 hb r h⟩
theorem fg_of {k : Nat} {f : Addr} {name qual : Str} {params : Arguments} {body : List Stmt} {scope : Scope} {dV kV doc pm cdv ct oc : Value} {an od : Option Addr}
    {osl : Array (Option Value)} {N ps : List Str} {sp : Sp} (lk : K.lookup f = some ⟨oc, od, .func (PySem.W.fnOf name qual params body scope dV kV doc pm an cdv ct), osl⟩) (hcd : PySem.W.codeIn K cdv qual = true) (S : FnScope N ps scope)
    (len : ∀ vs H Q E, sp vs H Q E → vs.length = ps.length)
    (hbody : ∀ (A : Around) (outer : List PySem.Env) (s : Shared) (H : Hp) (vs : List V) (Q : VK) (E : XK), Room k (A.deeper (envOfC qual scope s.heap.objs.size f cdv)) → A.guards = some [] → sp vs H Q E →
      ∃ t, PSs (cxOf (L2.CX P w) P w K mg base N qual scope f cdv A outer s H E) body t ∧ t { nx := fun _ H' => Q .non H', rt := Q } (start N vs) H) :
    FgOk P w K mg base (k + 1) f (PySem.W.fnOf name qual params body scope dV kV doc pm an cdv ct) ps sp := by
  refine ⟨len, fun A outer s H args us vs Q E hr hgd e0 hb r hsp => ?_⟩
  have KX : K.In s.heap := e0.mod.kin.keeps fun b o e => (e0.bs b o e).1
  have lim : s.heap.NoLimit := e0.mod.nolimit.keeps fun b o e => (e0.bs b o e).1
  have hkind : ∀ y ∈ ps.zip us, scope.names.lookup y.1 = some .local ∨ (scope.names.lookup y.1 = some .cell ∧ ((cellsFrom (s.heap.objs.size + 1) scope.names []).lookup y.1).isSome = true) := fun y hy => by
    rcases S.par y.1 (List.of_mem_zip hy).1 with q | q
    · exact Or.inl q
    · exact Or.inr ⟨q, PySem.W.cellsFrom_some _ _ _ (Or.inl q)⟩
  have hl := len _ _ _ _ hsp
  refine codeAny_call_function hr.depth (KX _ _ lk) rfl S.co S.gen rfl (PySem.W.codeRec_of KX hcd) (hb _ _ _ _ (wpAny_newFunctionEnv_cells S.kind hkind fun env he s1 x => ?_))
  cases he
  refine ⟨lim.keeps x.toInCall.keep, codeAny_func ?_⟩
  obtain ⟨t, ht, hq⟩ := hbody A outer s H vs Q E (hr.deeper _) hgd hsp
  have I := inv_start (CX := L2.CX P w) (E := E) S hr.hd e0 hl r x
  refine wpAny_mono (ht.run [] s1 (start N vs) H _ I hq) (fun fl s' hs => ?_) fun e s' hs => hs
  cases fl with
  | ret u => exact let ⟨v, σ', H', J, rv, q⟩ := hs; ⟨v, H', J.os, J.bare, J.base, J.hok, rv, q⟩
  | next => exact let ⟨σ', H', J, q⟩ := hs; ⟨V.non, H', J.os, J.bare, J.base, J.hok, rfl, q⟩
  | brk => exact let ⟨_, _, _, q⟩ := hs; q.elim
  | cont => exact let ⟨_, _, _, q⟩ := hs; q.elim
end
section
variable {X : L2.Cx} {Z : Wc} {T : Tbl} {W : WX} {k : Nat} {f : Addr} {fd : FuncData} {ps : List Str} {x : Str} {p pos : Pos} {e : Expr} {es : List Expr} {As : List Ex} {A : Ex}
/-- a callee runs -/
theorem run_fg {sp : Sp} {E : XK} {pins : List (Addr × Obj)} {σ : L2.St} {H : Hp} {s : Shared} {Q : VK} {us : List Value} {vs : List V} {args : Args} (F : FgOk X.prog X.w X.K X.mg X.base k f fd ps sp) (hr : Room k X.A) (hgd : X.A.guards = some [])
    (hx : ∀ e s', L2.CX X.prog X.w X.stack H s E e s' → X.xe e s') (I : Inv X pins σ H s) (hb : BindsTo s fd args (ps.zip us)) (r : Vals vs us) (h : sp vs H Q E) :
    codeAny (model X.prog X.w) X.A (.call (.ref f) args) (fun r s' => match r with
      | .ok (.ret u) => EP X pins σ Q u s'
      | .ok _ => False
      | .error e => X.xe e s') s := by
  refine codeAny_mono (F.run X.A X.stack s H args us vs Q E hr hgd I.env0 hb r h) fun r s' hq => ?_
  cases r with
  | error e => exact hx e s' hq
  | ok fl => cases fl with
    | ret u => exact I.after hq
    | next => exact hq.elim
    | brk => exact hq.elim
    | cont => exact hq.elim
/-- what a call hands to the callee -/
theorem give_ok {g : List D → M D} {np : Nat} {σ : L2.St} {H : Hp} {Q : VK} {As : List Ex} (h : ∃ ρ env st, ER Z ρ H env σ ∧ SR Z ρ st H ∧ Post (Rp Z) Z W (bnd (evs T As env) (fun ds => g ds) st) ρ σ H Q)
    (hlen : As.length = np) : iEs T Z W As σ H (fun vs H1 => spI Z g np vs H1 Q (fun cls dx H' => W cls dx σ H')) := by
  obtain ⟨ρ, env, st, er, sr, h⟩ := h
  refine ⟨ρ, env, st, er, sr, ?_⟩
  have hl : ∀ {ds st'}, evs T As env st = .ok ds st' → ds.length = As.length := by
    intro ds st'
    clear h hlen sr
    induction As generalizing st ds st' with
    | nil => intro e; simp only [evs, ret] at e; cases e; rfl
    | cons a as ih =>
      intro e
      simp only [evs, bnd] at e
      cases e1 : ev T a env st with
      | ok d s1 =>
        rw [e1] at e
        simp only at e
        cases e2 : evs T as env s1 with
        | ok ds2 s2 =>
          rw [e2] at e
          simp only [ret] at e
          cases e
          simp [ih _ e2]
        | exc _ _ => rw [e2] at e; cases e
        | bad => rw [e2] at e; cases e
      | exc _ _ => rw [e1] at e; cases e
      | bad => rw [e1] at e; cases e
  have sq := Post.seq rpsOk (Now.start sr) sr h
  cases e1 : evs T As env st with
  | ok ds st1 =>
    rw [e1] at sq
    intro ρ' H' v F a b c
    obtain ⟨ρ1, d1, st2, F1, n1, t1, r1, h1⟩ := sq ρ' H' v F a b c
    have e0 := sq ρ' H' v F a b c
    refine ⟨?_, ρ, st, H, ρ', st1, ds, F, sr, ⟨a, b, fun z hz => c.there z hz, fun z hz => a.out sr z hz, a.nodup⟩, c, ?_⟩
    · rw [← c.length, hl e1, hlen]
    · unfold bnd at h
      rw [e1] at h
      exact h
  | exc x st1 => rw [e1] at sq; exact sq
  | bad => rw [e1] at sq; exact sq
theorem se_call {i : Nat} (F : FgOk X.prog X.w X.K X.mg X.base k f fd ps (spI Z (T.fn i) ps.length)) (hr : Room k X.A) (hgd : X.A.guards = some []) (tk : Takes X W) (hg : Gl X x) (hm : X.mg x = some (.ref f)) (hk : PySem.W.keepIn X.K (.ref f) = true) (hb : Binds X.K fd ps [])
    (ha : PA X (e :: es) (iEs T Z W As)) (hlen : As.length = ps.length) (hdb : (x == ("__debug__" : Str)) = false) (he : starEach (e :: es) X.env = (false, eval e X.env) :: starEach es X.env) (hpl : (backTo pos (starEach es X.env)).any (·.1) = false) :
    PE X (.Call (.Name x p) (e :: es) [] pos) (iE T Z W (.call i As)) := by
  refine ⟨fun pins s σ H Q I h => ?_⟩
  have h' := give_ok (g := T.fn i) (np := ps.length) (As := As) (by simpa only [iE, ev] using h) hlen
  refine wpAny_Call_Name_kw (ld_glob I hg hm ?_ hdb)
  refine PySem.W.callWith_K (h₀ := X.base) I.ok.mod.kin hk (thn (ha.run pos pins s σ H _ I h') fun us s1 ⟨vs, H1, I1, r, q⟩ => ⟨I1.kIn, ?_⟩) he hpl
  have hl : us.length = ps.length := by rw [← r.length]; exact q.1
  refine wpAny_call (codeAny_mono (run_fg (us := us) F hr hgd (fun e s' c => tk e s' (XE.of_call I1 (fun _ _ _ z => z) c)) I1 (by have := hb s1 us I1.kIn (by simpa using hl); simpa using this) r q) fun rr s' hq => ?_)
  cases rr with
  | error e => exact hq
  | ok fl => cases fl with
    | ret u => exact hq
    | next => exact hq
    | brk => exact hq
    | cont => exact hq
theorem se_call0 {i : Nat} (F : FgOk X.prog X.w X.K X.mg X.base k f fd ps (spI Z (T.fn i) ps.length)) (hr : Room k X.A) (hgd : X.A.guards = some []) (tk : Takes X W) (hg : Gl X x) (hm : X.mg x = some (.ref f)) (hk : PySem.W.keepIn X.K (.ref f) = true) (hb : Binds X.K fd ps [])
    (hlen : ps.length = 0) (hdb : (x == ("__debug__" : Str)) = false) :
    PE X (.Call (.Name x p) [] [] pos) (iE T Z W (.call i [])) := by
  refine ⟨fun pins s σ H Q I h => ?_⟩
  obtain ⟨ρ, env, st, er, sr, q0⟩ := give_ok (g := T.fn i) (np := ps.length) (As := []) (by simpa only [iE, ev] using h) (by simpa using hlen.symm)
  simp only [evs] at q0
  have q := Post.ret (d := ([] : List D)) (v := ([] : List V)) q0 (Now.start sr) (by exact ⟨rfl, rfl⟩)
  refine wpAny_Call_Name_kw (ld_glob I hg hm ?_ hdb)
  refine PySem.W.callWith_K0 I.kIn hk ?_
  refine wpAny_call (codeAny_mono (run_fg (us := []) F hr hgd (fun e s' c => tk e s' (XE.of_call I (fun _ _ _ z => z) c)) I (by have := hb s [] I.kIn (by simpa using hlen.symm); simpa using this) .nil q) fun rr s' hq => ?_)
  cases rr with
  | error e => exact hq
  | ok fl => cases fl with
    | ret u => exact hq
    | next => exact hq
    | brk => exact hq
    | cont => exact hq
end
end Fs
namespace Fs
open PySem L2 PyProof.Rows PySem.Spec
/-- what is to be shown behind a statement, begun at (ρ, H) -/
def PostS (Z : Wc) (W : WX) (r : R Fl) (ρ : List Addr) (H : Hp) (Dn : Ends) : Prop := match r with
  | .ok (.nx env') st' => ∀ ρ' H' σ', Stp ρ H ρ' H' [] → SR Z ρ' st' H' → ER Z ρ' H' env' σ' → Dn.nx σ' H'
  | .ok (.br env') st' => ∀ ρ' H' σ', Stp ρ H ρ' H' [] → SR Z ρ' st' H' → ER Z ρ' H' env' σ' → Dn.bk σ' H'
  | .ok (.ct env') st' => ∀ ρ' H' σ', Stp ρ H ρ' H' [] → SR Z ρ' st' H' → ER Z ρ' H' env' σ' → Dn.ct σ' H'
  | .ok (.rt d) st' => ∀ ρ' H' v F, Stp ρ H ρ' H' F → SR Z ρ' st' H' → Rp Z ρ' H' d v F → Dn.rt v H'
  | .ok (.ex env' e) st' => ∀ ρ' H' σ' cls dx, Stp ρ H ρ' H' [] → SR Z ρ' st' H' → ER Z ρ' H' env' σ' → XcR Z ρ' H' e cls dx → W cls dx σ' H'
  | _ => False
/-- a step that may land the fresh things F in hand -/
def StpF (ρ : List Addr) (H : Hp) (F ρ' : List Addr) (H' : Hp) : Prop := ∃ N, ρ' = ρ ++ N ∧ N.Nodup ∧ (∀ a ∈ N, a ∈ F ∨ H a = none) ∧ ∀ a o, H a = some o → a ∉ ρ → a ∉ F → H' a = some o
mutual
def tgN : Tg → List Nat
  | .nm i => [i]
  | .tup ts => tgNs ts
  | .sub _ _ => []
  | .attr _ _ => []
def tgNs : List Tg → List Nat
  | [] => []
  | t :: ts => tgN t ++ tgNs ts
end
/-- σ' is σ but for the names in L -/
def Sm (L : List Nat) (σ σ' : L2.St) : Prop := σ'.length = σ.length ∧ ∀ i, i ∉ L → σ'[i]? = σ[i]?
theorem Sm.id {L : List Nat} {σ : L2.St} : Sm L σ σ := ⟨rfl, fun _ _ => rfl⟩
theorem Sm.trans {L M : List Nat} {σ σ1 σ2 : L2.St} (a : Sm L σ σ1) (b : Sm M σ1 σ2) : Sm (L ++ M) σ σ2 := ⟨b.1.trans a.1, fun i h => (b.2 i fun z => h (List.mem_append_right _ z)).trans (a.2 i fun z => h (List.mem_append_left _ z))⟩
theorem Sm.set {i : Nat} {σ : L2.St} {v : Option V} : Sm [i] σ (σ.set i v) := ⟨by simp, fun j h => List.getElem?_set_ne (fun e => h (by simp [e]))⟩
theorem Sm.less {L M : List Nat} {σ σ1 : L2.St} (a : Sm L σ σ1) (h : ∀ i ∈ L, i ∈ M) : Sm M σ σ1 := ⟨a.1, fun i z => a.2 i fun y => z (h i y)⟩
def PostA (Z : Wc) (r : R Env) (ρ : List Addr) (H : Hp) (F : List Addr) (L : List Nat) (σ : L2.St) (Q : L2.St → Hp → Prop) : Prop := match r with
  | .ok env' st' => ∀ ρ' H' σ', StpF ρ H F ρ' H' → SR Z ρ' st' H' → ER Z ρ' H' env' σ' → Sm L σ σ' → Q σ' H'
  | _ => False
/-- fresh things in hand -/
structure Hand (Z : Wc) (ρ : List Addr) (st : Sto) (H : Hp) (F : List Addr) : Prop where
  sr : SR Z ρ st H
  nd : F.Nodup
  out : ∀ a ∈ F, a ∉ ρ
  th : ∀ a ∈ F, H a ≠ none
section
variable (T : Tbl) (Z : Wc) (W : WX)
def iS (s : Sx) : TS := fun Dn σ H => ∃ ρ env st, ER Z ρ H env σ ∧ SR Z ρ st H ∧ PostS Z W (exS T s env st) ρ H Dn
def iL (s : List Sx) : TS := fun Dn σ H => ∃ ρ env st, ER Z ρ H env σ ∧ SR Z ρ st H ∧ PostS Z W (exL T s env st) ρ H Dn
def iG (t : Tg) : TG := fun v σ H Q => ∃ ρ env st d F, Hand Z ρ st H F ∧ ER Z ρ H env σ ∧ Rp Z ρ H d v F ∧ PostA Z (asgT T t d env st) ρ H F (tgN t) σ Q
def iGs (ts : List Tg) : TGs := fun vs σ H Q => ∃ ρ env st ds F, Hand Z ρ st H F ∧ ER Z ρ H env σ ∧ Rps Z ρ H ds vs F ∧ PostA Z (asgTs T ts ds env st) ρ H F (tgNs ts) σ Q
end
section
variable {Z : Wc} {W : WX} {ρ ρ' ρ₁ ρ₂ : List Addr} {H H' H₁ H₂ : Hp} {st st' st₁ : Sto} {F F' F₁ F₂ G : List Addr} {σ : L2.St} {α β γ δ : Type} {rel : Rel α β} {rel₁ : Rel γ δ} {env : Env} {Dn Dn' : Ends}
theorem PostS.tail {r : R Fl} (n : Now Z ρ H ρ₁ st₁ H₁ F) (s : SR Z ρ st H) (h : PostS Z W r ρ H Dn) : PostS Z W r ρ₁ H₁ Dn := by
  cases r with
  | exc x s' => exact h
  | bad => exact h
  | ok f s' => cases f with
    | nx e' => exact fun ρ' H' σ' t sr er => h ρ' H' σ' (n.more s t sr (by simp)).stp.none sr er
    | br e' => exact fun ρ' H' σ' t sr er => h ρ' H' σ' (n.more s t sr (by simp)).stp.none sr er
    | ct e' => exact fun ρ' H' σ' t sr er => h ρ' H' σ' (n.more s t sr (by simp)).stp.none sr er
    | rt d => exact fun ρ' H' v G t sr q => h ρ' H' v G ((n.more s t sr (fun a ha => q.there a ha)).stp.less (List.sublist_append_right _ _)) sr q
    | ex e' e => exact fun ρ' H' σ' cls dx t sr er q => h ρ' H' σ' cls dx (n.more s t sr (by simp)).stp.none sr er q
theorem PostS.mono {r : R Fl} (h : PostS Z W r ρ H Dn) (hn : ∀ σ H, Dn.nx σ H → Dn'.nx σ H) (hr : ∀ v H, Dn.rt v H → Dn'.rt v H) (hb : ∀ σ H, Dn.bk σ H → Dn'.bk σ H) (hc : ∀ σ H, Dn.ct σ H → Dn'.ct σ H) : PostS Z W r ρ H Dn' := by
  cases r with
  | exc x s' => exact h
  | bad => exact h
  | ok f s' => cases f with
    | nx e' => exact fun ρ' H' σ' t sr er => hn _ _ (h ρ' H' σ' t sr er)
    | br e' => exact fun ρ' H' σ' t sr er => hb _ _ (h ρ' H' σ' t sr er)
    | ct e' => exact fun ρ' H' σ' t sr er => hc _ _ (h ρ' H' σ' t sr er)
    | rt d => exact fun ρ' H' v G t sr q => hr _ _ (h ρ' H' v G t sr q)
    | ex e' e => exact h
/-- an expression ahead of the rest -/
theorem PostS.lft (ok : RelOk Z rel₁) {m : M γ} {f : γ → M Fl} (n : Now Z ρ H ρ₁ st₁ H₁ F) (s : SR Z ρ st H) (er : ER Z ρ₁ H₁ env σ) (h : PostS Z W (lft env m f st₁) ρ H Dn) :
    Post rel₁ Z W (m st₁) ρ₁ σ H₁ (fun v H' => ∃ ρ' d st' G, Now Z ρ H ρ' st' H' (F ++ G) ∧ Stp ρ₁ H₁ ρ' H' G ∧ ER Z ρ' H' env σ ∧ rel₁ ρ' H' d v G ∧ PostS Z W (f d st') ρ H Dn) := by
  unfold Fs.lft at h
  cases e : m st₁ with
  | ok d s' =>
    rw [e] at h
    exact fun ρ' H' v G t sr r => ⟨ρ', d, s', G, n.more s t sr (ok.there r), t, t.env n.sr er, r, h⟩
  | exc x s' =>
    rw [e] at h
    exact fun ρ' H' cls dx t sr r => h ρ' H' σ cls dx (n.more s t sr (by simp)).stp.none sr (t.env n.sr er) r
  | bad => rw [e] at h; exact h
theorem ER.set {i : Nat} {d : D} {v : V} (er : ER Z ρ H env σ) (r : Rp Z ρ H d v []) : ER Z ρ H (env.set i (some d)) (σ.set i (some v)) := by
  refine ⟨by simp [er.1], fun j x hx => ?_⟩
  by_cases hj : i = j
  · subst hj
    have hl : i < env.length := by
      have := (List.getElem?_eq_some_iff.mp hx).1
      simpa using this
    rw [List.getElem?_set_self hl] at hx
    cases hx
    exact ⟨v, by rw [List.getElem?_set_self (by rw [← er.1]; exact hl)], r⟩
  · rw [List.getElem?_set_ne hj] at hx
    obtain ⟨u, h1, h2⟩ := er.2 j x hx
    exact ⟨u, by rw [List.getElem?_set_ne hj]; exact h1, h2⟩
theorem ER.gone {i : Nat} (er : ER Z ρ H env σ) : ER Z ρ H (env.set i none) (σ.set i none) := by
  refine ⟨by simp [er.1], fun j x hx => ?_⟩
  by_cases hj : i = j
  · subst hj
    rw [List.getElem?_set] at hx
    simp only [if_true] at hx
    split at hx <;> cases hx
  · rw [List.getElem?_set_ne hj] at hx
    obtain ⟨u, h1, h2⟩ := er.2 j x hx
    exact ⟨u, by rw [List.getElem?_set_ne hj]; exact h1, h2⟩
theorem Now.hand (n : Now Z ρ H ρ₁ st₁ H₁ F) : Hand Z ρ₁ st₁ H₁ F := ⟨n.sr, n.nd, n.out, n.th⟩
theorem Hand.less (n : Hand Z ρ st H F) (h : G.Sublist F) : Hand Z ρ st H G := ⟨n.sr, n.nd.sublist h, fun a ha => n.out a (h.subset ha), fun a ha => n.th a (h.subset ha)⟩
/-- from an earlier place on, the fresh things landed -/
theorem Now.land (n : Now Z ρ H ρ₁ st₁ H₁ F) (s : SR Z ρ st H) (t : StpF ρ₁ H₁ F ρ₂ H₂) : Stp ρ H ρ₂ H₂ [] := by
  obtain ⟨M, rfl, nd, f, k⟩ := n.stp
  obtain ⟨N, rfl, nn, fn, kn⟩ := t
  have old : ∀ a ∈ N, H a = none := fun a ha => by
    rcases fn a ha with z | z
    · exact f a (List.mem_append_right _ z)
    · cases e : H a with
      | none => rfl
      | some o =>
        have nr : a ∉ ρ := fun y => n.sr.has (List.mem_append_left _ y) z
        have := k a o e nr
        rw [z] at this; cases this
  refine ⟨M ++ N, by simp [List.append_assoc], ?_, ?_, fun a o e z => ?_⟩
  · rw [List.append_nil]
    refine List.nodup_append.mpr ⟨(List.nodup_append.mp nd).1, nn, ?_⟩
    intro a ha b hb e
    subst e
    rcases fn a hb with z | z
    · exact (List.nodup_append.mp nd).2.2 a ha a z rfl
    · exact n.sr.has (List.mem_append_right _ ha) z
  · intro a ha
    rw [List.append_nil] at ha
    rcases List.mem_append.mp ha with ha | ha
    · exact f a (List.mem_append_left _ ha)
    · exact old a ha
  · have h1 := k a o e z
    refine kn a o h1 (fun y => ?_) fun y => ?_
    · rcases List.mem_append.mp y with y | y
      · exact z y
      · rw [f a (List.mem_append_left _ y)] at e; cases e
    · rw [f a (List.mem_append_right _ y)] at e; cases e
theorem StpF.pre (s : StpF ρ H F ρ' H') : ∀ (l : Nat) (a : Addr), ρ[l]? = some a → ρ'[l]? = some a := by
  obtain ⟨N, rfl, _⟩ := s
  exact fun l a h => get_append l a h
/-- what stands beside the things in hand -/
theorem StpF.vals {ds : List D} {vs : List V} (s : StpF ρ H F ρ' H') (h : Hand Z ρ st H (F ++ G)) (hF : ∀ a ∈ F, ∃ o, H a = some o ∧ HCell o = true) (r : Rps Z ρ H ds vs G) : Rps Z ρ' H' ds vs G := by
  obtain ⟨N, rfl, nn, fn, kn⟩ := s
  refine Rps.stay get_append (fun a o e k => kn a o e (h.sr.not_cell e k) fun z => ?_) (fun a ha o e => kn a o e (h.out a (List.mem_append_right _ ha)) fun z => (List.nodup_append.mp h.nd).2.2 a z a ha rfl) r
  obtain ⟨u, e', k'⟩ := hF a z
  rw [e] at e'; cases e'; rw [k] at k'; cases k'
theorem Hand.step (h : Hand Z ρ st H (F ++ G)) (s : StpF ρ H F ρ' H') (sr : SR Z ρ' st' H') : Hand Z ρ' st' H' G := by
  obtain ⟨N, rfl, nn, fn, kn⟩ := s
  refine ⟨sr, (List.nodup_append.mp h.nd).2.1, fun a ha z => ?_, fun a ha => ?_⟩
  · rcases List.mem_append.mp z with z | z
    · exact h.out a (List.mem_append_right _ ha) z
    · rcases fn a z with y | y
      · exact (List.nodup_append.mp h.nd).2.2 a y a ha rfl
      · exact h.th a (List.mem_append_right _ ha) y
  · cases e : H a with
    | none => exact (h.th a (List.mem_append_right _ ha) e).elim
    | some o =>
      rw [kn a o e (h.out a (List.mem_append_right _ ha)) fun z => (List.nodup_append.mp h.nd).2.2 a z a ha rfl]
      exact nofun
theorem StpF.trans (h : Hand Z ρ st H (F ++ G)) (s : StpF ρ H F ρ₁ H₁) (sr : SR Z ρ₁ st₁ H₁) (t : StpF ρ₁ H₁ G ρ₂ H₂) : StpF ρ H (F ++ G) ρ₂ H₂ := by
  have h1 := h.step s sr
  obtain ⟨N, rfl, nn, fn, kn⟩ := s
  obtain ⟨M, rfl, nm, fm, km⟩ := t
  have kk : ∀ a o, H a = some o → a ∉ ρ → a ∉ F → a ∉ ρ ++ N := fun a o e z y w => by
    rcases List.mem_append.mp w with w | w
    · exact z w
    · rcases fn a w with q | q
      · exact y q
      · rw [q] at e; cases e
  refine ⟨N ++ M, by simp [List.append_assoc], List.nodup_append.mpr ⟨nn, nm, ?_⟩, ?_, fun a o e z y => ?_⟩
  · intro a ha b hb e
    subst e
    rcases fm a hb with q | q
    · exact h1.out a q (List.mem_append_right _ ha)
    · exact sr.has (List.mem_append_right _ ha) q
  · intro a ha
    rcases List.mem_append.mp ha with ha | ha
    · rcases fn a ha with q | q
      · exact .inl (List.mem_append_left _ q)
      · exact .inr q
    · rcases fm a ha with q | q
      · exact .inl (List.mem_append_right _ q)
      · cases e : H a with
        | none => exact .inr rfl
        | some o =>
          by_cases hF : a ∈ F
          · exact .inl (List.mem_append_left _ hF)
          · have nr : a ∉ ρ := fun y => sr.has (List.mem_append_left _ y) q
            rw [kn a o e nr hF] at q; cases q
  · have yF : a ∉ F := fun q => y (List.mem_append_left _ q)
    have yG : a ∉ G := fun q => y (List.mem_append_right _ q)
    exact km a o (kn a o e z yF) (kk a o e z yF) yG
mutual
/-- fresh things are cells' content -/
theorem Rp.hcells : ∀ {d : D} {v : V} {F : List Addr}, Rp Z ρ H d v F → ∀ a ∈ F, ∃ o, H a = some o ∧ HCell o = true
  | .non, v, F, h, a, ha => by obtain ⟨_, rfl⟩ := h; cases ha
  | .bl b, v, F, h, a, ha => by obtain ⟨_, rfl⟩ := h; cases ha
  | .int i, v, F, h, a, ha => by obtain ⟨_, rfl⟩ := h; cases ha
  | .str s, v, F, h, a, ha => by obtain ⟨_, rfl⟩ := h; cases ha
  | .tup ds, v, F, h, a, ha => by obtain ⟨_, _, _, _, h3⟩ := h; exact Rps.hcells h3 a ha
  | .ref l, v, F, h, a, ha => by obtain ⟨_, _, _, rfl⟩ := h; cases ha
  | .lst ds, v, F, h, a, ha => by
    obtain ⟨b, vs, G, _, hb, h3, rfl⟩ := h
    rcases List.mem_cons.mp ha with rfl | ha
    · exact ⟨_, hb, rfl⟩
    · exact Rps.hcells h3 a ha
  | .frl ds, v, F, h, a, ha => by
    obtain ⟨b, o, vs, G, _, hb, h3, rfl⟩ := h
    rcases List.mem_cons.mp ha with rfl | ha
    · exact ⟨_, hb, rfl⟩
    · exact Rps.hcells h3 a ha
  | .dic kvs, v, F, h, a, ha => by
    obtain ⟨b, G, _, rfl, h3⟩ := h
    rcases h3 with ⟨ws, hb, h4⟩ | ⟨ws, hb, h4⟩
    · rcases List.mem_cons.mp ha with rfl | ha
      · exact ⟨_, hb, rfl⟩
      · exact RpK.hcells h4 a ha
    · rcases List.mem_cons.mp ha with rfl | ha
      · exact ⟨_, hb, rfl⟩
      · exact RpT.hcells h4 a ha
  | .set xs, v, F, h, a, ha => by
    obtain ⟨b, S, _, hb, _, _, rfl⟩ := h
    rcases List.mem_cons.mp ha with rfl | ha
    · exact ⟨_, hb, rfl⟩
    · cases ha
  | .exc _ _, v, F, h, a, ha => by obtain ⟨_, _, _, _, _, rfl⟩ := h; cases ha
  | .lam _ _, v, F, h, a, ha => h.elim
theorem Rps.hcells : ∀ {ds : List D} {vs : List V} {F : List Addr}, Rps Z ρ H ds vs F → ∀ a ∈ F, ∃ o, H a = some o ∧ HCell o = true
  | [], vs, F, h, a, ha => by obtain ⟨_, rfl⟩ := h; cases ha
  | d :: ds, vs, F, h, a, ha => by
    obtain ⟨v, ws, F1, F2, rfl, h1, h2, rfl⟩ := h
    rcases List.mem_append.mp ha with ha | ha
    · exact Rp.hcells h1 a ha
    · exact Rps.hcells h2 a ha
theorem RpK.hcells : ∀ {ds : List (Ky × D)} {vs : List (L2.Key × V)} {F : List Addr}, RpK Z ρ H ds vs F → ∀ a ∈ F, ∃ o, H a = some o ∧ HCell o = true
  | [], vs, F, h, a, ha => by obtain ⟨_, rfl⟩ := h; cases ha
  | (k, d) :: ds, vs, F, h, a, ha => by
    obtain ⟨j, v, ws, F1, F2, _, rfl, h1, h2, rfl⟩ := h
    rcases List.mem_append.mp ha with ha | ha
    · exact Rp.hcells h1 a ha
    · exact RpK.hcells h2 a ha
theorem RpT.hcells : ∀ {ds : List (Ky × D)} {vs : List (List L2.Key × V)} {F : List Addr}, RpT Z ρ H ds vs F → ∀ a ∈ F, ∃ o, H a = some o ∧ HCell o = true
  | [], vs, F, h, a, ha => by obtain ⟨_, rfl⟩ := h; cases ha
  | (k, d) :: ds, vs, F, h, a, ha => by
    obtain ⟨j, v, ws, F1, F2, _, rfl, h1, h2, rfl⟩ := h
    rcases List.mem_append.mp ha with ha | ha
    · exact Rp.hcells h1 a ha
    · exact RpT.hcells h2 a ha
end
end
section
variable {X : L2.Cx} {T : Tbl} {Z : Wc} {W : WX} {a b c e o : Expr} {A B C : Ex} {pos p : Pos}
/-! targets -/
theorem sg_nm {i : Nat} {x : Str} (hN : X.N.Nodup) (hi : X.N[i]? = some x) (hx : Loc X.env.scope x) (hf : X.fn x = true ∨ X.env.scope.names.lookup x = some .local) : PG X (.Name x pos) (iG T Z (.nm i)) := by
  have g := pg_name (pos := pos) hN hi hx hf
  refine ⟨fun pins s σ H v u Q I r h => g.run pins s σ H v u Q I r ?_⟩
  obtain ⟨ρ, env, st, d, F, n, er, rd, h⟩ := h
  obtain ⟨N, p, s', q⟩ := land_ok d n.sr rd n.out n.nd
  simp only [asgT, bnd, landM, ret] at h
  refine h _ H _ ⟨N, rfl, p.nodup_iff.mpr n.nd, fun a ha => .inl (p.mem_iff.mp ha), fun _ _ e _ _ => e⟩ s' (ER.set ?_ q) Sm.set
  exact ⟨er.1, fun j x hx => let ⟨u, h1, h2⟩ := er.2 j x hx; ⟨u, h1, h2.wide⟩⟩
theorem sgs_nil : PGs X [] (iGs T Z []) := by
  refine ⟨fun pins s σ H vs us Q I r h => pgs_nil.run pins s σ H vs us Q I r ?_⟩
  obtain ⟨ρ, env, st, ds, F, n, er, rd, h⟩ := h
  cases ds with
  | nil =>
    obtain ⟨rfl, rfl⟩ := rd
    exact ⟨rfl, by simp only [asgTs, ret] at h; exact h _ _ _ ⟨[], by simp, .nil, by simp, fun _ _ e _ _ => e⟩ n.sr er Sm.id⟩
  | cons d ds => simp only [asgTs, bad] at h; exact h.elim
theorem sgs_cons {es : List Expr} {t : Tg} {ts : List Tg} (h1 : PG X e (iG T Z t)) (h2 : PGs X es (iGs T Z ts)) (hs : (assignEach (e :: es) X.env).map (·.2) = assign e X.env :: (assignEach es X.env).map (·.2)) : PGs X (e :: es) (iGs T Z (t :: ts)) := by
  have g := pgs_cons h1 h2 hs
  refine ⟨fun pins s σ H vs us Q I r h => g.run pins s σ H vs us Q I r ?_⟩
  obtain ⟨ρ, env, st, ds, F, n, er, rd, h⟩ := h
  cases ds with
  | nil => simp only [asgTs, bad] at h; exact h.elim
  | cons d ds =>
    obtain ⟨v, ws, F1, F2, rfl, r1, r2, rfl⟩ := rd
    simp only [asgTs] at h
    refine ⟨v, ws, rfl, ρ, env, st, d, F1, n.less (List.sublist_append_left _ _), er, r1, ?_⟩
    unfold bnd at h
    cases e1 : asgT T t d env st with
    | ok env' st' =>
      rw [e1] at h
      intro ρ' H' σ' t1 sr1 er1 m1
      refine ⟨ρ', env', st', ds, F2, n.step t1 sr1, er1, t1.vals n r1.hcells r2, ?_⟩
      show PostA Z (asgTs T ts ds env' st') ρ' H' F2 (tgNs ts) σ' Q
      have h' : PostA Z (asgTs T ts ds env' st') ρ H (F1 ++ F2) (tgN t ++ tgNs ts) σ Q := h
      cases e2 : asgTs T ts ds env' st' with
      | ok env2 st2 =>
        rw [e2] at h'
        exact fun ρ2 H2 σ2 t2 sr2 er2 m2 => h' ρ2 H2 σ2 (StpF.trans n t1 sr1 t2) sr2 er2 (m1.trans m2)
      | exc _ _ => rw [e2] at h'; exact h'.elim
      | bad => rw [e2] at h'; exact h'.elim
    | exc x s' => rw [e1] at h; exact h.elim
    | bad => rw [e1] at h; exact h.elim
theorem sg_tup {es : List Expr} {ts : List Tg} {k : Nat} (hK : X.K = Z.K) (hc : X.calm = true) (h : PGs X es (iGs T Z ts)) (hl : es.length = ts.length) (hn : (assignEach es X.env).length = es.length) (hst : (assignEach es X.env).findIdx? (·.1) = none) : PG X (.Tuple es k pos) (iG T Z (.tup ts)) := by
  have g := pg_tup (k := k) (pos := pos) hc h hn hst
  refine ⟨fun pins s σ H v u Q I r q => g.run pins s σ H v u Q I r ?_⟩
  obtain ⟨ρ, env, st, d, F, n, er, rd, q⟩ := q
  simp only [asgT] at q
  cases d with
  | tup ds =>
    obtain ⟨a, vs, rfl, hv, rs⟩ := rd
    simp only [ofTup] at q
    have len : ∀ (ts : List Tg) (ds : List D) (env : Env) (st : Sto) {L : List Nat} {σ : L2.St}, PostA Z (asgTs T ts ds env st) ρ H F L σ Q → ds.length = ts.length := by
      intro ts
      induction ts with
      | nil => intro ds env st L σ h; cases ds with
        | nil => rfl
        | cons d ds => simp only [asgTs, bad] at h; exact h.elim
      | cons t ts ih =>
        intro ds env st L σ h
        cases ds with
        | nil => simp only [asgTs, bad] at h; exact h.elim
        | cons d ds =>
          simp only [asgTs, bnd] at h
          cases e1 : asgT T t d env st with
          | ok env' st' => rw [e1] at h; simp [ih ds env' st' h]
          | exc x s' => rw [e1] at h; exact h.elim
          | bad => rw [e1] at h; exact h.elim
    refine ⟨a, vs, rfl, by rw [hK]; exact hv, ?_, ρ, env, st, ds, F, n, er, rs, q⟩
    rw [← rs.length, len ts ds env st q, hl]
  | _ => simp only [ofTup] at q; exact q.elim
end
end Fs
namespace Fs
open PySem L2 PyProof.Rows PySem.Spec
section
variable {X : L2.Cx} {T : Tbl} {Z : Wc} {W : WX} {a b c e : Expr} {A B C : Ex} {pos p : Pos} {s1 s2 : Stmt} {q1 q2 : Sx}
theorem ps_weak {s : Stmt} {t t' : TS} (h : PS X s t) (w : ∀ D σ H, t' D σ H → t D σ H) : PS X s t' := ⟨fun pins s σ H D I q => h.run pins s σ H D I (w D σ H q)⟩
theorem pss_weak {s : List Stmt} {t t' : TS} (h : PSs X s t) (w : ∀ D σ H, t' D σ H → t D σ H) : PSs X s t' := ⟨fun pins s σ H D I q => h.run pins s σ H D I (w D σ H q)⟩
theorem ss_pass : PS X (.Pass pos) (iS T Z W .pas) := ps_weak ps_pass fun D σ H ⟨ρ, env, st, er, sr, h⟩ => by
  simp only [exS, ret] at h
  exact h _ _ _ Stp.id sr er
theorem ss_brk : PS X (.Break pos) (iS T Z W .brk) := ps_weak ps_break fun D σ H ⟨ρ, env, st, er, sr, h⟩ => by
  simp only [exS, ret] at h
  exact h _ _ _ Stp.id sr er
theorem ss_cnt : PS X (.Continue pos) (iS T Z W .cnt) := ps_weak ps_continue fun D σ H ⟨ρ, env, st, er, sr, h⟩ => by
  simp only [exS, ret] at h
  exact h _ _ _ Stp.id sr er
theorem ss_ret0 : PS X (.Return none pos) (iS T Z W .ret0) := ps_weak ps_retN fun D σ H ⟨ρ, env, st, er, sr, h⟩ => by
  simp only [exS, ret] at h
  exact h _ _ _ _ Stp.id sr ⟨rfl, rfl⟩
theorem ss_ret (ha : PE X a (iE T Z W A)) : PS X (.Return (some a) pos) (iS T Z W (.ret A)) := ps_weak (ps_ret ha) fun D σ H ⟨ρ, env, st, er, sr, h⟩ => by
  simp only [exS] at h
  refine ⟨ρ, env, st, er, sr, (PostS.lft rpOk (Now.start sr) sr er h).mono ?_⟩
  rintro v H1 ⟨ρ1, d, st1, G, n, t, er1, r, h1⟩
  simp only [ret] at h1
  exact h1 _ _ _ _ n.stp n.sr r
theorem ss_xpr (ha : PE X a (iE T Z W A)) (hs : swapsWith a none pos.line X.env = pure false) : PS X (.Expr a pos) (iS T Z W (.xpr A)) := ps_weak (ps_expr ha hs) fun D σ H ⟨ρ, env, st, er, sr, h⟩ => by
  simp only [exS] at h
  refine ⟨ρ, env, st, er, sr, (PostS.lft rpOk (Now.start sr) sr er h).mono ?_⟩
  rintro v H1 ⟨ρ1, d, st1, G, n, t, er1, r, h1⟩
  simp only [ret] at h1
  exact h1 _ _ _ n.stp.none n.sr er1
theorem asg_ok {t : Tg} {D : Ends} {σ : L2.St} {H : Hp} (h : iS T Z W (.asg t A) D σ H) : iE T Z W A σ H (fun x H1 => iG T Z t x σ H1 D.nx) := by
  obtain ⟨ρ, env, st, er, sr, h⟩ := h
  simp only [exS] at h
  refine ⟨ρ, env, st, er, sr, (PostS.lft rpOk (Now.start sr) sr er h).mono ?_⟩
  rintro v H1 ⟨ρ1, d, st1, G, n, t1, er1, r, h1⟩
  have n' : Now Z ρ H ρ1 st1 H1 G := n
  refine ⟨ρ1, env, st1, d, G, n'.hand, er1, r, ?_⟩
  unfold bnd noX at h1
  cases e1 : asgT T t d env st1 with
  | ok env' st' =>
    rw [e1] at h1
    exact fun ρ' H' σ' t2 sr2 er2 _ => h1 ρ' H' σ' (n'.land sr t2) sr2 er2
  | exc _ _ => rw [e1] at h1; exact h1.elim
  | bad => rw [e1] at h1; exact h1.elim
theorem ss_asg {tg : Expr} {t : Tg} (ha : PE X e (iE T Z W A)) (hg : PG X tg (iG T Z t)) (hs : swapsWithSole [tg] e pos.line X.env = pure false) (hw : swappedStores [tg] e X.env = pure none) (h1 : (assignEach [tg] X.env).map (·.2) = [assign tg X.env]) :
    PS X (.Assign [tg] e pos) (iS T Z W (.asg t A)) := ps_weak (ps_asg ha hg hs hw h1) fun D σ H h => asg_ok h
theorem ss_if {as bs : List Stmt} {As Bs : List Sx} {C1 : Cn} (hc : PT X c (iT T Z W C1)) (ha : PSs X as (iL T Z W As)) (hb : PSs X bs (iL T Z W Bs)) : PS X (.If c as bs pos) (iS T Z W (.iff C1 As Bs)) := ps_weak (ps_if hc ha hb) fun D σ H ⟨ρ, env, st, er, sr, h⟩ => by
  simp only [exS] at h
  refine ⟨ρ, env, st, er, sr, (PostS.lft reqOk (Now.start sr) sr er h).mono ?_⟩
  rintro k H1 ⟨ρ1, d, st1, G, n, t, er1, ⟨rfl, rfl⟩, h1⟩
  cases d with
  | true => exact ⟨ρ1, env, st1, er1, n.sr, h1.tail n sr⟩
  | false => exact ⟨ρ1, env, st1, er1, n.sr, h1.tail n sr⟩
theorem ssl_nil : PSs X [] (iL T Z W []) := pss_weak pss_nil fun D σ H ⟨ρ, env, st, er, sr, h⟩ => by
  simp only [exL, ret] at h
  exact h _ _ _ Stp.id sr er
theorem ssl_cons {ss : List Stmt} {qs : List Sx} (h1 : PS X s1 (iS T Z W q1)) (h2 : PSs X ss (iL T Z W qs)) : PSs X (s1 :: ss) (iL T Z W (q1 :: qs)) := pss_weak (pss_cons h1 h2) fun D σ H ⟨ρ, env, st, er, sr, h⟩ => by
  simp only [exL] at h
  refine ⟨ρ, env, st, er, sr, ?_⟩
  unfold seqF at h
  cases e1 : exS T q1 env st with
  | exc _ _ => rw [e1] at h; exact h.elim
  | bad => rw [e1] at h; exact h.elim
  | ok f s' =>
    rw [e1] at h
    cases f with
    | nx e' => exact fun ρ' H' σ' t sr' er' => ⟨ρ', e', s', er', sr', PostS.tail (F := []) (⟨t, sr', by simp, by simp, .nil⟩ : Now Z ρ H ρ' s' H' []) sr h⟩
    | br e' => exact h
    | ct e' => exact h
    | rt d => exact h
    | ex e' x => exact h
/-! while -/
theorem ss_whl {bs : List Stmt} {Bs : List Sx} {C1 : Cn} (hp : PassesOwn (model X.prog X.w) X.A X.env X.xe) (hc : PT X c (iT T Z W C1)) (hb : PSs X bs (iL T Z W Bs)) : PS X (.While c bs [] pos) (iS T Z W (.whl C1 Bs)) := ps_weak (ps_while hp hc hb) fun D σ H ⟨ρ, env, st, er, sr, h⟩ => by
  simp only [exS] at h
  refine ⟨fun m σ H => ∃ ρ env st, ER Z ρ H env σ ∧ SR Z ρ st H ∧ PostS Z W (whLoop (fun σ => evT T C1 σ) (fun σ => exL T Bs σ) m env st) ρ H D, ⟨wfuel, ρ, env, st, er, sr, h⟩, ?_⟩
  rintro m σ H ⟨ρ, env, st, er, sr, h⟩
  cases m with
  | zero => exact h.elim
  | succ m =>
    simp only [whLoop] at h
    refine ⟨ρ, env, st, er, sr, (PostS.lft reqOk (Now.start sr) sr er h).mono ?_⟩
    rintro k H1 ⟨ρ1, d, st1, G, n, t, er1, ⟨rfl, rfl⟩, h1⟩
    cases d with
    | false => simp only [ret] at h1; exact h1 _ _ _ n.stp n.sr er1
    | true =>
      refine ⟨fun σ' H' => ∃ ρ env st, ER Z ρ H' env σ' ∧ SR Z ρ st H' ∧ PostS Z W (whLoop (fun σ => evT T C1 σ) (fun σ => exL T Bs σ) m env st) ρ H' D, fun σ' H' hN => ⟨m, Nat.lt_succ_self m, hN⟩, ρ1, env, st1, er1, n.sr, ?_⟩
      have h2 := PostS.tail n sr h1
      simp only at h2
      cases e1 : exL T Bs env st1 with
      | exc _ _ => rw [e1] at h2; exact h2.elim
      | bad => rw [e1] at h2; exact h2.elim
      | ok f s' =>
        rw [e1] at h2
        cases f with
        | nx e' => exact fun ρ' H' σ' t sr' er' => ⟨ρ', e', s', er', sr', PostS.tail (F := []) (⟨t, sr', by simp, by simp, .nil⟩ : Now Z ρ1 H1 ρ' s' H' []) n.sr h2⟩
        | ct e' => exact fun ρ' H' σ' t sr' er' => ⟨ρ', e', s', er', sr', PostS.tail (F := []) (⟨t, sr', by simp, by simp, .nil⟩ : Now Z ρ1 H1 ρ' s' H' []) n.sr h2⟩
        | br e' => exact h2
        | rt d => exact h2
        | ex e' x => exact h2
end
end Fs
namespace Fs
open PySem L2 PyProof.Rows PySem.Spec
/-- the walk J draws what t draws; I i ρ H F: what holds ahead of turn i, F the fresh things left -/
structure Fol (Z : Wc) (t : Fs.It) (J : L2.It) (I : Nat → List Addr → Hp → List Addr → Prop) : Prop where
  there : ∀ {i ρ H F}, I i ρ H F → ∀ a ∈ F, H a ≠ none
  stay : ∀ {i ρ H F ρ' H'}, (∀ (l : Nat) (a : Addr), ρ[l]? = some a → ρ'[l]? = some a) → (∀ a o, H a = some o → HCell o = false → H' a = some o) → (∀ a ∈ F, ∀ o, H a = some o → H' a = some o) → I i ρ H F → I i ρ' H' F
  stop : ∀ {i ρ st H F}, SR Z ρ st H → I i ρ H F → t.next i st = some none → J.stop i H
  item : ∀ {i ρ st H F d}, SR Z ρ st H → I i ρ H F → t.next i st = some (some d) → J.go i H ∧ ∀ x H', J.yld i H x H' → (H' = H ∨ ∃ T vs, H T = none ∧ H' = upd H T (.tup vs)) ∧ ∃ F1 F2, (F1 ++ F2).Perm F ∧ Rp Z ρ H' d x F1 ∧ I (i + 1) ρ H' F2
def relI (Z : Wc) : Rel Fs.It L2.It := fun ρ H t J F => ∃ I, Fol Z t J I ∧ I 0 ρ H F
theorem relI_ok {Z : Wc} : RelOk Z (relI Z) := ⟨fun ⟨I, f, h⟩ => f.there h, fun hr ht hk ⟨I, f, h⟩ => ⟨I, f, f.stay hr ht hk h⟩⟩
def iI (T : Tbl) (Z : Wc) (W : WX) (it : Ix) : TI := fun σ H R => ∃ ρ env st, ER Z ρ H env σ ∧ SR Z ρ st H ∧ Post (relI Z) Z W (evI T it env st) ρ σ H R
section
variable {Z : Wc} {W : WX} {ρ ρ' ρ₁ ρ₂ : List Addr} {H H' H₁ H₂ : Hp} {st st' st₁ : Sto} {F F' F₁ F₂ G : List Addr} {σ : L2.St} {env : Env}
theorem Stp.perm (s : Stp ρ H ρ' H' F) (p : G.Perm F) : Stp ρ H ρ' H' G := by
  obtain ⟨N, rfl, n, f, k⟩ := s
  have q : (N ++ G).Perm (N ++ F) := List.Perm.append_left N p
  exact ⟨N, rfl, q.nodup_iff.mpr n, fun a ha => f a (q.mem_iff.mp ha), k⟩
theorem Now.perm (n : Now Z ρ H ρ₁ st₁ H₁ F) (p : G.Perm F) : Now Z ρ H ρ₁ st₁ H₁ G :=
  ⟨n.stp.perm p, n.sr, fun a ha => n.th a (p.mem_iff.mp ha), fun a ha => n.out a (p.mem_iff.mp ha), p.nodup_iff.mpr n.nd⟩
/-- the first part landed, the rest in hand -/
theorem Now.landR (n : Now Z ρ H ρ₁ st₁ H₁ (F ++ G)) (s : SR Z ρ st H) (t : StpF ρ₁ H₁ F ρ₂ H₂) (sr : SR Z ρ₂ st' H₂) : Now Z ρ H ρ₂ st' H₂ G := by
  have hd := n.hand.step t sr
  have h0 := (n.less (List.sublist_append_left F G)).land s t
  refine ⟨?_, sr, hd.th, hd.out, hd.nd⟩
  obtain ⟨M, eM, nd, f, k⟩ := h0
  obtain ⟨M1, e1, nd1, f1, k1⟩ := n.stp
  refine ⟨M, eM, ?_, fun a ha => ?_, k⟩
  · refine List.nodup_append.mpr ⟨by simpa using nd, hd.nd, fun a ha b hb e => ?_⟩
    subst e
    exact hd.out a hb (by rw [eM]; exact List.mem_append_right _ ha)
  · rcases List.mem_append.mp ha with ha | ha
    · exact f a (by simpa using ha)
    · exact f1 a (List.mem_append_right _ (List.mem_append_right _ ha))
theorem StpF.kept (s : StpF ρ H F ρ' H') (h : Hand Z ρ st H (F ++ G)) (hF : ∀ a ∈ F, ∃ o, H a = some o ∧ HCell o = true) :
    (∀ (l : Nat) (a : Addr), ρ[l]? = some a → ρ'[l]? = some a) ∧ (∀ a o, H a = some o → HCell o = false → H' a = some o) ∧ ∀ a ∈ G, ∀ o, H a = some o → H' a = some o := by
  have pre := s.pre
  obtain ⟨N, rfl, nn, fn, kn⟩ := s
  refine ⟨pre, fun a o e k => kn a o e (h.sr.not_cell e k) fun z => ?_, fun a ha o e => kn a o e (h.out a (List.mem_append_right _ ha)) fun z => (List.nodup_append.mp h.nd).2.2 a z a ha rfl⟩
  obtain ⟨u, e', k'⟩ := hF a z
  rw [e] at e'; cases e'; rw [k] at k'; cases k'
theorem Stp.kept (s : Stp ρ H ρ' H' F) (r : SR Z ρ st H) (hG : ∀ a ∈ G, a ∉ ρ) : (∀ (l : Nat) (a : Addr), ρ[l]? = some a → ρ'[l]? = some a) ∧ (∀ a o, H a = some o → HCell o = false → H' a = some o) ∧ ∀ a ∈ G, ∀ o, H a = some o → H' a = some o :=
  ⟨s.pre, s.tup r, fun a ha => s.keep (hG a ha)⟩
/-- a tuple made beside -/
theorem Now.tupd (n : Now Z ρ H ρ₁ st₁ H₁ F) (s : SR Z ρ st H) (h : H' = H₁ ∨ ∃ T vs, H₁ T = none ∧ H' = upd H₁ T (.tup vs)) : Now Z ρ H ρ₁ st₁ H' F ∧ ∀ {e : Env} {σ : L2.St}, ER Z ρ₁ H₁ e σ → ER Z ρ₁ H' e σ := by
  rcases h with rfl | ⟨T, vs, hT, rfl⟩
  · exact ⟨n, fun e => e⟩
  · refine ⟨(n.new s hT).less (List.sublist_cons_self T F), fun {e σ} er => ⟨er.1, fun i d z => ?_⟩⟩
    obtain ⟨v, a, b⟩ := er.2 i d z
    exact ⟨v, a, rp_up hT b⟩
end
section
variable {X : L2.Cx} {T : Tbl} {Z : Wc} {W : WX} {pos : Pos}
theorem ss_for {tg iter : Expr} {bs : List Stmt} {Bs : List Sx} {it : Ix} {t : Tg} (hp : PassesOwn (model X.prog X.w) X.A X.env X.xe) (hc : X.calm = true) (hi : PI X tg iter (iI T Z W it)) (hg : PG X tg (iG T Z t)) (hb : PSs X bs (iL T Z W Bs))
    (hs : ∀ x, foldedSetIterable iter X.env x = pure x) : PS X (.For tg iter bs [] pos) (iS T Z W (.forr it t Bs)) := ps_weak (ps_for hp hc hi hg hb hs) fun Dn σ H ⟨ρ, env, st, er, sr, h⟩ => by
  simp only [exS] at h
  refine ⟨ρ, env, st, er, sr, (PostS.lft relI_ok (Now.start sr) sr er h).mono ?_⟩
  rintro J H1 ⟨ρ1, w, st1, G, n1, t1, er1, ⟨I, fol, hI⟩, h1⟩
  refine ⟨fun i m σ' H' => ∃ ρ' env' st' F, Now Z ρ H ρ' st' H' F ∧ ER Z ρ' H' env' σ' ∧ I i ρ' H' F ∧ PostS Z W (forLoop w (fun d σ => asgT T t d σ) (fun σ => exL T Bs σ) m i env' st') ρ H Dn, ⟨w.len st1 + 1, ρ1, env, st1, G, n1, er1, hI, h1⟩, ?_⟩
  rintro i m σ' H' ⟨ρ', env', st', F, n, er', hI', h'⟩
  cases m with
  | zero => exact h'.elim
  | succ m =>
    simp only [forLoop] at h'
    cases e1 : w.next i st' with
    | none => rw [e1] at h'; exact h'.elim
    | some o => cases o with
      | none =>
        rw [e1] at h'
        exact .inl ⟨fol.stop n.sr hI' e1, h' _ _ _ n.stp.none n.sr er'⟩
      | some d =>
        rw [e1] at h'
        obtain ⟨hgo, hy⟩ := fol.item n.sr hI' e1
        refine .inr ⟨hgo, fun σ2 H2 => ∃ ρ2 env2 st2 F2, Now Z ρ H ρ2 st2 H2 F2 ∧ ER Z ρ2 H2 env2 σ2 ∧ I (i + 1) ρ2 H2 F2 ∧ PostS Z W (forLoop w (fun d σ => asgT T t d σ) (fun σ => exL T Bs σ) m (i + 1) env2 st2) ρ H Dn, fun σ2 H2 hN => ⟨m, Nat.lt_succ_self m, hN⟩, fun x Hx hyl => ?_⟩
        obtain ⟨hH, F1, F2, hperm, rx, hI2⟩ := hy x Hx hyl
        obtain ⟨nx, erx⟩ := (n.perm hperm).tupd sr hH
        refine ⟨ρ', env', st', d, F1, (nx.less (List.sublist_append_left _ _)).hand, erx er', rx, ?_⟩
        unfold noX at h'
        cases e2 : asgT T t d env' st' with
        | exc _ _ => simp only [e2] at h'; exact h'.elim
        | bad => simp only [e2] at h'; exact h'.elim
        | ok env3 st3 =>
          simp only [e2] at h'
          intro ρ3 H3 σ3 t3 sr3 er3 _
          have n3 := nx.landR sr t3 sr3
          obtain ⟨k1, k2, k3⟩ := t3.kept nx.hand rx.hcells
          have hI3 : I (i + 1) ρ3 H3 F2 := fol.stay k1 k2 k3 hI2
          refine ⟨ρ3, env3, st3, er3, sr3, ?_⟩
          cases e3 : exL T Bs env3 st3 with
          | exc _ _ => rw [e3] at h'; exact h'.elim
          | bad => rw [e3] at h'; exact h'.elim
          | ok f st4 =>
            rw [e3] at h'
            have go : ∀ e4, PostS Z W (forLoop w (fun d σ => asgT T t d σ) (fun σ => exL T Bs σ) m (i + 1) e4 st4) ρ H Dn → ∀ ρ4 H4 σ4, Stp ρ3 H3 ρ4 H4 [] → SR Z ρ4 st4 H4 → ER Z ρ4 H4 e4 σ4 →
                ∃ ρ2 env2 st2 F2, Now Z ρ H ρ2 st2 H4 F2 ∧ ER Z ρ2 H4 env2 σ4 ∧ I (i + 1) ρ2 H4 F2 ∧ PostS Z W (forLoop w (fun d σ => asgT T t d σ) (fun σ => exL T Bs σ) m (i + 1) env2 st2) ρ H Dn := by
              intro e4 h4 ρ4 H4 σ4 t4 sr4 er4
              obtain ⟨q1, q2, q3⟩ := t4.kept sr3 n3.out
              have n4 := n3.more sr t4 sr4 (by simp)
              exact ⟨ρ4, e4, st4, F2, by simpa using n4, er4, fol.stay q1 q2 q3 hI3, h4⟩
            cases f with
            | nx e4 => exact fun ρ4 H4 σ4 t4 sr4 er4 => go e4 h' ρ4 H4 σ4 t4 sr4 er4
            | ct e4 => exact fun ρ4 H4 σ4 t4 sr4 er4 => go e4 h' ρ4 H4 σ4 t4 sr4 er4
            | br e4 => exact fun ρ4 H4 σ4 t4 sr4 er4 => h' ρ4 H4 σ4 (n3.more sr t4 sr4 (by simp)).stp.none sr4 er4
            | rt d4 => exact fun ρ4 H4 v G4 t4 sr4 r4 => h' ρ4 H4 v G4 ((n3.more sr t4 sr4 (fun a ha => r4.there a ha)).stp.less (List.sublist_append_right _ _)) sr4 r4
            | ex e4 x4 => exact fun ρ4 H4 σ4 cls dx t4 sr4 er4 r4 => h' ρ4 H4 σ4 cls dx (n3.more sr t4 sr4 (by simp)).stp.none sr4 er4 r4
end
end Fs
namespace Fs
open PySem L2 PyProof.Rows PySem.Spec
section
variable {Z : Wc}
theorem drop_cons {α : Type} {xs : List α} {i : Nat} {d : α} (h : xs[i]? = some d) : xs.drop i = d :: xs.drop (i + 1) := by
  obtain ⟨hl, e⟩ := List.getElem?_eq_some_iff.mp h
  rw [← e]; exact List.drop_eq_getElem_cons hl
theorem rps_turn {ρ : List Addr} {H : Hp} {xs : List D} {vs : List V} {i : Nat} {d : D} {F : List Addr} (h : xs[i]? = some d) (r : Rps Z ρ H (xs.drop i) (vs.drop i) F) :
    ∃ x F1 F2, vs[i]? = some x ∧ F = F1 ++ F2 ∧ Rp Z ρ H d x F1 ∧ Rps Z ρ H (xs.drop (i + 1)) (vs.drop (i + 1)) F2 := by
  rw [drop_cons h] at r
  obtain ⟨v, ws, F1, F2, e, r1, r2, rfl⟩ := r
  have hv : vs[i]? = some v := by
    have : (vs.drop i)[0]? = some v := by rw [e]; rfl
    simpa using this
  have hw : ws = vs.drop (i + 1) := by
    have := drop_cons hv
    rw [e] at this
    injection this
  rw [hw] at r2
  exact ⟨v, F1, F2, hv, rfl, r1, r2⟩
theorem fol_tup {xs : List D} (a : Addr) : Fol Z (.one (.items xs)) (Itt Z.K a) (fun i ρ H F => ∃ vs, SqT Z.K H a vs ∧ vs.length = xs.length ∧ Rps Z ρ H (xs.drop i) (vs.drop i) F) where
  there := fun ⟨vs, _, _, r⟩ => r.there
  stay := fun hr ht hk ⟨vs, h, l, r⟩ => ⟨vs, SqT.stay ht h, l, r.stay hr ht hk⟩
  stop := fun {i ρ st H F} s ⟨vs, h, l, r⟩ e => by
    simp only [It.next, Src.at, Option.some.injEq] at e
    exact ⟨vs, h, by rw [l]; exact List.getElem?_eq_none_iff.mp e⟩
  item := fun {i ρ st H F d} s ⟨vs, h, l, r⟩ e => by
    simp only [It.next, Src.at, Option.some.injEq] at e
    obtain ⟨x, F1, F2, hx, rfl, r1, r2⟩ := rps_turn e r
    refine ⟨⟨vs, x, h, hx⟩, fun y H' hy => ?_⟩
    obtain ⟨rfl, hy⟩ := hy
    have := hy vs h
    rw [hx] at this
    cases this
    exact ⟨.inl rfl, F1, F2, .refl _, r1, vs, h, l, r2⟩
theorem fol_lst {xs : List D} (a : Addr) : Fol Z (.one (.items xs)) (Itl Z.K a) (fun i ρ H F => ∃ vs G, H a = some (.lst vs) ∧ vs.length = xs.length ∧ Rps Z ρ H (xs.drop i) (vs.drop i) G ∧ F = a :: G) where
  there := fun ⟨vs, G, h, _, r, f⟩ b hb => by
    subst f
    rcases List.mem_cons.mp hb with rfl | hb
    · rw [h]; exact nofun
    · exact r.there b hb
  stay := fun hr ht hk ⟨vs, G, h, l, r, f⟩ => by
    subst f
    exact ⟨vs, G, hk a List.mem_cons_self _ h, l, r.stay hr ht (fun b hb => hk b (List.mem_cons_of_mem _ hb)), rfl⟩
  stop := fun {i ρ st H F} s ⟨vs, G, h, l, r, f⟩ e => by
    simp only [It.next, Src.at, Option.some.injEq] at e
    exact ⟨vs, SqL.of h, by rw [l]; exact List.getElem?_eq_none_iff.mp e⟩
  item := fun {i ρ st H F d} s ⟨vs, G, h, l, r, f⟩ e => by
    simp only [It.next, Src.at, Option.some.injEq] at e
    obtain ⟨x, F1, F2, hx, rfl, r1, r2⟩ := rps_turn e r
    refine ⟨⟨vs, x, SqL.of h, hx⟩, fun y H' hy => ?_⟩
    obtain ⟨rfl, hy⟩ := hy
    have := hy vs (SqL.of h)
    rw [hx] at this
    cases this
    subst f
    exact ⟨.inl rfl, F1, a :: F2, List.perm_middle, r1, vs, F2, h, l, r2, rfl⟩
/-- a cell's list as it stands -/
theorem SR.list {ρ : List Addr} {st : Sto} {H : Hp} {l : Nat} {a : Addr} {xs : List D} (s : SR Z ρ st H) (ha : ρ[l]? = some a) (h : st[l]? = some (.lst xs) ∨ st[l]? = some (.frl xs)) : ∃ vs, SqL Z.K H a vs ∧ Rps Z ρ H xs vs [] := by
  rcases h with h | h
  · obtain ⟨b, vs, G, z, h1, r, f⟩ := s.cell l _ a h ha
    cases z
    obtain rfl : G = [] := by injection f with _ f; exact f.symm
    exact ⟨vs, SqL.of h1, r⟩
  · obtain ⟨b, o, vs, G, z, h1, r, f⟩ := s.cell l _ a h ha
    cases z
    obtain rfl : G = [] := by injection f with _ f; exact f.symm
    exact ⟨vs, .inl (.inr ⟨o, h1⟩), r⟩
theorem src_cell {l i : Nat} {st : Sto} {o : Option D} (e : Src.at (.cell l) i st = some o) : ∃ xs, (st[l]? = some (.lst xs) ∨ st[l]? = some (.frl xs)) ∧ xs[i]? = o := by
  simp only [Src.at] at e
  split at e
  · rename_i xs h; cases e; exact ⟨xs, .inl h, rfl⟩
  · rename_i xs h; cases e; exact ⟨xs, .inr h, rfl⟩
  · cases e
theorem fol_cell {l : Nat} (a : Addr) : Fol Z (.one (.cell l)) (Itl Z.K a) (fun i ρ H F => ρ[l]? = some a ∧ F = []) where
  there := fun ⟨_, f⟩ b hb => by rw [f] at hb; cases hb
  stay := fun hr _ _ ⟨h, f⟩ => ⟨hr l a h, f⟩
  stop := fun {i ρ st H F} s ⟨h, f⟩ e => by
    obtain ⟨xs, hc, hx⟩ := src_cell e
    obtain ⟨vs, hv, r⟩ := s.list h hc
    exact ⟨vs, hv, by rw [← r.length]; exact List.getElem?_eq_none_iff.mp hx⟩
  item := fun {i ρ st H F d} s ⟨h, f⟩ e => by
    obtain ⟨xs, hc, hx⟩ := src_cell e
    obtain ⟨vs, hv, r⟩ := s.list h hc
    obtain ⟨x, G, ex, rx, hG⟩ := r.get hx
    obtain rfl : G = [] := List.sublist_nil.mp hG
    refine ⟨⟨vs, x, hv, ex⟩, fun y H' hy => ?_⟩
    obtain ⟨rfl, hy⟩ := hy
    have := hy vs hv
    rw [ex] at this
    cases this
    exact ⟨.inl rfl, [], [], by rw [f]; exact .refl _, rx, h, rfl⟩
theorem rng_at {a c : Int} {n i : Nat} {o : Option D} (e : (rngN a c n)[i]? = o) : (o = none → n ≤ i) ∧ ∀ d, o = some d → i < n ∧ d = .int (a + (i : Int) * c) := by
  unfold rngN at e
  rw [List.getElem?_map] at e
  by_cases h : i < n
  · rw [List.getElem?_range h] at e
    subst e
    exact ⟨fun z => (by cases z), fun d z => (by cases z; exact ⟨h, rfl⟩)⟩
  · rw [List.getElem?_eq_none (by simpa using h)] at e
    subst e
    exact ⟨fun _ => Nat.le_of_not_lt h, fun d z => (by cases z)⟩
theorem fol_rngC (lo c : Int) (n : Nat) : Fol Z (.one (.items (rngN lo c n))) (Itc lo c n) (fun _ _ _ F => F = []) where
  there := fun f b hb => by rw [f] at hb; cases hb
  stay := fun _ _ _ h => h
  stop := fun {i ρ st H F} s f e => by
    simp only [It.next, Src.at, Option.some.injEq] at e
    exact (rng_at e).1 rfl
  item := fun {i ρ st H F d} s f e => by
    simp only [It.next, Src.at, Option.some.injEq] at e
    obtain ⟨hl, rfl⟩ := (rng_at e).2 d rfl
    refine ⟨hl, fun y H' hy => ?_⟩
    obtain ⟨rfl, rfl⟩ := hy
    exact ⟨.inl rfl, [], [], by rw [f]; exact .refl _, ⟨rfl, rfl⟩, rfl⟩
theorem fol_rng1 (lo : Int) (n : Nat) : Fol Z (.one (.items (rngN lo 1 n))) (Itr lo n) (fun _ _ _ F => F = []) where
  there := fun f b hb => by rw [f] at hb; cases hb
  stay := fun _ _ _ h => h
  stop := fun {i ρ st H F} s f e => by
    simp only [It.next, Src.at, Option.some.injEq] at e
    exact (rng_at e).1 rfl
  item := fun {i ρ st H F d} s f e => by
    simp only [It.next, Src.at, Option.some.injEq] at e
    obtain ⟨hl, rfl⟩ := (rng_at e).2 d rfl
    refine ⟨hl, fun y H' hy => ?_⟩
    obtain ⟨rfl, rfl⟩ := hy
    exact ⟨.inl rfl, [], [], by rw [f]; exact .refl _, ⟨by simp, rfl⟩, rfl⟩
end
section
variable {X : L2.Cx} {T : Tbl} {Z : Wc} {W : WX} {pos p : Pos} {tg e : Expr} {A : Ex}
theorem si_val (hK : X.K = Z.K) (ha : PE X e (iE T Z W A)) : PI X tg e (iI T Z W (.val A)) := by
  refine ⟨fun pins s σ H R I h => ?_⟩
  obtain ⟨ρ, env, st, er, sr, h⟩ := h
  simp only [evI] at h
  have bad : (∀ d s1, ev T A env st ≠ .ok d s1) → Post (Rp Z) Z W (ev T A env st) ρ σ H (fun _ _ => False) := by
    intro hn
    unfold bnd at h
    cases e1 : ev T A env st with
    | ok d s1 => exact (hn d s1 e1).elim
    | exc x s1 => rw [e1] at h; exact h
    | bad => rw [e1] at h; exact h
  cases e1 : ev T A env st with
  | exc x s1 => exact (pi_tup (tg := tg) ha).run pins s σ H R I ⟨ρ, env, st, er, sr, (bad (by rw [e1]; exact nofun)).mono fun _ _ z => z.elim⟩
  | bad => exact (pi_tup (tg := tg) ha).run pins s σ H R I ⟨ρ, env, st, er, sr, (bad (by rw [e1]; exact nofun)).mono fun _ _ z => z.elim⟩
  | ok d s1 =>
    unfold bnd at h
    rw [e1] at h
    cases d with
    | tup xs =>
      refine (pi_tup (tg := tg) ha).run pins s σ H R I ⟨ρ, env, st, er, sr, ?_⟩
      rw [e1]
      rintro ρ' H' v F t sr' ⟨a, vs, rfl, hv, rs⟩
      refine ⟨a, rfl, ⟨vs, by rw [hK]; exact hv⟩, ?_⟩
      rw [hK]
      exact h ρ' H' (Itt Z.K a) F t sr' ⟨_, fol_tup a, vs, hv, rs.length.symm, by simpa using rs⟩
    | lst xs =>
      refine (pi_list (tg := tg) ha).run pins s σ H R I ⟨ρ, env, st, er, sr, ?_⟩
      rw [e1]
      rintro ρ' H' v F t sr' ⟨a, vs, G, rfl, hv, rs, rfl⟩
      refine ⟨a, rfl, ⟨vs, SqL.of hv⟩, ?_⟩
      rw [hK]
      exact h ρ' H' (Itl Z.K a) _ t sr' ⟨_, fol_lst a, vs, G, hv, rs.length.symm, by simpa using rs, rfl⟩
    | ref l =>
      simp only [srcOf] at h
      have go : ∀ xs, (s1[l]? = some (.lst xs) ∨ s1[l]? = some (.frl xs)) → Post (relI Z) Z W (.ok (Fs.It.one (.cell l)) s1) ρ σ H R → wpAny (model X.prog X.w) X.A (eval e X.env) (fun v s1 => wpAny (model X.prog X.w) X.A (pyIter v) (PIE X pins σ tg R) X.xe s1) X.xe s := by
        intro xs hx h
        refine (pi_list (tg := tg) ha).run pins s σ H R I ⟨ρ, env, st, er, sr, ?_⟩
        rw [e1]
        rintro ρ' H' v F t sr' ⟨a, hl, rfl, rfl⟩
        obtain ⟨vs, hv, rs⟩ := sr'.list hl hx
        refine ⟨a, rfl, ⟨vs, by rw [hK]; exact hv⟩, ?_⟩
        rw [hK]
        exact h ρ' H' (Itl Z.K a) _ t sr' ⟨_, fol_cell a, hl, rfl⟩
      cases hc : s1[l]? with
      | none => rw [hc] at h; exact h.elim
      | some c =>
        rw [hc] at h
        cases c with
        | lst xs => exact go xs (.inl hc) h
        | frl xs => exact go xs (.inr hc) h
        | _ => exact h.elim
    | _ => exact h.elim
theorem evs_one {env : Env} {A : Ex} {σ : L2.St} {ρ : List Addr} {st : Sto} {H : Hp} {α β : Type} {rel : Rel α β} {f : List D → M α} {Q : β → Hp → Prop} (h : Post rel Z W (bnd (evs T [A] env) f st) ρ σ H Q) : Post rel Z W (bnd (ev T A env) (fun x => f [x]) st) ρ σ H Q := by
  simp only [evs, bnd, ret] at h ⊢
  cases e : ev T A env st with
  | ok d s => simpa only [e] using h
  | exc x s => simpa only [e] using h
  | bad => simpa only [e] using h
theorem rng_post {ds : List D} {st : Sto} {ρ : List Addr} {σ : L2.St} {H : Hp} {R : L2.It → Hp → Prop} (h : Post (relI Z) Z W (opt (rngL ds) (fun xs => ret (Fs.It.one (.items xs))) st) ρ σ H R) : ∃ xs, rngL ds = some xs ∧ Post (relI Z) Z W (.ok (Fs.It.one (.items xs)) st) ρ σ H R := by
  cases e : rngL ds with
  | none => rw [e] at h; exact h.elim
  | some xs => rw [e] at h; exact ⟨xs, rfl, h⟩
theorem evs_two {env : Env} {A B : Ex} {σ : L2.St} {ρ : List Addr} {st : Sto} {H : Hp} {α β : Type} {rel : Rel α β} {f : List D → M α} {Q : β → Hp → Prop} (h : Post rel Z W (bnd (evs T [A, B] env) f st) ρ σ H Q) : Post rel Z W (bnd (ev T A env) (fun x => bnd (ev T B env) (fun y => f [x, y])) st) ρ σ H Q := by
  simp only [evs, bnd, ret] at h ⊢
  cases e : ev T A env st with
  | ok d s =>
    simp only [e] at h ⊢
    cases e2 : ev T B env s with
    | ok d s => simpa only [e2] using h
    | exc x s => simpa only [e2] using h
    | bad => simpa only [e2] using h
  | exc x s => simpa only [e] using h
  | bad => simpa only [e] using h
theorem evs_three {env : Env} {A B C : Ex} {σ : L2.St} {ρ : List Addr} {st : Sto} {H : Hp} {α β : Type} {rel : Rel α β} {f : List D → M α} {Q : β → Hp → Prop} (h : Post rel Z W (bnd (evs T [A, B, C] env) f st) ρ σ H Q) : Post rel Z W (bnd (ev T A env) (fun x => bnd (ev T B env) (fun y => bnd (ev T C env) (fun z => f [x, y, z]))) st) ρ σ H Q := by
  simp only [evs, bnd, ret] at h ⊢
  cases e : ev T A env st with
  | ok d s =>
    simp only [e] at h ⊢
    cases e2 : ev T B env s with
    | ok d s =>
      simp only [e2] at h ⊢
      cases e3 : ev T C env s with
      | ok d s => simpa only [e3] using h
      | exc x s => simpa only [e3] using h
      | bad => simpa only [e3] using h
    | exc x s => simpa only [e2] using h
    | bad => simpa only [e2] using h
  | exc x s => simpa only [e] using h
  | bad => simpa only [e] using h
theorem si_rng1 {a : Expr} {A : Ex} (hg : Gl X "range") (hm : X.mg "range" = none) (ha : PE X a (iE T Z W A)) (hs : starEach [a] X.env = [(false, eval a X.env)]) : PI X tg (.Call (.Name "range" p) [a] [] pos) (iI T Z W (.rng [A])) := by
  have w := pi_range1 (tg := tg) (p := p) (pos := pos) hg hm (pa_cons ha pa_nil hs) hs
  refine ⟨fun pins s σ H R I h => w.run pins s σ H R I ?_⟩
  obtain ⟨ρ, env, st, er, sr, h⟩ := h
  simp only [evI] at h
  refine ⟨ρ, env, st, er, sr, (Post.seq rpOk (Now.start sr) sr (evs_one h)).mono ?_⟩
  rintro v H1 ⟨ρ1, d, st1, F1, n1, t1, r1, h1⟩
  obtain ⟨xs, e, h2⟩ := rng_post h1
  cases d with
  | int b =>
    obtain ⟨rfl, rfl⟩ := r1
    simp only [rngL] at e
    split at e
    · rename_i hb
      cases e
      exact ⟨b, rfl, hb.1, hb.2, h2 ρ1 H1 _ [] n1.stp n1.sr ⟨_, fol_rng1 0 b.toNat, rfl⟩⟩
    · cases e
  | _ => simp [rngL] at e
theorem si_rng2 {a b : Expr} {A B : Ex} (hg : Gl X "range") (hm : X.mg "range" = none) (ha : PE X a (iE T Z W A)) (hb : PE X b (iE T Z W B)) (hs : starEach [a, b] X.env = [(false, eval a X.env), (false, eval b X.env)]) (hs2 : starEach [b] X.env = [(false, eval b X.env)]) : PI X tg (.Call (.Name "range" p) [a, b] [] pos) (iI T Z W (.rng [A, B])) := by
  have w := pi_range2 (tg := tg) (p := p) (pos := pos) hg hm (pa_cons ha (pa_cons hb pa_nil hs2) (by rw [hs, hs2])) hs hs2
  refine ⟨fun pins s σ H R I h => w.run pins s σ H R I ?_⟩
  obtain ⟨ρ, env, st, er, sr, h⟩ := h
  simp only [evI] at h
  refine ⟨ρ, env, st, er, sr, (Post.seq rpOk (Now.start sr) sr (evs_two h)).mono ?_⟩
  rintro v H1 ⟨ρ1, d, st1, F1, n1, t1, r1, h1⟩
  refine ⟨ρ1, env, st1, t1.env sr er, n1.sr, (Post.seq rpOk n1 sr h1).mono ?_⟩
  rintro u H2 ⟨ρ2, d2, st2, F2, n2, t2, r2, h2⟩
  obtain ⟨xs, e, h3⟩ := rng_post h2
  cases d with
  | int i =>
    cases d2 with
    | int j =>
      obtain ⟨rfl, rfl⟩ := r1
      obtain ⟨rfl, rfl⟩ := r2
      simp only [rngL] at e
      split at e
      · rename_i hb
        cases e
        exact ⟨i, j, rfl, hb, h3 ρ2 H2 _ [] n2.stp n2.sr ⟨_, fol_rng1 i (j - i).toNat, rfl⟩⟩
      · cases e
    | _ => simp [rngL] at e
  | _ => simp [rngL] at e
theorem si_rng3 {a b c : Expr} {A B C : Ex} (hg : Gl X "range") (hm : X.mg "range" = none) (ha : PE X a (iE T Z W A)) (hb : PE X b (iE T Z W B)) (hc : PE X c (iE T Z W C)) (hs : starEach [a, b, c] X.env = (false, eval a X.env) :: starEach [b, c] X.env) (hs2 : starEach [b, c] X.env = (false, eval b X.env) :: starEach [c] X.env) (hs3 : starEach [c] X.env = (false, eval c X.env) :: starEach [] X.env)
    (hpl : (backTo pos (starEach [b, c] X.env)).any (·.1) = false) : PI X tg (.Call (.Name "range" p) [a, b, c] [] pos) (iI T Z W (.rng [A, B, C])) := by
  have w := pi_range3 (tg := tg) (p := p) (pos := pos) hg hm (pa_cons ha (pa_cons hb (pa_cons hc pa_nil hs3) hs2) hs) hs hpl
  refine ⟨fun pins s σ H R I h => w.run pins s σ H R I ?_⟩
  obtain ⟨ρ, env, st, er, sr, h⟩ := h
  simp only [evI] at h
  refine ⟨ρ, env, st, er, sr, (Post.seq rpOk (Now.start sr) sr (evs_three h)).mono ?_⟩
  rintro v H1 ⟨ρ1, d, st1, F1, n1, t1, r1, h1⟩
  refine ⟨ρ1, env, st1, t1.env sr er, n1.sr, (Post.seq rpOk n1 sr h1).mono ?_⟩
  rintro u H2 ⟨ρ2, d2, st2, F2, n2, t2, r2, h2⟩
  refine ⟨ρ2, env, st2, t2.env n1.sr (t1.env sr er), n2.sr, (Post.seq rpOk n2 sr h2).mono ?_⟩
  rintro w H3 ⟨ρ3, d3, st3, F3, n3, t3, r3, h3⟩
  obtain ⟨xs, e, h4⟩ := rng_post h3
  cases d with
  | int i =>
    cases d2 with
    | int j =>
      cases d3 with
      | int k =>
        obtain ⟨rfl, rfl⟩ := r1
        obtain ⟨rfl, rfl⟩ := r2
        obtain ⟨rfl, rfl⟩ := r3
        simp only [rngL] at e
        split at e
        · rename_i hb
          cases e
          have hn : (0 : Int) ≤ Builtin.Range.rangeSize i j k := by
            unfold Builtin.Range.rangeSize
            split
            · split
              · have := Int.ediv_nonneg (a := j - i - 1) (b := k) (by omega) (by omega)
                omega
              · omega
            · split
              · have := Int.ediv_nonneg (a := i - j - 1) (b := -k) (by omega) (by omega)
                omega
              · omega
          refine ⟨i, j, k, (Builtin.Range.rangeSize i j k).toNat, rfl, ⟨hb.1, hb.2.1, hb.2.2, (Int.toNat_of_nonneg hn).symm⟩, ?_⟩
          exact h4 ρ3 H3 _ [] n3.stp n3.sr ⟨_, fol_rngC i k _, rfl⟩
        · cases e
      | _ => simp [rngL] at e
    | _ => simp [rngL] at e
  | _ => simp [rngL] at e
end
end Fs
namespace Fs
open PySem L2 PyProof.Rows PySem.Spec
/-- nothing is raised -/
abbrev WF : WX := fun _ _ _ _ => False
section
variable {Z : Wc} {W : WX} {ρ ρ' ρ₁ ρ₂ : List Addr} {H H' H₁ H₂ : Hp} {st st' st₁ : Sto} {F F' F₁ F₂ G : List Addr} {σ : L2.St} {env : Env} {D : Addr} {o o' : HO}
theorem upd_keep (h : H D = some o) (hc : HCell o = true) : ∀ a u, H a = some u → HCell u = false → upd H D o' a = some u := fun a u e k => by
  rw [upd_ne (fun z => by rw [z, h] at e; cases e; rw [hc] at k; cases k)]; exact e
theorem upd_off (hF : D ∉ F) : ∀ a ∈ F, ∀ u, H a = some u → upd H D o' a = some u := fun a ha u e => by
  rw [upd_ne (fun z => hF (by rw [← z]; exact ha))]; exact e
theorem Rp.updF {d : Fs.D} {v : V} (h : H D = some o) (hc : HCell o = true) (hF : D ∉ F) (r : Rp Z ρ H d v F) : Rp Z ρ (upd H D o') d v F := r.stay (fun _ _ e => e) (upd_keep h hc) (upd_off hF)
theorem Rps.updF {d : List Fs.D} {v : List V} (h : H D = some o) (hc : HCell o = true) (hF : D ∉ F) (r : Rps Z ρ H d v F) : Rps Z ρ (upd H D o') d v F := r.stay (fun _ _ e => e) (upd_keep h hc) (upd_off hF)
theorem SR.updF (s : SR Z ρ st H) (h : H D = some o) (hc : HCell o = true) (hD : D ∉ ρ) : SR Z ρ st (upd H D o') :=
  ⟨s.len, s.nd, s.kind, fun l c a h1 h2 => (s.cell l c a h1 h2).updF h hc (fun z => hD (by rw [List.mem_singleton.mp z]; exact List.mem_of_getElem? h2))⟩
theorem Now.updF (n : Now Z ρ H ρ' st' H' F) (s : SR Z ρ st H) (hD : D ∈ F) (h : H' D = some o) (hc : HCell o = true) : Now Z ρ H ρ' st' (upd H' D o') F := by
  have hf : H D = none := by obtain ⟨N, _, _, f, _⟩ := n.stp; exact f D (List.mem_append_right _ hD)
  refine ⟨?_, n.sr.updF h hc (n.out D hD), fun a ha => ?_, n.out, n.nd⟩
  · obtain ⟨N, e, nd, f, k⟩ := n.stp
    exact ⟨N, e, nd, f, fun a u q z => by rw [upd_ne (fun y => by rw [y, hf] at q; cases q)]; exact k a u q z⟩
  · by_cases e : a = D
    · rw [e, upd_same]; exact nofun
    · rw [upd_ne e]; exact n.th a ha
theorem wipe_get {σ : L2.St} {i : Nat} : ∀ {vs : List Nat}, (L2.wipe σ vs)[i]? = if i ∈ vs then (σ[i]?).map (fun _ => none) else σ[i]?
  | [] => by simp [L2.wipe]
  | v :: vs => by
    unfold L2.wipe
    by_cases h : v = i
    · subst h
      rw [List.getElem?_set]
      by_cases hl : v < σ.length
      · simp [hl, wipe_length]
      · simp [hl, wipe_length]
    · rw [List.getElem?_set_ne h, wipe_get]
      have : (i ∈ v :: vs) ↔ i ∈ vs := by simp [Ne.symm h]
      simp only [this]
theorem wipe_sm {σ σ' : L2.St} {L vs : List Nat} (m : Sm L (L2.wipe σ vs) σ') (h : ∀ i ∈ L, i ∈ vs) : L2.wipe σ' vs = L2.wipe σ vs := by
  apply List.ext_getElem?
  intro i
  rw [wipe_get, wipe_get]
  by_cases hi : i ∈ vs
  · simp only [hi, if_true]
    have l : σ'.length = σ.length := by rw [m.1, wipe_length]
    by_cases hl : i < σ.length
    · rw [List.getElem?_eq_getElem hl, List.getElem?_eq_getElem (by rw [l]; exact hl)]; rfl
    · rw [List.getElem?_eq_none (by omega), List.getElem?_eq_none (by omega)]
  · simp only [hi, if_false]
    rw [m.2 i (fun z => hi (h i z)), wipe_get, if_neg hi]
theorem ER.wipe (er : ER Z ρ H env σ) : ∀ vs : List Nat, ER Z ρ H (Fs.wipe env vs) (L2.wipe σ vs)
  | [] => er
  | v :: vs => (ER.wipe er vs).gone
end
section
variable (T : Tbl) (Z : Wc) (W : WX)
def iTs (cs : List Cn) : TT := fun σ H Q => ∃ ρ env st, ER Z ρ H env σ ∧ SR Z ρ st H ∧ Post (RelEq Bool) Z W (evTs T cs env st) ρ σ H Q
end
section
variable {X : L2.Cx} {T : Tbl} {Z : Wc} {W : WX} {pos p : Pos} {tg e c : Expr} {A : Ex}
theorem sts_nil : PTs X [] (iTs T Z W []) := ⟨fun pins s σ H Q I h => pts_nil.run pins s σ H Q I (by
  obtain ⟨ρ, env, st, er, sr, h⟩ := h
  simp only [evTs] at h
  exact Post.ret h (Now.start sr) ⟨rfl, rfl⟩)⟩
theorem sts_one {C : Cn} (h : PT X c (iT T Z W C)) : PTs X [c] (iTs T Z W [C]) := ⟨fun pins s σ H Q I q => (pts_one h).run pins s σ H Q I (by
  obtain ⟨ρ, env, st, er, sr, h⟩ := q
  simp only [evTs] at h
  refine ⟨ρ, env, st, er, sr, ?_⟩
  unfold bnd at h
  cases e1 : evT T C env st with
  | ok b s1 => rw [e1] at h; cases b <;> exact h
  | exc x s1 => rw [e1] at h; exact h
  | bad => rw [e1] at h; exact h)⟩
theorem post_ok {α β : Type} {rel : Rel α β} {r : R α} {ρ : List Addr} {σ : L2.St} {H : Hp} {Q : β → Hp → Prop} {d : α} {s : Sto} (e : r = .ok d s) (h : ∀ ρ' H' v F, Stp ρ H ρ' H' F → SR Z ρ' s H' → rel ρ' H' d v F → Q v H') : Post rel Z W r ρ σ H Q := by rw [e]; exact h
theorem lc_ok {own : List Nat} {it : Ix} {t : Tg} {ifs : List Cn} (hsub : ∀ i ∈ tgN t, i ∈ own) {σ : L2.St} {H : Hp} {Q : VK} (h : iE T Z W (.lc own it t ifs A) σ H Q) :
    tLc (iI T Z W it) (iG T Z t) (iTs T Z WF ifs) (iE T Z WF A) own σ H Q := by
  obtain ⟨ρ, env, st, er, sr, h⟩ := h
  simp only [ev] at h
  refine ⟨ρ, env, st, er, sr, (Post.seq relI_ok (Now.start sr) sr h).mono ?_⟩
  rintro J H1 ⟨ρ1, w, st1, G, n1, t1, ⟨I, fol, hI⟩, h1⟩ D hD
  have up : ∀ a u, H1 a = some u → upd H1 D (.lst []) a = some u := fun a u e => by rw [upd_ne (fun z => by rw [z, hD] at e; cases e)]; exact e
  generalize hturn : (fun d => bnd (asgT T t d (Fs.wipe env own)) fun σ' => bnd (evTs T ifs σ') fun b => match b with
        | true => bnd (ev T A σ') fun y => ret (some y)
        | false => ret none : Fs.D → Sto → R (Option Fs.D)) = turn at h1
  refine ⟨fun i m H' => ∃ ρ' st' Fi ys vs Fy, Now Z ρ H ρ' st' H' (D :: (Fy ++ Fi)) ∧ H' D = some (.lst vs) ∧ Rps Z ρ' H' ys vs Fy ∧ I i ρ' H' Fi ∧ Post (Rp Z) Z W (bnd (lcLoop w turn m i ys) (fun ys => ret (.lst ys)) st') ρ σ H Q,
    ⟨w.len st1 + 1, ρ1, st1, G, [], [], [], n1.new sr hD, upd_same, ⟨rfl, rfl⟩, fol.stay (fun _ _ e => e) (fun a u e _ => up a u e) (fun a _ u e => up a u e) hI, h1⟩, ?_⟩
  rintro i m H' ⟨ρ', st', Fi, ys, vs, Fy, n, hDv, rys, hI', h'⟩
  cases m with
  | zero => exact h'.elim
  | succ m =>
    unfold bnd at h'
    simp only [lcLoop] at h'
    cases e1 : w.next i st' with
    | none => rw [e1] at h'; exact h'.elim
    | some o => cases o with
      | none =>
        rw [e1] at h'
        refine .inl ⟨fol.stop n.sr hI' e1, ?_⟩
        exact Post.ok h' (n.less (List.cons_sublist_cons.mpr (List.sublist_append_left _ _))) ⟨D, vs, Fy, rfl, hDv, rys, rfl⟩
      | some d =>
        rw [e1] at h'
        simp only at h'
        obtain ⟨hgo, hy⟩ := fol.item n.sr hI' e1
        refine .inr ⟨hgo, fun H2 => ∃ ρ' st' Fi ys vs Fy, Now Z ρ H ρ' st' H2 (D :: (Fy ++ Fi)) ∧ H2 D = some (.lst vs) ∧ Rps Z ρ' H2 ys vs Fy ∧ I (i + 1) ρ' H2 Fi ∧ Post (Rp Z) Z W (bnd (lcLoop w turn m (i + 1) ys) (fun ys => ret (.lst ys)) st') ρ σ H Q,
          fun H2 hN => ⟨m, Nat.lt_succ_self m, hN⟩, fun x Hx hyl => ?_⟩
        obtain ⟨hH, F1, F2, hperm, rx, hI2⟩ := hy x Hx hyl
        have perm : (F1 ++ (D :: (Fy ++ F2))).Perm (D :: (Fy ++ Fi)) := by
          refine (List.perm_middle).trans (List.Perm.cons D ?_)
          refine List.Perm.trans ?_ (List.Perm.append_left Fy hperm)
          rw [← List.append_assoc, ← List.append_assoc]
          exact List.Perm.append_right F2 List.perm_append_comm
        obtain ⟨nx, erx⟩ := (n.perm perm).tupd sr hH
        have stx : (∀ a u, H' a = some u → Hx a = some u) := by
          rcases hH with rfl | ⟨T0, vs0, hT, rfl⟩
          · exact fun a u e => e
          · exact fun a u e => by rw [upd_ne (fun z => by rw [z, hT] at e; cases e)]; exact e
        have rysx : Rps Z ρ' Hx ys vs Fy := rys.stay (fun _ _ e => e) (fun a u e _ => stx a u e) (fun a _ u e => stx a u e)
        refine ⟨ρ', Fs.wipe env own, st', d, F1, (nx.less (List.sublist_append_left _ _)).hand, (erx (n.stp.env sr er)).wipe own, rx, ?_⟩
        have et : turn d st' = bnd (asgT T t d (Fs.wipe env own)) (fun σ' => bnd (evTs T ifs σ') fun b => match b with
            | true => bnd (ev T A σ') fun y => ret (some y)
            | false => ret none) st' := by rw [← hturn]
        rw [et] at h'
        simp only [bnd] at h'
        cases e2 : asgT T t d (Fs.wipe env own) st' with
        | exc _ _ => simp only [e2] at h'; exact h'.elim
        | bad => simp only [e2] at h'; exact h'.elim
        | ok env3 st3 =>
          simp only [e2] at h'
          intro ρ3 H3 σ3 t3 sr3 er3 m3
          have n3 := nx.landR sr t3 sr3
          obtain ⟨k1, k2, k3⟩ := t3.kept nx.hand rx.hcells
          refine ⟨wipe_sm m3 hsub, ρ3, env3, st3, er3, sr3, ?_⟩
          cases e3 : evTs T ifs env3 st3 with
          | exc _ _ => simp only [e3] at h'; exact h'.elim
          | bad => simp only [e3] at h'; exact h'.elim
          | ok b st4 =>
            simp only [e3] at h'
            rintro ρ4 H4 bb F t4 sr4 ⟨rfl, rfl⟩
            have n4 := n3.more sr t4 sr4 (by simp)
            rw [List.append_nil] at n4
            obtain ⟨q1, q2, q3⟩ := t4.kept sr3 n3.out
            have hD4 : H4 D = some (.lst vs) := q3 D List.mem_cons_self _ (k3 D List.mem_cons_self _ (stx _ _ hDv))
            have rys4 : Rps Z ρ4 H4 ys vs Fy := (rysx.stay k1 k2 (fun a ha => k3 a (List.mem_cons_of_mem _ (List.mem_append_left _ ha)))).stay q1 q2 (fun a ha => q3 a (List.mem_cons_of_mem _ (List.mem_append_left _ ha)))
            have hI4 : I (i + 1) ρ4 H4 F2 := fol.stay q1 q2 (fun a ha => q3 a (List.mem_cons_of_mem _ (List.mem_append_right _ ha))) (fol.stay k1 k2 (fun a ha => k3 a (List.mem_cons_of_mem _ (List.mem_append_right _ ha))) hI2)
            cases b with
            | false =>
              simp only [ret] at h'
              exact ⟨ρ4, st4, F2, ys, vs, Fy, n4, hD4, rys4, hI4, h'⟩
            | true =>
              refine ⟨ρ4, env3, st4, t4.env sr3 er3, sr4, ?_⟩
              cases e4 : ev T A env3 st4 with
              | exc _ _ => simp only [bnd, e4, ret] at h'; exact h'.elim
              | bad => simp only [bnd, e4, ret] at h'; exact h'.elim
              | ok y st5 =>
                simp only [bnd, e4, ret] at h'
                intro ρ5 H5 v G5 t5 sr5 r5
                by_cases hz : ys.length < sizeLine
                · rw [if_pos hz] at h'
                  have n5 := n4.more sr t5 sr5 r5.there
                  obtain ⟨u1, u2, u3⟩ := t5.kept sr4 n4.out
                  have hD5 := u3 D List.mem_cons_self _ hD4
                  refine ⟨vs, hD5, by rw [← rys4.length]; exact hz, ρ5, st5, F2, ys ++ [y], vs ++ [v], Fy ++ G5, ?_, upd_same, ?_, ?_, h'⟩
                  · refine (n5.perm ?_).updF sr List.mem_cons_self hD5 rfl
                    refine List.Perm.cons D ?_
                    show (Fy ++ G5 ++ F2).Perm (Fy ++ F2 ++ G5)
                    rw [List.append_assoc, List.append_assoc]
                    exact List.Perm.append_left Fy List.perm_append_comm
                  · have nd5 := n5.nd
                    simp only [List.cons_append, List.nodup_cons, List.mem_append, not_or] at nd5
                    exact Rps.append (Rps.updF hD5 rfl nd5.1.1.1 (rys4.stay u1 u2 (fun a ha => u3 a (List.mem_cons_of_mem _ (List.mem_append_left _ ha))))) ⟨v, [], G5, [], rfl, r5.updF hD5 rfl nd5.1.2, ⟨rfl, rfl⟩, by simp⟩
                  · have nd5 := n5.nd
                    simp only [List.cons_append, List.nodup_cons, List.mem_append, not_or] at nd5
                    exact fol.stay (fun _ _ e => e) (upd_keep hD5 rfl) (upd_off nd5.1.1.2) (fol.stay u1 u2 (fun a ha => u3 a (List.mem_cons_of_mem _ (List.mem_append_right _ ha))) hI4)
                · rw [if_neg hz] at h'; exact h'.elim
theorem ig_nm {i : Nat} {v : V} {σ : L2.St} {H : Hp} {Q : L2.St → Hp → Prop} (h : iG T Z (.nm i) v σ H Q) : gName i v σ H Q := by
  obtain ⟨ρ, env, st, d, F, n, er, rd, h⟩ := h
  obtain ⟨N, p, s', q⟩ := land_ok d n.sr rd n.out n.nd
  simp only [asgT, bnd, landM, ret] at h
  refine h _ H _ ⟨N, rfl, p.nodup_iff.mpr n.nd, fun a ha => .inl (p.mem_iff.mp ha), fun _ _ e _ _ => e⟩ s' (ER.set ?_ q) Sm.set
  exact ⟨er.1, fun j x hx => let ⟨u, h1, h2⟩ := er.2 j x hx; ⟨u, h1, h2.wide⟩⟩
theorem subN {t : Tg} {own : List Nat} (h : (tgN t).all (own.contains ·) = true) : ∀ i ∈ tgN t, i ∈ own := fun i hi => by simpa using List.all_eq_true.mp h i hi
theorem se_lc {elt iter : Expr} {ifs : List Expr} {scope : Scope} {own : List (Str × Nat)} {it : Ix} {t : Tg} {Cs : List Cn} (hc : X.calm = true) (hN : X.N.Nodup) (ok : blkC X.N X.env.scope scope own = true) (hsub : (tgN t).all ((own.map (·.2)).contains ·) = true)
    (hi : PI X tg iter (iI T Z W it)) (hg : ∀ (s : Shared) (H : Hp) (C : Addr) (cl : List (Str × Addr)) (fp : List Addr), PG (X.blk s H scope (compEnvC scope cl C X.env) fp) tg (iG T Z t))
    (ht : ∀ (s : Shared) (H : Hp) (C : Addr) (cl : List (Str × Addr)) (fp : List Addr), PTs (X.blk s H scope (compEnvC scope cl C X.env) fp) ifs (iTs T Z WF Cs))
    (he : ∀ (s : Shared) (H : Hp) (C : Addr) (cl : List (Str × Addr)) (fp : List Addr), PE (X.blk s H scope (compEnvC scope cl C X.env) fp) elt (iE T Z WF A)) (hs : ∀ x, foldedSetIterable iter X.env x = pure x := by intro _; rfl) :
    PE X (.ListComp elt [⟨tg, iter, ifs, 0⟩] scope pos) (iE T Z W (.lc (own.map (·.2)) it t Cs A)) :=
  pe_weak (pe_lc hc hN hi (blkOk_by ok) hg ht he hs) fun σ H Q h => lc_ok (subN hsub) h
/-- name = [..] on one line -/
theorem ss_setLc {i : Nat} {y : Str} {py spos : Pos} {elt iter : Expr} {ifs : List Expr} {scope : Scope} {own : List (Str × Nat)} {it : Ix} {t : Tg} {Cs : List Cn} (hc : X.calm = true) (hN : X.N.Nodup) (hy : X.N[i]? = some y) (hyl : X.env.scope.names.lookup y = some .local)
    (hsw : swapsWith (.ListComp elt [⟨tg, iter, ifs, 0⟩] scope pos) (some (.Name y py)) spos.line X.env = pure true) (ok : blkC X.N X.env.scope scope own = true) (hsub : (tgN t).all ((own.map (·.2)).contains ·) = true)
    (hi : PI X tg iter (iI T Z W it)) (hg : ∀ (s : Shared) (H : Hp) (C : Addr) (cl : List (Str × Addr)) (fp : List Addr), PG (X.blk s H scope (compEnvC scope cl C X.env) fp) tg (iG T Z t))
    (ht : ∀ (s : Shared) (H : Hp) (C : Addr) (cl : List (Str × Addr)) (fp : List Addr), PTs (X.blk s H scope (compEnvC scope cl C X.env) fp) ifs (iTs T Z WF Cs))
    (he : ∀ (s : Shared) (H : Hp) (C : Addr) (cl : List (Str × Addr)) (fp : List Addr), PE (X.blk s H scope (compEnvC scope cl C X.env) fp) elt (iE T Z WF A)) (hs : ∀ x, foldedSetIterable iter X.env x = pure x := by intro _; rfl) :
    PS X (.Assign [.Name y py] (.ListComp elt [⟨tg, iter, ifs, 0⟩] scope pos) spos) (iS T Z W (.asg (.nm i) (.lc (own.map (·.2)) it t Cs A))) :=
  ps_weak (ps_setLc hc hN hy hyl hsw hi (blkOk_by ok) hg ht he hs) fun Dn σ H h => by
    obtain ⟨ρ, env, st, er, sr, h2⟩ := asg_ok h
    exact lc_ok (subN hsub) ⟨ρ, env, st, er, sr, h2.mono fun v H1 q => ig_nm q⟩
end
end Fs
namespace Fs
open PySem L2 PyProof.Rows PySem.Spec
section
variable {X : L2.Cx} {Z : Wc} {W : WX} {σ0 : L2.St}
theorem Now.newS {ρ ρ' : List Addr} {H H' : Hp} {st st' : Sto} {F : List Addr} (n : Now Z ρ H ρ' st' H' F) (s : SR Z ρ st H) {p : Addr} {o : HO} (hp : H' p = none) : Now Z ρ H ρ' st' (upd H' p o) F := (n.new s hp).less (List.sublist_cons_self p F)
theorem bin_ok (hK : X.K = Z.K) {op : Bop} : OpR X (binaryOp (pyB op)) (rB Z W σ0 (binD op)) := by
  intro pins s σ H x y v u Q I rx ry h
  obtain ⟨ρ, st, H0, ρ2, st2, d1, d2, F1, F2, sr, n, r1, r2, h⟩ := h
  unfold binD at h
  split at h
  · rename_i i j
    obtain ⟨rfl, rfl⟩ := r1
    obtain ⟨rfl, rfl⟩ := r2
    cases e : intOp op i j with
    | none => rw [e] at h; exact h.elim
    | some r =>
      rw [e] at h
      exact int_ok e I rx ry (Post.ok h n ⟨rfl, rfl⟩)
  · rename_i a b
    obtain ⟨rfl, rfl⟩ := r1
    obtain ⟨rfl, rfl⟩ := r2
    cases op with
    | add =>
      simp only at h
      split at h
      · rename_i hz
        exact op_add_str pins s σ H _ _ v u Q I rx ry ⟨a, b, rfl, rfl, hz, Post.ok h n ⟨rfl, rfl⟩⟩
      · exact h.elim
    | _ => exact h.elim
  · rename_i xs ys
    obtain ⟨a, vs, rfl, ha, rx'⟩ := r1
    obtain ⟨b, ws, rfl, hb, ry'⟩ := r2
    cases op with
    | add =>
      simp only at h
      split at h
      · rename_i hz
        refine op_catA pins s σ H _ _ v u Q I rx ry ⟨a, b, vs, ws, rfl, rfl, by rw [hK]; exact ha, by rw [hK]; exact hb, by rw [← rx'.length, ← ry'.length]; exact hz, fun e => ?_, fun _ e => ?_, fun _ _ p hp => ?_⟩
        · subst e
          exact Post.ok h n ⟨b, ws, rfl, hb, by have := rx'.append ry'; simpa using this⟩
        · subst e
          exact Post.ok h n ⟨a, vs, rfl, ha, by have := rx'.append ry'; simpa using this⟩
        · exact Post.ok h (n.newS sr hp) ⟨p, vs ++ ws, rfl, SqT.of upd_same, rps_up hp (rx'.append ry')⟩
      · exact h.elim
    | _ => exact h.elim
  · rename_i k _
    obtain ⟨rfl, rfl⟩ := r2
    split at h
    · rename_i xs hx
      split at h
      · rename_i hz
        obtain ⟨a, vs, G, rfl, ha, rs, sub⟩ := lstv_ok n.sr r1 hx
        obtain rfl := rs.pure hz.1
        refine op_rep pins s σ H _ _ v u Q I rx ry ⟨a, k, vs, rfl, rfl, ha, hz.2.2.1, hz.2.1, by rw [← rs.length]; exact hz.2.2.2, fun p hp => ?_⟩
        exact Post.ok h ((n.new sr hp).less (List.cons_sublist_cons.mpr (List.nil_sublist _))) ⟨p, _, [], rfl, upd_same, rps_up hp (rs.rep k.toNat), rfl⟩
      · exact h.elim
    · exact h.elim
  · split at h
    · rename_i xs ys hx hy
      split at h
      · rename_i hz
        obtain ⟨a, vs, G, rfl, ha, rs, sub⟩ := lstv_ok n.sr r1 hx
        obtain ⟨b, ws, G2, rfl, hb, rt, sub2⟩ := lstv_ok n.sr r2 hy
        refine op_cat pins s σ H _ _ v u Q I rx ry ⟨a, b, vs, ws, rfl, rfl, ha, hb, by rw [← rs.length, ← rt.length]; exact hz, fun p hp => ?_⟩
        exact Post.ok h ((n.new sr hp).less (List.cons_sublist_cons.mpr (List.Sublist.append sub sub2))) ⟨p, _, G ++ G2, rfl, upd_same, rps_up hp (rs.append rt), rfl⟩
      · exact h.elim
    · exact h.elim
end
end Fs
namespace Fs
open PySem L2 PyProof.Rows PySem.Spec
section
variable {Z : Wc} {W : WX} {ρ : List Addr} {H : Hp} {st : Sto}
/-! data -/
theorem dpAll_ok {f : D → Option PyData} (hf : ∀ d v F p, Rp Z ρ H d v F → f d = some p → Dp Z.K H v p) : ∀ {ds : List D} {vs : List V} {F : List Addr} {ps : List PyData}, Rps Z ρ H ds vs F → optL f ds = some ps → DpAll Z.K H vs ps
  | [], vs, F, ps, r, e => by
    obtain ⟨rfl, _⟩ := r
    cases e
    exact .nil
  | d :: ds, vs, F, ps, r, e => by
    obtain ⟨v, ws, F1, F2, rfl, r1, r2, _⟩ := r
    simp only [optL] at e
    cases e1 : f d with
    | none => rw [e1] at e; cases e
    | some p =>
      rw [e1] at e
      cases e2 : optL f ds with
      | none => rw [e2] at e; cases e
      | some qs =>
        rw [e2] at e
        cases e
        exact .cons (hf d v F1 p r1 e1) (dpAll_ok hf r2 e2)
theorem toP_ok (s : SR Z ρ st H) : ∀ (n : Nat) (d : D) (v : V) (F : List Addr) (p : PyData), Rp Z ρ H d v F → toP false st n d = some p → Dp Z.K H v p
  | 0, d, v, F, p, r, e => by simp [toP] at e
  | n + 1, d, v, F, p, r, e => by
    have ih := toP_ok s n
    cases d with
    | non => obtain ⟨rfl, _⟩ := r; simp only [toP, Option.some.injEq] at e; subst e; exact .non
    | bl b => obtain ⟨rfl, _⟩ := r; simp only [toP, Option.some.injEq] at e; subst e; exact .bl b
    | int i => obtain ⟨rfl, _⟩ := r; simp only [toP, Option.some.injEq] at e; subst e; exact .int i
    | str z => obtain ⟨rfl, _⟩ := r; simp only [toP, Option.some.injEq] at e; subst e; exact .str z
    | tup ds =>
      obtain ⟨a, vs, rfl, h, r⟩ := r
      simp only [toP, Option.map_eq_some_iff] at e
      obtain ⟨ps, e, rfl⟩ := e
      exact .tup h (dpAll_ok ih r e)
    | lst ds =>
      obtain ⟨a, vs, G, rfl, h, r, _⟩ := r
      simp only [toP, Option.map_eq_some_iff] at e
      obtain ⟨ps, e, rfl⟩ := e
      exact .lst (SqL.of h) (dpAll_ok ih r e)
    | frl ds =>
      obtain ⟨a, o, vs, G, rfl, h, r, _⟩ := r
      simp only [toP, Option.map_eq_some_iff] at e
      obtain ⟨ps, e, rfl⟩ := e
      exact .lst (.inl (.inr ⟨o, h⟩)) (dpAll_ok ih r e)
    | ref l =>
      obtain ⟨a, hl, rfl, _⟩ := r
      simp only [toP] at e
      split at e
      · rename_i xs hc
        simp only [Option.map_eq_some_iff] at e
        obtain ⟨ps, e, rfl⟩ := e
        obtain ⟨vs, hv, rs⟩ := s.list hl (.inl hc)
        exact .lst hv (dpAll_ok ih rs e)
      · rename_i xs hc
        simp only [Option.map_eq_some_iff] at e
        obtain ⟨ps, e, rfl⟩ := e
        obtain ⟨vs, hv, rs⟩ := s.list hl (.inr hc)
        exact .lst hv (dpAll_ok ih rs e)
      · cases e
      · cases e
    | dic kvs => cases kvs <;> simp [toP] at e
    | _ => simp [toP] at e
theorem flat_ok : ∀ {d : D} {v : V} {F : List Addr}, flatD d = true → Rp Z ρ H d v F → flatV v = true
  | .non, v, F, f, r => by obtain ⟨rfl, _⟩ := r; rfl
  | .bl _, v, F, f, r => by obtain ⟨rfl, _⟩ := r; rfl
  | .int _, v, F, f, r => by obtain ⟨rfl, _⟩ := r; rfl
  | .str _, v, F, f, r => by obtain ⟨rfl, _⟩ := r; rfl
  | .tup _, v, F, f, r => by simp [flatD] at f
  | .ref _, v, F, f, r => by simp [flatD] at f
  | .lst _, v, F, f, r => by simp [flatD] at f
  | .frl _, v, F, f, r => by simp [flatD] at f
  | .dic _, v, F, f, r => by simp [flatD] at f
  | .set _, v, F, f, r => by simp [flatD] at f
  | .exc _ _, v, F, f, r => by simp [flatD] at f
  | .lam _ _, v, F, f, r => by simp [flatD] at f
theorem eqF_ok {d e : D} {v u : V} {F G : List Addr} (fd : flatD d = true) (fe : flatD e = true) (r : Rp Z ρ H d v F) (q : Rp Z ρ H e u G) : eqV v u = eqF d e := by
  cases d <;> first | (exfalso; simp [flatD] at fd; done) | skip
  all_goals cases e <;> first | (exfalso; simp [flatD] at fe; done) | skip
  all_goals (obtain ⟨rfl, _⟩ := r; obtain ⟨rfl, _⟩ := q; rfl)
theorem flats_ok : ∀ {ds : List D} {vs : List V} {F : List Addr}, ds.all flatD = true → Rps Z ρ H ds vs F → vs.all flatV = true
  | [], vs, F, f, r => by obtain ⟨rfl, _⟩ := r; rfl
  | d :: ds, vs, F, f, r => by
    obtain ⟨v, ws, F1, F2, rfl, r1, r2, _⟩ := r
    rw [List.all_cons, Bool.and_eq_true] at f ⊢
    exact ⟨flat_ok f.1 r1, flats_ok f.2 r2⟩
theorem inV_ok {x : D} {u : V} {G : List Addr} (fx : flatD x = true) (q : Rp Z ρ H x u G) : ∀ {ds : List D} {vs : List V} {F : List Addr}, ds.all flatD = true → Rps Z ρ H ds vs F → inV u vs = ds.any fun z => eqF z x
  | [], vs, F, f, r => by obtain ⟨rfl, _⟩ := r; rfl
  | d :: ds, vs, F, f, r => by
    obtain ⟨v, ws, F1, F2, rfl, r1, r2, _⟩ := r
    rw [List.all_cons, Bool.and_eq_true] at f
    have ih := inV_ok fx q f.2 r2
    unfold inV at ih ⊢
    rw [List.any_cons, List.any_cons, eqF_ok f.1 fx r1 q, ih]
/-! dicts -/
theorem dget_ok : ∀ {kvs : List (Ky × D)} {ws : List (L2.Key × V)} {F : List Addr} {k : L2.Key}, RpK Z ρ H kvs ws F → match dget (.k k) kvs with
    | some d => ∃ v G, valV ws k = some v ∧ Rp Z ρ H d v G ∧ G.Sublist F
    | none => valV ws k = none
  | [], ws, F, k, r => by obtain ⟨rfl, _⟩ := r; rfl
  | (q, d) :: kvs, ws, F, k, r => by
    obtain ⟨j, v, ws', F1, F2, rfl, rfl, r1, r2, rfl⟩ := r
    simp only [dget]
    by_cases h : j = k
    · subst h
      rw [if_pos rfl]
      exact ⟨v, F1, valV_pos rfl, r1, List.sublist_append_left _ _⟩
    · rw [if_neg (by simpa using h)]
      have ih := dget_ok (k := k) r2
      rw [valV_neg h]
      split
      · rename_i d' e
        rw [e] at ih
        obtain ⟨v', G, a, b, c⟩ := ih
        exact ⟨v', G, a, b, c.trans (List.sublist_append_right _ _)⟩
      · rename_i e
        rw [e] at ih
        exact ih
theorem RpT.keys : ∀ {kvs : List (Ky × D)} {ws : List (List L2.Key × V)} {F : List Addr} {k : L2.Key}, RpT Z ρ H kvs ws F → okKeys (.k k) kvs = true → kvs = []
  | [], _, _, _, _, _ => rfl
  | (q, d) :: kvs, ws, F, k, r, h => by
    obtain ⟨j, v, ws', F1, F2, rfl, rfl, r1, r2, rfl⟩ := r
    simp [okKeys, kyK] at h
/-- a dict as it is read -/
theorem dicv_ok {d : D} {x : V} {kvs : List (Ky × D)} {F : List Addr} (s : SR Z ρ st H) (r : Rp Z ρ H d x F) (e : dicv st d = some kvs) :
    ∃ a G, x = .ref a ∧ ((∃ ws, H a = some (.dK ws) ∧ RpK Z ρ H kvs ws G) ∨ ∃ ws, H a = some (.dT ws) ∧ RpT Z ρ H kvs ws G) ∧ G.Sublist F := by
  cases d with
  | dic ds =>
    cases e
    obtain ⟨a, G, rfl, rfl, h⟩ := r
    exact ⟨a, G, rfl, h, List.sublist_cons_self _ _⟩
  | ref l =>
    obtain ⟨a, hl, rfl, rfl⟩ := r
    cases hc : st[l]? with
    | none => simp [dicv, hc] at e
    | some c =>
      have rc := s.cell l c a hc hl
      cases c with
      | dic ds =>
        simp only [dicv, hc, Option.some.injEq] at e
        subst e
        obtain ⟨a', G, z, f, h⟩ := rc
        cases z
        obtain rfl : G = [] := by injection f with _ f; exact f.symm
        exact ⟨a, [], rfl, h, List.Sublist.refl _⟩
      | _ => simp [dicv, hc] at e
  | _ => simp [dicv] at e
theorem key_ok {d : D} {v : V} {q : Ky} {F : List Addr} (r : Rp Z ρ H d v F) (e : keyOf d = some q) : ∃ k, q = .k k ∧ v = kV k ∧ F = [] := by
  cases d with
  | int i => obtain ⟨rfl, rfl⟩ := r; cases e; exact ⟨_, rfl, rfl, rfl⟩
  | str i => obtain ⟨rfl, rfl⟩ := r; cases e; exact ⟨_, rfl, rfl, rfl⟩
  | _ => simp [keyOf] at e
/-- where a dict of such keys lies -/
theorem dK_of {a : Addr} {kvs : List (Ky × D)} {G : List Addr} {k : L2.Key} (h : (∃ ws, H a = some (.dK ws) ∧ RpK Z ρ H kvs ws G) ∨ ∃ ws, H a = some (.dT ws) ∧ RpT Z ρ H kvs ws G) (ok : okKeys (.k k) kvs = true) :
    (∃ ws, H a = some (.dK ws) ∧ RpK Z ρ H kvs ws G) ∨ (H a = some (.dT []) ∧ kvs = [] ∧ G = []) := by
  rcases h with h | ⟨ws, h, r⟩
  · exact .inl h
  · obtain rfl := r.keys ok
    obtain ⟨rfl, rfl⟩ := r
    exact .inr ⟨h, rfl, rfl⟩
end
end Fs
namespace Fs
open PySem L2 PyProof.Rows PySem.Spec
section
variable {Z : Wc} {ρ ρ' : List Addr} {H H' : Hp} {st st' : Sto} {F : List Addr} {l : Nat} {a : Addr} {c' : D} {o' : HO}
theorem nd_inj {α : Type} {a : α} : ∀ {l : List α} {i j : Nat}, l.Nodup → l[i]? = some a → l[j]? = some a → i = j
  | [], i, j, n, h, k => by simp at h
  | x :: r, 0, 0, n, h, k => rfl
  | x :: r, 0, j + 1, n, h, k => by
    have e : x = a := by simpa using h
    have m : a ∈ r := List.mem_of_getElem? (by simpa using k)
    exact absurd (e ▸ m) (List.nodup_cons.mp n).1
  | x :: r, i + 1, 0, n, h, k => by
    have e : x = a := by simpa using k
    have m : a ∈ r := List.mem_of_getElem? (by simpa using h)
    exact absurd (e ▸ m) (List.nodup_cons.mp n).1
  | x :: r, i + 1, j + 1, n, h, k => congrArg (· + 1) (nd_inj (List.nodup_cons.mp n).2 (by simpa using h) (by simpa using k))
/-! a cell is written -/
theorem SR.wr (s : SR Z ρ st H) (ha : ρ[l]? = some a) (hc : isCell c' = true) (r : Rp Z ρ (upd H a o') c' (.ref a) [a]) : SR Z ρ (st.set l c') (upd H a o') := by
  obtain ⟨o, ho, hk⟩ := s.hcell (List.mem_of_getElem? ha)
  refine ⟨by rw [List.length_set]; exact s.len, s.nd, fun m c h => ?_, fun m c b h1 h2 => ?_⟩
  · by_cases e : l = m
    · subst e
      have hl : l < st.length := by simpa using (List.getElem?_eq_some_iff.mp h).1
      rw [List.getElem?_set_self hl] at h
      cases h
      exact hc
    · rw [List.getElem?_set_ne e] at h; exact s.kind m c h
  · by_cases e : l = m
    · subst e
      have hl : l < st.length := by simpa using (List.getElem?_eq_some_iff.mp h1).1
      rw [List.getElem?_set_self hl] at h1
      cases h1
      rw [ha] at h2
      cases h2
      exact r
    · rw [List.getElem?_set_ne e] at h1
      refine (s.cell m c b h1 h2).updF ho hk fun z => ?_
      rw [List.mem_singleton] at z
      subst z
      exact e (nd_inj s.nd ha h2)
theorem Now.wr (n : Now Z ρ H ρ' st' H' F) (s : SR Z ρ st H) (ha : ρ'[l]? = some a) (hc : isCell c' = true) (r : Rp Z ρ' (upd H' a o') c' (.ref a) [a]) : Now Z ρ H ρ' (st'.set l c') (upd H' a o') F := by
  have hm : a ∈ ρ' := List.mem_of_getElem? ha
  refine ⟨?_, n.sr.wr ha hc r, fun b hb => ?_, n.out, n.nd⟩
  · obtain ⟨N, e, nd, f, k⟩ := n.stp
    refine ⟨N, e, nd, f, fun b u q z => ?_⟩
    rw [upd_ne (fun y => ?_)]
    · exact k b u q z
    · subst y
      rw [e] at hm
      rcases List.mem_append.mp hm with w | w
      · exact z w
      · rw [f b (List.mem_append_left _ w)] at q; cases q
  · by_cases e : b = a
    · rw [e, upd_same]; exact nofun
    · rw [upd_ne e]; exact n.th b hb
theorem set_same {st : Sto} {l : Nat} {c : D} (h : st[l]? = some c) : st.set l c = st := by
  obtain ⟨hl, e⟩ := List.getElem?_eq_some_iff.mp h
  rw [← e]
  exact List.set_getElem_self hl
end
section
variable {X : L2.Cx} {Z : Wc} {pins : List (Addr × Obj)} {σ : L2.St} {H : Hp} {s : Shared} {a : Addr}
/-- an empty dict of tuples' keys is one of plain keys -/
theorem retag (I : Inv X pins σ H s) (h : H a = some (.dT [])) : Inv X pins σ (upd H a (.dK [])) s := by
  obtain ⟨h1, h2, xs, h3, o, es, ep, h4, h5, h6, h7, h8⟩ := I.hok a _ h
  cases h3
  obtain rfl : es = #[] := by cases es; simp_all
  exact Inv.write (t' := s.toks) (h' := s.heap) I (by rw [h]; trivial) (.inl rfl) (fun _ _ _ e => e) ⟨_, h4⟩ ⟨h1, h2, [], .nil, o, #[], ep, h4, h5, h6, fun e he => by simp at he, .nil, List.nodup_nil⟩
theorem dK_now {ρ0 ρ : List Addr} {st0 st : Sto} {H0 : Hp} {F F1 : List Addr} {d : D} {x : V} {kvs : List (Ky × D)} {k : L2.Key} (I : Inv X pins σ H s) (s0 : SR Z ρ0 st0 H0) (n : Now Z ρ0 H0 ρ st H F) (sub : ∀ b ∈ F1, b ∈ F) (r : Rp Z ρ H d x F1)
    (e : dicv st d = some kvs) (ok : okKeys (.k k) kvs = true) :
    ∃ H' a ws G, x = .ref a ∧ Inv X pins σ H' s ∧ Now Z ρ0 H0 ρ st H' F ∧ H' a = some (.dK ws) ∧ RpK Z ρ H' kvs ws G ∧ G.Sublist F1 ∧ Rp Z ρ H' d x F1 ∧ ∀ d v G', Rp Z ρ H d v G' → a ∉ G' → Rp Z ρ H' d v G' := by
  obtain ⟨a, G, rfl, h, hs⟩ := dicv_ok n.sr r e
  rcases dK_of h ok with ⟨ws, h1, h2⟩ | ⟨h1, rfl, rfl⟩
  · exact ⟨H, a, ws, G, rfl, I, n, h1, h2, hs, r, fun _ _ _ h _ => h⟩
  · have I' := retag I h1
    refine ⟨upd H a (.dK []), a, [], [], rfl, I', ?_, upd_same, ⟨rfl, rfl⟩, List.nil_sublist _, ?_, fun d v G' h hg => h.updF h1 rfl hg⟩
    · cases d with
      | dic kvs =>
        obtain ⟨b, G2, z, f, _⟩ := r
        cases z
        exact n.updF s0 (sub a (by rw [f]; exact List.mem_cons_self)) h1 rfl
      | ref l =>
        obtain ⟨b, hl, z, f⟩ := r
        cases z
        have hc : st[l]? = some (.dic []) := by
          simp only [dicv] at e
          split at e
          · rename_i q; cases e; exact q
          · cases e
        have := n.wr (l := l) (c' := .dic []) (o' := .dK []) s0 hl rfl ⟨a, [], rfl, rfl, .inl ⟨[], upd_same, ⟨rfl, rfl⟩⟩⟩
        rwa [set_same hc] at this
      | _ => simp [dicv] at e
    · cases d with
      | dic kvs =>
        obtain ⟨b, G2, z, f, h⟩ := r
        cases z
        cases e
        have hg : G2 = [] := by
          rcases h with ⟨_, _, q⟩ | ⟨_, _, q⟩ <;> exact q.2
        subst hg
        exact ⟨a, [], rfl, f, .inl ⟨[], upd_same, ⟨rfl, rfl⟩⟩⟩
      | ref l => exact r
      | _ => simp [dicv] at e
end
end Fs
namespace Fs
open PySem L2 PyProof.Rows PySem.Spec
def pyC : Cop → CmpOp
  | .eq => .Eq | .ne => .NotEq | .lt => .Lt | .le => .LtE | .gt => .Gt | .ge => .GtE | .isN => .Is | .ntN => .IsNot | .inn => .In | .nin => .NotIn
section
variable {X : L2.Cx} {Z : Wc} {W : WX} {σ0 : L2.St}
/-- a comparison's answer -/
abbrev fC (op : Cop) : D → D → M D := fun x y st => opt (cmpD op x y st) (fun c => ret (.bl c)) st
theorem eq_is {st : Sto} {a b : D} {c : Bool} (e : eqD st a b = some c) : ∃ p q, toP false st 66 a = some p ∧ toP false st 66 b = some q ∧ SeqAt.shaped p = true ∧ SeqAt.shaped q = true ∧ c = PyData.eqv p q := by
  unfold eqD at e
  split at e
  · rename_i p q hp hq
    split at e
    · rename_i hs
      cases e
      exact ⟨p, q, hp, hq, hs.1, hs.2, rfl⟩
    · cases e
  · cases e
theorem rp_non {ρ : List Addr} {H : Hp} {d : D} {v : V} {F : List Addr} (r : Rp Z ρ H d v F) : decide (v = .non) = isNon d := by
  cases d with
  | non => obtain ⟨rfl, _⟩ := r; rfl
  | bl b => obtain ⟨rfl, _⟩ := r; rfl
  | int i => obtain ⟨rfl, _⟩ := r; rfl
  | str z => obtain ⟨rfl, _⟩ := r; rfl
  | tup ds => obtain ⟨a, vs, rfl, _⟩ := r; rfl
  | ref l => obtain ⟨a, _, rfl, _⟩ := r; rfl
  | lst ds => obtain ⟨a, vs, G, rfl, _⟩ := r; rfl
  | frl ds => obtain ⟨a, o, vs, G, rfl, _⟩ := r; rfl
  | dic ds => obtain ⟨a, G, rfl, _⟩ := r; rfl
  | set ds => obtain ⟨a, S, rfl, _⟩ := r; rfl
  | exc c ds => obtain ⟨a, dx, rfl, _⟩ := r; rfl
  | lam c ds => exact r.elim
theorem opt_ok {α β : Type} {rel : Rel α β} {γ : Type} {o : Option γ} {f : γ → M α} {st : Sto} {ρ : List Addr} {H : Hp} {Q : β → Hp → Prop} (h : Post rel Z W (opt o f st) ρ σ0 H Q) : ∃ c, o = some c ∧ Post rel Z W (f c st) ρ σ0 H Q := by
  cases o with
  | none => exact h.elim
  | some c => exact ⟨c, rfl, h⟩
theorem in_ok (hK : X.K = Z.K) (hu : X.A.units + 65 < cLine) (neg : Bool) : OpR X (compareOp (if neg then .NotIn else .In)) (rB Z W σ0 fun x y st => opt (inD st x y) (fun c => ret (.bl (if neg then !c else c))) st) := by
  intro pins s σ H x y v u Q I rx ry h
  obtain ⟨ρ, st, H0, ρ2, st2, d1, d2, F1, F2, sr, n, r1, r2, h⟩ := h
  obtain ⟨c, e, h⟩ := opt_ok h
  have fin : Q (.bl (if neg then !c else c)) H := Post.ret h (n.less (List.nil_sublist _)) ⟨rfl, rfl⟩
  have dict : ∀ kvs k, dicv st2 d2 = some kvs → keyOf d1 = some k → okKeys k kvs = true → (dget k kvs).isSome = c → wpAny (model X.prog X.w) X.A (compareOp (if neg then .NotIn else .In) v u) (EP X pins σ Q) X.xe s := by
    intro kvs k hd hk ok hc
    obtain ⟨j, rfl, rfl, rfl⟩ := key_ok r1 hk
    obtain ⟨H', a, ws, G, rfl, I', n', ha, rk, hs, _, _⟩ := dK_now I sr n (fun b hb => by simpa using hb) r2 hd ok
    obtain rfl : u = Value.ref a := ry
    have fin' : Q (.bl (if neg then !c else c)) H' := Post.ret h (n'.less (List.nil_sublist _)) ⟨rfl, rfl⟩
    have hv := dget_ok (k := j) rk
    have hsome : (valV ws j).isSome = c := by
      rw [← hc]
      cases hg : dget (.k j) kvs with
      | none => rw [hg] at hv; rw [hv]; rfl
      | some d => rw [hg] at hv; obtain ⟨v', G', e1, _⟩ := hv; rw [e1]; rfl
    cases neg with
    | true => exact d_notIn (A := X.A) (by omega) I' (DGet.k ha) rx fun s' I2 => ⟨.bl (!(valV ws j).isSome), H', I2, rfl, by rw [hsome]; exact fin'⟩
    | false => exact d_in (A := X.A) (by omega) I' (DGet.k ha) rx fun s' I2 => ⟨.bl (valV ws j).isSome, H', I2, rfl, by rw [hsome]; exact fin'⟩
  unfold inD at e
  split at e
  · rename_i z
    split at e
    · rename_i t
      cases e
      obtain ⟨rfl, rfl⟩ := r1
      obtain ⟨rfl, rfl⟩ := r2
      cases neg with
      | true => exact op_notin_str pins s σ H _ _ v u Q I rx ry ⟨t, z, rfl, rfl, fin⟩
      | false => exact op_in_str pins s σ H _ _ v u Q I rx ry ⟨t, z, rfl, rfl, fin⟩
    · cases e
  · split at e
    · rename_i kvs hd
      split at e
      · rename_i k hk
        split at e
        · rename_i ok
          cases e
          exact dict kvs k hd hk ok rfl
        · cases e
      · cases e
    · split at e
      · rename_i ys _ _ _
        split at e
        · rename_i hf
          cases e
          obtain ⟨a, vs, rfl, ha, rs⟩ := r2
          have iv := inV_ok hf.1 r1 hf.2 rs
          have fx := flat_ok hf.1 r1
          have fs := flats_ok hf.2 rs
          cases neg with
          | true => exact op_notIn_seq pins s σ H _ _ v u Q I rx ry ⟨a, vs, rfl, .inr (by rw [hK]; exact ha), fx, fs, by rw [iv]; exact fin⟩
          | false => exact op_in_seq pins s σ H _ _ v u Q I rx ry ⟨a, vs, rfl, .inr (by rw [hK]; exact ha), fx, fs, by rw [iv]; exact fin⟩
        · cases e
      · split at e
        · rename_i hnt _ ys' hy'
          split at e
          · rename_i p qs hp hq
            split at e
            · rename_i hz
              cases e
              have dp := toP_ok n.sr _ _ _ _ _ r1 hp
              have dl : Dp Z.K H y (.list qs) := by
                cases d2 with
                | tup xs => exact absurd rfl (hnt xs)
                | lst xs =>
                  obtain ⟨a, vs, G, rfl, ha, rs, _⟩ := r2
                  cases hy'
                  exact .lst (SqL.of ha) (dpAll_ok (toP_ok n.sr 65) rs hq)
                | ref l =>
                  obtain ⟨a, hl, rfl, _⟩ := r2
                  simp only [seqv] at hy'
                  split at hy'
                  · rename_i xs hc
                    cases hy'
                    obtain ⟨vs, hv, rs⟩ := n.sr.list hl (.inl hc)
                    exact .lst hv (dpAll_ok (toP_ok n.sr 65) rs hq)
                  · rename_i xs hc
                    cases hy'
                    obtain ⟨vs, hv, rs⟩ := n.sr.list hl (.inr hc)
                    exact .lst hv (dpAll_ok (toP_ok n.sr 65) rs hq)
                  · cases hy'
                | _ => simp [seqv] at hy'
              cases neg with
              | true => exact op_notInD hu pins s σ H _ _ v u Q I rx ry ⟨p, qs, by rw [hK]; exact dp, by rw [hK]; exact dl, hz.1, hz.2, fin⟩
              | false => exact op_inD hu pins s σ H _ _ v u Q I rx ry ⟨p, qs, by rw [hK]; exact dp, by rw [hK]; exact dl, hz.1, hz.2, fin⟩
            · cases e
          · cases e
        · cases e
theorem cmp_ok (hK : X.K = Z.K) (hu : X.A.units + 65 < cLine) {op : Cop} : OpR X (compareOp (pyC op)) (rB Z W σ0 (fC op)) := by
  cases op with
  | inn =>
    have h := in_ok (W := W) (σ0 := σ0) hK hu false
    intro pins s σ H x y v u Q I rx ry q
    exact h pins s σ H x y v u Q I rx ry q
  | nin =>
    have h := in_ok (W := W) (σ0 := σ0) hK hu true
    intro pins s σ H x y v u Q I rx ry q
    obtain ⟨ρ, st, H0, ρ2, st2, d1, d2, F1, F2, sr, n, r1, r2, q⟩ := q
    refine h pins s σ H x y v u Q I rx ry ⟨ρ, st, H0, ρ2, st2, d1, d2, F1, F2, sr, n, r1, r2, ?_⟩
    simp only [fC, cmpD] at q
    cases e : inD st2 d1 d2 with
    | none => rw [e] at q; exact q.elim
    | some c => rw [e] at q; simpa only [opt, Option.map_some, e, if_true] using q
  | eq =>
    intro pins s σ H x y v u Q I rx ry q
    obtain ⟨ρ, st, H0, ρ2, st2, d1, d2, F1, F2, sr, n, r1, r2, q⟩ := q
    obtain ⟨c, e, q⟩ := opt_ok q
    obtain ⟨p1, p2, e1, e2, z1, z2, rfl⟩ := eq_is e
    exact op_eqD (by omega) pins s σ H x y v u Q I rx ry ⟨p1, p2, by rw [hK]; exact toP_ok n.sr _ _ _ _ _ r1 e1, by rw [hK]; exact toP_ok n.sr _ _ _ _ _ r2 e2, z1, z2, Post.ret q (n.less (List.nil_sublist _)) ⟨rfl, rfl⟩⟩
  | ne =>
    intro pins s σ H x y v u Q I rx ry q
    obtain ⟨ρ, st, H0, ρ2, st2, d1, d2, F1, F2, sr, n, r1, r2, q⟩ := q
    obtain ⟨c, e, q⟩ := opt_ok q
    simp only [cmpD, Option.map_eq_some_iff] at e
    obtain ⟨b, e, rfl⟩ := e
    obtain ⟨p1, p2, e1, e2, z1, z2, rfl⟩ := eq_is e
    exact op_neD (by omega) pins s σ H x y v u Q I rx ry ⟨p1, p2, by rw [hK]; exact toP_ok n.sr _ _ _ _ _ r1 e1, by rw [hK]; exact toP_ok n.sr _ _ _ _ _ r2 e2, z1, z2, Post.ret q (n.less (List.nil_sublist _)) ⟨rfl, rfl⟩⟩
  | isN =>
    intro pins s σ H x y v u Q I rx ry q
    obtain ⟨ρ, st, H0, ρ2, st2, d1, d2, F1, F2, sr, n, r1, r2, q⟩ := q
    obtain ⟨c, e, q⟩ := opt_ok q
    have fin : Q (.bl c) H := Post.ret q (n.less (List.nil_sublist _)) ⟨rfl, rfl⟩
    simp only [cmpD, isD] at e
    split at e
    · cases e
      obtain ⟨rfl, _⟩ := r2
      exact op_isN pins s σ H _ _ v u Q I rx ry ⟨rfl, by rw [rp_non r1]; exact fin⟩
    · split at e
      · rename_i b _ d
        cases e
        obtain ⟨rfl, _⟩ := r1
        obtain ⟨rfl, _⟩ := r2
        refine op_isBl pins s σ H _ _ v u Q I rx ry ⟨d, b, rfl, rfl, ?_⟩
        have : decide (d = b) = (d == b) := by cases d <;> cases b <;> rfl
        rw [this]; exact fin
      · cases e
    · cases e
  | ntN =>
    intro pins s σ H x y v u Q I rx ry q
    obtain ⟨ρ, st, H0, ρ2, st2, d1, d2, F1, F2, sr, n, r1, r2, q⟩ := q
    obtain ⟨c, e, q⟩ := opt_ok q
    have fin : Q (.bl c) H := Post.ret q (n.less (List.nil_sublist _)) ⟨rfl, rfl⟩
    simp only [cmpD, isD, Option.map_eq_some_iff] at e
    obtain ⟨c', e, rfl⟩ := e
    split at e
    · cases e
      obtain ⟨rfl, _⟩ := r2
      exact op_notN pins s σ H _ _ v u Q I rx ry ⟨rfl, by rw [rp_non r1]; exact fin⟩
    · split at e
      · rename_i b _ d
        cases e
        obtain ⟨rfl, _⟩ := r1
        obtain ⟨rfl, _⟩ := r2
        refine op_notBl pins s σ H _ _ v u Q I rx ry ⟨d, b, rfl, rfl, ?_⟩
        have : decide (d = b) = (d == b) := by cases d <;> cases b <;> rfl
        rw [this]; exact fin
      · cases e
    · cases e
  | lt =>
    intro pins s σ H x y v u Q I rx ry q
    obtain ⟨ρ, st, H0, ρ2, st2, d1, d2, F1, F2, sr, n, r1, r2, q⟩ := q
    obtain ⟨c, e, q⟩ := opt_ok q
    have fin : Q (.bl c) H := Post.ret q (n.less (List.nil_sublist _)) ⟨rfl, rfl⟩
    simp only [cmpD] at e
    split at e
    · rename_i i j
      obtain ⟨rfl, _⟩ := r1
      obtain ⟨rfl, _⟩ := r2
      cases e
      exact op_lt pins s σ H _ _ v u Q I rx ry ⟨i, j, rfl, rfl, fin⟩
    · cases e
  | le =>
    intro pins s σ H x y v u Q I rx ry q
    obtain ⟨ρ, st, H0, ρ2, st2, d1, d2, F1, F2, sr, n, r1, r2, q⟩ := q
    obtain ⟨c, e, q⟩ := opt_ok q
    have fin : Q (.bl c) H := Post.ret q (n.less (List.nil_sublist _)) ⟨rfl, rfl⟩
    simp only [cmpD] at e
    split at e
    · rename_i i j
      obtain ⟨rfl, _⟩ := r1
      obtain ⟨rfl, _⟩ := r2
      cases e
      exact op_le pins s σ H _ _ v u Q I rx ry ⟨i, j, rfl, rfl, fin⟩
    · cases e
  | gt =>
    intro pins s σ H x y v u Q I rx ry q
    obtain ⟨ρ, st, H0, ρ2, st2, d1, d2, F1, F2, sr, n, r1, r2, q⟩ := q
    obtain ⟨c, e, q⟩ := opt_ok q
    have fin : Q (.bl c) H := Post.ret q (n.less (List.nil_sublist _)) ⟨rfl, rfl⟩
    simp only [cmpD] at e
    split at e
    · rename_i i j
      obtain ⟨rfl, _⟩ := r1
      obtain ⟨rfl, _⟩ := r2
      cases e
      exact op_gt pins s σ H _ _ v u Q I rx ry ⟨i, j, rfl, rfl, fin⟩
    · cases e
  | ge =>
    intro pins s σ H x y v u Q I rx ry q
    obtain ⟨ρ, st, H0, ρ2, st2, d1, d2, F1, F2, sr, n, r1, r2, q⟩ := q
    obtain ⟨c, e, q⟩ := opt_ok q
    have fin : Q (.bl c) H := Post.ret q (n.less (List.nil_sublist _)) ⟨rfl, rfl⟩
    simp only [cmpD] at e
    split at e
    · rename_i i j
      obtain ⟨rfl, _⟩ := r1
      obtain ⟨rfl, _⟩ := r2
      cases e
      exact op_ge pins s σ H _ _ v u Q I rx ry ⟨i, j, rfl, rfl, fin⟩
    · cases e
end
end Fs
namespace Fs
open PySem L2 PyProof.Rows PySem.Spec
section
variable {X : L2.Cx} {T : Tbl} {Z : Wc} {W : WX} {σ0 : L2.St} {a b c e o i : Expr} {A B C : Ex} {pos p2 : Pos}
/-! subscripts -/
theorem ix_ok (hK : X.K = Z.K) (hu : X.A.units + 1 < cLine) : IxR X (rB Z W σ0 getI) := by
  intro value slice pins s σ H x y v u Q I rx ry h hs
  obtain ⟨ρ, st, H0, ρ2, st2, d1, d2, F1, F2, sr, n, r1, r2, h⟩ := h
  have dict : ∀ kvs k y', dicv st2 d1 = some kvs → keyOf d2 = some k → okKeys k kvs = true → dget k kvs = some y' → Post (Rp Z) Z W (.ok y' st2) ρ σ0 H0 Q → wpAny (model X.prog X.w) X.A (subscriptTail value slice v u) (EP X pins σ Q) X.xe s := by
    intro kvs k y' hd hk ok hg h
    obtain ⟨j, rfl, rfl, rfl⟩ := key_ok r2 hk
    obtain ⟨H', a, ws, G, rfl, I', n', ha, rk, hs', _, _⟩ := dK_now I sr n (fun b hb => by simpa using hb) r1 hd ok
    obtain rfl : v = Value.ref a := rx
    have hv := dget_ok (k := j) rk
    rw [hg] at hv
    obtain ⟨v', G', e1, r', hs2⟩ := hv
    have g : DGet H' a (kV j) (some v') := by rw [← e1]; exact DGet.k ha
    refine tail_any (dict_typeIs I' g) PySem.F.slot_dict_getitem.lookup (d_getItem hu I' g ry fun w' s' I2 rw' => ⟨v', H', I2, rw', ?_⟩) hs
    exact Post.ok h (n'.less (by rw [List.append_nil]; exact hs2.trans hs')) r'
  unfold getI at h
  split at h
  · rename_i k
    obtain ⟨rfl, rfl⟩ := r2
    split at h
    · rename_i z
      obtain ⟨rfl, rfl⟩ := r1
      split at h
      · rename_i hz
        split at h
        · rename_i c hc
          exact ix_seq value slice pins s σ H _ _ v u Q I rx ry (.inr (.inr ⟨z, k, c, rfl, rfl, hz, hc, Post.ok h n ⟨rfl, rfl⟩⟩)) hs
        · exact h.elim
      · exact h.elim
    · split at h
      · rename_i xs hx
        split at h
        · rename_i y' hy
          obtain ⟨a, vs, G, rfl, ha, rs, sub⟩ := seqv_ok n.sr r1 hx
          have hat : ∃ v' G', atI vs k = some v' ∧ Rp Z ρ2 H y' v' G' ∧ G'.Sublist G := by
            unfold atI at hy ⊢
            rw [← rs.length]
            cases hj : ixN xs.length k with
            | none => simp [hj] at hy
            | some j =>
              simp only [hj, Option.bind_some] at hy ⊢
              exact rs.get hy
          obtain ⟨v', G', hv, r', sub'⟩ := hat
          have fin : Q v' H := Post.ok h (n.less (by rw [List.append_nil]; exact sub'.trans sub)) r'
          rcases ha with ha | ha
          · exact ix_seq value slice pins s σ H _ _ v u Q I rx ry (.inl ⟨a, vs, k, v', rfl, rfl, by rw [hK]; exact ha, hv, fin⟩) hs
          · exact ix_seq value slice pins s σ H _ _ v u Q I rx ry (.inr (.inl ⟨a, vs, k, v', rfl, rfl, by rw [hK]; exact ha, hv, fin⟩)) hs
        · exact h.elim
      · split at h
        · rename_i kvs hd
          split at h
          · rename_i ok
            split at h
            · rename_i y' hg
              exact dict kvs _ y' hd rfl ok hg h
            · exact h.elim
          · exact h.elim
        · exact h.elim
  · split at h
    · rename_i q kvs hk hd
      split at h
      · rename_i ok
        split at h
        · rename_i y' hg
          exact dict kvs q y' hd hk ok hg h
        · exact h.elim
      · exact h.elim
    · exact h.elim
theorem se_sub (hK : X.K = Z.K) (hu : X.A.units + 1 < cLine) (ha : PE X a (iE T Z W A)) (hb : PE X b (iE T Z W B)) (hs : PlainIx b) : PE X (.Subscript a b pos) (iE T Z W (.sub A B)) :=
  ⟨fun pins s σ H Q I q => by
    refine (pe_ix (ix_ok (W := W) (σ0 := σ) hK hu) ha hb hs).run pins s σ H Q I ?_
    obtain ⟨ρ, env, st, er, sr, h⟩ := q
    simp only [ev] at h
    exact two_ok ⟨ρ, env, st, er, sr, h⟩⟩
/-! slices -/
def iO (T : Tbl) (Z : Wc) (W : WX) (o : Option Ex) : TO := fun σ H Q => ∃ ρ env st, ER Z ρ H env σ ∧ SR Z ρ st H ∧ Post (RelEq (Option Int)) Z W (evo T o env st) ρ σ H Q
theorem so_none : PO X none (iO T Z W none) := ⟨fun pins s σ H Q I h => po_none.run pins s σ H Q I (by
  obtain ⟨ρ, env, st, er, sr, h⟩ := h
  simp only [evo] at h
  exact Post.ret h (Now.start sr) ⟨rfl, rfl⟩)⟩
theorem so_some (ha : PE X a (iE T Z W A)) : PO X (some a) (iO T Z W (some A)) := ⟨fun pins s σ H Q I h => (po_some ha).run pins s σ H Q I (by
  obtain ⟨ρ, env, st, er, sr, h⟩ := h
  simp only [evo] at h
  refine ⟨ρ, env, st, er, sr, (Post.seq rpOk (Now.start sr) sr h).mono ?_⟩
  rintro x H1 ⟨ρ1, d1, st1, F1, n1, t1, r1, h1⟩
  cases d1 with
  | int i =>
    obtain ⟨rfl, rfl⟩ := r1
    exact ⟨i, rfl, Post.ret h1 n1 ⟨rfl, rfl⟩⟩
  | _ => exact h1.elim)⟩
/-- what a slice is asked for -/
def rSlc (Z : Wc) (W : WX) (σ : L2.St) : V → Option Int → Option Int → Hp → VK → Prop := fun x lo hi H2 Q => ∃ ρ st H ρ2 st2 d F, SR Z ρ st H ∧ Now Z ρ H ρ2 st2 H2 F ∧ Rp Z ρ2 H2 d x F ∧ Post (Rp Z) Z W (slcD d lo hi st2) ρ σ H Q
theorem rps_cut {ρ : List Addr} {H : Hp} {xs : List D} {vs : List V} {F : List Addr} (r : Rps Z ρ H xs vs F) (lo hi : Option Int) : ∃ G, Rps Z ρ H (cutD xs lo hi) (cutV vs lo hi) G ∧ G.Sublist F := by
  unfold cutD cutV
  rw [← r.length]
  obtain ⟨G1, r1, s1⟩ := r.drop (HT.sIx xs.length 0 lo)
  obtain ⟨G2, r2, s2⟩ := r1.take (HT.sIx xs.length xs.length hi - HT.sIx xs.length 0 lo)
  exact ⟨G2, r2, s2.trans s1⟩
theorem slc_ok (hK : X.K = Z.K) : SlR X (rSlc Z W σ0) := by
  intro pins s σ H x v vl vu lo hi sl Q I rx hs pl pu h
  obtain ⟨ρ, st, H0, ρ2, st2, d, F, sr, n, r, h⟩ := h
  unfold slcD at h
  split at h
  · rename_i xs
    obtain ⟨a, vs, rfl, ha, rs⟩ := r
    obtain ⟨G, rc, sub⟩ := rps_cut rs lo hi
    refine sl_tupA pins s σ H _ v vl vu lo hi sl Q I rx hs pl pu ⟨a, vs, rfl, by rw [hK]; exact ha, fun e => ?_, fun _ p hp => ?_⟩
    · refine Post.ok h (n.less sub) ⟨a, _, rfl, ?_, rc⟩
      have : cutV vs lo hi = vs := by
        unfold cutV
        rw [e.1, e.2]
        simp
      rw [this]; exact ha
    · exact Post.ok h ((n.newS sr hp).less sub) ⟨p, _, rfl, SqT.of upd_same, rps_up hp rc⟩
  · split at h
    · rename_i xs hx
      obtain ⟨a, vs, G, rfl, ha, rs, sub⟩ := lstv_ok n.sr r hx
      obtain ⟨G2, rc, sub2⟩ := rps_cut rs lo hi
      refine sl_list pins s σ H _ v vl vu lo hi sl Q I rx hs pl pu ⟨a, vs, rfl, SqL.of ha, fun p hp => ?_⟩
      exact Post.ok h ((n.new sr hp).less (List.cons_sublist_cons.mpr (sub2.trans sub))) ⟨p, _, G2, rfl, upd_same, rps_up hp rc, rfl⟩
    · exact h.elim
theorem se_slc {lo hi : Option Expr} {L U : Option Ex} (hK : X.K = Z.K) (ha : PE X a (iE T Z W A)) (hl : PO X lo (iO T Z W L)) (hu : PO X hi (iO T Z W U)) : PE X (.Subscript a (.Slice lo hi none p2) pos) (iE T Z W (.slc A L U)) :=
  ⟨fun pins s σ H Q I q => by
    refine (pe_slice (slc_ok (W := W) (σ0 := σ) hK) ha hl hu).run pins s σ H Q I ?_
    obtain ⟨ρ, env, st, er, sr, h⟩ := q
    simp only [ev] at h
    refine ⟨ρ, env, st, er, sr, (Post.seq rpOk (Now.start sr) sr h).mono ?_⟩
    rintro x H1 ⟨ρ1, d1, st1, F1, n1, t1, r1, h1⟩
    refine ⟨ρ1, env, st1, t1.env sr er, n1.sr, (Post.seq reqOk n1 sr h1).mono ?_⟩
    rintro l H2 ⟨ρ2, d2, st2, F2, n2, t2, ⟨rfl, rfl⟩, h2⟩
    refine ⟨ρ2, env, st2, t2.env n1.sr (t1.env sr er), n2.sr, (Post.seq reqOk n2 sr h2).mono ?_⟩
    rintro u H3 ⟨ρ3, d3, st3, F3, n3, t3, ⟨rfl, rfl⟩, h3⟩
    refine ⟨ρ, st, H, ρ3, st3, d1, F1, sr, by simpa using n3, ?_, h3⟩
    exact t3.val n2.sr (fun a ha => n2.out a (List.mem_append_left _ (List.mem_append_right _ ha))) (t2.val n1.sr (fun a ha => n1.out a (List.mem_append_right _ ha)) r1)⟩
theorem se_rev {k : Nat} {q1 q2 q3 : Pos} (ha : PE X a (iE T Z W A)) : PE X (.Subscript a (.Slice none none (some (.UnaryOp .USub (.Constant (.int 1) k q1) q2)) q3) pos) (iE T Z W (.rev A)) :=
  ⟨fun pins s σ H Q I q => by
    refine (pe_revL ha).run pins s σ H Q I ?_
    obtain ⟨ρ, env, st, er, sr, h⟩ := q
    simp only [ev] at h
    refine ⟨ρ, env, st, er, sr, (Post.seq rpOk (Now.start sr) sr h).mono ?_⟩
    rintro x H1 ⟨ρ1, d1, st1, F1, n1, t1, r1, h1⟩
    unfold revD at h1
    split at h1
    · rename_i xs hx
      obtain ⟨a, vs, G, rfl, ha, rs, sub⟩ := lstv_ok n1.sr r1 hx
      obtain ⟨G2, rc, pm⟩ := rs.reverse
      refine ⟨a, vs, rfl, SqL.of ha, fun p hp => ?_⟩
      have n2 := (n1.new (o := .lst vs.reverse) sr hp).less (List.cons_sublist_cons.mpr sub)
      exact Post.ok h1 (n2.perm (List.Perm.cons p pm)) ⟨p, _, G2, rfl, upd_same, rps_up hp rc, rfl⟩
    · exact h1.elim⟩
/-! bools as values -/
theorem tru_is {ρ : List Addr} {H : Hp} {st : Sto} {d : D} {x : V} {F : List Addr} {k : Bool} (s : SR Z ρ st H) (r : Rp Z ρ H d x F) (e : truth st d = some k) : TruV Z.K x H k := by
  cases d with
  | non => obtain ⟨rfl, _⟩ := r; simp only [truth, Option.some.injEq] at e; exact e.symm
  | bl b => obtain ⟨rfl, _⟩ := r; simp only [truth, Option.some.injEq] at e; exact e.symm
  | int i => obtain ⟨rfl, _⟩ := r; simp only [truth, Option.some.injEq] at e; exact e.symm
  | str z =>
    obtain ⟨rfl, _⟩ := r
    simp only [truth] at e
    split at e
    · rename_i hz; cases e; exact ⟨hz, rfl⟩
    · cases e
  | tup ds =>
    obtain ⟨p, vs, rfl, hp, r⟩ := r
    simp only [truth, Option.some.injEq] at e
    exact .inr (.inl ⟨vs, hp, by rw [← e]; cases ds <;> cases vs <;> simp_all [Rps]⟩)
  | lst ds =>
    obtain ⟨p, vs, G, rfl, hp, r, _⟩ := r
    simp only [truth, Option.some.injEq] at e
    exact .inl ⟨vs, SqL.of hp, by rw [← e]; cases ds <;> cases vs <;> simp_all [Rps]⟩
  | ref l =>
    obtain ⟨p, hl, rfl, _⟩ := r
    cases hc : st[l]? with
    | none => simp [truth, hc] at e
    | some cc =>
      have rc := s.cell l cc p hc hl
      cases cc with
      | lst ds =>
        simp only [truth, hc, Option.some.injEq] at e
        obtain ⟨p', vs, G, z, hp, r, _⟩ := rc
        cases z
        exact .inl ⟨vs, SqL.of hp, by rw [← e]; cases ds <;> cases vs <;> simp_all [Rps]⟩
      | frl ds =>
        simp only [truth, hc, Option.some.injEq] at e
        obtain ⟨p', o, vs, G, z, hp, r, _⟩ := rc
        cases z
        exact .inl ⟨vs, .inl (.inr ⟨o, hp⟩), by rw [← e]; cases ds <;> cases vs <;> simp_all [Rps]⟩
      | _ => simp [truth, hc] at e
  | _ => simp [truth] at e
theorem se_nt {C1 : Ex} (hK : X.K = Z.K) (ha : PE X a (iE T Z W C1)) : PE X (.UnaryOp .Not a pos) (iE T Z W (.nt (.val C1))) :=
  ⟨fun pins s σ H Q I q => by
    refine (pe_notT ha).run pins s σ H Q I ?_
    obtain ⟨ρ, env, st, er, sr, h⟩ := q
    simp only [ev, evT] at h
    refine ⟨ρ, env, st, er, sr, ?_⟩
    have h' : Post (Rp Z) Z W (bnd (ev T C1 env) (fun x st => bnd (fun st => opt (truth st x) ret st) (fun c => ret (.bl (!c))) st) st) ρ σ H Q := by
      unfold bnd at h ⊢
      cases e : ev T C1 env st <;> simpa only [e] using h
    refine (Post.seq rpOk (Now.start sr) sr h').mono ?_
    rintro x H1 ⟨ρ1, d1, st1, F1, n1, t1, r1, h1⟩
    unfold bnd at h1
    cases e : truth st1 d1 with
    | none => simp only [e, opt, bad] at h1; exact h1.elim
    | some k =>
      simp only [e, opt, ret] at h1
      exact ⟨k, by rw [hK]; exact tru_is n1.sr r1 e, Post.ok h1 (n1.less (List.nil_sublist _)) ⟨rfl, rfl⟩⟩⟩
theorem se_one {op : BoolOp} (ha : PE X a (iE T Z W A)) : PE X (.BoolOp op [a] pos) (iE T Z W A) := pe_one ha
theorem se_and {rest : List Expr} (ha : PE X a (iE T Z W A)) (hb : PE X (.BoolOp .And (b :: rest) pos) (iE T Z W B)) : PE X (.BoolOp .And (a :: b :: rest) pos) (iE T Z W (.and2 A B)) :=
  ⟨fun pins s σ H Q I q => by
    refine (pe_and ha hb).run pins s σ H Q I ?_
    obtain ⟨ρ, env, st, er, sr, h⟩ := q
    simp only [ev] at h
    refine ⟨ρ, env, st, er, sr, (Post.seq rpOk (Now.start sr) sr h).mono ?_⟩
    rintro x H1 ⟨ρ1, d1, st1, F1, n1, t1, r1, h1⟩
    cases d1 with
    | bl c =>
      obtain ⟨rfl, rfl⟩ := r1
      refine ⟨c, rfl, ?_⟩
      cases c with
      | true => exact ⟨ρ1, env, st1, t1.env sr er, n1.sr, h1.tail rpOk n1 sr⟩
      | false => exact Post.ok h1 n1 ⟨rfl, rfl⟩
    | _ => exact h1.elim⟩
theorem se_or {rest : List Expr} (ha : PE X a (iE T Z W A)) (hb : PE X (.BoolOp .Or (b :: rest) pos) (iE T Z W B)) : PE X (.BoolOp .Or (a :: b :: rest) pos) (iE T Z W (.or2 A B)) :=
  ⟨fun pins s σ H Q I q => by
    refine (pe_or ha hb).run pins s σ H Q I ?_
    obtain ⟨ρ, env, st, er, sr, h⟩ := q
    simp only [ev] at h
    refine ⟨ρ, env, st, er, sr, (Post.seq rpOk (Now.start sr) sr h).mono ?_⟩
    rintro x H1 ⟨ρ1, d1, st1, F1, n1, t1, r1, h1⟩
    cases d1 with
    | bl c =>
      obtain ⟨rfl, rfl⟩ := r1
      refine ⟨c, rfl, ?_⟩
      cases c with
      | false => exact ⟨ρ1, env, st1, t1.env sr er, n1.sr, h1.tail rpOk n1 sr⟩
      | true => exact Post.ok h1 n1 ⟨rfl, rfl⟩
    | _ => exact h1.elim⟩
/-- ints compared -/
theorem cmpI_op {op : Cop} : OpR X (compareOp (pyC op)) (fun x y H Q => ∃ i j b, x = .int i ∧ y = .int j ∧ cmpI op i j = some b ∧ Q (.bl b) H) := by
  intro pins s σ H x y v u Q I rx ry ⟨i, j, b, ex, ey, e, q⟩
  subst ex ey
  cases op with
  | lt => cases e; exact op_lt pins s σ H _ _ v u Q I rx ry ⟨i, j, rfl, rfl, q⟩
  | le => cases e; exact op_le pins s σ H _ _ v u Q I rx ry ⟨i, j, rfl, rfl, q⟩
  | gt => cases e; exact op_gt pins s σ H _ _ v u Q I rx ry ⟨i, j, rfl, rfl, q⟩
  | ge => cases e; exact op_ge pins s σ H _ _ v u Q I rx ry ⟨i, j, rfl, rfl, q⟩
  | _ => cases e
/-- a op1 b op2 c -/
theorem se_chn {o1 o2 : Cop} (ha : PE X a (iE T Z W A)) (hb : PE X b (iE T Z W B)) (hc : PE X c (iE T Z W C)) (hm : lastMarks [pyC o1, pyC o2] [b, c] = false) : PE X (.Compare a [pyC o1, pyC o2] [b, c] pos) (iE T Z W (.chn o1 o2 A B C)) :=
  ⟨fun pins s σ H Q I q => by
    refine (pe_chain cmpI_op cmpI_op ha hb hc hm).run pins s σ H Q I ?_
    obtain ⟨ρ, env, st, er, sr, h⟩ := q
    simp only [ev] at h
    refine ⟨ρ, env, st, er, sr, (Post.seq rpOk (Now.start sr) sr h).mono ?_⟩
    rintro x H1 ⟨ρ1, d1, st1, F1, n1, t1, r1, h1⟩
    cases d1 with
    | int i =>
      obtain ⟨rfl, rfl⟩ := r1
      refine ⟨ρ1, env, st1, t1.env sr er, n1.sr, (Post.seq rpOk n1 sr (by simpa only [intv, opt] using h1)).mono ?_⟩
      rintro y H2 ⟨ρ2, d2, st2, F2, n2, t2, r2, h2⟩
      cases d2 with
      | int j =>
        obtain ⟨rfl, rfl⟩ := r2
        simp only [intv, opt] at h2
        cases e : cmpI o1 i j with
        | none => rw [e] at h2; exact h2.elim
        | some k =>
          rw [e] at h2
          refine ⟨i, j, k, rfl, rfl, e, k, rfl, ?_⟩
          cases k with
          | false => exact Post.ok h2 n2 ⟨rfl, rfl⟩
          | true =>
            rw [if_pos rfl]
            refine ⟨ρ2, env, st2, t2.env n1.sr (t1.env sr er), n2.sr, (Post.seq rpOk n2 sr h2).mono ?_⟩
            rintro z H3 ⟨ρ3, d3, st3, F3, n3, t3, r3, h3⟩
            cases d3 with
            | int m =>
              obtain ⟨rfl, rfl⟩ := r3
              simp only [intv, opt] at h3
              cases e2 : cmpI o2 j m with
              | none => rw [e2] at h3; exact h3.elim
              | some k2 => rw [e2] at h3; exact ⟨j, m, k2, rfl, rfl, e2, Post.ok h3 n3 ⟨rfl, rfl⟩⟩
            | _ => exact h3.elim
      | _ => exact h2.elim
    | _ => exact h1.elim⟩
/-! stores -/
theorem postA_seq {m : M D} {f : D → M Env} {st : Sto} {ρ : List Addr} {H : Hp} {F : List Addr} {L : List Nat} {σ : L2.St} {Q : L2.St → Hp → Prop} (h : PostA Z (bnd m f st) ρ H F L σ Q) : ∃ d st', m st = .ok d st' ∧ PostA Z (f d st') ρ H F L σ Q := by
  unfold bnd at h
  cases e : m st with
  | ok d s' => rw [e] at h; exact ⟨d, s', rfl, h⟩
  | exc x s' => rw [e] at h; exact h.elim
  | bad => rw [e] at h; exact h.elim
end
end Fs
namespace Fs
open PySem L2 PyProof.Rows PySem.Spec
section
variable {Z : Wc} {ρ : List Addr} {H : Hp}
/-! a dict's entry is written -/
theorem putK_cons {j k : L2.Key} {u v : V} {r : List (L2.Key × V)} (nd : j = k → valV r k = none) : putK ((j, u) :: r) k v = if j = k then (j, v) :: r else (j, u) :: putK r k v := by
  unfold putK
  rw [List.any_cons, valV_any]
  by_cases h : j = k
  · subst h
    have : r.map (fun kv => if kv.1 = j then (kv.1, v) else kv) = r := by
      have nn := nd rfl
      have : ∀ kv ∈ r, kv.1 ≠ j := fun kv hm e => by
        have h2 : (r.any fun kv => decide (kv.1 = j)) = true := List.any_eq_true.mpr ⟨kv, hm, by simpa using e⟩
        rw [valV_any, nn] at h2
        cases h2
      conv => rhs; rw [← List.map_id r]
      exact List.map_congr_left fun kv hm => by simp [this kv hm]
    simp [this]
  · simp only [h, decide_false, Bool.false_or, if_false]
    split
    · simp [h]
    · rfl
theorem dput_ok {k : L2.Key} {d : D} {v : V} (r0 : Rp Z ρ H d v []) : ∀ {kvs : List (Ky × D)} {ws : List (L2.Key × V)} {F : List Addr}, (kvs.map (·.1)).Nodup → RpK Z ρ H kvs ws F → ∃ G, RpK Z ρ H (dput (.k k) d kvs) (putK ws k v) G ∧ G.Sublist F
  | [], ws, F, nd, r => by
    obtain ⟨rfl, rfl⟩ := r
    exact ⟨[], ⟨k, v, [], [], [], rfl, rfl, r0, ⟨rfl, rfl⟩, rfl⟩, List.Sublist.refl _⟩
  | (q, x) :: kvs, ws, F, nd, r => by
    obtain ⟨j, u, ws', F1, F2, rfl, rfl, r1, r2, rfl⟩ := r
    have nd' := List.nodup_cons.mp (show (Ky.k j :: kvs.map (·.1)).Nodup from nd)
    rw [putK_cons (fun e => ?_)]
    · simp only [dput]
      by_cases h : j = k
      · subst h
        rw [if_pos rfl, if_pos rfl]
        exact ⟨F2, ⟨j, v, ws', [], F2, rfl, rfl, r0, r2, rfl⟩, List.sublist_append_right _ _⟩
      · rw [if_neg (by simpa using h), if_neg h]
        obtain ⟨G, a, b⟩ := dput_ok (k := k) r0 nd'.2 r2
        exact ⟨F1 ++ G, ⟨j, u, _, F1, G, rfl, rfl, r1, a, rfl⟩, List.Sublist.append (List.Sublist.refl _) b⟩
    · subst e
      have h := dget_ok (k := j) r2
      cases hg : dget (.k j) kvs with
      | none => rw [hg] at h; exact h
      | some y =>
        exfalso
        apply nd'.1
        clear h nd nd' r2
        induction kvs with
        | nil => simp [dget] at hg
        | cons p t ih =>
          obtain ⟨a, b⟩ := p
          simp only [dget] at hg
          split at hg
          · rename_i e; simp [e]
          · simp only [List.map_cons, List.mem_cons]
            exact .inr (ih hg)
/-- a held dict has each key once -/
theorem RpK.keysEq : ∀ {kvs : List (Ky × D)} {ws : List (L2.Key × V)} {F : List Addr}, RpK Z ρ H kvs ws F → kvs.map (·.1) = ws.map (fun p => Ky.k p.1)
  | [], _, _, r => by obtain ⟨rfl, _⟩ := r; rfl
  | (q, d) :: kvs, _, _, r => by
    obtain ⟨j, u, ws', F1, F2, rfl, rfl, r1, r2, rfl⟩ := r
    simp [RpK.keysEq r2]
end
section
variable {X : L2.Cx} {pins : List (Addr × Obj)} {σ : L2.St} {H : Hp} {s : Shared} {a : Addr} {ws : List (L2.Key × V)}
theorem KV.keys : ∀ {ws : List (L2.Key × V)} {vs : List (L2.Key × Value)}, L2.KV ws vs → ws.map (·.1) = vs.map (·.1)
  | _, _, .nil => rfl
  | _, _, .cons r t => by
    have := KV.keys t
    simp_all
theorem dK_nodup (I : Inv X pins σ H s) (h : H a = some (.dK ws)) : (ws.map (·.1)).Nodup := by
  obtain ⟨_, _, vs, kv, o, es, ep, _, _, _, _, _, nd⟩ := I.hok a _ h
  rw [KV.keys kv]
  exact nd
theorem ky_nodup {l : List L2.Key} (h : l.Nodup) : (l.map Ky.k).Nodup := by
  refine List.pairwise_map.mpr (h.imp ?_)
  intro a b hab e
  exact hab (by injection e)
end
section
variable {X : L2.Cx} {T : Tbl} {Z : Wc} {W : WX} {o i : Expr} {A B : Ex} {pos : Pos}
theorem rps_set {ρ : List Addr} {H : Hp} {d : D} {v : V} (rl : Rp Z ρ H d v []) : ∀ {xs : List D} {vs : List V} {j : Nat}, Rps Z ρ H xs vs [] → Rps Z ρ H (xs.set j d) (vs.set j v) []
  | [], vs, j, h => by obtain ⟨rfl, _⟩ := h; simp [Rps]
  | x :: xs, vs, j, h => by
    obtain ⟨v1, ws, F1, F2, rfl, q1, q2, f⟩ := h
    obtain ⟨rfl, rfl⟩ := List.append_eq_nil_iff.mp f.symm
    cases j with
    | zero => exact ⟨v, ws, [], [], rfl, rl, q2, rfl⟩
    | succ j => exact ⟨v1, ws.set j v, [], [], rfl, q1, rps_set rl q2, rfl⟩
/-- what a store is asked for -/
def rSt (Z : Wc) : TSet := fun x y v H2 Q => ∃ ρ st d1 d2 d F G1 G2, Hand Z ρ st H2 F ∧ Rp Z ρ H2 d1 x G1 ∧ Rp Z ρ H2 d2 y G2 ∧ Rp Z ρ H2 d v F ∧ ∃ st', setI d1 d2 d st = .ok () st' ∧
  ∀ ρ' H', StpF ρ H2 F ρ' H' → SR Z ρ' st' H' → (∃ N a o, ρ' = ρ ++ N ∧ a ∈ ρ ∧ H' = upd H2 a o) → Q H'
theorem StpF.wr {ρ N F : List Addr} {H : Hp} {st' : Sto} {a : Addr} {o' : HO} (h : StpF ρ H F (ρ ++ N) H) (ha : a ∈ ρ) : StpF ρ H F (ρ ++ N) (upd H a o') := by
  obtain ⟨M, e, nd, f, k⟩ := h
  exact ⟨M, e, nd, f, fun b u q z y => by rw [upd_ne (fun w => z (by rw [w]; exact ha))]; exact k b u q z y⟩
theorem set_ok (hu : X.A.units + 1 < cLine) : PSet X (rSt Z) := by
  intro pins s σ H x y v xv yv u Q I rx ry rv h
  obtain ⟨ρ, st, d1, d2, d, F, G1, G2, hd, r1, r2, r, st', e0, h⟩ := h
  obtain ⟨N, pm, sr', rl⟩ := land_ok d hd.sr r hd.out hd.nd
  have stp : StpF ρ H F (ρ ++ N) H := ⟨N, rfl, pm.nodup_iff.mpr hd.nd, fun b hb => .inl (pm.mem_iff.mp hb), fun _ _ e _ _ => e⟩
  unfold setI at e0
  split at e0
  · rename_i l
    obtain ⟨a, hl, rfl, _⟩ := r1
    have hm : a ∈ ρ := List.mem_of_getElem? hl
    have hl' : (ρ ++ N)[l]? = some a := get_append l a hl
    split at e0
    · rename_i xs hc
      split at e0
      · rename_i k
        obtain ⟨rfl, _⟩ := r2
        split at e0
        · rename_i j hj
          obtain ⟨b, vs, G, z, ha, rs, f⟩ := hd.sr.cell l _ a hc hl
          cases z
          obtain rfl : G = [] := by injection f with _ f; exact f.symm
          refine set_list pins s σ H _ _ _ xv yv u Q I rx ry rv ⟨a, vs, k, j, rfl, rfl, ha, by rw [← rs.length]; exact hj, ?_⟩
          cases e0
          refine h (ρ ++ N) _ (stp.wr (st' := st) hm) (sr'.wr hl' rfl ?_) ⟨N, a, _, rfl, hm, rfl⟩
          refine ⟨a, vs.set j v, [], rfl, upd_same, ?_, rfl⟩
          refine Rps.updF ha rfl (by simp) ?_
          exact rps_set rl rs.wide
        · exact nomatch e0
      · exact nomatch e0
    · rename_i kvs hc
      split at e0
      · rename_i q hk
        split at e0
        · rename_i hz
          obtain ⟨k, rfl, rfl, _⟩ := key_ok r2 hk
          have hcell := hd.sr.cell l _ a hc hl
          cases e0
          have fin : ∀ H1, Inv X pins σ H1 s → (∃ ws, H1 a = some (.dK ws) ∧ RpK Z (ρ ++ N) H1 kvs ws []) → (∀ ws, upd H1 a (.dK ws) = upd H a (.dK ws)) → Rp Z (ρ ++ N) H1 (land d st).1 v [] → wpAny (model X.prog X.w) X.A (setItem xv yv u) (fun _ s' => ∃ H', Inv X pins σ H' s' ∧ Q H') X.xe s := by
            intro H1 I1 ⟨ws, ha, rk⟩ hup rl1
            have nd := dK_nodup I1 ha
            have nd2 : (kvs.map (·.1)).Nodup := by
              rw [rk.keysEq]
              have := ky_nodup nd
              rwa [List.map_map] at this
            obtain ⟨G, rp, hs⟩ := dput_ok (k := k) rl1 nd2 rk
            obtain rfl := List.sublist_nil.mp hs
            have hlen : kvs.length = ws.length := by
              have := congrArg List.length rk.keysEq
              simpa using this
            refine set_dict hu pins s σ H1 _ _ _ xv yv u Q I1 rx ry rv ⟨a, _, rfl, DPut.k ha (by rw [← hlen]; exact hz.2), ?_⟩
            rw [hup]
            refine h (ρ ++ N) _ (stp.wr (st' := st) hm) (sr'.wr hl' rfl ⟨a, [], rfl, rfl, .inl ⟨_, upd_same, ?_⟩⟩) ⟨N, a, _, rfl, hm, rfl⟩
            have := RpK.stay (ρ' := ρ ++ N) (H' := upd H1 a (.dK (putK ws k v))) (fun _ _ e => e) (upd_keep ha rfl) (by simp) rp
            rwa [hup] at this
          obtain ⟨b, G, z, f, hh⟩ := hcell
          cases z
          obtain rfl : G = [] := by injection f with _ f; exact f.symm
          rcases dK_of hh hz.1 with ⟨ws, ha, rk⟩ | ⟨ha, rfl, _⟩
          · exact fin H I ⟨ws, ha, rk.wide⟩ (fun _ => rfl) rl
          · exact fin _ (retag I ha) ⟨[], upd_same, ⟨rfl, rfl⟩⟩ (fun _ => upd_upd) (rl.updF ha rfl (by simp))
        · exact nomatch e0
      · exact nomatch e0
    · exact nomatch e0
  · exact nomatch e0
theorem sg_sub (hu : X.A.units + 1 < cLine) (ho : PE X o (iE T Z W A)) (hi : PE X i (iE T Z W B)) (ha : ∀ v, assign (.Subscript o i pos) X.env v = (do
      let ov ← holding [v] (eval o X.env)
      let iv ← holding [v, ov] (eval i X.env)
      standAt pos
      holding [v, ov, iv] (setItem ov iv v)
      release [v, ov, iv] [])) : PG X (.Subscript o i pos) (iG T Z (.sub A B)) :=
  ⟨fun pins s σ H v u Q I r q => by
    refine (pg_sub ho hi (set_ok (Z := Z) hu) ha).run pins s σ H v u Q I r ?_
    obtain ⟨ρ, env, st, d, F, hd, er, rd, h⟩ := q
    simp only [asgT] at h
    obtain ⟨d1, st1, e1, h⟩ := postA_seq h
    obtain ⟨d2, st2, e2, h⟩ := postA_seq h
    refine ⟨ρ, env, st, er, hd.sr, post_ok e1 ?_⟩
    intro ρ1 H1 x G1 t1 sr1 r1
    refine ⟨ρ1, env, st1, t1.env hd.sr er, sr1, post_ok e2 ?_⟩
    intro ρ2 H2 y G2 t2 sr2 r2
    have n1 : Now Z ρ H ρ1 st1 H1 G1 := ⟨t1, sr1, fun a ha => r1.there a ha, t1.out hd.sr, t1.nodup⟩
    have n2 : Now Z ρ H ρ2 st2 H2 (G1 ++ G2) := n1.more hd.sr t2 sr2 r2.there
    have r1' := t2.val sr1 n1.out r1
    have rd1 : Rp Z ρ1 H1 d v F := t1.val hd.sr hd.out rd
    have off1 : ∀ a ∈ F, a ∉ ρ1 := fun a ha z => by
      obtain ⟨N, e, _, f, _⟩ := t1
      rw [e] at z
      rcases List.mem_append.mp z with z | z
      · exact hd.out a ha z
      · exact hd.th a ha (f a (List.mem_append_left _ z))
    have rd2 : Rp Z ρ2 H2 d v F := t2.val sr1 off1 rd1
    have off2 : ∀ a ∈ F, a ∉ ρ2 := fun a ha z => by
      obtain ⟨N, e, _, f, _⟩ := n2.stp
      rw [e] at z
      rcases List.mem_append.mp z with z | z
      · exact hd.out a ha z
      · exact hd.th a ha (f a (List.mem_append_left _ z))
    obtain ⟨st', e3, h⟩ : ∃ st', setI d1 d2 d st2 = .ok () st' ∧ PostA Z (.ok env st') ρ H F (tgN (.sub A B)) σ Q := by
      unfold bnd at h
      cases e : setI d1 d2 d st2 with
      | ok u s' => rw [e] at h; exact ⟨s', rfl, h⟩
      | exc x s' => rw [e] at h; exact h.elim
      | bad => rw [e] at h; exact h.elim
    refine ⟨ρ2, st2, d1, d2, d, F, G1, G2, ⟨sr2, hd.nd, off2, rd2.there⟩, r1', r2, rd2, st', e3, fun ρ' H' t3 sr3 w => ?_⟩
    have er2 := n2.stp.env hd.sr er
    obtain ⟨N, a, o', rfl, ha, rfl⟩ := w
    refine h _ _ σ ?_ sr3 ?_ Sm.id
    · obtain ⟨M, eM, nd, f, k⟩ := n2.stp
      obtain ⟨N', e', nN, fN, kN⟩ := t3
      obtain rfl : N = N' := List.append_cancel_left e'
      subst eM
      refine ⟨M ++ N, by simp [List.append_assoc], ?_, ?_, fun b o q z y => ?_⟩
      · refine List.nodup_append.mpr ⟨(List.nodup_append.mp nd).1, nN, fun b hb c hc e => ?_⟩
        subst e
        rcases fN b hc with z | z
        · exact hd.th b z (f b (List.mem_append_left _ hb))
        · exact sr2.has (List.mem_append_right _ hb) z
      · intro b hb
        rcases List.mem_append.mp hb with hb | hb
        · exact .inr (f b (List.mem_append_left _ hb))
        · rcases fN b hb with z | z
          · exact .inl z
          · by_cases hr : b ∈ ρ
            · exact absurd z (sr2.has (List.mem_append_left _ hr))
            · cases e : H b with
              | none => exact .inr rfl
              | some o => have := k b o e hr; rw [z] at this; cases this
      · refine kN b o (k b o q z) (fun w => ?_) y
        rcases List.mem_append.mp w with w | w
        · exact z w
        · rw [f b (List.mem_append_left _ w)] at q; cases q
    · refine ⟨er2.1, fun j dj hj => ?_⟩
      obtain ⟨vj, hv, rj⟩ := er2.2 j dj hj
      obtain ⟨oa, hoa, hka⟩ := sr2.hcell ha
      exact ⟨vj, hv, (rj.updF hoa hka (by simp)).wide⟩⟩
end
end Fs
namespace Fs
open PySem PySem.Spec PyProof.Rows Srt
section
variable {prog : Program} {w : World} {A : Around} {s : Shared}
theorem swo_lexL (k : Value → List Int) : SrtO.Swo fun v u => lexL (k v) (k u) :=
  ⟨fun x y h => lex_asym h, fun x y z h1 h2 => lexLe_trans h1 h2⟩
def lexF (fin : Bool) : List Int → List Int → Bool
  | x :: xs, y :: ys => if x = y then lexF fin xs ys else decide (x < y)
  | _, _ => fin
theorem lexF_eq : ∀ {a b : List Int} {fin : Bool}, (fin = decide (a.length < b.length)) → lexF fin a b = lexL a b
  | [], [], fin, h => by simp [lexF, lexL, h]
  | [], _ :: _, fin, h => by simp [lexF, lexL, h]
  | _ :: _, [], fin, h => by simp [lexF, lexL, h]
  | x :: a, y :: b, fin, h => by
    have ih := lexF_eq (a := a) (b := b) (fin := fin) (by rw [h]; simp)
    simp only [lexF, lexL, ih]
theorem kat_ints {b fin : Bool} : ∀ {ms ns : List Int} {us vs : List Value}, IntsAre us ms → IntsAre vs ns → ∀ i : Nat, PySem.W.KatLex prog w A b fin (fun r s' => s' = s ∧ r = lexF fin ms ns) (us.zip vs) i s
  | [], _, _, _, .nil, _, i => PySem.W.kat_nil ⟨rfl, by simp [lexF]⟩
  | _ :: _, [], _, _, .cons .., .nil, i => PySem.W.kat_nil ⟨rfl, by simp [lexF]⟩
  | x :: ms, y :: ns, _, _, .cons _ t hu, .cons _ t' hv, i => by
    refine PySem.W.kat_cons (SeqAt.EqAt.int_int x t y t' prog w _ _ ?_)
    refine PySem.W.kat_go (fun e1 => ?_) (fun e1 => ?_)
    · have ex : x = y := by simpa using e1
      have e3 : lexF fin (x :: ms) (y :: ns) = lexF fin ms ns := by simp only [lexF, if_pos ex]
      rw [e3]
      exact PySem.W.kat_yes (kat_ints hu hv (i + 1))
    · have ex : ¬ x = y := by simpa using e1
      have e3 : lexF fin (x :: ms) (y :: ns) = decide (x < y) := by simp only [lexF, if_neg ex]
      rw [e3]
      exact PySem.W.kat_no (TS.oneLt_ints _ ⟨rfl, rfl⟩)
theorem tups_cmp {vs : List Value} {k : Value → List Int} (hp : ∀ v ∈ vs, TS.TupInts s.heap v (k v)) : SrtO.Cmp prog w A s (tuples' true) (fun p => p.1 ∈ vs) (SrtO.lt2 fun v u => lexL (k v) (k u)) := by
  intro p q hm hm'
  obtain ⟨a, xs, e, ⟨o, ho, hc, n, hd⟩, i⟩ := hp _ hm
  obtain ⟨a', xs', e', ⟨o', ho', hc', n', hd'⟩, i'⟩ := hp _ hm'
  show wpAny (model prog w) A (keyLt' (tuples' true) p.1 q.1) (fun r s' => s' = s ∧ r = lexL (k p.1) (k q.1)) (fun _ _ => False) s
  generalize k p.1 = m at i ⊢
  generalize k q.1 = m' at i' ⊢
  rw [e, e']
  refine PySem.W.kat_lt ho hd ho' hd' ?_
  have hl : m.length = xs.size := by have := i.length; simpa using this.symm
  have hl' : m'.length = xs'.size := by have := i'.length; simpa using this.symm
  have := kat_ints (prog := prog) (w := w) (A := A) (s := s) (b := true) (fin := decide (xs.size < xs'.size)) i i' 0
  rw [lexF_eq (by rw [hl, hl'])] at this
  exact this
theorem firsts_any {h : Heap} {k : Value → List Int} : ∀ {vs : List Value}, (∀ v ∈ vs, TS.TupInts h v (k v) ∧ k v ≠ []) → ∃ fs : List Value, PySem.W.KatTups h vs fs ∧ fs.length = vs.length ∧ ∀ f ∈ fs, ∃ x t, f = Value.int x t
  | [], _ => ⟨[], PySem.W.KatTups.nil, rfl, fun f hf => by simp at hf⟩
  | v :: vs, hp => by
    obtain ⟨fs, h1, h2, h3⟩ := firsts_any (vs := vs) fun v' hm => hp v' (List.mem_cons_of_mem _ hm)
    obtain ⟨⟨a, xs, e, ⟨o, ho, hc, n, hd⟩, i⟩, hne⟩ := hp v List.mem_cons_self
    generalize k v = m at i hne
    cases m with
    | nil => exact absurd rfl hne
    | cons x m =>
      have hx0 : ∃ t, xs[0]? = some (.int x t) := by
        obtain ⟨t, ht⟩ := IntsAre.int_at i 0 (xs.toList.getD 0 .none) (by
          have hl := i.length
          simp only [List.length_cons] at hl
          rw [List.getD_eq_getElem?_getD, List.getElem?_eq_getElem (by omega)]; rfl)
        have hl := i.length
        simp only [List.length_cons, Array.length_toList] at hl
        refine ⟨t, ?_⟩
        rw [← Array.getElem?_toList]
        rw [List.getD_eq_getElem?_getD, List.getElem?_eq_getElem (by rw [Array.length_toList]; omega)] at ht
        rw [List.getElem?_eq_getElem (by rw [Array.length_toList]; omega)]
        simpa using ht
      obtain ⟨t, ht⟩ := hx0
      rw [e]
      refine ⟨.int x t :: fs, PySem.W.KatTups.cons ho hc hd ht h1, by rw [List.length_cons, List.length_cons, h2], ?_⟩
      intro f hf
      rcases List.mem_cons.1 hf with rfl | hf
      · exact ⟨x, t, rfl⟩
      · exact h3 f hf
theorem tups_sortableO {a : Addr} {vs : List Value} {k : Value → List Int} (h0 : 0 < vs.length) (hp : ∀ v ∈ vs, TS.TupInts s.heap v (k v) ∧ k v ≠ []) (ha : ∀ o, s.heap.get? a = some o → o.cls ≠ .type "tuple") : SrtO.SortableO prog w A s a vs fun v u => lexL (k v) (k u) := by
  intro h' keep
  have hp' : ∀ v ∈ vs, TS.TupInts h' v (k v) ∧ k v ≠ [] := fun v hm => ⟨(hp v hm).1.keeps fun b o e c => keep b o (fun z => by subst z; exact ha o e c) e, (hp v hm).2⟩
  obtain ⟨fs, h1, h2, h3⟩ := firsts_any hp'
  refine ⟨tuples' true, fun Q E hq => ?_, tups_cmp (s := { s with heap := h' }) fun v hm => (hp' v hm).1⟩
  refine PySem.W.kat_kind (T := .type "int") h1 (by omega) (fun f hm => ?_) (by rfl) ?_
  · obtain ⟨x, t, rfl⟩ := h3 f hm
    exact PySem.W.Looks.now
  · have e : (Value.type "int" != Value.type "tuple") = true := by first | decide +kernel | rfl | decide
    rw [e]
    exact hq
end
end Fs
namespace Fs
open PySem PySem.Spec PyProof.Rows L2
/-- an empty set, newly made -/
abbrev eSet (w : World) : Obj := { cls := .type "set", dict := none, data := .set #[] 0 (.fresh 0 0 (!w.params.followText "set-order")) }
section
variable {P : Program} {w : World} {A : Around} {E : Value → Shared → Prop} {s : Shared}
set_option maxHeartbeats 3200000 in
theorem call_set_lst {b : Addr} {its : Array Value} (ks : List Int) {Q : Value → Shared → Prop} (h0 : A.handled = none) (hb : s.heap.IsList b its) (hi : IntsAre its.toList ks) (hB : ks.length + 1 < scanBound)
    (fin : ∀ (h2 : Heap) (tk c : Nat), SetR w h2 s.heap.objs.size (fun j => decide (j ∈ ks)) c → c ≤ ks.length → (∀ b o, s.heap.get? b = some o → h2.get? b = some o) → Q (.ref s.heap.objs.size) { s with heap := h2, toks := tk }) :
    wpAny (model P w) A (PySem.call (.type "set") [.ref b]) Q E s := by
  have hn : its.size = ks.length := by have q := IntsAre.length hi; rwa [Array.length_toList] at q
  obtain ⟨c0, tl0, z1⟩ := F.called_set.mro
  have z2 := F.called_set.made; have z3 := F.called_set.sub
  refine wpAny_call (codeAny_of_tree ?_)
  show wpAny _ _ (callAny (.type "set") _) _ _ _
  refine wpAny_pure ⟨Code.quiet_builtin _ (by decide +kernel), codeAny_builtin F.entry_type_call ?_⟩
  rw [Around.under_plain (weight_type_call_type "set" [.ref b] []) rfl]
  have z4 := F.called_set.notType; have z5 := F.called_set.canCreate; have z6 := F.typeCall_set_1 (.ref b)
  repeat (any_goals (first | assumption | wp_step))
  refine codeAny_mono (code_set_led1 (.ref b) (E := E) (Q₁ := fun v s1 => v = .ref s.heap.objs.size ∧ s1 = { s with heap := s.heap.push (eSet w) }) ⟨rfl, rfl⟩) fun r1 s1 e1 => ?_
  cases r1 with
  | error x => exact e1
  | ok fl =>
    cases fl with
    | ret v0 =>
      obtain ⟨rfl, rfl⟩ := e1
      have k1 : (s.heap.push (eSet w)).get? s.heap.objs.size = some (eSet w) := Heap.get?_push_size _ rfl
      have k2 : Shared.TypeIs { s with heap := s.heap.push (eSet w) } (.ref s.heap.objs.size) "set" := ⟨_, k1, rfl⟩
      have z7 := F.called_set.init.lookup; have z8 := F.called_set.init.bind (.ref s.heap.objs.size)
      repeat (any_goals (first | assumption | wp_step))
      refine codeAny_mono (codeAny_call_builtin (R := wants (fun r s2 => r = .none ∧ ∃ h2 tk c, s2 = { s with heap := h2, toks := tk } ∧ SetR w h2 s.heap.objs.size (fun j => decide (j ∈ ks)) c ∧ c ≤ ks.length ∧ (∀ b o, s.heap.get? b = some o → h2.get? b = some o)) E) F.called_set.init.plain F.entry_set_init (check_set_init_1 k2 ?_)) fun r2 s2 e2 => ?_
      · obtain ⟨⟨ocls, odict, odata, oslots⟩, ho, hc, m, hd⟩ := hb
        simp only at hc hd
        subst hc; subst hd
        have k3 : (s.heap.push (eSet w)).get? b = some { cls := .type "list", dict := odict, data := .seq its m, slots := oslots } := Heap.get?_push_of_some _ ho
        have y1 := F.sub_list_set; have y2 := F.sub_list_frozenset
        have y3 : (Value.type "list" == Value.type "dict") = false := by decide
        have k4 : (s.heap.push (eSet w)).IsList b its := ⟨_, k3, rfl, m, rfl⟩
        unfold Builtin.«set.__init__» noKeywords Builtin.Frozenset.updateFrom
        generalize hPI : pyIter = PI
        wp_walk
        subst hPI
        refine wpAny_pyIter_list k4 (wpAny_bind (wpAny_runValue ?_))
        have k5 : b < s.heap.objs.size := Heap.lt_size ho
        have y4 : A.in1.in1.in1.handled = none := by simp [h0]
        have y5 : b ≠ (s.heap.push (eSet w)).objs.size := by rw [Heap.size_push]; exact Nat.ne_of_lt (Nat.lt_succ_of_lt k5)
        have y6 : s.heap.objs.size ∉ [(s.heap.push (eSet w)).objs.size, b] := by
          rw [Heap.size_push]; simp only [List.mem_cons, List.mem_singleton, List.not_mem_nil, or_false, not_or]
          exact And.intro (Nat.ne_of_lt (Nat.lt_succ_self _)) (Nat.ne_of_gt k5)
        have y7 : ∀ (i : Nat) (v : Value), its[i]? = some v → ∃ k t, ks[i]? = some k ∧ v = .int k t := by
          intro i v hv
          have hlt : i < ks.length := by rw [← hn]; exact (Array.getElem?_eq_some_iff.mp hv).1
          obtain ⟨t, e⟩ := PyProof.Rows.IntsAre.int_at hi i v (by rw [Array.getElem?_toList]; exact hv)
          exact ⟨ks[i], t, List.getElem?_eq_getElem hlt, by rw [e, List.getD_eq_getElem?_getD, List.getElem?_eq_getElem hlt]; rfl⟩
        refine set_update_ints ((Walks.list y4 _ b y5 its).toS) s.heap.objs.size y6 ks hn hB y7 (its.size - 0) 0 _ (by omega) (Nat.zero_le _) ⟨⟨_, Heap.get?_push_size _ rfl, rfl, rfl⟩, (k4.push _)⟩ ?hA ?hZ
        case hA =>
          have k6 : ((s.heap.push (eSet w)).push { cls := .type "list_iterator", data := .fields #[.ref b, .int 0 0] }).get? s.heap.objs.size = some (eSet w) := Heap.get?_push_of_some _ k1
          exact ⟨0, Nat.le_refl 0, setR_new_at k6⟩
        case hZ =>
          rintro ⟨h2, g2, d2, t2, o2⟩ c2 hm hc2 hS2
          obtain rfl : g2 = s.gens := hm.gens
          obtain rfl : d2 = s.drawn := hm.drawn
          obtain rfl : o2 = s.os := hm.os
          show wpAny _ _ _ _ _ _
          refine wpAny_pure ?_
          show wpAny _ _ (PySem.ret Value.none) _ _ _
          rw [hn] at hc2
          refine wpAny_pure ⟨rfl, h2, t2, c2, rfl, hS2, hc2, fun x o e => ?_⟩
          have x0 : x < s.heap.objs.size := Heap.lt_size e
          have x1 : x ≠ s.heap.objs.size := Nat.ne_of_lt x0
          have x2 : x ≠ (s.heap.push (eSet w)).objs.size := by rw [Heap.size_push]; exact Nat.ne_of_lt (Nat.lt_succ_of_lt x0)
          refine hm.heap x o ?_ (Heap.get?_push_of_some _ (Heap.get?_push_of_some _ e))
          simp only [List.mem_cons, List.mem_singleton, List.not_mem_nil, or_false, not_or]
          exact ⟨x1, x2⟩
      · cases r2 with
        | error x => exact e2
        | ok f2 =>
          cases f2 with
          | ret v2 =>
            obtain ⟨rfl, h2, tk, c2, rfl, hS2, hc2, hk2⟩ := e2
            repeat (any_goals (first | assumption | wp_step))
            exact fin _ _ _ hS2 hc2 hk2
          | _ => exact e2.elim
    | _ => exact e1.elim
end
end Fs
namespace Fs
open PySem L2 PyProof.Rows PySem.Spec
/-- a call by values does what f says -/
def rL (Z : Wc) (W : WX) (σ : L2.St) (f : List D → M D) : List V → Hp → VK → Prop := fun vs H2 Q => ∃ ρ st H ρ2 st2 ds F, SR Z ρ st H ∧ Now Z ρ H ρ2 st2 H2 F ∧ Rps Z ρ2 H2 ds vs F ∧ Post (Rp Z) Z W (f ds st2) ρ σ H Q
section
variable {Z : Wc} {ρ : List Addr} {H : Hp} {st : Sto}
theorem ints_ok : ∀ {ds : List D} {vs : List V} {F : List Addr} {ns : List Int}, Rps Z ρ H ds vs F → optL intv ds = some ns → vs = ns.map V.int ∧ ds = ns.map D.int
  | [], vs, F, ns, r, e => by obtain ⟨rfl, _⟩ := r; cases e; exact ⟨rfl, rfl⟩
  | d :: ds, vs, F, ns, r, e => by
    obtain ⟨v, ws, F1, F2, rfl, r1, r2, _⟩ := r
    simp only [optL] at e
    cases d with
    | int i =>
      simp only [intv] at e
      cases e2 : optL intv ds with
      | none => rw [e2] at e; cases e
      | some ms =>
        rw [e2] at e
        cases e
        obtain ⟨rfl, rfl⟩ := ints_ok r2 e2
        obtain ⟨rfl, _⟩ := r1
        exact ⟨rfl, rfl⟩
    | _ => simp [intv] at e
theorem bls_ok : ∀ {ds : List D} {vs : List V} {F : List Addr} {ns : List Bool}, Rps Z ρ H ds vs F → optL blv ds = some ns → vs = ns.map V.bl
  | [], vs, F, ns, r, e => by obtain ⟨rfl, _⟩ := r; cases e; rfl
  | d :: ds, vs, F, ns, r, e => by
    obtain ⟨v, ws, F1, F2, rfl, r1, r2, _⟩ := r
    simp only [optL] at e
    cases d with
    | bl i =>
      simp only [blv] at e
      cases e2 : optL blv ds with
      | none => rw [e2] at e; cases e
      | some ms =>
        rw [e2] at e
        cases e
        obtain rfl := bls_ok r2 e2
        obtain ⟨rfl, _⟩ := r1
        rfl
    | _ => simp [blv] at e
theorem Rps.ofInts : ∀ ns : List Int, Rps Z ρ H (ns.map D.int) (ns.map V.int) []
  | [] => ⟨rfl, rfl⟩
  | n :: ns => ⟨.int n, ns.map V.int, [], [], rfl, ⟨rfl, rfl⟩, Rps.ofInts ns, rfl⟩
theorem insI_perm (i : Int) : ∀ r : List Int, (insI i r).Perm (i :: r)
  | [] => .refl _
  | j :: r => by
    simp only [insI]
    split
    · exact (List.Perm.cons j (insI_perm i r)).trans (List.Perm.swap i j r)
    · exact .refl _
theorem sortI_perm : ∀ l : List Int, (sortI l).Perm l
  | [] => .refl _
  | a :: l => (insI_perm a (sortI l)).trans (List.Perm.cons a (sortI_perm l))
theorem insI_sorted (i : Int) : ∀ r : List Int, r.Pairwise (· ≤ ·) → (insI i r).Pairwise (· ≤ ·)
  | [], _ => by simp [insI]
  | j :: r, h => by
    obtain ⟨h1, h2⟩ := List.pairwise_cons.mp h
    simp only [insI]
    split
    · rename_i hij
      refine List.pairwise_cons.mpr ⟨fun x hx => ?_, insI_sorted i r h2⟩
      rcases List.mem_cons.mp ((insI_perm i r).mem_iff.mp hx) with rfl | hx
      · exact hij
      · exact h1 x hx
    · rename_i hij
      refine List.pairwise_cons.mpr ⟨fun x hx => ?_, h⟩
      rcases List.mem_cons.mp hx with rfl | hx
      · omega
      · exact Int.le_trans (by omega) (h1 x hx)
theorem sortI_sorted : ∀ l : List Int, (sortI l).Pairwise (· ≤ ·)
  | [] => .nil
  | a :: l => insI_sorted a _ (sortI_sorted l)
theorem sorted_eq : ∀ {l m : List Int}, l.Perm m → l.Pairwise (· ≤ ·) → m.Pairwise (· ≤ ·) → l = m
  | [], m, p, _, _ => (List.nil_perm.mp p).symm
  | a :: l, [], p, _, _ => absurd (List.perm_nil.mp p) (by simp)
  | a :: l, b :: m, p, hl, hm => by
    obtain ⟨h1, h2⟩ := List.pairwise_cons.mp hl
    obtain ⟨h3, h4⟩ := List.pairwise_cons.mp hm
    have e : a = b := by
      have k1 : b ≤ a := by
        rcases List.mem_cons.mp (p.mem_iff.mp List.mem_cons_self) with e | e
        · omega
        · exact h3 a e
      have k2 : a ≤ b := by
        rcases List.mem_cons.mp (p.mem_iff.mpr List.mem_cons_self) with e | e
        · omega
        · exact h1 b e
      omega
    subst e
    rw [sorted_eq p.cons_inv h2 h4]
end
section
variable {X : L2.Cx} {T : Tbl} {Z : Wc} {W : WX} {σ0 : L2.St} {e : Expr} {es : List Expr} {As : List Ex} {pos p : Pos} {x : Str} {id : String}
theorem one1 {ρ : List Addr} {H : Hp} {vs : List V} {F : List Addr} {d : D} (r : Rps Z ρ H [d] vs F) : ∃ v, vs = [v] ∧ Rp Z ρ H d v F := by
  obtain ⟨v, ws, F1, F2, rfl, r1, ⟨rfl, rfl⟩, rfl⟩ := r
  exact ⟨v, rfl, by simpa using r1⟩
theorem opt_ok' {α β : Type} {rel : Rel α β} {γ : Type} {o : Option γ} {f : γ → M α} {st : Sto} {ρ : List Addr} {H : Hp} {Q : β → Hp → Prop} (h : Post rel Z W (opt o f st) ρ σ0 H Q) : ∃ c, o = some c ∧ Post rel Z W (f c st) ρ σ0 H Q := opt_ok h
theorem gd_ok {α β : Type} {rel : Rel α β} {b : Bool} {m : M α} {st : Sto} {ρ : List Addr} {H : Hp} {Q : β → Hp → Prop} (h : Post rel Z W (gd b m st) ρ σ0 H Q) : b = true ∧ Post rel Z W (m st) ρ σ0 H Q := by
  cases b with
  | true => exact ⟨rfl, h⟩
  | false => exact h.elim
/-- a call of one argument -/
theorem callOne {f : Value} {g : D → M D} (h : ∀ (pins : List (Addr × Obj)) (s : Shared) (σ : L2.St) (H : Hp) (x : V) (us : List Value) (Q : VK) (ρ : List Addr) (st : Sto) (H0 : Hp) (ρ2 : List Addr) (st2 : Sto) (d : D) (F : List Addr), Inv X pins σ H s → Vals [x] us → SR Z ρ st H0 → Now Z ρ H0 ρ2 st2 H F → Rp Z ρ2 H d x F → Post (Rp Z) Z W (g d st2) ρ σ0 H0 Q →
    wpAny (model X.prog X.w) X.A (PySem.call f us) (EP X pins σ Q) X.xe s) : CallR X f (rL Z W σ0 (b1 g)) := by
  intro pins s σ H vs us Q I rv ⟨ρ, st, H0, ρ2, st2, ds, F, sr, n, r, q⟩
  match ds, r, q with
  | [], _, q => exact q.elim
  | [d], r, q =>
    obtain ⟨v, rfl, r1⟩ := one1 r
    exact h pins s σ H v us Q ρ st H0 ρ2 st2 d F I rv sr n r1 q
  | _ :: _ :: _, _, q => exact q.elim
theorem callTwo {f : Value} {g : D → D → M D} (h : ∀ (pins : List (Addr × Obj)) (s : Shared) (σ : L2.St) (H : Hp) (x y : V) (us : List Value) (Q : VK) (ρ : List Addr) (st : Sto) (H0 : Hp) (ρ2 : List Addr) (st2 : Sto) (d e : D) (F G : List Addr), Inv X pins σ H s → Vals [x, y] us → SR Z ρ st H0 → Now Z ρ H0 ρ2 st2 H (F ++ G) → Rp Z ρ2 H d x F → Rp Z ρ2 H e y G → Post (Rp Z) Z W (g d e st2) ρ σ0 H0 Q →
    wpAny (model X.prog X.w) X.A (PySem.call f us) (EP X pins σ Q) X.xe s) : CallR X f (rL Z W σ0 (b2 g)) := by
  intro pins s σ H vs us Q I rv ⟨ρ, st, H0, ρ2, st2, ds, F, sr, n, r, q⟩
  match ds, r, q with
  | [], _, q => exact q.elim
  | [d], _, q => exact q.elim
  | [d, e], r, q =>
    obtain ⟨v, ws, F1, F2, rfl, r1, r2, rfl⟩ := r
    obtain ⟨u, rfl, r3⟩ := one1 r2
    exact h pins s σ H v u us Q ρ st H0 ρ2 st2 d e F1 F2 I rv sr n r1 r3 q
  | _ :: _ :: _ :: _, _, q => exact q.elim
theorem RpT.len {ρ : List Addr} {H : Hp} : ∀ {kvs : List (Ky × D)} {ws : List (List L2.Key × V)} {F : List Addr}, RpT Z ρ H kvs ws F → kvs.length = ws.length
  | [], ws, F, r => by obtain ⟨rfl, _⟩ := r; rfl
  | (k, d) :: kvs, ws, F, r => by
    obtain ⟨j, v, ws', F1, F2, _, rfl, _, h2, _⟩ := r
    rw [List.length_cons, List.length_cons, RpT.len h2]
theorem bi_len (hK : X.K = Z.K) : CallR X (.builtin "len") (rL Z W σ0 (b1 fLen)) := callOne fun pins s σ H x us Q ρ st H0 ρ2 st2 d F I rv sr n r h => by
  unfold fLen at h
  split at h
  · obtain ⟨hz, h⟩ := gd_ok h
    obtain ⟨rfl, rfl⟩ := r
    exact call_len_str pins s σ H _ us Q I rv ⟨_, rfl, of_decide_eq_true hz, Post.ok h n ⟨rfl, rfl⟩⟩
  · split at h
    · rename_i xs hx
      obtain ⟨a, vs, G, rfl, ha, rs, sub⟩ := seqv_ok n.sr r hx
      exact call_len_seq pins s σ H _ us Q I rv ⟨a, vs, rfl, by rw [hK]; exact ha, by rw [← rs.length]; exact Post.ok h (n.less (List.nil_sublist _)) ⟨rfl, rfl⟩⟩
    · split at h
      · rename_i kvs hd
        obtain ⟨a, G, rfl, hh, sub⟩ := dicv_ok n.sr r hd
        rcases hh with ⟨ws, ha, rk⟩ | ⟨ws, ha, rk⟩
        · have hlen : kvs.length = ws.length := by simpa using congrArg List.length rk.keysEq
          exact call_lenD pins s σ H _ us Q I rv ⟨a, ws, rfl, ha, by rw [← hlen]; exact Post.ok h (n.less (List.nil_sublist _)) ⟨rfl, rfl⟩⟩
        · have hlen : kvs.length = ws.length := rk.len
          exact L2.call_len_dT pins s σ H _ us Q I rv ⟨a, ws, rfl, ha, by rw [← hlen]; exact Post.ok h (n.less (List.nil_sublist _)) ⟨rfl, rfl⟩⟩
      · exact h.elim
/-- a list, held, known or fresh -/
theorem lseq_ok {ρ : List Addr} {H : Hp} {st : Sto} {d : D} {x : V} {F : List Addr} {xs : List D} (s : SR Z ρ st H) (r : Rp Z ρ H d x F) (e : seqv st d = some xs) (hnt : ∀ ys, d = .tup ys → False) : ∃ a vs G, x = .ref a ∧ SqL Z.K H a vs ∧ Rps Z ρ H xs vs G ∧ G.Sublist F := by
  cases d with
  | tup xs => exact (hnt xs rfl).elim
  | lst xs =>
    obtain ⟨b, vs2, G2, rfl, hb, rs, rfl⟩ := r
    cases e
    exact ⟨b, vs2, G2, rfl, SqL.of hb, rs, List.sublist_cons_self _ _⟩
  | ref l =>
    obtain ⟨b, hl, rfl, rfl⟩ := r
    simp only [seqv] at e
    split at e
    · rename_i hc
      cases e
      obtain ⟨ws, hw, rw'⟩ := s.list hl (.inl hc)
      exact ⟨b, ws, [], rfl, hw, rw', List.Sublist.refl _⟩
    · rename_i hc
      cases e
      obtain ⟨ws, hw, rw'⟩ := s.list hl (.inr hc)
      exact ⟨b, ws, [], rfl, hw, rw', List.Sublist.refl _⟩
    · cases e
  | _ => simp [seqv] at e
theorem lInt_ok {ρ : List Addr} {H : Hp} {st : Sto} {d : D} {x : V} {F : List Addr} {ns : List Int} (s : SR Z ρ st H) (r : Rp Z ρ H d x F) (e : lInt st d = some ns) : ∃ a, x = .ref a ∧ SqL Z.K H a (ns.map V.int) := by
  unfold lInt at e
  split at e
  · rename_i xs hx
    split at e
    · cases e
    · rename_i hnt
      obtain ⟨a, vs, G, rfl, ha, rs, sub⟩ := lseq_ok s r hx hnt
      obtain ⟨rfl, _⟩ := ints_ok rs e
      exact ⟨a, rfl, ha⟩
  · cases e
theorem lBl_ok {ρ : List Addr} {H : Hp} {st : Sto} {d : D} {x : V} {F : List Addr} {ns : List Bool} (s : SR Z ρ st H) (r : Rp Z ρ H d x F) (e : lBl st d = some ns) : ∃ a, x = .ref a ∧ SqL Z.K H a (ns.map V.bl) := by
  unfold lBl at e
  split at e
  · rename_i xs hx
    split at e
    · cases e
    · rename_i hnt
      obtain ⟨a, vs, G, rfl, ha, rs, sub⟩ := lseq_ok s r hx hnt
      obtain rfl := bls_ok rs e
      exact ⟨a, rfl, ha⟩
  · cases e
theorem bi_sum (hK : X.K = Z.K) (hc : X.calm = true) : CallR X (.builtin "sum") (rL Z W σ0 (b1 fSum)) := callOne fun pins s σ H x us Q ρ st H0 ρ2 st2 d F I rv sr n r h => by
  obtain ⟨ns, e, h⟩ := opt_ok h
  obtain ⟨a, rfl, ha⟩ := lInt_ok n.sr r e
  exact cr_sum hc pins s σ H _ us Q I rv ⟨a, ns, rfl, by rw [hK]; exact ha, Post.ret h (n.less (List.nil_sublist _)) ⟨rfl, rfl⟩⟩
theorem bi_all (hK : X.K = Z.K) (hc : X.calm = true) : CallR X (.builtin "all") (rL Z W σ0 (b1 fAll)) := callOne fun pins s σ H x us Q ρ st H0 ρ2 st2 d F I rv sr n r h => by
  obtain ⟨ns, e, h⟩ := opt_ok h
  obtain ⟨a, rfl, ha⟩ := lBl_ok n.sr r e
  exact cr_all hc pins s σ H _ us Q I rv ⟨a, ns, rfl, by rw [hK]; exact ha, Post.ret h (n.less (List.nil_sublist _)) ⟨rfl, rfl⟩⟩
theorem bi_any (hK : X.K = Z.K) (hc : X.calm = true) : CallR X (.builtin "any") (rL Z W σ0 (b1 fAny)) := callOne fun pins s σ H x us Q ρ st H0 ρ2 st2 d F I rv sr n r h => by
  obtain ⟨ns, e, h⟩ := opt_ok h
  obtain ⟨a, rfl, ha⟩ := lBl_ok n.sr r e
  exact cr_any hc pins s σ H _ us Q I rv ⟨a, ns, rfl, by rw [hK]; exact ha, Post.ret h (n.less (List.nil_sublist _)) ⟨rfl, rfl⟩⟩
theorem bi_abs : CallR X (.builtin "abs") (rL Z W σ0 (b1 fAbs)) := callOne fun pins s σ H x us Q ρ st H0 ρ2 st2 d F I rv sr n r h => by
  cases d with
  | int i =>
    obtain ⟨rfl, rfl⟩ := r
    exact call_abs pins s σ H _ us Q I rv ⟨i, rfl, Post.ret h n ⟨rfl, rfl⟩⟩
  | _ => exact h.elim
theorem bi_min2 (hc : X.calm = true) : CallR X (.builtin "min") (rL Z W σ0 (b2 fMin2)) := callTwo fun pins s σ H x y us Q ρ st H0 ρ2 st2 d e F G I rv sr n r1 r2 h => by
  unfold fMin2 at h
  split at h
  · obtain ⟨rfl, rfl⟩ := r1
    obtain ⟨rfl, rfl⟩ := r2
    exact call_min2 hc pins s σ H _ us Q I rv ⟨_, _, rfl, Post.ret h n ⟨rfl, rfl⟩⟩
  · exact h.elim
theorem bi_max2 (hc : X.calm = true) : CallR X (.builtin "max") (rL Z W σ0 (b2 fMax2)) := callTwo fun pins s σ H x y us Q ρ st H0 ρ2 st2 d e F G I rv sr n r1 r2 h => by
  unfold fMax2 at h
  split at h
  · obtain ⟨rfl, rfl⟩ := r1
    obtain ⟨rfl, rfl⟩ := r2
    exact call_max2 hc pins s σ H _ us Q I rv ⟨_, _, rfl, Post.ret h n ⟨rfl, rfl⟩⟩
  · exact h.elim
theorem bi_tuple (hK : X.K = Z.K) : CallR X (.type "tuple") (rL Z W σ0 (b1 fTuple)) := callOne fun pins s σ H x us Q ρ st H0 ρ2 st2 d F I rv sr n r h => by
  obtain ⟨xs, e, h⟩ := opt_ok h
  obtain ⟨a, vs, G, rfl, ha, rs, sub⟩ := seqv_ok n.sr r e
  rcases ha with ha | ha
  · exact call_tuple_of pins s σ H _ us Q I rv ⟨a, vs, rfl, .inl ⟨by rw [hK]; exact ha, fun p hp => Post.ret h ((n.newS sr hp).less sub) ⟨p, vs, rfl, SqT.of upd_same, rps_up hp rs⟩⟩⟩
  · exact call_tuple_of pins s σ H _ us Q I rv ⟨a, vs, rfl, .inr ⟨by rw [hK]; exact ha, Post.ret h (n.less sub) ⟨a, vs, rfl, ha, rs⟩⟩⟩
theorem bi_list (hK : X.K = Z.K) : CallR X (.type "list") (rL Z W σ0 (b1 fList)) := callOne fun pins s σ H x us Q ρ st H0 ρ2 st2 d F I rv sr n r h => by
  obtain ⟨xs, e, h⟩ := opt_ok h
  obtain ⟨a, vs, G, rfl, ha, rs, sub⟩ := seqv_ok n.sr r e
  exact call_list_of pins s σ H _ us Q I rv ⟨a, vs, rfl, by rw [hK]; exact ha, fun p hp => Post.ret h ((n.new sr hp).less (List.cons_sublist_cons.mpr sub)) ⟨p, vs, G, rfl, upd_same, rps_up hp rs, rfl⟩⟩
/-- the values are tuples of these ints -/
def TL (K : PySem.W.Frag) (H : Hp) : List V → List (List Int) → Prop
  | [], [] => True
  | x :: xs, l :: ls => TupI K H x l ∧ TL K H xs ls
  | _, _ => False
theorem tl_of {ρ : List Addr} {H : Hp} : ∀ {ds : List D} {vs : List V} {F : List Addr} {ls : List (List Int)}, Rps Z ρ H ds vs F → optL tupI ds = some ls → TL Z.K H vs ls
  | [], vs, F, ls, r, e => by obtain ⟨rfl, _⟩ := r; cases e; trivial
  | d :: ds, vs, F, ls, r, e => by
    obtain ⟨v, ws, F1, F2, rfl, r1, r2, _⟩ := r
    simp only [optL] at e
    cases d with
    | tup ys =>
      simp only [tupI] at e
      cases e1 : optL intv ys with
      | none => rw [e1] at e; cases e
      | some l =>
        rw [e1] at e
        cases e2 : optL tupI ds with
        | none => rw [e2] at e; cases e
        | some ms =>
          rw [e2] at e
          cases e
          obtain ⟨t, us, rfl, ht, rs⟩ := r1
          obtain ⟨rfl, _⟩ := ints_ok rs e1
          exact ⟨⟨t, rfl, ht⟩, tl_of r2 e2⟩
    | _ => simp [tupI] at e
theorem tl_rps {ρ : List Addr} {H : Hp} : ∀ {vs : List V} {ls : List (List Int)}, TL Z.K H vs ls → Rps Z ρ H (ls.map fun l => D.tup (l.map D.int)) vs []
  | [], [], _ => ⟨rfl, rfl⟩
  | x :: xs, l :: ls, h => by
    obtain ⟨⟨t, rfl, ht⟩, h2⟩ := h
    exact ⟨.ref t, xs, [], [], rfl, ⟨t, _, rfl, ht, Rps.ofInts l⟩, tl_rps h2, rfl⟩
  | [], _ :: _, h => h.elim
  | _ :: _, [], h => h.elim
theorem tl_vals {pins : List (Addr × Obj)} {σ : L2.St} {H : Hp} {s : Shared} (I : Inv X pins σ H s) : ∀ (vs : List V) (us : List Value) (ls : List (List Int)), Vals vs us → TL X.K H vs ls → us.map (TS.intsOf s.heap) = ls ∧ ∀ u ∈ us, TS.TupInts s.heap u (TS.intsOf s.heap u) ∧ TupI X.K H (bkV u) (TS.intsOf s.heap u) := by
  intro vs
  induction vs with
  | nil =>
    intro us ls r h
    cases ls with
    | nil =>
      cases r
      exact ⟨rfl, fun u hu => by simp at hu⟩
    | cons _ _ => exact h.elim
  | cons x xs ih =>
    intro us ls r h
    cases ls with
    | nil => exact h.elim
    | cons l ls =>
      cases r with
      | cons r t =>
        obtain ⟨⟨a, rfl, ha⟩, h2⟩ := h
        cases r
        have hr := tupI_raw I ha
        have hi := hr.ints
        obtain ⟨h3, h4⟩ := ih _ ls t h2
        refine ⟨by rw [List.map_cons, hi, h3], ?_⟩
        intro z hz
        rcases List.mem_cons.1 hz with rfl | hz
        · rw [hi]
          exact ⟨hr, a, rfl, ha⟩
        · exact h4 z hz
theorem tl_map {K : PySem.W.Frag} {H : Hp} {k : Value → List Int} : ∀ {us : List Value}, (∀ u ∈ us, TupI K H (bkV u) (k u)) → TL K H (us.map bkV) (us.map k)
  | [], _ => trivial
  | u :: us, h => ⟨h u List.mem_cons_self, tl_map fun z hz => h z (List.mem_cons_of_mem _ hz)⟩
/-- sorted(xs), xs a list of tuples of ints, none of them empty -/
theorem cr_sortL : CallR X (.builtin "sorted") (fun vs H Q => ∃ (a : Addr) (xs : List V) (ls : List (List Int)), vs = [V.ref a] ∧ SqL X.K H a xs ∧ TL X.K H xs ls ∧ (ls.all fun l => !l.isEmpty) = true ∧ ∀ (ys : List V) (p : Addr), TL X.K H ys (sortL ls) → H p = none → Q (.ref p) (upd H p (.lst ys))) := by
  intro pins s σ H vs us Q I r h
  obtain ⟨a, xs, ls, rfl, hs, ht, hne, q⟩ := h
  obtain ⟨its, rv, hl, hz⟩ := I.list hs
  rw [Vals.ref1 r]
  obtain ⟨e1, e2⟩ := tl_vals I _ _ _ rv ht
  have hk : ∀ v ∈ its, TS.TupInts s.heap v (TS.intsOf s.heap v) ∧ TS.intsOf s.heap v ≠ [] := fun v hv => by
    refine ⟨(e2 v hv).1, ?_⟩
    have hm : TS.intsOf s.heap v ∈ ls := by rw [← e1]; exact List.mem_map.2 ⟨v, hv, rfl⟩
    have := List.all_eq_true.1 hne _ hm
    intro hq
    rw [hq] at this
    cases this
  refine SrtO.sorted_ord (swo_lexL (TS.intsOf s.heap)) hl.isList (by rw [← rv.length]; exact hz) (fun h2 h₁ a' ha' kk => ?_) fun out h1 h2 => ?_
  · refine tups_sortableO (s := { s with heap := h₁ }) (by omega) (fun v hm => ⟨(hk v hm).1.keeps fun b o e _ => (kk b o e).2, (hk v hm).2⟩) fun o e => ?_
    have e' : some o = some (seqObj "list" its.toArray 0) := e.symm.trans ha'
    cases e'
    intro c
    exact absurd (Value.type.inj c) (by decide)
  · obtain ⟨ep, he'⟩ := PyProof.Rows.sortedAll_at s.heap its out.toArray
    have hso : out.map (TS.intsOf s.heap) = sortL ls := by
      refine (List.Perm.eq_of_pairwise (le := lexLe) (fun a b _ _ h1 h2 => (lex_tri h1 h2).symm) (sortL_sorted ls) ?_ ?_).symm
      · rw [List.pairwise_map]
        exact h1
      · refine (sortL_perm ls).trans ?_
        rw [← e1]
        exact (h2.perm.map _).symm
    have hr : ∀ u ∈ out, TupI X.K H (bkV u) (TS.intsOf s.heap u) := fun u hu => (e2 u (h2.perm.mem_iff.1 hu)).2
    have hrf : ∀ u ∈ out, ∃ a, u = Value.ref a := fun u hu => by
      obtain ⟨t, et, _⟩ := hr u hu
      exact ⟨t, bkV_ref et⟩
    have hlen : (out.map bkV).length ≤ sizeLine := by
      rw [List.length_map, h2.len, ← rv.length]; exact hz
    refine ⟨.ref _, upd H (s.heap.objs.size + 1) (.lst (out.map bkV)), I.laid (t' := s.toks) (fun _ _ => PyProof.Rows.sortedAll_old) (Nat.le_succ _) ⟨hlen, out, ep, bkV_vals hrf, he'⟩, rfl, q _ _ ?_ (I.hok.fresh (Nat.le_succ _))⟩
    rw [← hso]
    exact tl_map hr
theorem bi_sorted (hK : X.K = Z.K) : CallR X (.builtin "sorted") (rL Z W σ0 (b1 fSorted)) := callOne fun pins s σ H x us Q ρ st H0 ρ2 st2 d F I rv sr n r h => by
  unfold fSorted at h
  split at h
  · rename_i ns e
    obtain ⟨a, rfl, ha⟩ := lInt_ok n.sr r e
    refine cr_sortedI pins s σ H _ us Q I rv ⟨a, ns, rfl, by rw [hK]; exact ha, fun ns' p pm hs hp => ?_⟩
    obtain rfl := sorted_eq (pm.trans (sortI_perm ns).symm) hs (sortI_sorted ns)
    exact Post.ok h ((n.new sr hp).less (List.cons_sublist_cons.mpr (List.nil_sublist _))) ⟨p, _, [], rfl, upd_same, Rps.ofInts _, rfl⟩
  · split at h
    · rename_i ls e
      obtain ⟨hne, h⟩ := gd_ok h
      unfold lTups at e
      split at e
      · rename_i xs hx
        split at e
        · cases e
        · rename_i hnt
          obtain ⟨a, ts, G, rfl, ha, rs, _⟩ := lseq_ok n.sr r hx (fun ys q => hnt ys q)
          have ht := tl_of rs e
          rw [← hK] at ha ht
          refine cr_sortL pins s σ H _ us Q I rv ⟨a, ts, ls, rfl, ha, ht, hne, fun ys p ty hp => ?_⟩
          rw [hK] at ty
          exact Post.ret h ((n.new sr hp).less (List.cons_sublist_cons.mpr (List.nil_sublist _))) ⟨p, ys, [], rfl, upd_same, rps_up hp (tl_rps ty), rfl⟩
      · cases e
    · exact h.elim
theorem bi_int : CallR X (.type "int") (rL Z W σ0 (b1 fInt)) := callOne fun pins s σ H x us Q ρ st H0 ρ2 st2 d F I rv sr n r h => by
  cases d with
  | int i =>
    obtain ⟨rfl, rfl⟩ := r
    exact call_int1 pins s σ H _ us Q I rv (.inl ⟨i, rfl, Post.ret h n ⟨rfl, rfl⟩⟩)
  | bl c =>
    obtain ⟨rfl, rfl⟩ := r
    exact call_int1 pins s σ H _ us Q I rv (.inr ⟨c, rfl, Post.ret h n ⟨rfl, rfl⟩⟩)
  | str z =>
    obtain ⟨rfl, rfl⟩ := r
    obtain ⟨m, e, h⟩ := opt_ok h
    obtain ⟨hz, h⟩ := gd_ok h
    exact call_int_str pins s σ H _ us Q I rv ⟨z, m, rfl, e, of_decide_eq_true hz, Post.ret h n ⟨rfl, rfl⟩⟩
  | _ => exact h.elim
theorem bi_repr (hK : X.K = Z.K) (hg : X.A.guards = some []) (hu : X.A.units + 64 < cLine) : CallR X (.builtin "repr") (rL Z W σ0 (b1 fRepr)) := callOne fun pins s σ H x us Q ρ st H0 ρ2 st2 d F I rv sr n r h => by
  obtain ⟨p, e, h⟩ := opt_ok h
  obtain ⟨hz, h⟩ := gd_ok h
  obtain ⟨z1, z2, z3, z4⟩ := of_decide_eq_true hz
  have fin : Q (.str p.shown) H := Post.ret h (n.less (List.nil_sublist _)) ⟨rfl, rfl⟩
  have dp := toP_ok n.sr _ _ _ _ _ r e
  rw [← hK] at dp
  obtain ⟨u, rfl, ru⟩ := vals1 rv
  obtain ⟨as, rd⟩ := Dp.reads I p x u dp ru
  have ref : isDisplay p = true → wpAny (model X.prog X.w) X.A (PySem.call (.builtin "repr") [u]) (EP X pins σ Q) X.xe s := fun hd => by
    obtain ⟨a, rfl⟩ := isRef_of_reads rd hd
    exact repr_of_reads' rd z1 (PyData.noDict_hsm z4) hg (by omega) (fun _ _ e => e) (fun h' w tk hk => ⟨.str p.shown, H, I.kept hk, ⟨w, rfl⟩, fin⟩) z2
  cases dp with
  | non =>
    cases ru
    exact P.repr_of_none (show EP X pins σ Q _ _ from ⟨.str _, H, I.tok _, ⟨_, rfl⟩, fin⟩)
  | bl b =>
    cases ru
    exact P.repr_of_bool (show EP X pins σ Q _ _ from ⟨.str _, H, I.tok _, ⟨_, rfl⟩, by cases b <;> exact fin⟩)
  | int i =>
    obtain ⟨t, rfl⟩ := ru
    exact P.repr_of_int (of_decide_eq_true z1) (show EP X pins σ Q _ _ from ⟨.str _, H, I.tok _, ⟨_, rfl⟩, fin⟩)
  | str z =>
    obtain ⟨t, rfl⟩ := ru
    exact P.repr_of_str (show EP X pins σ Q _ _ from ⟨.str _, H, I.tok _, ⟨_, rfl⟩, fin⟩) z2
  | lst _ _ => exact ref rfl
  | tup _ _ => exact ref rfl
/-- f(e, ..), f a built-in function -/
theorem se_bi {b : Bi} (hc : ∀ σ, CallR X (.builtin id) (rL Z W σ (biD T b))) (hg : Gl X x) (hm : X.mg x = none) (hv : bootBuiltins x = some (.builtin id)) (ha : PA X (e :: es) (iEs T Z W As)) (hn : x ≠ "__name__" := by decide) (hdb : (x == ("__debug__" : Str)) = false := by decide)
    (he : starEach (e :: es) X.env = (false, eval e X.env) :: starEach es X.env := by rfl) (hpl : (backTo pos (starEach es X.env)).any (·.1) = false := by rfl) : PE X (.Call (.Name x p) (e :: es) [] pos) (iE T Z W (.bi b As)) :=
  ⟨fun pins s σ H Q I q => by
    refine (pe_callB (hc σ) hg hm hv ha hn hdb he hpl).run pins s σ H Q I ?_
    obtain ⟨ρ, env, st, er, sr, h⟩ := q
    simp only [ev] at h
    refine ⟨ρ, env, st, er, sr, (Post.seq rpsOk (Now.start sr) sr h).mono ?_⟩
    rintro vs H1 ⟨ρ1, ds, st1, F1, n1, t1, r1, h1⟩
    exact ⟨ρ, st, H, ρ1, st1, ds, F1, sr, n1, r1, h1⟩⟩
/-- T(e, ..), T a built-in type -/
theorem se_bt {b : Bi} {Ty : String} (hc : ∀ σ, CallR X (.type Ty) (rL Z W σ (biD T b))) (hg : Gl X x) (hm : X.mg x = none) (hv : bootBuiltins x = some (.type Ty)) (ha : PA X (e :: es) (iEs T Z W As)) (hn : x ≠ "__name__" := by decide) (hdb : (x == ("__debug__" : Str)) = false := by decide)
    (he : starEach (e :: es) X.env = (false, eval e X.env) :: starEach es X.env := by rfl) (hpl : (backTo pos (starEach es X.env)).any (·.1) = false := by rfl) : PE X (.Call (.Name x p) (e :: es) [] pos) (iE T Z W (.bi b As)) :=
  ⟨fun pins s σ H Q I q => by
    refine (pe_callTy (hc σ) hg hm hv ha hn hdb he hpl).run pins s σ H Q I ?_
    obtain ⟨ρ, env, st, er, sr, h⟩ := q
    simp only [ev] at h
    refine ⟨ρ, env, st, er, sr, (Post.seq rpsOk (Now.start sr) sr h).mono ?_⟩
    rintro vs H1 ⟨ρ1, ds, st1, F1, n1, t1, r1, h1⟩
    exact ⟨ρ, st, H, ρ1, st1, ds, F1, sr, n1, r1, h1⟩⟩
/-- isinstance(e, T) -/
def tyNs : List String := ["NoneType", "bool", "int", "str", "tuple", "list", "dict"]
def exT (t u : String) : Bool := if u = "NoneType" then false else if u = "bool" then t == "bool" || t == "int" else t == u
def okT (t : String) : Bool := tyNs.all fun u => kitB u t == some (exT t u)
theorem okT_int : okT "int" = true := by decide +kernel
theorem okT_bool : okT "bool" = true := by decide +kernel
theorem okT_str : okT "str" = true := by decide +kernel
theorem okT_tuple : okT "tuple" = true := by decide +kernel
theorem okT_list : okT "list" = true := by decide +kernel
theorem okT_dict : okT "dict" = true := by decide +kernel
theorem isTy_ok {ρ : List Addr} {H : Hp} {st : Sto} {d : D} {v : V} {F : List Addr} {t : String} {c : Bool} (s : SR Z ρ st H) (r : Rp Z ρ H d v F) (e : isTy st t d = some c) : ∃ u ∈ tyNs, TyX Z.K H v (.type u) ∧ c = exT t u := by
  have list : ∀ {a vs}, SqL Z.K H a vs → TyX Z.K H (.ref a) (.type "list") := fun {a vs} h => by
    rcases h with h | ⟨o, its, n, ho, hc, _⟩
    · rcases h with h | ⟨o, h⟩
      · exact .base (.lst h)
      · exact .base (.frz h)
    · exact .kList ho hc
  cases d with
  | non => obtain ⟨rfl, _⟩ := r; cases e; exact ⟨"NoneType", by decide, .base .non, rfl⟩
  | bl b => obtain ⟨rfl, _⟩ := r; cases e; exact ⟨"bool", by decide, .base (.bl b), rfl⟩
  | int b => obtain ⟨rfl, _⟩ := r; cases e; exact ⟨"int", by decide, .base (.int b), rfl⟩
  | str b => obtain ⟨rfl, _⟩ := r; cases e; exact ⟨"str", by decide, .base (.str b), rfl⟩
  | tup ds =>
    obtain ⟨a, vs, rfl, h, _⟩ := r
    cases e
    refine ⟨"tuple", by decide, ?_, rfl⟩
    rcases h with h | ⟨o, its, n, ho, hc, _⟩
    · rcases h with h | ⟨o, h⟩
      · exact .base (.tup h)
      · exact .fTuple h
    · exact .kTuple ho hc
  | lst ds => obtain ⟨a, vs, G, rfl, h, _⟩ := r; cases e; exact ⟨"list", by decide, .base (.lst h), rfl⟩
  | dic ds =>
    obtain ⟨a, G, rfl, _, h⟩ := r
    cases e
    rcases h with ⟨ws, h, _⟩ | ⟨ws, h, _⟩
    · exact ⟨"dict", by decide, .base (.dK h), rfl⟩
    · exact ⟨"dict", by decide, .base (.dT h), rfl⟩
  | ref l =>
    obtain ⟨a, hl, rfl, _⟩ := r
    simp only [isTy] at e
    split at e
    · rename_i xs hc
      cases e
      obtain ⟨vs, hv, _⟩ := s.list hl (.inl hc)
      exact ⟨"list", by decide, list hv, rfl⟩
    · rename_i xs hc
      cases e
      obtain ⟨vs, hv, _⟩ := s.list hl (.inr hc)
      exact ⟨"list", by decide, list hv, rfl⟩
    · rename_i xs hc
      cases e
      obtain ⟨b, G, z, _, h⟩ := s.cell l _ a hc hl
      cases z
      rcases h with ⟨ws, h, _⟩ | ⟨ws, h, _⟩
      · exact ⟨"dict", by decide, .base (.dK h), rfl⟩
      · exact ⟨"dict", by decide, .base (.dT h), rfl⟩
    · cases e
  | _ => simp [isTy] at e
theorem se_isT {t : String} {A : Ex} {p2 : Pos} (hK : X.K = Z.K) (ht : okT t = true) (hg : Gl X "isinstance") (hm : X.mg "isinstance" = none) (hgt : Gl X (Str.ofString t)) (hmt : X.mg (Str.ofString t) = none) (hvt : bootBuiltins (Str.ofString t) = some (.type t)) (ha : PE X e (iE T Z W A))
    (hn : Str.ofString t ≠ "__name__") (hdb : (Str.ofString t == ("__debug__" : Str)) = false)
    (he : starEach [e, .Name (Str.ofString t) p2] X.env = (false, eval e X.env) :: starEach [.Name (Str.ofString t) p2] X.env) (he2 : starEach [.Name (Str.ofString t) p2] X.env = (false, eval (.Name (Str.ofString t) p2) X.env) :: starEach [] X.env)
    (hpl : (backTo pos (starEach [.Name (Str.ofString t) p2] X.env)).any (·.1) = false) :
    PE X (.Call (.Name "isinstance" p) [e, .Name (Str.ofString t) p2] [] pos) (iE T Z W (.bi (.isT t) [A])) :=
  ⟨fun pins s σ H Q I q => by
    refine (pe_callB (call_isi (X := X)) hg hm (by decide +kernel) (pa_cons ha (pa_cons (pe_bltn (v := .ty t) hgt hmt hvt rfl hn hdb) pa_nil he2) he) (by decide) (by decide) he hpl).run pins s σ H Q I ?_
    obtain ⟨ρ, env, st, er, sr, h⟩ := q
    simp only [ev] at h
    refine ⟨ρ, env, st, er, sr, (Post.seq rpOk (Now.start sr) sr (evs_one h)).mono ?_⟩
    rintro x H1 ⟨ρ1, d, st1, F1, n1, t1, r1, h1⟩
    have h2 : Post (Rp Z) Z W (opt (isTy st1 t d) (fun c => ret (D.bl c)) st1) ρ σ H Q := h1
    obtain ⟨c, ec, h1⟩ := opt_ok h2
    obtain ⟨u, hu, ty, rfl⟩ := isTy_ok n1.sr r1 ec
    have hk : kitB u t = some (exT t u) := by
      have := List.all_eq_true.mp ht u hu
      exact eq_of_beq this
    refine ⟨x, .ty t, .type u, .type t, exT t u, rfl, .ty t, by rw [hK]; exact ty, kit_ty hk, ?_⟩
    exact Post.ret h1 (n1.less (List.nil_sublist _)) ⟨rfl, rfl⟩⟩
/-! list(range(..)), tuple(range(..)) -/
theorem rg_rps {ρ : List Addr} {H : Hp} (a b : Int) : Rps Z ρ H (rngN a 1 (b - a).toNat) (rgV a b) [] := by
  unfold rngN rgV
  generalize (b - a).toNat = n
  have go : ∀ l : List Nat, Rps Z ρ H (l.map fun (i : Nat) => D.int (a + (i : Int) * 1)) (l.map fun i => V.int (a + (i : Nat))) [] := by
    intro l
    induction l with
    | nil => exact ⟨rfl, rfl⟩
    | cons i l ih => exact ⟨_, _, [], [], rfl, ⟨by simp, rfl⟩, ih, rfl⟩
  exact go _
theorem se_lrng1 {a : Expr} {A : Ex} {p1 pos1 : Pos} (hc : X.calm = true) (hg : Gl X "list") (hm : X.mg "list" = none) (hg2 : Gl X "range") (hm2 : X.mg "range" = none) (ha : PE X a (iE T Z W A)) (na : starEach [a] X.env = (false, eval a X.env) :: starEach [] X.env)
    (nb : starEach [.Call (.Name "range" p1) [a] [] pos1] X.env = (false, eval (.Call (.Name "range" p1) [a] [] pos1) X.env) :: starEach [] X.env) :
    PE X (.Call (.Name "list" p) [.Call (.Name "range" p1) [a] [] pos1] [] pos) (iE T Z W (.bi .lrng [A])) :=
  ⟨fun pins s σ H Q I q => by
    refine (pe_listRg hc hg hm (prg_1 hg2 hm2 ha na) nb).run pins s σ H Q I ?_
    obtain ⟨ρ, env, st, er, sr, h⟩ := q
    simp only [ev] at h
    refine ⟨ρ, env, st, er, sr, (Post.seq rpOk (Now.start sr) sr (evs_one h)).mono ?_⟩
    rintro x H1 ⟨ρ1, d, st1, F1, n1, t1, r1, h1⟩
    cases d with
    | int i =>
      obtain ⟨rfl, rfl⟩ := r1
      have h2 : Post (Rp Z) Z W (gd (rgOk 0 i) (ret (D.lst (rngN 0 1 i.toNat))) st1) ρ σ H Q := h1
      obtain ⟨hz, h1⟩ := gd_ok h2
      unfold rgOk at hz
      refine ⟨i, rfl, by unfold RgOk; exact of_decide_eq_true hz, fun p hp => ?_⟩
      have rr := rg_rps (Z := Z) (ρ := ρ1) (H := H1) 0 i
      rw [Int.sub_zero] at rr
      exact Post.ret h1 (n1.new sr hp) ⟨p, _, [], rfl, upd_same, rps_up hp rr, rfl⟩
    | _ => exact h1.elim⟩
theorem se_trng1 {a : Expr} {A : Ex} {p1 pos1 : Pos} (hc : X.calm = true) (hg : Gl X "tuple") (hm : X.mg "tuple" = none) (hg2 : Gl X "range") (hm2 : X.mg "range" = none) (ha : PE X a (iE T Z W A)) (na : starEach [a] X.env = (false, eval a X.env) :: starEach [] X.env)
    (nb : starEach [.Call (.Name "range" p1) [a] [] pos1] X.env = (false, eval (.Call (.Name "range" p1) [a] [] pos1) X.env) :: starEach [] X.env) :
    PE X (.Call (.Name "tuple" p) [.Call (.Name "range" p1) [a] [] pos1] [] pos) (iE T Z W (.bi .trng [A])) :=
  ⟨fun pins s σ H Q I q => by
    refine (pe_tupRg hc hg hm (prg_1 hg2 hm2 ha na) nb).run pins s σ H Q I ?_
    obtain ⟨ρ, env, st, er, sr, h⟩ := q
    simp only [ev] at h
    refine ⟨ρ, env, st, er, sr, (Post.seq rpOk (Now.start sr) sr (evs_one h)).mono ?_⟩
    rintro x H1 ⟨ρ1, d, st1, F1, n1, t1, r1, h1⟩
    cases d with
    | int i =>
      obtain ⟨rfl, rfl⟩ := r1
      have h2 : Post (Rp Z) Z W (gd (rgOk 0 i) (ret (D.tup (rngN 0 1 i.toNat))) st1) ρ σ H Q := h1
      obtain ⟨hz, h1⟩ := gd_ok h2
      unfold rgOk at hz
      refine ⟨i, rfl, by unfold RgOk; exact of_decide_eq_true hz, fun p hp => ?_⟩
      have rr := rg_rps (Z := Z) (ρ := ρ1) (H := H1) 0 i
      rw [Int.sub_zero] at rr
      exact Post.ret h1 (n1.newS sr hp) ⟨p, _, rfl, SqT.of upd_same, rps_up hp rr⟩
    | _ => exact h1.elim⟩
end
end Fs
namespace Fs
open PySem L2 PyProof.Rows PySem.Spec
/-- a method by values -/
def rM (Z : Wc) (W : WX) (σ : L2.St) (m : Me) (k : Nat) : V → List V → Hp → VK → Prop := fun x xs H2 Q => ∃ ρ st H ρ2 st2 d ds F G, SR Z ρ st H ∧ Now Z ρ H ρ2 st2 H2 (F ++ G) ∧ Rp Z ρ2 H2 d x F ∧ Rps Z ρ2 H2 ds xs G ∧ kndD st2 d = k ∧ Post (Rp Z) Z W (meD m d ds st2) ρ σ H Q
def kT : Nat → String
  | 1 => "str" | 2 => "int" | 3 => "tuple" | 4 => "list" | 5 => "dict" | _ => ""
/-- the method m of kind k is there and does what it should -/
def MeK (X : L2.Cx) (Z : Wc) (m : Me) (name : Str) (k : Nat) : Prop := (k = 2 ∨ k = 4 ∨ k = 5) ∧ ∃ id, PlainAttrs (kT k) ∧ Slot (kT k) name id ∧ typeOf (.builtin id) = pure (.type "method_descriptor") ∧ ∀ W σ, MtR X id (rM Z W σ m k)
section
variable {X : L2.Cx} {T : Tbl} {Z : Wc} {W : WX} {σ0 : L2.St} {e o : Expr} {es : List Expr} {A : Ex} {As : List Ex} {apos cpos pos p : Pos} {name : Str}
theorem knd_ty {ρ : List Addr} {H : Hp} {st : Sto} {d : D} {x : V} {F : List Addr} {k : Nat} (hK : X.K = Z.K) (s : SR Z ρ st H) (r : Rp Z ρ H d x F) (e : kndD st d = k) (hk : k = 2 ∨ k = 4 ∨ k = 5) : tyV X.K (kT k) x H := by
  cases d with
  | int i => obtain ⟨rfl, _⟩ := r; cases e; rfl
  | lst ds => obtain ⟨a, vs, G, rfl, h, _⟩ := r; cases e; exact .inl ⟨rfl, vs, SqL.of h⟩
  | dic ds =>
    obtain ⟨a, G, rfl, _, h⟩ := r
    cases e
    refine .inr (.inr (.inl ⟨rfl, ?_⟩))
    rcases h with ⟨ws, h, _⟩ | ⟨ws, h, _⟩
    · exact .inl ⟨ws, h⟩
    · exact .inr ⟨ws, h⟩
  | ref l =>
    obtain ⟨a, hl, rfl, _⟩ := r
    simp only [kndD] at e
    split at e
    · rename_i xs hc
      subst e
      obtain ⟨vs, hv, _⟩ := s.list hl (.inl hc)
      exact .inl ⟨rfl, vs, by rw [hK]; exact hv⟩
    · rename_i xs hc
      subst e
      obtain ⟨vs, hv, _⟩ := s.list hl (.inr hc)
      exact .inl ⟨rfl, vs, by rw [hK]; exact hv⟩
    · rename_i xs hc
      subst e
      obtain ⟨b, G, z, _, h⟩ := s.cell l _ a hc hl
      cases z
      refine .inr (.inr (.inl ⟨rfl, ?_⟩))
      rcases h with ⟨ws, h, _⟩ | ⟨ws, h, _⟩
      · exact .inl ⟨ws, h⟩
      · exact .inr ⟨ws, h⟩
    · subst e; simp at hk
  | _ => subst e; simp [kndD] at hk
theorem me_pre {m : Me} {σ : L2.St} {H : Hp} {Q : VK} (h : iE T Z W (.me m A As) σ H Q) : iE T Z W A σ H (fun x H1 => ∃ ρ st ρ1 st1 d F env, ER Z ρ H env σ ∧ SR Z ρ st H ∧ Now Z ρ H ρ1 st1 H1 F ∧ Rp Z ρ1 H1 d x F ∧ ER Z ρ1 H1 env σ ∧ meK m (kndD st1 d) = true ∧
    Post (Rp Z) Z W (bnd (evs T As env) (fun ds => fun st2 => gd (kndD st1 d == kndD st2 d) (meD m d ds) st2) st1) ρ σ H Q) := by
  obtain ⟨ρ, env, st, er, sr, h⟩ := h
  simp only [ev] at h
  refine ⟨ρ, env, st, er, sr, (Post.seq rpOk (Now.start sr) sr h).mono ?_⟩
  rintro x H1 ⟨ρ1, d, st1, F1, n1, t1, r1, h1⟩
  obtain ⟨hk, h1⟩ := gd_ok h1
  exact ⟨ρ, st, ρ1, st1, d, F1, env, er, sr, n1, r1, t1.env sr er, hk, h1⟩
theorem se_me {m : Me} (hK : X.K = Z.K) (hm : ∀ k, meK m k = true → MeK X Z m name k) (ho : PE X o (iE T Z W A)) (ha : PA X (e :: es) (iEs T Z W As))
    (hbase : attributeBase o name X.env (eval o X.env) = eval o X.env := by rfl)
    (hfew : ((backTo cpos (starEach (e :: es) X.env)).all (fun x => !x.1) && (backToKw cpos (keywordEach [] X.env)).all (fun x => x.1.isSome)
      && decide ((e :: es).length + ([] : List Keyword).length + (if ([] : List Keyword).isEmpty then 0 else 1) < 30)) = true := by rfl)
    (hline : (apos.endLine == cpos.line) = true := by rfl) (hs : starEach (e :: es) X.env = (false, eval e X.env) :: starEach es X.env := by rfl) (hplain : (backTo cpos (starEach es X.env)).any (·.1) = false := by rfl) :
    PE X (.Call (.Attribute o name apos) (e :: es) [] cpos) (iE T Z W (.me m A As)) := by
  refine ⟨fun pins s σ H Q I h => ?_⟩
  refine wpAny_Call_method_late hbase hfew hline rfl (thn (ho.run pins s σ H _ I (me_pre h)) fun v s1 ⟨x, H1, I1, r1, ρ, st, ρ1, st1, d, F, env, er, sr, n, rd, er1, hk, q⟩ => ?_)
  obtain ⟨hk3, id, pa, slot, hty, mt⟩ := hm _ hk
  obtain ⟨h1, h2⟩ := tyV_is I1 r1 (knd_ty hK n.sr rd rfl hk3)
  refine ⟨kT (kndD st1 d), id, pa, slot, hty, h1, h2, ?_⟩
  have q' := Post.seq rpsOk n sr q
  have hA := ha.run cpos pins s1 σ H1 (fun us H2 => rM Z W σ m (kndD st1 d) x us H2 Q) I1 ⟨ρ1, env, st1, er1, n.sr, q'.mono fun us H2 ⟨ρ2, ds, st2, G, n2, t2, r2, h2⟩ => ?_⟩
  · rw [hs] at hA ⊢
    refine Calls.callWith_builtin (by show (false || (backTo cpos (starEach es X.env)).any (·.1)) = false; rw [hplain] <;> rfl) (Calls.evalArgs_plain ?_)
    exact thn hA fun us s2 ⟨vs, H2, I2, r2, q2⟩ => mt W σ pins s2 σ H2 x vs v us Q I2 r1 r2 q2
  · obtain ⟨hk2, h2⟩ := gd_ok h2
    exact ⟨ρ, st, H, ρ2, st2, d, ds, F, G, sr, n2, t2.val n.sr n.out rd, r2, (eq_of_beq hk2).symm, h2⟩
theorem se_me0 {m : Me} (hK : X.K = Z.K) (hm : ∀ k, meK m k = true → MeK X Z m name k) (ho : PE X o (iE T Z W A))
    (hbase : attributeBase o name X.env (eval o X.env) = eval o X.env := by rfl) (hline : (apos.endLine == cpos.line) = true := by rfl) : PE X (.Call (.Attribute o name apos) [] [] cpos) (iE T Z W (.me m A [])) := by
  refine ⟨fun pins s σ H Q I h => ?_⟩
  refine wpAny_Call_method0_late hbase hline (thn (ho.run pins s σ H _ I (me_pre h)) fun v s1 ⟨x, H1, I1, r1, ρ, st, ρ1, st1, d, F, env, er, sr, n, rd, er1, hk, q⟩ => ?_)
  obtain ⟨hk3, id, pa, slot, hty, mt⟩ := hm _ hk
  obtain ⟨h1, h2⟩ := tyV_is I1 r1 (knd_ty hK n.sr rd rfl hk3)
  refine ⟨kT (kndD st1 d), id, pa, slot, hty, h1, h2, Calls.callWith_builtin rfl (PySem.evalArgs_none (mt W σ pins s1 σ H1 x [] v [] Q I1 r1 .nil ?_))⟩
  simp only [evs, bnd, ret] at q
  obtain ⟨hk2, q⟩ := gd_ok q
  exact ⟨ρ, st, H, ρ1, st1, d, [], F, [], sr, by simpa using n, rd, ⟨rfl, rfl⟩, rfl, q⟩
/-! the methods -/
theorem mOne {m : Me} {k : Nat} {id : String} {g : D → D → M D} (hg : ∀ st o ds, kndD st o = k → meD m o ds st = b1 (g o) ds st) (h : ∀ (W : WX) (σ0 : L2.St) (pins : List (Addr × Obj)) (s : Shared) (σ : L2.St) (H : Hp) (x y : V) (v : Value) (us : List Value) (Q : VK) (ρ : List Addr) (st : Sto) (H0 : Hp) (ρ2 : List Addr) (st2 : Sto) (d e : D) (F G : List Addr),
    Inv X pins σ H s → RelV x v → Vals [y] us → SR Z ρ st H0 → Now Z ρ H0 ρ2 st2 H (F ++ G) → Rp Z ρ2 H d x F → Rp Z ρ2 H e y G → kndD st2 d = k → Post (Rp Z) Z W (g d e st2) ρ σ0 H0 Q → wpAny (model X.prog X.w) X.A (PySem.call (.builtin id) (v :: us)) (EP X pins σ Q) X.xe s) (W : WX) (σ0 : L2.St) : MtR X id (rM Z W σ0 m k) := by
  intro pins s σ H x xs v us Q I rx rv ⟨ρ, st, H0, ρ2, st2, d, ds, F, G, sr, n, r1, r2, hk, q⟩
  rw [hg st2 d ds hk] at q
  match ds, r2, q with
  | [], _, q => exact q.elim
  | [e], r2, q =>
    obtain ⟨y, rfl, r3⟩ := one1 r2
    exact h W σ0 pins s σ H x y v us Q ρ st H0 ρ2 st2 d e F G I rx rv sr n r1 r3 hk q
  | _ :: _ :: _, _, q => exact q.elim
theorem mNone {m : Me} {k : Nat} {id : String} {g : D → M D} (hg : ∀ st o ds, kndD st o = k → meD m o ds st = b0 (g o) ds st) (h : ∀ (W : WX) (σ0 : L2.St) (pins : List (Addr × Obj)) (s : Shared) (σ : L2.St) (H : Hp) (x : V) (v : Value) (us : List Value) (Q : VK) (ρ : List Addr) (st : Sto) (H0 : Hp) (ρ2 : List Addr) (st2 : Sto) (d : D) (F : List Addr),
    Inv X pins σ H s → RelV x v → Vals [] us → SR Z ρ st H0 → Now Z ρ H0 ρ2 st2 H F → Rp Z ρ2 H d x F → kndD st2 d = k → Post (Rp Z) Z W (g d st2) ρ σ0 H0 Q → wpAny (model X.prog X.w) X.A (PySem.call (.builtin id) (v :: us)) (EP X pins σ Q) X.xe s) (W : WX) (σ0 : L2.St) : MtR X id (rM Z W σ0 m k) := by
  intro pins s σ H x xs v us Q I rx rv ⟨ρ, st, H0, ρ2, st2, d, ds, F, G, sr, n, r1, r2, hk, q⟩
  rw [hg st2 d ds hk] at q
  match ds, r2, q with
  | [], r2, q =>
    obtain ⟨rfl, rfl⟩ := r2
    exact h W σ0 pins s σ H x v us Q ρ st H0 ρ2 st2 d F I rx rv sr (by simpa using n) r1 hk q
  | _ :: _, _, q => exact q.elim
/-- a list's cell -/
theorem lcell_ok {ρ ρ2 : List Addr} {st2 : Sto} {H H0 : Hp} {d : D} {x : V} {F G : List Addr} {Q : VK} {f : Nat → List D → M D} (n : Now Z ρ H0 ρ2 st2 H (F ++ G)) (r : Rp Z ρ2 H d x F) (h : Post (Rp Z) Z W (lcell st2 f d st2) ρ σ0 H0 Q) :
    ∃ l a xs vs, d = .ref l ∧ x = .ref a ∧ F = [] ∧ ρ2[l]? = some a ∧ st2[l]? = some (.lst xs) ∧ H a = some (.lst vs) ∧ Rps Z ρ2 H xs vs [] ∧ Post (Rp Z) Z W (f l xs st2) ρ σ0 H0 Q := by
  cases d with
  | ref l =>
    obtain ⟨a, hl, rfl, rfl⟩ := r
    cases hc : st2[l]? with
    | none => simp only [lcell, hc] at h; exact h.elim
    | some c => cases c with
      | lst xs =>
        simp only [lcell, hc] at h
        obtain ⟨b, vs, G2, z, ha, rs, f⟩ := n.sr.cell l _ a hc hl
        cases z
        obtain rfl : G2 = [] := by injection f with _ f; exact f.symm
        exact ⟨l, a, xs, vs, rfl, rfl, rfl, hl, hc, ha, rs, h⟩
      | _ => simp only [lcell, hc] at h; exact h.elim
  | _ => exact h.elim
theorem len_rps {ρ : List Addr} {H : Hp} {xs : List D} {vs : List V} {F : List Addr} (r : Rps Z ρ H xs vs F) : vs.length = xs.length := r.length.symm
theorem Rps.dropLast {ρ : List Addr} {H : Hp} {xs : List D} {vs : List V} (r : Rps Z ρ H xs vs []) : Rps Z ρ H xs.dropLast vs.dropLast [] := by
  obtain ⟨G, a, b⟩ := r.take (xs.length - 1)
  obtain rfl := List.sublist_nil.mp b
  rw [List.dropLast_eq_take, List.dropLast_eq_take, ← r.length]
  exact a
theorem Rps.erase {ρ : List Addr} {H : Hp} : ∀ {xs : List D} {vs : List V} (j : Nat), Rps Z ρ H xs vs [] → Rps Z ρ H (xs.eraseIdx j) (vs.eraseIdx j) []
  | [], vs, j, h => by obtain ⟨rfl, _⟩ := h; simp [Rps]
  | x :: xs, vs, j, h => by
    obtain ⟨v1, ws, F1, F2, rfl, q1, q2, f⟩ := h
    obtain ⟨rfl, rfl⟩ := List.append_eq_nil_iff.mp f.symm
    cases j with
    | zero => exact q2
    | succ j => exact ⟨v1, ws.eraseIdx j, [], [], rfl, q1, q2.erase j, rfl⟩
theorem k_append : ∀ k, meK .append k = true → MeK X Z .append "append" k := fun k hk => by
  obtain rfl : k = 4 := by simpa [meK] using hk
  refine ⟨.inr (.inl rfl), "list.append", PySem.F.plainAttrs_list, PySem.F.slot_list_append, PySem.F.type_list_append, mOne (g := mAppend) (fun _ _ _ _ => rfl) ?_⟩
  intro W σ0 pins s σ H x y v us Q ρ st H0 ρ2 st2 d e F G I rx rv sr n r1 r2 hk h
  obtain ⟨l, a, xs, vs, rfl, rfl, rfl, hl, hc, ha, rs, h⟩ := lcell_ok n r1 h
  obtain ⟨hz, h⟩ := gd_ok h
  obtain ⟨N, pm, s', q⟩ := land_ok e n.sr r2 (fun b hb => n.out b (by simpa using hb)) (by simpa using n.nd)
  have n' : Now Z ρ H0 ρ2 st2 H ([] ++ G) := n
  have nl := n'.landed (N := N) pm s'
  refine mt_append pins s σ H _ _ v us Q I rx rv ⟨a, vs, y, rfl, rfl, ha, by rw [← rs.length]; exact of_decide_eq_true hz, ?_⟩
  have hl' := get_append (N := N) l a hl
  exact Post.ok h (nl.wr sr hl' rfl ⟨a, vs ++ [y], [], rfl, upd_same, Rps.updF ha rfl (by simp) (Rps.append (F := []) (G := []) rs.wide ⟨y, [], [], [], rfl, q, ⟨rfl, rfl⟩, rfl⟩), rfl⟩) ⟨rfl, rfl⟩
theorem k_pop : ∀ k, meK .pop k = true → MeK X Z .pop "pop" k := fun k hk => by
  obtain rfl : k = 4 := by simpa [meK] using hk
  refine ⟨.inr (.inl rfl), "list.pop", PySem.F.plainAttrs_list, PySem.F.slot_list_pop, PySem.F.type_list_pop, mNone (g := mPop) (fun _ _ _ _ => rfl) ?_⟩
  intro W σ0 pins s σ H x v us Q ρ st H0 ρ2 st2 d F I rx rv sr n r1 hk h
  have n' : Now Z ρ H0 ρ2 st2 H (F ++ []) := by simpa using n
  obtain ⟨l, a, xs, vs, rfl, rfl, rfl, hl, hc, ha, rs, h⟩ := lcell_ok n' r1 h
  obtain ⟨y, hy, h⟩ := opt_ok h
  obtain ⟨u, G, hu, ru, sub⟩ := rs.get hy
  obtain rfl := List.sublist_nil.mp sub
  refine mt_pop pins s σ H _ _ v us Q I rx rv ⟨a, vs, u, rfl, rfl, ha, by rw [← rs.length]; exact hu, ?_⟩
  exact Post.ok h (n.wr sr hl rfl ⟨a, vs.dropLast, [], rfl, upd_same, Rps.updF ha rfl (by simp) rs.dropLast, rfl⟩) (ru.updF ha rfl (by simp))
theorem dcell_ok {ρ ρ2 : List Addr} {st2 : Sto} {H H0 : Hp} {d : D} {x : V} {F G : List Addr} {Q : VK} {f : Nat → List (Ky × D) → M D} (n : Now Z ρ H0 ρ2 st2 H (F ++ G)) (r : Rp Z ρ2 H d x F) (h : Post (Rp Z) Z W (dcell st2 f d st2) ρ σ0 H0 Q) :
    ∃ l a kvs, d = .ref l ∧ x = .ref a ∧ F = [] ∧ ρ2[l]? = some a ∧ st2[l]? = some (.dic kvs) ∧ Post (Rp Z) Z W (f l kvs st2) ρ σ0 H0 Q := by
  cases d with
  | ref l =>
    obtain ⟨a, hl, rfl, rfl⟩ := r
    cases hc : st2[l]? with
    | none => simp only [dcell, hc] at h; exact h.elim
    | some c => cases c with
      | dic kvs =>
        simp only [dcell, hc] at h
        exact ⟨l, a, kvs, rfl, rfl, rfl, hl, hc, h⟩
      | _ => simp only [dcell, hc] at h; exact h.elim
  | _ => exact h.elim
theorem dropK_cons {j k : L2.Key} {u : V} {r : List (L2.Key × V)} : dropK ((j, u) :: r) k = if j = k then dropK r k else (j, u) :: dropK r k := by
  unfold dropK
  rw [List.filter_cons]
  by_cases h : j = k <;> simp [h]
theorem dropK_out {k : L2.Key} : ∀ {r : List (L2.Key × V)}, k ∉ r.map (·.1) → dropK r k = r
  | [], _ => rfl
  | (j, u) :: r, h => by
    rw [dropK_cons, if_neg (fun e => h (by simp [e])), dropK_out (fun z => h (by simp at z ⊢; exact .inr z))]
theorem ddel_ok {ρ : List Addr} {H : Hp} {k : L2.Key} : ∀ {kvs : List (Ky × D)} {ws : List (L2.Key × V)}, (ws.map (·.1)).Nodup → RpK Z ρ H kvs ws [] → RpK Z ρ H (ddel (.k k) kvs) (dropK ws k) []
  | [], ws, nd, r => by obtain ⟨rfl, _⟩ := r; exact ⟨rfl, rfl⟩
  | (q, d) :: kvs, ws, nd, r => by
    obtain ⟨j, u, ws', F1, F2, rfl, rfl, r1, r2, f⟩ := r
    obtain ⟨rfl, rfl⟩ := List.append_eq_nil_iff.mp f.symm
    have nd' := List.nodup_cons.mp (show (j :: ws'.map (·.1)).Nodup from nd)
    rw [dropK_cons]
    simp only [ddel]
    by_cases h : j = k
    · subst h
      rw [if_pos rfl, if_pos rfl, dropK_out nd'.1]
      exact r2
    · rw [if_neg (by simpa using h), if_neg h]
      exact ⟨j, u, _, [], [], rfl, rfl, r1, ddel_ok nd'.2 r2, rfl⟩
theorem k_popi (hu : X.A.units + 1 < cLine) : ∀ k, meK .popi k = true → MeK X Z .popi "pop" k := fun k hk => by
  simp only [meK, Bool.or_eq_true, beq_iff_eq] at hk
  rcases hk with rfl | rfl
  · refine ⟨.inr (.inl rfl), "list.pop", PySem.F.plainAttrs_list, PySem.F.slot_list_pop, PySem.F.type_list_pop, mOne (g := mPopi) (fun st o ds e => by simp only [meD, e]) ?_⟩
    intro W σ0 pins s σ H x y v us Q ρ st H0 ρ2 st2 d e F G I rx rv sr n r1 r2 hk h
    obtain ⟨l, a, xs, vs, rfl, rfl, rfl, hl, hc, ha, rs, h⟩ := lcell_ok n r1 h
    obtain ⟨i, hi, h⟩ := opt_ok h
    cases e with
    | int j =>
      cases hi
      obtain ⟨rfl, rfl⟩ := r2
      obtain ⟨hz, h⟩ := gd_ok h
      obtain ⟨j, hj, h⟩ := opt_ok h
      obtain ⟨y, hy, h⟩ := opt_ok h
      obtain ⟨u, G, hu, ru, sub⟩ := rs.get hy
      obtain rfl := List.sublist_nil.mp sub
      have hz := of_decide_eq_true hz
      refine mt_popAt pins s σ H _ _ v us Q I rx rv ⟨a, vs, _, j, u, rfl, rfl, ha, hz.1, hz.2, by rw [← rs.length]; exact hj, hu, ?_⟩
      exact Post.ok h (n.wr sr hl rfl ⟨a, vs.eraseIdx j, [], rfl, upd_same, Rps.updF ha rfl (by simp) (rs.erase j), rfl⟩) (ru.updF ha rfl (by simp))
    | _ => cases hi
  · refine ⟨.inr (.inr rfl), "dict.pop", PySem.F.plainAttrs_dict, PySem.F.slot_dict_pop, PySem.F.type_dict_pop, mOne (g := mDpop) (fun st o ds e => by simp only [meD, e]) ?_⟩
    intro W σ0 pins s σ H x y v us Q ρ st H0 ρ2 st2 d e F G I rx rv sr n r1 r2 hk h
    obtain ⟨l, a, kvs, rfl, rfl, rfl, hl, hc, h⟩ := dcell_ok n r1 h
    obtain ⟨q, hq, h⟩ := opt_ok h
    obtain ⟨ok, h⟩ := gd_ok h
    obtain ⟨z, hz, h⟩ := opt_ok h
    obtain ⟨k, rfl, rfl, rfl⟩ := key_ok r2 hq
    obtain ⟨H', b, ws, G, e1, I', n', ha, rk, hs, _, _⟩ := dK_now (d := .ref l) (kvs := kvs) I sr n (fun b hb => by simpa using hb) r1 (by simp [dicv, hc]) ok
    cases e1
    obtain rfl := List.sublist_nil.mp hs
    obtain rfl : v = Value.ref a := rx
    obtain ⟨u, rfl, ru⟩ := vals1 rv
    have hv := dget_ok (k := k) rk
    rw [hz] at hv
    obtain ⟨v', G', e1, r', hs2⟩ := hv
    obtain rfl := List.sublist_nil.mp hs2
    refine d_pop (more := []) I' ha ru e1 (.inl rfl) fun w' s' I2 rw' => ⟨v', _, I2, rw', ?_⟩
    have nd := dK_nodup I' ha
    have rp := ddel_ok (k := k) nd rk
    have := RpK.stay (ρ' := ρ2) (H' := upd H' a (.dK (dropK ws k))) (fun _ _ e => e) (upd_keep ha rfl) (by simp) rp
    exact Post.ok h (n'.wr sr hl rfl ⟨a, [], rfl, rfl, .inl ⟨_, upd_same, this⟩⟩) (r'.updF ha rfl (by simp))
end
end Fs
namespace Fs
open PySem L2 PyProof.Rows PySem.Spec
/-- a list (false) or a tuple (true) -/
def SqB (K : PySem.W.Frag) (b : Bool) (H : Hp) (a : Addr) (xs : List V) : Prop := match b with
  | true => SqT K H a xs
  | false => SqL K H a xs
def ItB (b : Bool) (h : Heap) (it a : Addr) (i : Nat) : Prop := match b with
  | true => h.IsTupleIter it a i
  | false => h.IsListIter it a i
def HeB (b : Bool) (h : Heap) (a : Addr) (xs : Array Value) : Prop := match b with
  | true => h.IsTuple a xs
  | false => h.IsList a xs
section
variable {b : Bool} {h h' : Heap} {it a : Addr} {i : Nat} {xs : Array Value}
theorem ItB.get (x : ItB b h it a i) : ∃ o, h.get? it = some o ∧ ∀ v, o.data ≠ .cell v := by
  cases b with
  | true => obtain ⟨o, ho, _, hd⟩ := x; exact ⟨o, ho, fun v q => by rw [hd] at q; cases q⟩
  | false => obtain ⟨o, ho, _, hd⟩ := x; exact ⟨o, ho, fun v q => by rw [hd] at q; cases q⟩
theorem ItB.at (x : ItB b h it a i) (k : ∀ o, h.get? it = some o → h'.get? it = some o) : ItB b h' it a i := by
  cases b with
  | true => exact Heap.IsTupleIter.at x k
  | false => exact Heap.IsListIter.at x k
theorem drawsB (b : Bool) {prog : Program} {w : World} {A : Around} (hh : A.handled = none) (it a : Addr) (hne : a ≠ it) (items : Array Value) : Draws prog w A it [it, a] items.size (fun i v => items[i]? = some v) (fun i h => ItB b h it a i ∧ HeB b h a items) := by
  cases b with
  | true => exact Draws.tuple hh it a hne items
  | false => exact Draws.list hh it a hne items
theorem sqB_heap {X : L2.Cx} {pins : List (Addr × Obj)} {σ : L2.St} {H : Hp} {s : Shared} {vs : List V} (I : Inv X pins σ H s) (q : SqB X.K b H a vs) : ∃ its : List Value, Vals vs its ∧ HeB b s.heap a its.toArray := by
  cases b with
  | true => obtain ⟨its, rv, p, _⟩ := I.tuple q; exact ⟨its, rv, p⟩
  | false => obtain ⟨its, rv, p, _⟩ := I.list q; exact ⟨its, rv, p.isList⟩
theorem sqB_inj {X : L2.Cx} {pins : List (Addr × Obj)} {σ : L2.St} {H : Hp} {s : Shared} {vs ws : List V} (I : Inv X pins σ H s) (q : SqB X.K b H a vs) (q2 : SqB X.K b H a ws) : vs = ws := by
  cases b with
  | true => exact I.tuple_inj q q2
  | false => exact I.list_inj q q2
end
/-- the pairs of enumerate, from k on -/
def Iten (K : PySem.W.Frag) (b : Bool) (k : Int) (a : Addr) : L2.It :=
  ⟨fun i H => ∃ (xs : List V) (x : V), SqB K b H a xs ∧ xs[i]? = some x, fun i H v H' => ∃ T x, v = .ref T ∧ H T = none ∧ H' = upd H T (.tup [.int (k + (i : Nat)), x]) ∧ ∀ xs, SqB K b H a xs → xs[i]? = some x, fun i H => ∃ xs : List V, SqB K b H a xs ∧ xs.length = i⟩
theorem turn_en {P : Program} {w : World} {K : PySem.W.Frag} {elts : List Expr} {kk : Nat} {tpos : Pos} (bb : Bool) (k : Int) (a e it : Addr) :
    Turn P w K (.Tuple elts kk tpos) (Iten K bb k a) [e, it] e (fun i h => (∃ old, IsEnum h e it (k + (i : Nat)) old) ∧ ItB bb h it a i ∧ e ≠ it ∧ a ≠ it ∧ a ≠ e) where
  mem := by simp
  obj := fun i h st b hb => by
    obtain ⟨⟨old, he⟩, hi, _⟩ := st
    have z : b = e ∨ b = it := by simpa using hb
    rcases z with z | z
    · subst z; exact ⟨_, he, fun v q => nomatch q⟩
    · subst z; exact hi.get
  keep := fun i h h' st kp => let ⟨⟨old, he⟩, hi, hne⟩ := st; ⟨⟨old, kp e (by simp) _ he⟩, hi.at fun o q => kp it (by simp) o q, hne⟩
  item := by
    intro X hP hw hK hc i pins s σ H E I hf st hg
    subst hP hw hK
    obtain ⟨⟨old, he⟩, hit, hne, hai, hae⟩ := st
    obtain ⟨xs, x, hq, hx⟩ := hg
    obtain ⟨its, rv, p⟩ := sqB_heap I hq
    obtain ⟨u, hu, ru⟩ := rv.get hx
    have hel : e < s.heap.objs.size := Heap.lt_size he
    have hil : it < s.heap.objs.size := by obtain ⟨_, q, _⟩ := hit.get; exact Heap.lt_size q
    have hlt : i < its.toArray.size := by
      have := (List.getElem?_eq_some_iff.mp hu).1
      simpa using this
    refine wpAny_pyNext_enum_itemC (drawsB bb (show X.A.in1.handled = none from I.ok.hd hc) it a hai its.toArray) he ⟨hit, p⟩ hlt hne (by simp only [List.mem_cons, List.not_mem_nil, or_false, not_or]; exact ⟨hne, fun z => hae z.symm⟩) fun u' h' tk hu' ho hst' hT hsz hk => ?_
    obtain rfl : u' = u := by
      have : its.toArray[i]? = some u := by simpa using hu
      rw [this] at hu'
      exact (Option.some.inj hu').symm
    refine ⟨_, rfl, wpAny_letOwnedTupleGo_enum (s := { s with heap := h', toks := tk + 1 }) ho fun h2 he' sb => ?_⟩
    have hT2 : h2.get? s.heap.objs.size = some { cls := .type "tuple", data := .seq #[.int (k + (i : Nat)) tk, u'] } := (sb.2 _ (Nat.ne_of_gt hel)).trans hT
    have new : ObjOk X.prog X.w (upd H s.heap.objs.size (.tup [.int (k + (i : Nat)), x])) h2 s.heap.objs.size (.tup [.int (k + (i : Nat)), x]) :=
      ⟨by show 2 ≤ sizeLine; decide, [.int (k + (i : Nat)) tk, u'], .cons ⟨_, rfl⟩ (.cons ru .nil), ⟨_, hT2, rfl, _, rfl⟩⟩
    have I1 : Inv X pins σ (upd H s.heap.objs.size (.tup [.int (k + (i : Nat)), x])) { s with heap := h2, toks := tk + 1 } :=
      I.turnedNew (ch := [e, it]) (fun b ob hb q => (sb.2 b (fun z => hb (by simp [z]))).trans (hk b ob (fun z => hb (by simp [z])) (fun z => hb (by simp [z])) q)) hf (Nat.le_refl _) new
    refine ⟨.ref s.heap.objs.size, _, I1, rfl, ⟨_, x, rfl, I.hok.fresh (Nat.le_refl _), rfl, fun ys hy => by rw [sqB_inj I hy hq]; exact hx⟩, ⟨⟨u', ?_⟩, hst'.1.at fun o q => (sb.2 it (Ne.symm hne)).trans q, hne, hai, hae⟩, fun b hb => ?_⟩
    · have e1 : k + ((i + 1 : Nat) : Int) = k + (i : Int) + 1 := by omega
      rw [e1]; exact he'
    · have hb' : b < s.heap.objs.size := by
        have z : b = e ∨ b = it := by simpa using hb
        rcases z with z | z
        · subst z; exact hel
        · subst z; exact hil
      rw [upd_ne (Nat.ne_of_lt hb')]
      exact (hf b hb).1
  done := by
    intro X hP hw hK hc i pins s σ H E I hf st hg
    subst hP hw hK
    obtain ⟨⟨old, he⟩, hit, hne, hai, hae⟩ := st
    obtain ⟨xs, hq, hx⟩ := hg
    obtain ⟨its, rv, p⟩ := sqB_heap I hq
    obtain ⟨f0, f1, f2, f3, f4, f5⟩ := hf it (by simp)
    have hl := rv.length
    refine wpAny_pyNext_enum_endD (drawsB bb (show X.A.in1.handled = none from I.ok.hd hc) it a hai its.toArray) he ⟨?_, p⟩ fun h' eb => ⟨rfl, I.turned (t' := s.toks) (fun b o hb q => eb b o hb q) f0 f1 f3 f4 f5⟩
    have e1 : its.toArray.size = i := by simp; omega
    rw [e1]
    exact hit
  self := fun A i s Q E st h => let ⟨⟨_, he⟩, _⟩ := st; wpAny_pyIter_enum he h
def HoB (b : Bool) (a : Addr) : Obj := match b with
  | true => { cls := .type "tuple_iterator", data := .fields #[.ref a, .int 0 0] }
  | false => { cls := .type "list_iterator", data := .fields #[.ref a, .int 0 0] }
theorem beginsB (b : Bool) (a : Addr) (items : Array Value) : Begins (.ref a) (HoB b a) fun h => HeB b h a items := by
  cases b with
  | true => exact begins_tuple a items
  | false => exact begins_list a items
theorem itB0 {b : Bool} {h : Heap} {it a : Addr} (e : h.get? it = some (HoB b a)) : ItB b h it a 0 := by
  cases b with
  | true => exact ⟨_, e, rfl, rfl⟩
  | false => exact ⟨_, e, rfl, rfl⟩
theorem sqB_lt {X : L2.Cx} {pins : List (Addr × Obj)} {σ : L2.St} {H : Hp} {s : Shared} {b : Bool} {a : Addr} {vs : List V} (I : Inv X pins σ H s) (q : SqB X.K b H a vs) : a < s.heap.objs.size := by
  obtain ⟨its, _, p⟩ := sqB_heap I q
  cases b with
  | true => obtain ⟨_, e, _⟩ := p; exact Heap.lt_size e
  | false => obtain ⟨_, e, _⟩ := p; exact Heap.lt_size e
open Builtin in
theorem meets_en1 {v : Value} {o : Obj} {H : Heap → Prop} (B : Begins v o H) :
    Meets (Builtin.«enumerate.__new__» ⟨[.type "enumerate", v], []⟩) (fun _ R s => H s.heap ∧
      R (.ok (.ret (.ref (s.heap.push o).objs.size))) { s with heap := (s.heap.push o).push { cls := .type "enumerate", data := .fields #[.none, .bool false, .ref s.heap.objs.size, rawInt 0, .none, .none] } }) :=
  .of_wp fun prog w A R s h => by
    obtain ⟨hp, g, d, tk, os⟩ := s
    obtain ⟨h1, h⟩ := h
    have hsub := sub_enumerate
    have begin_ : ∀ {A' : Around} {E : Value → Shared → Prop} {Q : Value → Shared → Prop}, Q (.ref hp.objs.size) ⟨hp.push o, g, d, tk, os⟩ → wpAny (model prog w) A' (pyIter v) Q E ⟨hp, g, d, tk, os⟩ :=
      fun q => B.iter prog w _ _ ⟨hp, g, d, tk, os⟩ _ h1 q
    wp_walk using begin_
    refine wpAny_stack_any fun st => wpAny_pure ?_
    split
    · rename_i c _ _ _ _ _
      cases (c == Value.type "enumerate") <;> (wp_walk using begin_; exact ⟨_, rfl, h⟩)
    · wp_walk using begin_
      exact ⟨_, rfl, h⟩
theorem enum_begins1 {prog : Program} {w : World} {A : Around} {E : Value → Shared → Prop} {s : Shared} {v : Value} {o : Obj} {H : Heap → Prop} {Q : Value → Shared → Prop} (B : Begins v o H) (h1 : H s.heap)
    (h : ∀ h', IsEnum h' (s.heap.objs.size + 1) s.heap.objs.size 0 .none → h'.get? s.heap.objs.size = some o → h'.objs.size = s.heap.objs.size + 2 → (∀ b o, s.heap.get? b = some o → h'.get? b = some o) → Q (.ref (s.heap.objs.size + 1)) { s with heap := h' }) :
    wpAny (model prog w) A (PySem.call (.type "enumerate") [v]) Q E s := by
  refine callType_new F.called_enumerate (by decide) (F.typeCall_enumerate_1 _) (F.newCall_enumerate_1 _) (fun obj => F.args_object_init_2 obj _) F.entry_enumerate_new (meets_en1 B) ⟨h1, ?_⟩
  have hz : (s.heap.push o).objs.size = s.heap.objs.size + 1 := Heap.size_push ..
  show _ ∧ _
  rw [hz]
  have he : IsEnum ((s.heap.push o).push { cls := .type "enumerate", data := .fields #[.none, .bool false, .ref s.heap.objs.size, rawInt 0, .none, .none] }) (s.heap.objs.size + 1) s.heap.objs.size 0 .none := by
    have q := Heap.get?_push_size (s.heap.push o) (o := { cls := .type "enumerate", data := .fields #[.none, .bool false, .ref s.heap.objs.size, rawInt 0, .none, .none] }) rfl
    rw [hz] at q; exact q
  exact ⟨⟨_, he, rfl⟩, h _ he (Heap.get?_push_of_some _ (Heap.get?_push_size _ B.free)) (by rw [Heap.size_push, hz]) fun b o x => Heap.get?_push_of_some _ (Heap.get?_push_of_some _ x)⟩
def iEn (K : PySem.W.Frag) (k : Int) (ta : TA) : TI := fun σ H R => ta σ H fun vs H1 => ∃ b a xs, vs = [.ref a] ∧ SqB K b H1 a xs ∧ R (Iten K b k a) H1
theorem pi_en {X : L2.Cx} {e : Expr} {ta : TA} {p pos tpos : Pos} {elts : List Expr} {kk : Nat} (hg : Gl X "enumerate") (hm : X.mg "enumerate" = none) (ha : PA X [e] ta) (hs : starEach [e] X.env = [(false, eval e X.env)]) :
    PI X (.Tuple elts kk tpos) (.Call (.Name "enumerate" p) [e] [] pos) (iEn X.K 0 ta) := by
  refine ⟨fun pins s σ H R I h => ?_⟩
  refine Call_ (ld_blt I hg hm boot_enumerate (PyProof.Rows.callWith_type1 (thn (ha.run pos pins s σ H _ I h) fun us s1 ⟨vs, H1, I1, r1, q1⟩ => ?_) hs rfl))
  obtain ⟨bb, a, xs, ex, hq, q⟩ := q1
  subst ex
  cases r1 with
  | cons r rr =>
    cases rr
    cases r
    obtain ⟨its, rv, p'⟩ := sqB_heap I1 hq
    have hal := sqB_lt I1 hq
    refine enum_begins1 (beginsB bb a its.toArray) p' fun h' he hit hsz hk => wpAny_pyIter_enum he ?_
    have I2 : Inv X pins σ H1 { s1 with heap := h' } := I1.kept (t' := s1.toks) hk
    refine ⟨s1.heap.objs.size + 1, [s1.heap.objs.size + 1, s1.heap.objs.size], _, _, H1, rfl, I2, turn_en bb 0 a (s1.heap.objs.size + 1) s1.heap.objs.size, ⟨⟨.none, he⟩, itB0 hit, Nat.succ_ne_self _, Nat.ne_of_lt hal, Nat.ne_of_lt (Nat.lt_succ_of_lt hal)⟩, fun b hb => ?_, q⟩
    have z : b = s1.heap.objs.size + 1 ∨ b = s1.heap.objs.size := by simpa using hb
    have hle : s1.heap.objs.size ≤ b := by
      rcases z with z | z
      · rw [z]; exact Nat.le_add_right _ _
      · rw [z]; exact Nat.le_refl _
    exact I1.fpOk hle (I1.hok.fresh hle)
end Fs
namespace Fs
open PySem L2 PyProof.Rows PySem.Spec
/-- a source that lies at a: a list (false), a tuple (true) -/
structure FolS (Z : Wc) (t : Src) (b : Bool) (a : Addr) (I : Nat → List Addr → Hp → List Addr → Prop) : Prop where
  there : ∀ {i ρ H F}, I i ρ H F → ∀ a ∈ F, H a ≠ none
  stay : ∀ {i ρ H F ρ' H'}, (∀ (l : Nat) (a : Addr), ρ[l]? = some a → ρ'[l]? = some a) → (∀ a o, H a = some o → HCell o = false → H' a = some o) → (∀ a ∈ F, ∀ o, H a = some o → H' a = some o) → I i ρ H F → I i ρ' H' F
  stop : ∀ {i ρ st H F}, SR Z ρ st H → I i ρ H F → t.at i st = some none → t.len st = i → ∃ vs, SqB Z.K b H a vs ∧ vs.length = i
  item : ∀ {i ρ st H F d}, SR Z ρ st H → I i ρ H F → t.at i st = some (some d) → ∃ vs x, SqB Z.K b H a vs ∧ vs[i]? = some x ∧ ∃ F1 F2, (F1 ++ F2).Perm F ∧ Rp Z ρ H d x F1 ∧ I (i + 1) ρ H F2
section
variable {Z : Wc}
theorem fs_tup {xs : List D} (a : Addr) : FolS Z (.items xs) true a (fun i ρ H F => ∃ vs, SqT Z.K H a vs ∧ vs.length = xs.length ∧ Rps Z ρ H (xs.drop i) (vs.drop i) F) where
  there := fun ⟨vs, _, _, r⟩ => r.there
  stay := fun hr ht hk ⟨vs, h, l, r⟩ => ⟨vs, SqT.stay ht h, l, r.stay hr ht hk⟩
  stop := fun {i ρ st H F} s ⟨vs, h, l, r⟩ e e2 => ⟨vs, h, by rw [l]; exact e2⟩
  item := fun {i ρ st H F d} s ⟨vs, h, l, r⟩ e => by
    simp only [Src.at, Option.some.injEq] at e
    obtain ⟨x, F1, F2, hx, rfl, r1, r2⟩ := rps_turn e r
    exact ⟨vs, x, h, hx, F1, F2, .refl _, r1, vs, h, l, r2⟩
theorem fs_lst {xs : List D} (a : Addr) : FolS Z (.items xs) false a (fun i ρ H F => ∃ vs G, H a = some (.lst vs) ∧ vs.length = xs.length ∧ Rps Z ρ H (xs.drop i) (vs.drop i) G ∧ F = a :: G) where
  there := fun ⟨vs, G, h, _, r, f⟩ b hb => by
    subst f
    rcases List.mem_cons.mp hb with rfl | hb
    · rw [h]; exact nofun
    · exact r.there b hb
  stay := fun hr ht hk ⟨vs, G, h, l, r, f⟩ => by
    subst f
    exact ⟨vs, G, hk a List.mem_cons_self _ h, l, r.stay hr ht (fun b hb => hk b (List.mem_cons_of_mem _ hb)), rfl⟩
  stop := fun {i ρ st H F} s ⟨vs, G, h, l, r, f⟩ e e2 => ⟨vs, SqL.of h, by rw [l]; exact e2⟩
  item := fun {i ρ st H F d} s ⟨vs, G, h, l, r, f⟩ e => by
    simp only [Src.at, Option.some.injEq] at e
    obtain ⟨x, F1, F2, hx, rfl, r1, r2⟩ := rps_turn e r
    subst f
    exact ⟨vs, x, SqL.of h, hx, F1, a :: F2, List.perm_middle, r1, vs, F2, h, l, r2, rfl⟩
theorem fs_cell {l : Nat} (a : Addr) : FolS Z (.cell l) false a (fun i ρ H F => ρ[l]? = some a ∧ F = []) where
  there := fun ⟨_, f⟩ b hb => by rw [f] at hb; cases hb
  stay := fun hr _ _ ⟨h, f⟩ => ⟨hr l a h, f⟩
  stop := fun {i ρ st H F} s ⟨h, f⟩ e e2 => by
    obtain ⟨xs, hc, hx⟩ := src_cell e
    obtain ⟨vs, hv, r⟩ := s.list h hc
    refine ⟨vs, hv, ?_⟩
    rw [← r.length, ← e2]
    rcases hc with hc | hc <;> simp [Src.len, hc]
  item := fun {i ρ st H F d} s ⟨h, f⟩ e => by
    obtain ⟨xs, hc, hx⟩ := src_cell e
    obtain ⟨vs, hv, r⟩ := s.list h hc
    obtain ⟨x, G, ex, rx, hG⟩ := r.get hx
    obtain rfl : G = [] := List.sublist_nil.mp hG
    exact ⟨vs, x, hv, ex, [], [], by rw [f]; exact .refl _, rx, h, rfl⟩
theorem stay_new {H : Hp} {T : Addr} {o : HO} (hT : H T = none) : ∀ a u, H a = some u → upd H T o a = some u := fun a u e => by
  rw [upd_ne (fun z => by rw [z, hT] at e; cases e)]; exact e
theorem fol_en {s : Src} {b : Bool} {a : Addr} {I : Nat → List Addr → Hp → List Addr → Prop} (k : Int) (f : FolS Z s b a I) : Fol Z (.enum k s) (Iten Z.K b k a) I where
  there := f.there
  stay := f.stay
  stop := fun {i ρ st H F} sr hI e => by
    simp only [It.next] at e
    split at e
    · cases e
    · rename_i h1
      split at e
      · rename_i h2
        obtain ⟨vs, h, l⟩ := f.stop sr hI h1 h2
        exact ⟨vs, h, l⟩
      · cases e
    · cases e
  item := fun {i ρ st H F d} sr hI e => by
    simp only [It.next] at e
    split at e
    · rename_i d' h1
      cases e
      obtain ⟨vs, x, h, hx, F1, F2, pm, r, hI2⟩ := f.item sr hI h1
      refine ⟨⟨vs, x, h, hx⟩, ?_⟩
      rintro y H' ⟨T, x', rfl, hT, rfl, hall⟩
      have := hall vs h
      rw [hx] at this
      cases this
      have st := stay_new (o := .tup [.int (k + (i : Nat)), x]) hT
      refine ⟨.inr ⟨T, _, hT, rfl⟩, F1, F2, pm, ⟨T, _, rfl, SqT.of upd_same, ?_⟩, f.stay (fun _ _ e => e) (fun a o e _ => st a o e) (fun a _ o e => st a o e) hI2⟩
      exact ⟨_, _, [], F1, rfl, ⟨rfl, rfl⟩, ⟨x, [], F1, [], rfl, rp_up hT r, ⟨rfl, rfl⟩, by simp⟩, by simp⟩
    · split at e <;> cases e
    · cases e
theorem src_ok {d : D} {s : Src} {x : V} {ρ : List Addr} {H : Hp} {F : List Addr} {st st' : Sto} (sr : SR Z ρ st H) (r : Rp Z ρ H d x F) (e : srcOf d st = .ok s st') : st' = st ∧ ∃ b a I vs, x = .ref a ∧ FolS Z s b a I ∧ SqB Z.K b H a vs ∧ I 0 ρ H F := by
  cases d with
  | tup xs =>
    cases e
    obtain ⟨a, vs, rfl, h, rs⟩ := r
    exact ⟨rfl, true, a, _, vs, rfl, fs_tup a, h, vs, h, rs.length.symm, by simpa using rs⟩
  | lst xs =>
    cases e
    obtain ⟨a, vs, G, rfl, h, rs, f⟩ := r
    exact ⟨rfl, false, a, _, vs, rfl, fs_lst a, SqL.of h, vs, G, h, rs.length.symm, by simpa using rs, f⟩
  | ref l =>
    obtain ⟨a, hl, rfl, f⟩ := r
    simp only [srcOf] at e
    split at e
    · rename_i xs hc
      cases e
      obtain ⟨vs, hv, rs⟩ := sr.list hl (.inl hc)
      exact ⟨rfl, false, a, _, vs, rfl, fs_cell a, hv, hl, f⟩
    · rename_i xs hc
      cases e
      obtain ⟨vs, hv, rs⟩ := sr.list hl (.inr hc)
      exact ⟨rfl, false, a, _, vs, rfl, fs_cell a, hv, hl, f⟩
    · cases e
  | _ => cases e
end
section
variable {X : L2.Cx} {T : Tbl} {Z : Wc} {W : WX} {pos p tpos : Pos} {e : Expr} {A : Ex} {elts : List Expr} {kk : Nat}
theorem si_en (hK : X.K = Z.K) (hg : Gl X "enumerate") (hm : X.mg "enumerate" = none) (ha : PE X e (iE T Z W A)) (hs : starEach [e] X.env = [(false, eval e X.env)]) : PI X (.Tuple elts kk tpos) (.Call (.Name "enumerate" p) [e] [] pos) (iI T Z W (.enum A 0)) := by
  have w := pi_en (p := p) (pos := pos) (elts := elts) (kk := kk) (tpos := tpos) hg hm (pa_cons ha pa_nil hs) hs
  refine ⟨fun pins s σ H R I h => w.run pins s σ H R I ?_⟩
  obtain ⟨ρ, env, st, er, sr, h⟩ := h
  simp only [evI] at h
  refine ⟨ρ, env, st, er, sr, (Post.seq rpOk (Now.start sr) sr h).mono ?_⟩
  rintro x H1 ⟨ρ1, d, st1, F1, n1, t1, r1, h1⟩
  cases e1 : srcOf d st1 with
  | exc _ _ => simp [srcOf] at e1; split at e1 <;> first | cases e1 | (split at e1 <;> cases e1)
  | bad => unfold bnd at h1; rw [e1] at h1; exact h1.elim
  | ok s2 st2 =>
    obtain ⟨rfl, b, a, I2, vs, rfl, f, hv, hI⟩ := src_ok n1.sr r1 e1
    unfold bnd at h1
    rw [e1] at h1
    refine ⟨b, a, vs, rfl, by rw [hK]; exact hv, ?_⟩
    rw [hK]
    exact Post.ret h1 n1 ⟨I2, fol_en 0 f, by simpa using hI⟩
end
end Fs
namespace Fs
open PySem L2 PyProof.Rows PySem.Spec
theorem dput_keys {k : Ky} {v : D} : ∀ {kvs : List (Ky × D)} {j : Ky}, j ∈ (dput k v kvs).map (·.1) → j = k ∨ j ∈ kvs.map (·.1)
  | [], j, h => by simp [dput] at h; exact .inl h
  | (q, x) :: r, j, h => by
    simp only [dput] at h
    split at h
    · exact .inr (by simpa using h)
    · simp only [List.map_cons, List.mem_cons] at h ⊢
      rcases h with h | h
      · exact .inr (.inl h)
      · rcases dput_keys h with h | h
        · exact .inl h
        · exact .inr (.inr h)
theorem dput_nodup {k : Ky} {v : D} : ∀ {kvs : List (Ky × D)}, (kvs.map (·.1)).Nodup → ((dput k v kvs).map (·.1)).Nodup
  | [], _ => by simp [dput]
  | (q, x) :: r, h => by
    have h' := List.nodup_cons.mp (show (q :: r.map (·.1)).Nodup from h)
    simp only [dput]
    split
    · exact h
    · rename_i hq
      refine List.nodup_cons.mpr ⟨fun z => ?_, dput_nodup h'.2⟩
      rcases dput_keys z with e | e
      · exact hq e
      · exact h'.1 e
section
variable {X : L2.Cx} {T : Tbl} {Z : Wc} {W : WX} {pos p : Pos} {tg e c : Expr} {A B : Ex}
theorem dc_ok {own : List Nat} {it : Ix} {t : Tg} {ifs : List Cn} {A B : Ex} (hsub : ∀ i ∈ tgN t, i ∈ own) {σ : L2.St} {H : Hp} {Q : VK} (h : iE T Z W (.dc own it t ifs A B) σ H Q) :
    tDc (iI T Z W it) (iG T Z t) (iTs T Z WF ifs) (iE T Z WF A) (iE T Z WF B) own σ H Q := by
  obtain ⟨ρ, env, st, er, sr, h⟩ := h
  simp only [ev] at h
  refine ⟨ρ, env, st, er, sr, (Post.seq relI_ok (Now.start sr) sr h).mono ?_⟩
  rintro J H1 ⟨ρ1, w, st1, G, n1, t1, ⟨I, fol, hI⟩, h1⟩ D hD
  have up : ∀ a u, H1 a = some u → upd H1 D (.dK []) a = some u := fun a u e => by rw [upd_ne (fun z => by rw [z, hD] at e; cases e)]; exact e
  generalize hturn : (fun d => bnd (asgT T t d (Fs.wipe env own)) fun σ' => bnd (evTs T ifs σ') fun b => match b with
        | true => bnd (ev T A σ') fun x => bnd (ev T B σ') fun y => opt (keyOf x) fun q => ret (some (q, y))
        | false => ret none : Fs.D → Sto → R (Option (Ky × Fs.D))) = turn at h1
  refine ⟨fun i m H' => ∃ ρ' st' Fi ys vs, Now Z ρ H ρ' st' H' (D :: Fi) ∧ H' D = some (.dK vs) ∧ RpK Z ρ' H' ys vs [] ∧ (ys.map (·.1)).Nodup ∧ I i ρ' H' Fi ∧ Post (Rp Z) Z W (bnd (dcLoop w turn m i ys) (fun ys => ret (.dic ys)) st') ρ σ H Q,
    ⟨w.len st1 + 1, ρ1, st1, G, [], [], n1.new sr hD, upd_same, ⟨rfl, rfl⟩, List.nodup_nil, fol.stay (fun _ _ e => e) (fun a u e _ => up a u e) (fun a _ u e => up a u e) hI, h1⟩, ?_⟩
  rintro i m H' ⟨ρ', st', Fi, ys, vs, n, hDv, rys, hnd, hI', h'⟩
  cases m with
  | zero => exact h'.elim
  | succ m =>
    unfold bnd at h'
    simp only [dcLoop] at h'
    cases e1 : w.next i st' with
    | none => rw [e1] at h'; exact h'.elim
    | some o => cases o with
      | none =>
        rw [e1] at h'
        refine .inl ⟨fol.stop n.sr hI' e1, ?_⟩
        exact Post.ok h' (n.less (List.cons_sublist_cons.mpr (List.nil_sublist _))) ⟨D, [], rfl, rfl, .inl ⟨vs, hDv, rys⟩⟩
      | some d =>
        rw [e1] at h'
        simp only at h'
        obtain ⟨hgo, hy⟩ := fol.item n.sr hI' e1
        refine .inr ⟨hgo, fun H2 => ∃ ρ' st' Fi ys vs, Now Z ρ H ρ' st' H2 (D :: Fi) ∧ H2 D = some (.dK vs) ∧ RpK Z ρ' H2 ys vs [] ∧ (ys.map (·.1)).Nodup ∧ I (i + 1) ρ' H2 Fi ∧ Post (Rp Z) Z W (bnd (dcLoop w turn m (i + 1) ys) (fun ys => ret (.dic ys)) st') ρ σ H Q,
          fun H2 hN => ⟨m, Nat.lt_succ_self m, hN⟩, fun x Hx hyl => ?_⟩
        obtain ⟨hH, F1, F2, hperm, rx, hI2⟩ := hy x Hx hyl
        have perm : (F1 ++ (D :: F2)).Perm (D :: Fi) := by
          exact (List.perm_middle).trans (List.Perm.cons D hperm)
        obtain ⟨nx, erx⟩ := (n.perm perm).tupd sr hH
        have stx : (∀ a u, H' a = some u → Hx a = some u) := by
          rcases hH with rfl | ⟨T0, vs0, hT, rfl⟩
          · exact fun a u e => e
          · exact fun a u e => by rw [upd_ne (fun z => by rw [z, hT] at e; cases e)]; exact e
        have rysx : RpK Z ρ' Hx ys vs [] := rys.stay (fun _ _ e => e) (fun a u e _ => stx a u e) (fun a _ u e => stx a u e)
        refine ⟨ρ', Fs.wipe env own, st', d, F1, (nx.less (List.sublist_append_left _ _)).hand, (erx (n.stp.env sr er)).wipe own, rx, ?_⟩
        have et : turn d st' = bnd (asgT T t d (Fs.wipe env own)) (fun σ' => bnd (evTs T ifs σ') fun b => match b with
            | true => bnd (ev T A σ') fun x => bnd (ev T B σ') fun y => opt (keyOf x) fun q => ret (some (q, y))
            | false => ret none) st' := by rw [← hturn]
        rw [et] at h'
        simp only [bnd] at h'
        cases e2 : asgT T t d (Fs.wipe env own) st' with
        | exc _ _ => simp only [e2] at h'; exact h'.elim
        | bad => simp only [e2] at h'; exact h'.elim
        | ok env3 st3 =>
          simp only [e2] at h'
          intro ρ3 H3 σ3 t3 sr3 er3 m3
          have n3 := nx.landR sr t3 sr3
          obtain ⟨k1, k2, k3⟩ := t3.kept nx.hand rx.hcells
          refine ⟨wipe_sm m3 hsub, ρ3, env3, st3, er3, sr3, ?_⟩
          cases e3 : evTs T ifs env3 st3 with
          | exc _ _ => simp only [e3] at h'; exact h'.elim
          | bad => simp only [e3] at h'; exact h'.elim
          | ok b st4 =>
            simp only [e3] at h'
            rintro ρ4 H4 bb F t4 sr4 ⟨rfl, rfl⟩
            have n4 := n3.more sr t4 sr4 (by simp)
            rw [List.append_nil] at n4
            obtain ⟨q1, q2, q3⟩ := t4.kept sr3 n3.out
            have hD4 : H4 D = some (.dK vs) := q3 D List.mem_cons_self _ (k3 D List.mem_cons_self _ (stx _ _ hDv))
            have rys4 : RpK Z ρ4 H4 ys vs [] := (rysx.stay k1 k2 (by simp)).stay q1 q2 (by simp)
            have hI4 : I (i + 1) ρ4 H4 F2 := fol.stay q1 q2 (fun a ha => q3 a (List.mem_cons_of_mem _ ha)) (fol.stay k1 k2 (fun a ha => k3 a (List.mem_cons_of_mem _ ha)) hI2)
            cases b with
            | false =>
              simp only [ret] at h'
              exact ⟨ρ4, st4, F2, ys, vs, n4, hD4, rys4, hnd, hI4, h'⟩
            | true =>
              refine ⟨ρ4, env3, st4, t4.env sr3 er3, sr4, ?_⟩
              cases e4 : ev T A env3 st4 with
              | exc _ _ => simp only [bnd, e4, ret, opt] at h'; exact h'.elim
              | bad => simp only [bnd, e4, ret, opt] at h'; exact h'.elim
              | ok kd st5 =>
                simp only [bnd, e4, ret, opt] at h'
                intro ρ5 H5 kv G5 t5 sr5 r5
                refine ⟨ρ5, env3, st5, t5.env sr4 (t4.env sr3 er3), sr5, ?_⟩
                have n5 := n4.more sr t5 sr5 r5.there
                obtain ⟨u1, u2, u3⟩ := t5.kept sr4 n4.out
                cases e5 : ev T B env3 st5 with
                | exc _ _ => simp only [e5] at h'; exact h'.elim
                | bad => simp only [e5] at h'; exact h'.elim
                | ok y st6 =>
                  simp only [e5] at h'
                  intro ρ6 H6 v G6 t6 sr6 r6
                  have n6 := n5.more sr t6 sr6 r6.there
                  obtain ⟨w1, w2, w3⟩ := t6.kept sr5 n5.out
                  cases hq : keyOf kd with
                  | none => simp only [hq, bad] at h'; exact h'.elim
                  | some q =>
                    simp only [hq, ret] at h'
                    by_cases hz : ys.length < sizeLine ∧ okKeys q ys = true ∧ Fs.D.pur y = true
                    · rw [if_pos hz] at h'
                      obtain ⟨k, rfl, rfl, rfl⟩ := key_ok r5 hq
                      obtain rfl := r6.pure hz.2.2
                      have hD6 := w3 D (List.mem_append_left _ List.mem_cons_self) _ (u3 D List.mem_cons_self _ hD4)
                      have rys6 : RpK Z ρ6 H6 ys vs [] := (rys4.stay u1 u2 (by simp)).stay w1 w2 (by simp)
                      obtain ⟨G, rp, hs⟩ := dput_ok (k := k) r6 hnd rys6
                      obtain rfl := List.sublist_nil.mp hs
                      have hlen : ys.length = vs.length := by simpa using congrArg List.length rys6.keysEq
                      have n6' : Now Z ρ H ρ6 st6 H6 (D :: F2) := by simpa using n6
                      have nd6 := n6'.nd
                      simp only [List.nodup_cons] at nd6
                      refine ⟨vs, k, rfl, hD6, by rw [← hlen]; exact hz.1, ρ6, st6, F2, _, _, n6'.updF sr List.mem_cons_self hD6 rfl, upd_same, RpK.stay (fun _ _ e => e) (upd_keep hD6 rfl) (by simp) rp, dput_nodup hnd, ?_, h'⟩
                      exact fol.stay (fun _ _ e => e) (upd_keep hD6 rfl) (upd_off nd6.1) (fol.stay w1 w2 (fun a ha => w3 a (List.mem_append_left _ (List.mem_cons_of_mem _ ha))) (fol.stay u1 u2 (fun a ha => u3 a (List.mem_cons_of_mem _ ha)) hI4))
                    · rw [if_neg hz] at h'; exact h'.elim
theorem se_dc {kx vx iter : Expr} {ifs : List Expr} {scope : Scope} {own : List (Str × Nat)} {it : Ix} {t : Tg} {Cs : List Cn} (hc : X.calm = true) (hN : X.N.Nodup) (ok : blkC X.N X.env.scope scope own = true) (hsub : (tgN t).all ((own.map (·.2)).contains ·) = true)
    (hi : PI X tg iter (iI T Z W it)) (hg : ∀ (s : Shared) (H : Hp) (C : Addr) (cl : List (Str × Addr)) (fp : List Addr), PG (X.blk s H scope (compEnvC scope cl C X.env) fp) tg (iG T Z t))
    (ht : ∀ (s : Shared) (H : Hp) (C : Addr) (cl : List (Str × Addr)) (fp : List Addr), PTs (X.blk s H scope (compEnvC scope cl C X.env) fp) ifs (iTs T Z WF Cs))
    (hk : ∀ (s : Shared) (H : Hp) (C : Addr) (cl : List (Str × Addr)) (fp : List Addr), PE (X.blk s H scope (compEnvC scope cl C X.env) fp) kx (iE T Z WF A))
    (he : ∀ (s : Shared) (H : Hp) (C : Addr) (cl : List (Str × Addr)) (fp : List Addr), PE (X.blk s H scope (compEnvC scope cl C X.env) fp) vx (iE T Z WF B)) (hs : ∀ x, foldedSetIterable iter X.env x = pure x := by intro _; rfl) :
    PE X (.DictComp kx vx [⟨tg, iter, ifs, 0⟩] scope pos) (iE T Z W (.dc (own.map (·.2)) it t Cs A B)) :=
  pe_weak (pe_dc hc hN hi (blkOk_by ok) hg ht hk he hs) fun σ H Q h => dc_ok (subN hsub) h
/-- {} -/
theorem se_dct0 : PE X (.Dict [] [] pos) (iE T Z W (.dct [])) :=
  pe_weak pe_dnewK fun σ H Q ⟨ρ, env, st, er, sr, h⟩ p hp => by
    simp only [ev, evkv, bnd, ret, gd] at h
    exact Post.ok h ((Now.start sr).new sr hp) ⟨p, [], rfl, rfl, .inl ⟨[], upd_same, ⟨rfl, rfl⟩⟩⟩
end
end Fs
namespace Fs
open PySem L2 PyProof.Rows PySem.Spec
section
variable {X : L2.Cx} {T : Tbl} {Z : Wc} {W : WX} {pos pt px py pz pt2 : Pos} {a b c : Expr} {A B C : Ex} {x y z : Str} {i j l kt k2 : Nat}
/-- what a store of a tuple's parts is ahead of -/
theorem par_pre {ts : List Tg} {As : List Ex} {Dn : Ends} {σ : L2.St} {H : Hp} (h : iS T Z W (.asg (.tup ts) (.tup As)) Dn σ H) :
    iEs T Z W As σ H (fun vs H1 => ∃ ρ1 st1 env ds F, Hand Z ρ1 st1 H1 F ∧ ER Z ρ1 H1 env σ ∧ Rps Z ρ1 H1 ds vs F ∧ ∃ env' st', asgTs T ts ds env st1 = .ok env' st' ∧ ∀ ρ' H' σ', StpF ρ1 H1 F ρ' H' → SR Z ρ' st' H' → ER Z ρ' H' env' σ' → Dn.nx σ' H') := by
  obtain ⟨ρ, env, st, er, sr, h⟩ := h
  simp only [exS, ev] at h
  refine ⟨ρ, env, st, er, sr, ?_⟩
  have h' : PostS Z W (lft env (evs T As env) (fun ds => fun s => lft env (gd (decide (ds.length ≤ sizeLine)) (ret (.tup ds))) (fun x => bnd (noX (asgT T (.tup ts) x env)) fun σ' => ret (.nx σ')) s) st) ρ H Dn := by
    unfold lft bnd at h ⊢
    cases e : evs T As env st <;> simp only [e] at h ⊢ <;> exact h
  refine (PostS.lft rpsOk (Now.start sr) sr er h').mono ?_
  rintro vs H1 ⟨ρ1, ds, st1, G, n, t, er1, r, h1⟩
  cases hz : decide (ds.length ≤ sizeLine) with
  | false => simp only [hz, gd, lft, bad] at h1; exact h1.elim
  | true =>
    simp only [hz, gd, lft, ret, bnd, noX, asgT, ofTup] at h1
    cases e1 : asgTs T ts ds env st1 with
    | exc _ _ => rw [e1] at h1; exact h1.elim
    | bad => rw [e1] at h1; exact h1.elim
    | ok env' st' =>
      rw [e1] at h1
      have n' : Now Z ρ H ρ1 st1 H1 G := n
      exact ⟨ρ1, st1, env, ds, G, n'.hand, er1, r, env', st', e1, fun ρ' H' σ' t2 sr2 er2 => h1 ρ' H' σ' (n'.land sr t2) sr2 er2⟩
theorem asg2 {ds : List D} {env env' : Env} {st st' : Sto} {ρ : List Addr} {H : Hp} {σ : L2.St} {vs : List V} {F : List Addr} (hd : Hand Z ρ st H F) (er : ER Z ρ H env σ) (r : Rps Z ρ H ds vs F) (e : asgTs T [.nm i, .nm j] ds env st = .ok env' st') :
    ∃ v w N, vs = [v, w] ∧ N.Perm F ∧ SR Z (ρ ++ N) st' H ∧ ER Z (ρ ++ N) H env' ((σ.set i (some v)).set j (some w)) := by
  match ds, r, e with
  | [], _, e => cases e
  | [_], _, e => simp only [asgTs, asgT, bnd, landM, ret] at e; cases e
  | [d1, d2], r, e =>
    obtain ⟨N, pm, s', q⟩ := lands_ok _ hd.sr r hd.out hd.nd
    simp only [lands] at s' q
    simp only [asgTs, asgT, bnd, landM, ret] at e
    cases e
    obtain ⟨v, ws, F1, F2, rfl, q1, q2, f⟩ := q
    obtain ⟨w, ws2, F3, F4, rfl, q3, ⟨rfl, rfl⟩, f2⟩ := q2
    obtain ⟨rfl, rfl⟩ := List.append_eq_nil_iff.mp f.symm
    obtain ⟨rfl, _⟩ := List.append_eq_nil_iff.mp f2.symm
    have er' : ER Z (ρ ++ N) H env σ := ⟨er.1, fun k x hx => let ⟨u, h1, h2⟩ := er.2 k x hx; ⟨u, h1, h2.wide⟩⟩
    exact ⟨v, w, N, rfl, pm, s', (er'.set q1).set q3⟩
  | _ :: _ :: _ :: _, _, e => simp only [asgTs, asgT, bnd, landM, ret] at e; cases e
theorem asg3 {ds : List D} {env env' : Env} {st st' : Sto} {ρ : List Addr} {H : Hp} {σ : L2.St} {vs : List V} {F : List Addr} (hd : Hand Z ρ st H F) (er : ER Z ρ H env σ) (r : Rps Z ρ H ds vs F) (e : asgTs T [.nm i, .nm j, .nm l] ds env st = .ok env' st') :
    ∃ u v w N, vs = [u, v, w] ∧ N.Perm F ∧ SR Z (ρ ++ N) st' H ∧ ER Z (ρ ++ N) H env' (((σ.set i (some u)).set j (some v)).set l (some w)) := by
  match ds, r, e with
  | [], _, e => cases e
  | [_], _, e => simp only [asgTs, asgT, bnd, landM, ret] at e; cases e
  | [_, _], _, e => simp only [asgTs, asgT, bnd, landM, ret] at e; cases e
  | [d1, d2, d3], r, e =>
    obtain ⟨N, pm, s', q⟩ := lands_ok _ hd.sr r hd.out hd.nd
    simp only [lands] at s' q
    simp only [asgTs, asgT, bnd, landM, ret] at e
    cases e
    obtain ⟨v, ws, F1, F2, rfl, q1, q2, f⟩ := q
    obtain ⟨w, ws2, F3, F4, rfl, q3, q4, f2⟩ := q2
    obtain ⟨w3, ws3, F5, F6, rfl, q5, ⟨rfl, rfl⟩, f3⟩ := q4
    obtain ⟨rfl, rfl⟩ := List.append_eq_nil_iff.mp f.symm
    obtain ⟨rfl, rfl⟩ := List.append_eq_nil_iff.mp f2.symm
    obtain ⟨rfl, _⟩ := List.append_eq_nil_iff.mp f3.symm
    have er' : ER Z (ρ ++ N) H env σ := ⟨er.1, fun k x hx => let ⟨u, h1, h2⟩ := er.2 k x hx; ⟨u, h1, h2.wide⟩⟩
    exact ⟨v, w, w3, N, rfl, pm, s', ((er'.set q1).set q3).set q5⟩
  | _ :: _ :: _ :: _ :: _, _, e => simp only [asgTs, asgT, bnd, landM, ret] at e; cases e
theorem ss_par2 (hc : X.calm = true) (hN : X.N.Nodup) (hi : X.N[i]? = some x) (hj : X.N[j]? = some y) (hij : i ≠ j)
    (hx : X.env.scope.names.lookup x = some .local) (hy : X.env.scope.names.lookup y = some .local) (ha : PA X [a, b] (iEs T Z W [A, B]))
    (hw : swappedStores [.Tuple [.Name x px, .Name y py] kt pt] (.Tuple [a, b] k2 pt2) X.env = pure (some [x, y]))
    (hs : swapsWithSole [.Tuple [.Name x px, .Name y py] kt pt] (.Tuple [a, b] k2 pt2) pos.line X.env = pure false := by rfl) :
    PS X (.Assign [.Tuple [.Name x px, .Name y py] kt pt] (.Tuple [a, b] k2 pt2) pos) (iS T Z W (.asg (.tup [.nm i, .nm j]) (.tup [A, B]))) :=
  ps_weak (ps_par hc hN hi hj hij hx hy ha hw hs) fun Dn σ H h => by
    obtain ⟨ρ, env, st, er, sr, q⟩ := par_pre h
    refine ⟨ρ, env, st, er, sr, q.mono ?_⟩
    rintro vs H1 ⟨ρ1, st1, env1, ds, F, hd, er1, r, env', st', e, q1⟩
    obtain ⟨v, w, N, rfl, pm, s', er2⟩ := asg2 hd er1 r e
    exact ⟨v, w, rfl, q1 _ _ _ ⟨N, rfl, pm.nodup_iff.mpr hd.nd, fun b hb => .inl (pm.mem_iff.mp hb), fun _ _ e _ _ => e⟩ s' er2⟩
theorem ss_par3 (hc : X.calm = true) (hN : X.N.Nodup) (hi : X.N[i]? = some x) (hj : X.N[j]? = some y) (hl : X.N[l]? = some z) (hij : i ≠ j) (hil : i ≠ l) (hjl : j ≠ l)
    (hx : X.env.scope.names.lookup x = some .local) (hy : X.env.scope.names.lookup y = some .local) (hz : X.env.scope.names.lookup z = some .local) (ha : PA X [a, b, c] (iEs T Z W [A, B, C]))
    (hw : swappedStores [.Tuple [.Name x px, .Name y py, .Name z pz] kt pt] (.Tuple [a, b, c] k2 pt2) X.env = pure (some [x, y, z]))
    (hs : swapsWithSole [.Tuple [.Name x px, .Name y py, .Name z pz] kt pt] (.Tuple [a, b, c] k2 pt2) pos.line X.env = pure false := by rfl) :
    PS X (.Assign [.Tuple [.Name x px, .Name y py, .Name z pz] kt pt] (.Tuple [a, b, c] k2 pt2) pos) (iS T Z W (.asg (.tup [.nm i, .nm j, .nm l]) (.tup [A, B, C]))) :=
  ps_weak (ps_par3 hc hN hi hj hl hij hil hjl hx hy hz ha hw hs) fun Dn σ H h => by
    obtain ⟨ρ, env, st, er, sr, q⟩ := par_pre h
    refine ⟨ρ, env, st, er, sr, q.mono ?_⟩
    rintro vs H1 ⟨ρ1, st1, env1, ds, F, hd, er1, r, env', st', e, q1⟩
    obtain ⟨u, v, w, N, rfl, pm, s', er2⟩ := asg3 hd er1 r e
    exact ⟨u, v, w, rfl, q1 _ _ _ ⟨N, rfl, pm.nodup_iff.mpr hd.nd, fun b hb => .inl (pm.mem_iff.mp hb), fun _ _ e _ _ => e⟩ s' er2⟩
end
end Fs
namespace Fs
open PySem L2 PyProof.Rows PySem.Spec
section
variable {Z : Wc}
theorem er_start {ρ : List Addr} {H : Hp} {ds : List D} {vs : List V} (r : Rps Z ρ H ds vs []) (m : Nat) : ER Z ρ H (ds.map some ++ List.replicate m none) (vs.map some ++ List.replicate m none) := by
  refine ⟨by simp [r.length], fun i d h => ?_⟩
  by_cases hi : i < ds.length
  · rw [List.getElem?_append_left (by simpa using hi), List.getElem?_map] at h
    cases hd : ds[i]? with
    | none => rw [hd] at h; cases h
    | some d' =>
      rw [hd] at h
      cases h
      obtain ⟨v, G, hv, rv, sub⟩ := r.get hd
      obtain rfl := List.sublist_nil.mp sub
      refine ⟨v, ?_, rv⟩
      rw [List.getElem?_append_left (by simp [← r.length]; exact hi), List.getElem?_map, hv]
      rfl
  · rw [List.getElem?_append_right (by simpa using Nat.le_of_not_lt hi), List.getElem?_replicate] at h
    split at h <;> cases h
/-- a def is entered -/
theorem enter_ok {P : Pr} {n i : Nat} {F : Fn} {N : List Str} {vs : List V} {H : Hp} {Q : VK} {E : XK} (hF : P.fns i = some F) (hN : N.length = F.ns) (h : spI Z (call P (n + 1) i) F.np vs H Q E) :
    iL (P.tbl n) Z (fun cls dx _ H' => E cls dx H') F.body { nx := fun _ H' => Q .non H', rt := Q } (start N vs) H := by
  obtain ⟨hl, ρ0, st0, H0, ρ, st, ds, FF, sr0, n0, r, h⟩ := h
  have hd : ds.length = F.np := by rw [r.length, hl]
  unfold call at h
  simp only [hF, hd, decide_true] at h
  obtain ⟨M, pm, s1, r1⟩ := lands_ok ds n0.sr r n0.out n0.nd
  have n0' : Now Z ρ0 H0 ρ st H ([] ++ FF) := n0
  have n1 := n0'.landed pm s1
  refine ⟨ρ ++ M, (lands ds st).1.map some ++ List.replicate (F.ns - F.np) none, (lands ds st).2, ?_, s1, ?_⟩
  · have := er_start r1 (F.ns - F.np)
    unfold L2.start
    rw [hN, hl]
    exact this
  · have tk : ∀ ρ', (∃ K, ρ' = (ρ ++ M) ++ K) → ρ'.take st.length = ρ := by
      rintro ρ' ⟨K, rfl⟩
      rw [← n0.sr.len, List.append_assoc]
      simp
    show PostS Z _ (exL (P.tbl n) F.body _ _) _ _ _
    unfold Pr.tbl
    cases e : exL ⟨call P n, P.fld, P.anc⟩ F.body ((lands ds st).1.map some ++ List.replicate (F.ns - F.np) none) (lands ds st).2 with
    | exc _ _ => rw [e] at h; exact h.elim
    | bad => rw [e] at h; exact h.elim
    | ok f s' =>
      rw [e] at h
      cases f with
      | br _ => exact h.elim
      | ct _ => exact h.elim
      | rt d =>
        intro ρ' H' v G t sr r'
        have n2 : Now Z ρ0 H0 ρ' s' H' ([] ++ G) := n1.more sr0 t sr r'.there
        exact leave_ok (N := []) (st1 := []) sr0 n0 n2 (tk ρ' (let ⟨K, e, _⟩ := t; ⟨K, e⟩)) r' h
      | nx _ =>
        intro ρ' H' σ' t sr _
        have n2 : Now Z ρ0 H0 ρ' s' H' ([] ++ []) := n1.more sr0 t sr (by simp)
        exact leave_ok (N := []) (st1 := []) sr0 n0 n2 (tk ρ' (let ⟨K, e, _⟩ := t; ⟨K, e⟩)) (d := .non) ⟨rfl, rfl⟩ h
      | ex _ x =>
        intro ρ' H' σ' cls dx t sr _ rx
        have n2 : Now Z ρ0 H0 ρ' s' H' ([] ++ []) := n1.more sr0 t sr (by simp)
        exact leaveX_ok (st0 := []) (st1 := []) n0 n2 (tk ρ' (let ⟨K, e, _⟩ := t; ⟨K, e⟩)) rx h
end
section
variable {P : Program} {w : World} {K : PySem.W.Frag} {mg : Str → Option Value} {base : Heap} {Z : Wc}
/-- at depth 0 nothing is promised -/
theorem fg_zero {Pp : Pr} {k : Nat} {f : Addr} {fd : FuncData} {ps : List Str} {i np : Nat} (h : ps.length = np) : FgOk P w K mg base k f fd ps (spI Z (call Pp 0 i) np) :=
  ⟨fun vs H Q E ⟨hl, _⟩ => by rw [hl, h], fun A outer s H args us vs Q E _ _ _ _ _ ⟨_, _, _, _, _, _, _, _, _, _, _, q⟩ => by
    simp only [call, bad] at q
    exact q.elim⟩
end
end Fs
namespace Fs
open PySem L2 PyProof.Rows PySem.Spec
/-! a law's end, where nothing guards a repr (after HandS.Ends) -/
theorem law_callG {P : Program} {w : World} {K : PySem.W.Frag} {mg mb : Str → Option Value} {k : Nat} {fa a : Addr} {fd : FuncData} {x : Str} {sp : Sp} {sx : Shared} {vs : List Value} {ns : List Int}
    (KX : K.In sx.heap) (hns : sx.heap.Ns mainGlobals mg) (hb : sx.heap.Ns builtinsNs mb) (hbb : ∀ x : Str, x ≠ "__name__" → mb x = bootBuiltins x) (hlim : sx.heap.NoLimit) (hg : sx.gens = #[])
    (ha : sx.heap.get? a = some { cls := .type "list", data := .seq vs.toArray }) (hi : IntsAre vs ns) (hl : ns.length ≤ sizeLine) (hr : Room k callerA)
    (F : ∀ base : Heap, K.In base → base.Ns mainGlobals mg → FgOk P w K mg base k fa fd [x] sp) (hbind : ∀ (s : Shared) (u : Value), BindsTo s fd ⟨[u], []⟩ [(x, u)])
    (hsp : ∀ J : Hp, Only J → SqL K J a (ns.map V.int) → sp [.ref a] J (fun v _ => v = .bl true) fun _ _ _ => False)
    (hCX : ∀ J e s', L2.CX P w [] J sx (fun _ _ _ => False) e s' → False) :
    codeAny (model P w) callerA (.call (.ref fa) ⟨[.ref a], []⟩) (fun r s' => r = .ok (.ret (.bool true)) ∧ OldK sx.heap s'.heap ∧ s'.os = sx.os ∧ AllBare s'.gens) sx := by
  have rv := vals_ints hi
  have lenV := hi.length
  have inner : ∀ J : Hp, Only J → SqL K J a (ns.map V.int) → HOk P w J sx.heap → (∀ b, J b ≠ none → b = a) → (J a ≠ none → K.lookup a = none) →
      codeAny (model P w) callerA (.call (.ref fa) ⟨[.ref a], []⟩) (fun r s' => r = .ok (.ret (.bool true)) ∧ OldK sx.heap s'.heap ∧ s'.os = sx.os ∧ AllBare s'.gens) sx := by
    intro J hO hS hok hA hK
    have hid_of : ∀ {b : Addr} {o : Obj}, sx.heap.get? b = some o → J b = none → (hidT sx.heap J).get? b = some o := fun e n => hidT_get e n
    have offA : ∀ {b : Addr} {o : Obj} {es : Array DictEntry} {ep : Nat}, sx.heap.get? b = some o → o.data = .dict es ep → J b = none := fun {b o es ep} e d => by
      cases q : J b with
      | none => rfl
      | some u =>
        have e' : b = a := hA b (by rw [q]; simp)
        subst e'
        rw [ha] at e; cases e
        have d' : Data.seq vs.toArray _ = Data.dict es ep := d
        cases d'
    have nsI : ∀ {b : Addr} {m : Str → Option Value}, sx.heap.Ns b m → (hidT sx.heap J).Ns b m := fun {b m} ⟨o, es, ep, e, d, r⟩ => ⟨o, es, ep, hid_of e (offA e d), d, r⟩
    have hKb : K.In (hidT sx.heap J) := fun b o e => hid_of (KX b o e) (by
      cases q : J b with
      | none => rfl
      | some u =>
        have e' : b = a := hA b (by rw [q]; simp)
        subst e'
        rw [hK (by rw [q]; simp)] at e; cases e)
    have hM : Mod K mg (hidT sx.heap J) := ⟨hKb, nsI hns, ⟨mb, nsI hb, hbb⟩, let ⟨mc, h1, h2⟩ := hlim; ⟨mc, nsI h1, h2⟩⟩
    have e0 : Env0 P w K mg (hidT sx.heap J) callerA [] sx J := ⟨rfl, hM, fun b o e => of_hidT e, Nat.le_of_eq (hidT_size _ _), trivial, fun b hb => absurd (show b ∈ ([] : List Addr) from hb) (by simp), hok, .of_eq hg⟩
    refine codeAny_mono ((F _ hKb (nsI hns)).run callerA [] sx J ⟨[.ref a], []⟩ [.ref a] [.ref a] _ _ hr rfl e0 (hbind sx (.ref a)) (.cons rfl .nil) (hsp J hO hS)) fun r s' h => ?_
    cases r with
    | error e => exact (hCX J e s' h).elim
    | ok fl =>
      cases fl with
      | next => exact False.elim h
      | brk => exact False.elim h
      | cont => exact False.elim h
      | ret u =>
        obtain ⟨v, J', os, bare, un, hok', r', q⟩ := h
        have q' : v = .bl true := q
        subst q'
        obtain rfl : u = Value.bool true := r'
        refine ⟨rfl, OldK.of_keep fun b o e => ?_, os, bare⟩
        cases q : J b with
        | none => exact un.keep b o e q (by intro z; exact absurd (show b ∈ ([] : List Addr) from z) (by simp)) (by simp)
        | some u =>
          rcases hO b with z | ⟨ob, xs, z⟩
          · rw [q] at z; cases z
          · have z2 := un.frzs b ob _ z
            obtain ⟨e1, _⟩ := hok b _ z
            obtain ⟨e2, _⟩ := hok' b _ z2
            rw [e] at e1; cases e1
            exact e2
  cases hk : K.lookup a with
  | some o =>
    have e := KX a o hk
    rw [ha] at e
    cases e
    refine inner (fun _ => none) (fun _ => .inl rfl) (.inr ⟨_, vs.toArray, _, hk, rfl, rfl, rfl, by rw [List.size_toArray, lenV]; exact hl, by simpa using rv⟩) (fun b u z => by have z' : (none : Option HO) = some u := z; cases z') (fun b z => absurd rfl z) fun z => absurd rfl z
  | none =>
    refine inner (fun b => if b = a then some (.frz { cls := .type "list", data := .seq vs.toArray } (.lst (ns.map V.int))) else none) (fun b => ?_) (.inl (.inr ⟨{ cls := .type "list", data := .seq vs.toArray }, if_pos rfl⟩)) (fun b u z => ?_) (fun b z => ?_) fun _ => hk
    · by_cases hb : b = a
      · exact .inr ⟨_, _, if_pos hb⟩
      · exact .inl (if_neg hb)
    · by_cases hb : b = a
      · have z' := (if_pos hb).symm.trans z
        cases z'
        subst hb
        exact ⟨ha, by rw [List.length_map]; exact hl, vs, _, rv, ha⟩
      · have z' := (if_neg hb).symm.trans z
        cases z'
    · by_cases hb : b = a
      · exact hb
      · exact absurd (if_neg hb) z
theorem walk_g {l : PySem.W.OpenLaw} {n k : Nat} {q : Program} {loose : List Str} {XP : (Str → Option Value) → Heap → Prop} {YP : World → Heap → Prop} {d : DefRec} {x : Str}
    (hn : l.most = some n) (hn2 : n ≤ sizeLine) (hdf : d.params.defaults = []) (hr : Room k callerA)
    (F : ∀ (w : World) (mg : Str → Option Value) (fa : Addr) (h : Heap), YP w h → h.Ns mainGlobals mg → mg d.name = some (.ref fa) →
      ∃ (K : PySem.W.Frag) (fd : FuncData) (sp : Sp), K.In h ∧ (∀ (s : Shared) (u : Value), BindsTo s fd ⟨[u], []⟩ [(x, u)]) ∧
        (∀ (J : Hp) (a : Addr) (ns : List Int), ns.length ≤ n → Only J → SqL K J a (ns.map V.int) → sp [.ref a] J (fun v _ => v = .bl true) fun _ _ _ => False) ∧
        ∀ base : Heap, K.In base → base.Ns mainGlobals mg → FgOk l.prog w K mg base k fa fd [x] sp)
    (hCX : ∀ (P : Program) (w : World) (J : Hp) (s : Shared) (e : Value) (s' : Shared), L2.CX P w [] J s (fun _ _ _ => False) e s' → False) :
    PySem.W.WalkO q loose XP YP l.row.toRowW d [] (fun f vs => PySem.call f vs) := by
  refine Att.attach_call hn hdf fun w s0 s1 mg mb fa o pm cd doc a vs ns G Y ho hd hcd hmg hobj hints hlen hg => ?_
  obtain ⟨K, fd, sp, KX, hb, hsp, hF⟩ := F w mg fa _ Y G.T.g hmg
  exact law_callG KX G.T.g G.T.b G.T.builtins G.T.nolimit hg hobj hints (Nat.le_trans hlen hn2) hr hF hb (fun J hO hS => hsp J a ns hlen hO hS) fun J e s' => hCX _ _ J s1 e s'
theorem noCX (P : Program) (w : World) (J : Hp) (s : Shared) (e : Value) (s' : Shared) (h : L2.CX P w [] J s (fun _ _ _ => False) e s') : False := by
  obtain ⟨_, _, _, _, _, _, _, _, _, _, _, _, z⟩ := h
  exact z
end Fs
namespace Fs
open PySem L2 PyProof.Rows PySem.Spec
section
variable {X : L2.Cx} {T : Tbl} {Z : Wc} {W : WX} {a b c e : Expr} {A B C : Ex} {pos p : Pos} {es : List Expr} {As : List Ex}
theorem se_hole : PE X e (iE T Z W hole) := ⟨fun pins s σ H Q I ⟨ρ, env, st, er, sr, h⟩ => by
  simp only [hole, ev, bnd, ret, bad] at h
  exact h.elim⟩
theorem ss_hole {s : Stmt} : PS X s (iS T Z W (.xpr hole)) := ⟨fun pins s σ H D I ⟨ρ, env, st, er, sr, h⟩ => by
  simp only [exS, hole, ev, bnd, ret, bad, lft] at h
  exact h.elim⟩
theorem se_bin {op : Bop} (hK : X.K = Z.K) (ha : PE X a (iE T Z W A)) (hb : PE X b (iE T Z W B)) : PE X (.BinOp a (pyB op) b pos) (iE T Z W (.bin op A B)) := se_op (fun _ => bin_ok hK) ha hb fun env => by simp only [ev]
theorem se_cmp1 {op : Cop} (hK : X.K = Z.K) (hu : X.A.units + 65 < cLine) (ha : PE X a (iE T Z W A)) (hb : PE X b (iE T Z W B)) (hm : behindInMarks (pyC op) b = false := by rfl) : PE X (.Compare a [pyC op] [b] pos) (iE T Z W (.cmp op A B)) :=
  se_cmp (f := fC op) (fun _ => cmp_ok hK hu) ha hb hm fun env => by simp only [ev]
theorem tkF : Takes X WF := fun u s' ⟨_, _, _, _, _, _, _, _, _, _, _, _, _, _, _, _, z⟩ => z.elim
end
/-- a callee at depth n -/
def Cal (Pw : Program) (w : World) (K : PySem.W.Frag) (mg : Str → Option Value) (base : Heap) (Z : Wc) (Pp : Pr) (n i : Nat) (x : Str) (ps : List Str) : Prop :=
  ∃ f fd, FgOk Pw w K mg base n f fd ps (spI Z (call Pp n i) ps.length) ∧ mg x = some (.ref f) ∧ PySem.W.keepIn K (.ref f) = true ∧ Binds K fd ps []
section
variable {X : L2.Cx} {Pp : Pr} {n i : Nat} {Z : Wc} {W : WX} {e : Expr} {A : Ex} {pos p : Pos} {es : List Expr} {As : List Ex} {x : Str} {ps : List Str}
theorem se_callC (c : Cal X.prog X.w X.K X.mg X.base Z Pp n i x ps) (hr : Room n X.A) (hgd : X.A.guards = some []) (tk : Takes X W) (hg : Gl X x) (ha : PA X (e :: es) (iEs (Pp.tbl n) Z W As)) (hlen : As.length = ps.length := by rfl) (hdb : (x == ("__debug__" : Str)) = false := by rfl)
    (he : starEach (e :: es) X.env = (false, eval e X.env) :: starEach es X.env := by rfl) (hpl : (backTo pos (starEach es X.env)).any (·.1) = false := by rfl) : PE X (.Call (.Name x p) (e :: es) [] pos) (iE (Pp.tbl n) Z W (.call i As)) := by
  obtain ⟨f, fd, F, hm, hk, hb⟩ := c
  exact se_call (T := Pp.tbl n) F hr hgd tk hg hm hk hb ha hlen hdb he hpl
theorem se_callC0 (c : Cal X.prog X.w X.K X.mg X.base Z Pp n i x []) (hr : Room n X.A) (hgd : X.A.guards = some []) (tk : Takes X W) (hg : Gl X x) (hdb : (x == ("__debug__" : Str)) = false := by rfl) : PE X (.Call (.Name x p) [] [] pos) (iE (Pp.tbl n) Z W (.call i [])) := by
  obtain ⟨f, fd, F, hm, hk, hb⟩ := c
  exact se_call0 (T := Pp.tbl n) F hr hgd tk hg hm hk hb rfl hdb
end
end Fs
namespace Fs
open PySem L2 PyProof.Rows PySem.Spec
section
variable {X : L2.Cx} {T : Tbl} {Z : Wc} {W : WX} {a b c e : Expr} {A B C : Ex} {pos p : Pos}
theorem st_w {C1 : Cn} (h : PW X a (iT T Z W C1)) : PT X a (iT T Z W C1) := ⟨fun pins s σ H Q I q => h.run _ pins s σ H Q I q⟩
/-- a test of a bool's value -/
theorem bl_pre {E : Ex} {σ : L2.St} {H : Hp} {Q : Bool → Hp → Prop} (hb : ∀ env st d st', ev T E env st = .ok d st' → ∃ k, d = .bl k) (h : iT T Z W (.val E) σ H Q) : iE T Z W E σ H (fun x H' => ∃ k, x = .bl k ∧ Q k H') := by
  obtain ⟨ρ, env, st, er, sr, h⟩ := h
  simp only [evT] at h
  refine ⟨ρ, env, st, er, sr, ?_⟩
  unfold bnd at h
  cases e : ev T E env st with
  | exc x s => rw [e] at h; exact h
  | bad => rw [e] at h; exact h
  | ok d s =>
    rw [e] at h
    obtain ⟨k, rfl⟩ := hb _ _ _ _ e
    intro ρ' H' v F t sr' r
    obtain ⟨rfl, rfl⟩ := r
    refine ⟨k, rfl, ?_⟩
    simp only [truth, opt, ret] at h
    exact h ρ' H' k [] t sr' ⟨rfl, rfl⟩
theorem cmp_bl {op : Cop} {env : Env} {st st' : Sto} {d : D} (h : ev T (.cmp op A B) env st = .ok d st') : ∃ k, d = .bl k := by
  simp only [ev, bnd] at h
  cases e1 : ev T A env st with
  | ok x s1 =>
    simp only [e1] at h
    cases e2 : ev T B env s1 with
    | ok y s2 =>
      simp only [e2] at h
      cases e : cmpD op x y s2 with
      | none => rw [e] at h; cases h
      | some k => rw [e] at h; cases h; exact ⟨k, rfl⟩
    | exc _ _ => simp only [e2] at h; cases h
    | bad => simp only [e2] at h; cases h
  | exc _ _ => simp only [e1] at h; cases h
  | bad => simp only [e1] at h; cases h
theorem chn_bl {o1 o2 : Cop} {env : Env} {st st' : Sto} {d : D} (h : ev T (.chn o1 o2 A B C) env st = .ok d st') : ∃ k, d = .bl k := by
  simp only [ev, bnd] at h
  cases e1 : ev T A env st with
  | ok x s1 =>
    simp only [e1] at h
    cases x with
    | int i =>
      simp only [intv, opt, bnd] at h
      cases e2 : ev T B env s1 with
      | ok y s2 =>
        simp only [e2] at h
        cases y with
        | int j =>
          simp only [intv, opt, bnd] at h
          cases e : cmpI o1 i j with
          | none => rw [e] at h; cases h
          | some k =>
            rw [e] at h
            cases k with
            | false => cases h; exact ⟨_, rfl⟩
            | true =>
              simp only [bnd] at h
              cases e3 : ev T C env s2 with
              | ok z s3 =>
                simp only [e3] at h
                cases z with
                | int m =>
                  simp only [intv, opt] at h
                  cases e4 : cmpI o2 j m with
                  | none => rw [e4] at h; cases h
                  | some k => rw [e4] at h; cases h; exact ⟨_, rfl⟩
                | _ => cases h
              | exc _ _ => simp only [e3] at h; cases h
              | bad => simp only [e3] at h; cases h
        | _ => cases h
      | exc _ _ => simp only [e2] at h; cases h
      | bad => simp only [e2] at h; cases h
    | _ => cases h
  | exc _ _ => simp only [e1] at h; cases h
  | bad => simp only [e1] at h; cases h
theorem st_cmp1 {op : Cop} (hK : X.K = Z.K) (hu : X.A.units + 65 < cLine) (ha : PE X a (iE T Z W A)) (hb : PE X b (iE T Z W B)) (hm : behindInMarks (pyC op) b = false := by rfl) : PT X (.Compare a [pyC op] [b] pos) (iT T Z W (.val (.cmp op A B))) :=
  ⟨fun pins s σ H Q I q => by
    refine (pt_cmpR (cmp_ok (W := W) (σ0 := σ) hK hu) ha hb hm).run pins s σ H Q I ?_
    obtain ⟨ρ, env, st, er, sr, h⟩ := bl_pre (fun _ _ _ _ => cmp_bl) q
    simp only [ev] at h
    exact two_ok (f := fC op) ⟨ρ, env, st, er, sr, h⟩⟩
theorem st_chn {o1 o2 : Cop} (ha : PE X a (iE T Z W A)) (hb : PE X b (iE T Z W B)) (hc : PE X c (iE T Z W C)) (hm : lastMarks [pyC o1, pyC o2] [b, c] = false) : PT X (.Compare a [pyC o1, pyC o2] [b, c] pos) (iT T Z W (.val (.chn o1 o2 A B C))) :=
  ⟨fun pins s σ H Q I q => by
    refine (pt_chain cmpI_op cmpI_op ha hb hc hm).run pins s σ H Q I ?_
    obtain ⟨ρ, env, st, er, sr, h⟩ := bl_pre (fun _ _ _ _ => chn_bl) q
    simp only [ev] at h
    refine ⟨ρ, env, st, er, sr, (Post.seq rpOk (Now.start sr) sr h).mono ?_⟩
    rintro x H1 ⟨ρ1, d1, st1, F1, n1, t1, r1, h1⟩
    cases d1 with
    | int i =>
      obtain ⟨rfl, rfl⟩ := r1
      refine ⟨ρ1, env, st1, t1.env sr er, n1.sr, (Post.seq rpOk n1 sr (by simpa only [intv, opt] using h1)).mono ?_⟩
      rintro y H2 ⟨ρ2, d2, st2, F2, n2, t2, r2, h2⟩
      cases d2 with
      | int j =>
        obtain ⟨rfl, rfl⟩ := r2
        simp only [intv, opt] at h2
        cases e : cmpI o1 i j with
        | none => rw [e] at h2; exact h2.elim
        | some k =>
          rw [e] at h2
          refine ⟨i, j, k, rfl, rfl, e, k, rfl, ?_⟩
          cases k with
          | false => exact Post.ok h2 n2 ⟨rfl, rfl⟩
          | true =>
            rw [if_pos rfl]
            refine ⟨ρ2, env, st2, t2.env n1.sr (t1.env sr er), n2.sr, (Post.seq rpOk n2 sr h2).mono ?_⟩
            rintro z H3 ⟨ρ3, d3, st3, F3, n3, t3, r3, h3⟩
            cases d3 with
            | int m =>
              obtain ⟨rfl, rfl⟩ := r3
              simp only [intv, opt] at h3
              cases e2 : cmpI o2 j m with
              | none => rw [e2] at h3; exact h3.elim
              | some k2 => rw [e2] at h3; exact ⟨j, m, k2, rfl, rfl, e2, Post.ok h3 n3 ⟨rfl, rfl⟩⟩
            | _ => exact h3.elim
      | _ => exact h2.elim
    | _ => exact h1.elim⟩
end
end Fs
namespace Fs
open PySem L2 PyProof.Rows PySem.Spec
section
variable {X : L2.Cx} {T : Tbl} {Z : Wc} {W : WX} {pos p : Pos} {tg e c : Expr} {A B : Ex}
/-- name = {..} on one line -/
theorem ss_setDc {i : Nat} {y : Str} {py spos : Pos} {kx vx iter : Expr} {ifs : List Expr} {scope : Scope} {own : List (Str × Nat)} {it : Ix} {t : Tg} {Cs : List Cn} (hc : X.calm = true) (hN : X.N.Nodup) (hy : X.N[i]? = some y) (hyl : X.env.scope.names.lookup y = some .local)
    (hsw : swapsWith (.DictComp kx vx [⟨tg, iter, ifs, 0⟩] scope pos) (some (.Name y py)) spos.line X.env = pure true) (ok : blkC X.N X.env.scope scope own = true) (hsub : (tgN t).all ((own.map (·.2)).contains ·) = true)
    (hi : PI X tg iter (iI T Z W it)) (hg : ∀ (s : Shared) (H : Hp) (C : Addr) (cl : List (Str × Addr)) (fp : List Addr), PG (X.blk s H scope (compEnvC scope cl C X.env) fp) tg (iG T Z t))
    (ht : ∀ (s : Shared) (H : Hp) (C : Addr) (cl : List (Str × Addr)) (fp : List Addr), PTs (X.blk s H scope (compEnvC scope cl C X.env) fp) ifs (iTs T Z WF Cs))
    (hk : ∀ (s : Shared) (H : Hp) (C : Addr) (cl : List (Str × Addr)) (fp : List Addr), PE (X.blk s H scope (compEnvC scope cl C X.env) fp) kx (iE T Z WF A))
    (he : ∀ (s : Shared) (H : Hp) (C : Addr) (cl : List (Str × Addr)) (fp : List Addr), PE (X.blk s H scope (compEnvC scope cl C X.env) fp) vx (iE T Z WF B)) (hs : ∀ x, foldedSetIterable iter X.env x = pure x := by intro _; rfl) :
    PS X (.Assign [.Name y py] (.DictComp kx vx [⟨tg, iter, ifs, 0⟩] scope pos) spos) (iS T Z W (.asg (.nm i) (.dc (own.map (·.2)) it t Cs A B))) := by
  refine ⟨fun pins s σ H Dn I h0 => ?_⟩
  obtain ⟨ρ, env, st, er, sr, h2⟩ := asg_ok h0
  have h : tDc (iI T Z W it) (iG T Z t) (iTs T Z WF Cs) (iE T Z WF A) (iE T Z WF B) (own.map (·.2)) σ H (fun x H1 => gName i x σ H1 Dn.nx) := dc_ok (subN hsub) ⟨ρ, env, st, er, sr, h2.mono fun v H1 q => ig_nm q⟩
  rw [exec_Assign_Name_used _ _ _ _ hsw]
  refine wpAny_bind (wpAny_standAt (wpAny_bind ?_))
  show wpAny _ X.A (do let _ ← comprehension (.DictComp kx vx [⟨tg, iter, ifs, 0⟩] scope pos) scope X.env (firstIterPos [⟨tg, iter, ifs, 0⟩] pos) newDict false (eval iter X.env) (some (assign (.Name y py) X.env))) _ _ s
  refine wpAny_bind (thn (dc_core (Qf := fun _ s' => SP X pins Dn .next s') hc hN I hi (blkOk_by ok) hg ht hk he hs h fun L C s' m H' I' q hn f => ?_) fun _ s' hq => wpAny_pure (wpAny_pure hq))
  show wpAny _ _ (assign (.Name y py) X.env (.ref L)) _ _ _
  refine wpAny_assign_Name (store_ok2 (v := V.ref L) I' hN hy (.inl hyl) rfl (fun s2 I2 ⟨a, sb, ha⟩ => ?_) (.inr hyl))
  obtain ⟨f0, f1, f2, f3, f4, f5⟩ := f
  have off : C ≠ a := by
    rcases ha with z | z
    · rw [z]; exact f1
    · exact fun e => f4 y a z e.symm
  refine ⟨m, hn.sameBut sb off, fun h3 sb3 => ?_⟩
  exact ⟨_, H', I2.turned (t' := s2.toks) (fun b o hb e => (sb3.2 b hb).trans e) f0 f1 f3 f4 f5, q⟩
end
end Fs
namespace Fs
open PySem L2 PyProof.Rows PySem.Spec
section
variable {X : Cx} {Z : Wc} {W : WX} {T : Tbl} {σ0 : L2.St} {p p2 q pos : Pos}
theorem pairs_ok {ρ : List Addr} {H : Hp} : ∀ {xs : List D} {vs : List V} {F : List Addr} {kvs : List (Ky × D)}, Rps Z ρ H xs vs F → optL pairv xs = some kvs → (kvs.all fun p => D.pur p.2) = true → ∃ (ps : List Addr) (ws : List (L2.Key × V)), vs = ps.map V.ref ∧ PySem.Paired (fun p kv => SqT Z.K H p [kV kv.1, kv.2]) ps ws ∧ RpK Z ρ H kvs ws []
  | [], vs, F, kvs, r, e, _ => by
    obtain ⟨rfl, _⟩ := r
    cases e
    exact ⟨[], [], rfl, .nil, rfl, rfl⟩
  | x :: xs, vs, F, kvs, r, e, hp => by
    obtain ⟨v, vs', F1, F2, rfl, r1, r2, _⟩ := r
    simp only [optL] at e
    cases e1 : pairv x with
    | none => rw [e1] at e; cases e
    | some kd =>
      rw [e1] at e
      cases e2 : optL pairv xs with
      | none => rw [e2] at e; cases e
      | some ks =>
        rw [e2] at e
        cases e
        simp only [List.all_cons, Bool.and_eq_true] at hp
        obtain ⟨ps, ws, rfl, h2, h3⟩ := pairs_ok r2 e2 hp.2
        unfold pairv at e1
        split at e1
        · rename_i k d
          cases hk : keyOf k with
          | none => rw [hk] at e1; cases e1
          | some y =>
            rw [hk] at e1
            cases e1
            obtain ⟨t, us, rfl, ht, rs⟩ := r1
            obtain ⟨a1, as1, G1, G2, rfl, s1, s2, _⟩ := rs
            obtain ⟨a2, as2, G3, G4, rfl, s3, s4, _⟩ := s2
            obtain ⟨rfl, _⟩ := s4
            obtain ⟨j, rfl, rfl, rfl⟩ := key_ok s1 hk
            obtain rfl := s3.pure hp.1
            exact ⟨t :: ps, (j, a2) :: ws, rfl, .cons ht h2, j, a2, ws, [], [], rfl, rfl, s3, h3, rfl⟩
        · cases e1
theorem fold_ok {ρ : List Addr} {H : Hp} : ∀ {more : List (Ky × D)} {ws : List (L2.Key × V)} {acc : List (Ky × D)} {aw : List (L2.Key × V)}, RpK Z ρ H more ws [] → (more.all fun p => D.pur p.2) = true → RpK Z ρ H acc aw [] → (acc.map (·.1)).Nodup → RpK Z ρ H (more.foldl (fun a p => dput p.1 p.2 a) acc) (mergeK aw ws) [] ∧ ((more.foldl (fun a p => dput p.1 p.2 a) acc).map (·.1)).Nodup
  | [], ws, acc, aw, r, _, ra, nd => by
    obtain ⟨rfl, _⟩ := r
    exact ⟨ra, nd⟩
  | (y, d) :: more, ws, acc, aw, r, hp, ra, nd => by
    obtain ⟨j, u, ws', F1, F2, rfl, rfl, r1, r2, e⟩ := r
    have e' : F1 = [] ∧ F2 = [] := by
      have := e.symm
      simpa using this
    obtain ⟨rfl, rfl⟩ := e'
    clear e
    simp only [List.all_cons, Bool.and_eq_true] at hp
    obtain ⟨G, h1, h2⟩ := dput_ok (k := j) r1 nd ra
    obtain rfl := List.sublist_nil.mp h2
    exact fold_ok (more := more) (ws := ws') r2 hp.2 h1 (dput_nodup nd)
theorem bi_dict (hK : X.K = Z.K) (hc : X.calm = true) : CallR X (.type "dict") (rL Z W σ0 (b1 fDict)) := callOne fun pins s σ H x us Q ρ st H0 ρ2 st2 d F I rv sr n r h => by
  obtain ⟨kvs, e, h⟩ := opt_ok h
  obtain ⟨hp, h⟩ := gd_ok h
  cases hx : lstv st2 d with
  | none => rw [hx] at e; cases e
  | some xs =>
    rw [hx] at e
    obtain ⟨a, vs, G, rfl, ha, rs, sub⟩ := lstv_ok n.sr r hx
    obtain ⟨ps, ws, rfl, h2, h3⟩ := pairs_ok rs e hp
    refine call_dictP hc pins s σ H _ us Q I rv ⟨a, ps, ws, rfl, SqL.of ha, by rw [hK]; exact h2, fun p hp0 => ?_⟩
    obtain ⟨h4, h5⟩ := fold_ok h3 hp (acc := []) (aw := []) ⟨rfl, rfl⟩ (by simp)
    exact Post.ret h ((n.new sr hp0).less (List.cons_sublist_cons.mpr (List.nil_sublist _))) ⟨p, [], rfl, rfl, .inl ⟨_, upd_same, RpK.stay (fun _ _ e => e) (fun a u e _ => by rw [upd_ne (fun z => by rw [z, hp0] at e; cases e)]; exact e) (by simp) h4⟩⟩
/-- sorted(set(e)), e a list of ints -/
theorem se_ssort {A : Ex} {e : Expr} (hK : X.K = Z.K) (hc : X.calm = true) (hg : Gl X "sorted") (hm : X.mg "sorted" = none) (hg2 : Gl X "set") (hm2 : X.mg "set" = none) (ha : PE X e (iE T Z W A))
    (na : starEach [e] X.env = (false, eval e X.env) :: starEach [] X.env := by rfl) : PE X (.Call (.Name "sorted" p) [.Call (.Name "set" p2) [e] [] q] [] pos) (iE T Z W (.bi .ssort [A])) := by
  refine ⟨fun pins s σ H Q I h => ?_⟩
  obtain ⟨ρ, env, st, er, sr, h⟩ := h
  simp only [ev] at h
  refine Call_ (ld_blt I hg hm PyProof.Rows.boot_sorted ?_)
  refine PyProof.Rows.callWith_builtin1 (PyProof.Rows.args_cons ?_ rfl) rfl rfl
  refine Call_ (ld_blt I hg2 hm2 PyProof.Rows.boot_set ?_)
  refine PyProof.Rows.callWith_type1 (PyProof.Rows.args_cons (thn (ha.run pins s σ H _ I ⟨ρ, env, st, er, sr, (Post.seq rpOk (Now.start sr) sr (evs_one h))⟩) fun v s1 ⟨x, H1, I1, r1, q1⟩ => PyProof.Rows.args_nil ?_) na) na rfl
  obtain ⟨ρ1, d, st1, F1, n1, t1, rd, h1⟩ := q1
  have h2 : Post (Rp Z) Z W (opt (lInt st1 d) (fun ns => gd (decide (ns.length < 64)) (ret (.lst ((sortI (dedI ns)).map .int)))) st1) ρ σ H Q := h1
  obtain ⟨ns, en, h2⟩ := opt_ok h2
  obtain ⟨hz, h2⟩ := gd_ok h2
  have hz := of_decide_eq_true hz
  obtain ⟨a, rfl, hq⟩ := lInt_ok n1.sr rd en
  rw [← hK] at hq
  cases r1
  obtain ⟨its, rv, pl, hz2⟩ := I1.list hq
  refine call_set_lst ns (I1.ok.hd hc) pl.isList (by simpa using rv.ints) (by unfold scanBound; omega) fun hp2 tk c R hcn k => ?_
  refine PyProof.Rows.args_nil ?_
  have I2 : Inv X pins σ H1 { s1 with heap := hp2, toks := tk } := I1.kept fun b o e => k b o e
  refine sorted_set R (I2.ok.hd hc) (by omega) fun s' p' out c' ns' k' g o hpp hgt hi hs hmem hl => ?_
  have hlen : (ns'.map V.int).length ≤ sizeLine := by rw [List.length_map, hl, sizeLine_eq]; omega
  have hn : H1 p' = none := I2.hok.fresh hpp
  have J : Inv X pins σ (upd H1 p' (.lst (ns'.map V.int))) { ({ s1 with heap := hp2, toks := tk } : Shared) with heap := s'.heap, gens := s'.gens, drawn := s'.drawn, toks := s'.toks } :=
    I2.call (ch := []) (Un.laid k' hpp hn) (I2.hok.laid k' hpp ⟨hlen, out.toList, c', vals_of_ints hi, hgt⟩) (by rw [g]; exact I2.bare) (fun _ z => nomatch z)
  have e' : s' = { ({ s1 with heap := hp2, toks := tk } : Shared) with heap := s'.heap, gens := s'.gens, drawn := s'.drawn, toks := s'.toks } := by
    cases s'; cases s1; cases o; rfl
  rw [e']
  have hns : ns' = sortI (dedI ns) := by
    refine sorted_eq ?_ (hs.imp fun h => by omega) (sortI_sorted _)
    refine List.Perm.trans ?_ (sortI_perm _).symm
    rw [List.perm_ext_iff_of_nodup (hs.imp fun h => by omega) dedI_nodup]
    intro z
    rw [hmem, dedI_mem, decide_eq_true_eq]
  refine ⟨.ref p', _, J, rfl, ?_⟩
  rw [hns]
  exact Post.ret h2 ((n1.new sr hn).less (List.cons_sublist_cons.mpr (List.nil_sublist _))) ⟨p', _, [], rfl, upd_same, Rps.ofInts _, rfl⟩
end
end Fs
namespace Fs
open PySem L2 PyProof.Rows PySem.Spec
/-! the facts of a fragment without one list -/
def kdel (K : PySem.W.Frag) (a : Addr) : PySem.W.Frag := K.filter fun p => p.1 != a
theorem kdel_at {K : PySem.W.Frag} {a b : Addr} : (kdel K a).lookup b = if b = a then none else K.lookup b := by
  induction K with
  | nil => simp [kdel]
  | cons q K ih =>
    obtain ⟨x, o⟩ := q
    simp only [kdel] at ih ⊢
    by_cases hx : x = a
    · subst hx
      rw [List.filter_cons_of_neg (by simp), ih]
      by_cases hb : b = x
      · rw [if_pos hb, if_pos hb]
      · rw [if_neg hb, if_neg hb, List.lookup_cons]
        have : (b == x) = false := by simpa using hb
        rw [this]
    · rw [List.filter_cons_of_pos (by simpa using hx), List.lookup_cons, List.lookup_cons, ih]
      by_cases hb : b = x
      · subst hb
        simp [hx]
      · have : (b == x) = false := by simpa using hb
        rw [this]
theorem kdel_in {K : PySem.W.Frag} {a : Addr} {h : Heap} (X : K.In h) : (kdel K a).In h := fun b o e => by
  rw [kdel_at] at e
  split at e
  · cases e
  · exact X b o e
/-- what K holds at a is a list, if anything -/
def LstAt (K : PySem.W.Frag) (a : Addr) : Prop := ∀ o, K.lookup a = some o → ∃ xs n, o.data = .seq xs n
theorem kdel_keep {K : PySem.W.Frag} {a b : Addr} {o : Obj} (hL : LstAt K a) (e : K.lookup b = some o) (hd : ∀ xs n, o.data ≠ .seq xs n) : (kdel K a).lookup b = some o := by
  rw [kdel_at, if_neg]
  · exact e
  · rintro rfl
    obtain ⟨xs, n, h⟩ := hL o e
    exact hd xs n h
theorem kdel_code {K : PySem.W.Frag} {a : Addr} {c : Value} {q : Str} (hL : LstAt K a) (e : PySem.W.codeIn K c q = true) : PySem.W.codeIn (kdel K a) c q = true := by
  unfold PySem.W.codeIn at e ⊢
  cases c with
  | ref b =>
    simp only at e ⊢
    cases h : K.lookup b with
    | none => rw [h] at e; cases e
    | some o =>
      obtain ⟨oc, od, data, sl⟩ := o
      rw [h] at e
      cases data with
      | fields vs =>
        rw [kdel_keep hL h (by intro xs n z; cases z)]
        exact e
      | _ => cases e
  | _ => cases e
theorem FunD.del {K : PySem.W.Frag} {a : Addr} {x q : Str} {ps : Arguments} {body : List Stmt} {sc : Scope} {f : Addr} {fd : FuncData} (hL : LstAt K a) (F : FunD K x q ps body sc [] [] f fd) : FunD (kdel K a) x q ps body sc [] [] f fd := by
  obtain ⟨oc, od, dV, kV, doc, pm, an, cdv, ct, osl, e, lk, hc, hD, hK⟩ := F.ex
  have lk2 : (kdel K a).lookup f = some ⟨oc, od, .func fd, osl⟩ := kdel_keep hL lk (by intro xs n z; cases z)
  refine ⟨⟨oc, od, dV, kV, doc, pm, an, cdv, ct, osl, e, lk2, kdel_code hL hc, ?_, .inl rfl⟩, ?_⟩
  · rcases hD with h | ⟨h, _⟩
    · exact .inl h
    · exact absurd rfl h
  · show PySem.W.keepIn (kdel K a) (.ref f) = true
    simp only [PySem.W.keepIn, lk2]
/-- the end of a law, where the script is no part of the fragment -/
theorem walk_h {l : PySem.W.OpenLaw} {n k : Nat} {q : Program} {loose : List Str} {XP : (Str → Option Value) → Heap → Prop} {YP : World → Heap → Prop} {d : DefRec} {x : Str}
    (hn : l.most = some n) (hn2 : n ≤ sizeLine) (hdf : d.params.defaults = []) (hr : Room k callerA)
    (F : ∀ (w : World) (mg : Str → Option Value) (fa : Addr) (h : Heap) (a : Addr) (vs : List Value), YP w h → h.Ns mainGlobals mg → mg d.name = some (.ref fa) → h.get? a = some { cls := .type "list", data := .seq vs.toArray } →
      ∃ (K : PySem.W.Frag) (fd : FuncData) (sp : Sp), K.In h ∧ (∀ (s : Shared) (u : Value), BindsTo s fd ⟨[u], []⟩ [(x, u)]) ∧
        (∀ (J : Hp) (ns : List Int), ns.length ≤ n → Only J → SqL K J a (ns.map V.int) → sp [.ref a] J (fun v _ => v = .bl true) fun _ _ _ => False) ∧
        ∀ base : Heap, K.In base → base.Ns mainGlobals mg → FgOk l.prog w K mg base k fa fd [x] sp) :
    PySem.W.WalkO q loose XP YP l.row.toRowW d [] (fun f vs => PySem.call f vs) := by
  refine Att.attach_call hn hdf fun w s0 s1 mg mb fa o pm cd doc a vs ns G Y ho hd hcd hmg hobj hints hlen hg => ?_
  obtain ⟨K, fd, sp, KX, hb, hsp, hF⟩ := F w mg fa _ a vs Y G.T.g hmg hobj
  exact law_callG KX G.T.g G.T.b G.T.builtins G.T.nolimit hg hobj hints (Nat.le_trans hlen hn2) hr hF hb (fun J hO hS => hsp J ns hlen hO hS) fun J e s' => noCX _ _ J s1 e s'
/-- the start of a law: the script alone -/
theorem sp_start {Z : Wc} {g : List D → M D} {J : Hp} {a : Addr} {ns : List Int} (hO : Only J) (hK : Z.K.lookup a = none) (hS : SqL Z.K J a (ns.map V.int)) (hg : ∃ s', g [.ref 0] [.frl (ns.map D.int)] = .ok (.bl true) s') : spI Z g 1 [.ref a] J (fun v _ => v = .bl true) fun _ _ _ => False := by
  have hJ : ∃ o, J a = some (.frz o (.lst (ns.map V.int))) := by
    rcases hS with h | ⟨o, its, n, h, _⟩
    · rcases h with h | ⟨o, h⟩
      · rcases hO a with z | ⟨o, xs, z⟩
        · rw [h] at z; cases z
        · rw [h] at z; cases z
      · exact ⟨o, h⟩
    · rw [hK] at h; cases h
  obtain ⟨o, hJ⟩ := hJ
  have sr : SR Z [a] [.frl (ns.map D.int)] J := by
    refine ⟨rfl, by simp, ?_, ?_⟩
    · intro l c h
      cases l with
      | zero => cases h; rfl
      | succ l => simp at h
    · intro l c b h hb
      cases l with
      | zero =>
        cases h
        have : a = b := by simpa using hb
        subst this
        exact ⟨a, o, ns.map V.int, [], rfl, hJ, Rps.ofInts ns, rfl⟩
      | succ l => simp at h
  refine ⟨rfl, [a], [.frl (ns.map D.int)], J, [a], [.frl (ns.map D.int)], [.ref 0], [], sr, Now.start sr, ?_, ?_⟩
  · exact ⟨.ref a, [], [], [], rfl, ⟨a, rfl, rfl, rfl⟩, ⟨rfl, rfl⟩, rfl⟩
  · obtain ⟨s', hg⟩ := hg
    show Post (Rp Z) Z _ (g [.ref 0] [.frl (ns.map D.int)]) [a] [] J _
    rw [hg]
    intro ρ' H' v F _ _ r
    exact r.1
end Fs
namespace Fs
open PySem
abbrev F.is_index : Nat := 0
abbrev F.graph_fault : Nat := 1
abbrev F.check_graph : Nat := 2
abbrev F.dart_count : Nat := 3
abbrev F.opposite_of : Nat := 4
abbrev F.dart_tails : Nat := 5
abbrev F.component_list : Nat := 6
abbrev F.components : Nat := 7
abbrev F._law_source : Nat := 8
abbrev F._law_next : Nat := 9
abbrev F._law_mixed : Nat := 10
abbrev F._law_ends : Nat := 11
abbrev F._law_any_graph : Nat := 12
abbrev F._law_parts : Nat := 13
abbrev F._law_moved_right : Nat := 14
abbrev F._law_beside_right : Nat := 15
abbrev F.law : Nat := 16
/- value many -/
def c_is_index : Fn := ⟨2, 2, [.ret (.and2 (.bi (.isT "int") [.loc 0]) (.and2 (.nt (.val (.bi (.isT "bool") [.loc 0]))) (.chn .le .lt (.con (.int 0)) (.loc 0) (.loc 1))))]⟩
/- value rotation many missing dart -/
def c_graph_fault : Fn := ⟨1, 5, [.iff (.or2 (.nt (.val (.bi (.isT "tuple") [.loc 0]))) (.val (.cmp .gt (.bi .len [.loc 0]) (.con (.int 60))))) [.ret (.con (.str "form"))] [], .iff (.nt (.val (.bi .all [.lc [1] (.val (.loc 0)) (.nm 1) [] (.bi (.isT "tuple") [.loc 1])]))) [.ret (.con (.str "form"))] [], .asg (.nm 2) (.bi .sum [.lc [1] (.val (.loc 0)) (.nm 1) [] (.bi .len [.loc 1])]), .iff (.or2 (.val (.cmp .gt (.loc 2) (.bin .mul (.con (.int 2)) (.con (.int 120))))) (.val (.cmp .eq (.bin .mod (.loc 2) (.con (.int 2))) (.con (.int 1))))) [.ret (.con (.str "darts"))] [], .asg (.nm 3) (.dc [4] (.rng [.loc 2]) (.nm 4) [] (.loc 4) (.con (.bl true))), .forr (.val (.loc 0)) (.nm 1) [.forr (.val (.loc 1)) (.nm 4) [.iff (.or2 (.nt (.val (.call F.is_index [.loc 4, .loc 2]))) (.val (.cmp .nin (.loc 4) (.loc 3)))) [.ret (.con (.str "darts"))] [], .xpr (.me .popi (.loc 3) [.loc 4])]], .ret (.con .non)]⟩
/- graph place -/
def c_check_graph : Fn := ⟨1, 2, [.asg (.nm 1) (.call F.graph_fault [.loc 0]), .iff (.val (.cmp .ntN (.loc 1) (.con .non))) [.xpr hole] []]⟩
/- graph rotation -/
def c_dart_count : Fn := ⟨1, 2, [.ret (.bi .sum [.lc [1] (.val (.loc 0)) (.nm 1) [] (.bi .len [.loc 1])])]⟩
/- dart -/
def c_opposite_of : Fn := ⟨1, 1, [.ret (.bin .sub (.bin .add (.loc 0) (.con (.int 1))) (.bin .mul (.con (.int 2)) (.bin .mod (.loc 0) (.con (.int 2)))))]⟩
/- graph tails node rotation dart -/
def c_dart_tails : Fn := ⟨1, 5, [.asg (.nm 1) (.bin .mul (.lst [.con (.int 0)]) (.call F.dart_count [.loc 0])), .forr (.enum (.loc 0) 0) (.tup [.nm 2, .nm 3]) [.forr (.val (.loc 3)) (.nm 4) [.asg (.sub (.loc 1) (.loc 4)) (.loc 2)]], .ret (.loc 1)]⟩
/- graph tails found seen start part waiting node dart far -/
def c_component_list : Fn := ⟨1, 10, [.asg (.tup [.nm 1, .nm 2, .nm 3]) (.tup [.call F.dart_tails [.loc 0], .lst [], .dct []]), .forr (.rng [.bi .len [.loc 0]]) (.nm 4) [.iff (.val (.cmp .nin (.loc 4) (.loc 3))) [.asg (.tup [.nm 5, .nm 6, .sub (.loc 3) (.loc 4)]) (.tup [.lst [], .lst [.loc 4], .con (.bl true)]), .whl (.val (.cmp .ne (.loc 6) (.lst []))) [.asg (.nm 7) (.me .pop (.loc 6) []), .xpr (.me .append (.loc 5) [.loc 7]), .forr (.val (.sub (.loc 0) (.loc 7))) (.nm 8) [.asg (.nm 9) (.sub (.loc 1) (.call F.opposite_of [.loc 8])), .iff (.val (.cmp .nin (.loc 9) (.loc 3))) [.asg (.sub (.loc 3) (.loc 9)) (.con (.bl true)), .xpr (.me .append (.loc 6) [.loc 9])] []]], .xpr (.me .append (.loc 2) [.bi .tuple [.bi .sorted [.loc 5]]])] []], .ret (.loc 2)]⟩
/- graph -/
def c_components : Fn := ⟨1, 1, [.xpr (.call F.check_graph [.loc 0]), .ret (.bi .tuple [.call F.component_list [.loc 0]])]⟩
/- _law_script _law_k _law_cell -/
def c__law_source : Fn := ⟨2, 3, [.asg (.nm 2) (.ife (.val (.cmp .ne (.loc 0) (.lst []))) (.sub (.loc 0) (.bin .mod (.loc 1) (.bi .len [.loc 0]))) (.con (.int 1))), .ret (.lst [.loc 2, .bin .mul (.con (.int 3)) (.loc 1), .ife (.val (.cmp .ge (.loc 2) (.bin .pow (.con (.int 10)) (.con (.int 18))))) (.bin .fdiv (.loc 2) (.bin .pow (.con (.int 10)) (.con (.int 18)))) (.con (.int 0))])]⟩
/- _law_source_here _law_many _law_found _law_primes _law_prime -/
def c__law_next : Fn := ⟨2, 5, [.iff (.val (.cmp .gt (.sub (.loc 0) (.con (.int 2))) (.con (.int 0)))) [.asg (.nm 2) (.bin .mod (.sub (.loc 0) (.con (.int 2))) (.loc 1)), .asg (.sub (.loc 0) (.con (.int 2))) (.bin .fdiv (.sub (.loc 0) (.con (.int 2))) (.loc 1)), .ret (.loc 2)] [], .asg (.sub (.loc 0) (.con (.int 1))) (.bin .add (.sub (.loc 0) (.con (.int 1))) (.con (.int 1))), .asg (.nm 3) (.lst [.con (.int 2147483647), .con (.int 2147483629), .con (.int 2147483587), .con (.int 2147483579), .con (.int 2147483563), .con (.int 2147483549), .con (.int 2147483543), .con (.int 2147483497)]), .asg (.nm 4) (.sub (.bin .add (.loc 3) (.lst [.con (.int 2147483489), .con (.int 2147483477), .con (.int 2147483423)])) (.bin .mod (.sub (.loc 0) (.con (.int 1))) (.con (.int 11)))), .ret (.bin .mod (.bin .fdiv (.bin .mod (.bin .pow (.bin .add (.bin .add (.bin .mod (.sub (.loc 0) (.con (.int 0))) (.loc 4)) (.bin .mul (.con (.int 7919)) (.sub (.loc 0) (.con (.int 1))))) (.con (.int 1))) (.con (.int 5))) (.loc 4)) (.con (.int 13))) (.loc 1))]⟩
/- _law_source_here _law_items _law_rest _law_found -/
def c__law_mixed : Fn := ⟨2, 4, [.asg (.tup [.nm 2, .nm 3]) (.tup [.bi .list [.loc 1], .lst []]), .whl (.val (.cmp .ne (.loc 2) (.lst []))) [.xpr (.me .append (.loc 3) [.me .popi (.loc 2) [.call F._law_next [.loc 0, .bi .len [.loc 2]]]])], .ret (.loc 3)]⟩
/- _law_graph _law_tails _law_node _law_rotation _law_dart -/
def c__law_ends : Fn := ⟨1, 5, [.asg (.nm 1) (.dct []), .forr (.enum (.loc 0) 0) (.tup [.nm 2, .nm 3]) [.forr (.val (.loc 3)) (.nm 4) [.asg (.sub (.loc 1) (.loc 4)) (.loc 2)]], .ret (.lc [4] (.rng [.con (.int 0), .bi .len [.loc 1], .con (.int 2)]) (.nm 4) [] (.tup [.sub (.loc 1) (.loc 4), .sub (.loc 1) (.bin .add (.loc 4) (.con (.int 1)))]))]⟩
/- _law_source_here _law_nodes _law_edges _law_rotations _law_turn _law_end _law_rotation -/
def c__law_any_graph : Fn := ⟨3, 7, [.asg (.nm 3) (.lc [4] (.rng [.bin .add (.con (.int 1)) (.call F._law_next [.loc 0, .loc 1])]) (.nm 4) [] (.lst [])), .forr (.val (.call F._law_mixed [.loc 0, .bi .lrng [.bin .mul (.con (.int 2)) (.call F._law_next [.loc 0, .bin .add (.loc 2) (.con (.int 1))])]])) (.nm 5) [.xpr (.me .append (.sub (.loc 3) (.call F._law_next [.loc 0, .bi .len [.loc 3]])) [.loc 5])], .ret (.bi .tuple [.lc [6] (.val (.loc 3)) (.nm 6) [] (.bi .tuple [.loc 6])])]⟩
/- _law_drawing _law_marks _law_u _law_v _law_low _law_high _law_mark _law_found _law_spot -/
def c__law_parts : Fn := ⟨1, 9, [.asg (.nm 1) (.bi .lrng [.bi .len [.loc 0]]), .forr (.val (.call F._law_ends [.loc 0])) (.tup [.nm 2, .nm 3]) [.asg (.tup [.nm 4, .nm 5]) (.tup [.bi .min2 [.sub (.loc 1) (.loc 2), .sub (.loc 1) (.loc 3)], .bi .max2 [.sub (.loc 1) (.loc 2), .sub (.loc 1) (.loc 3)]]), .asg (.nm 1) (.lc [6] (.val (.loc 1)) (.nm 6) [] (.ife (.val (.cmp .eq (.loc 6) (.loc 5))) (.loc 4) (.loc 6)))], .asg (.nm 7) (.lst []), .forr (.val (.bi .ssort [.loc 1])) (.nm 6) [.xpr (.me .append (.loc 7) [.bi .tuple [.lc [8] (.rng [.bi .len [.loc 0]]) (.nm 8) [.val (.cmp .eq (.sub (.loc 1) (.loc 8)) (.loc 6))] (.loc 8)]])], .ret (.bi .tuple [.loc 7])]⟩
/- _law_source_here _law_drawing _law_due _law_order _law_moved _law_spot _law_places _law_place _law_parts_here _law_part -/
def c__law_moved_right : Fn := ⟨3, 10, [.asg (.nm 3) (.call F._law_mixed [.loc 0, .bi .lrng [.bi .len [.loc 1]]]), .asg (.nm 4) (.bi .tuple [.lc [5] (.val (.loc 3)) (.nm 5) [] (.bi .tuple [.call F._law_mixed [.loc 0, .sub (.loc 1) (.loc 5)]])]), .asg (.nm 6) (.bi .dict [.lc [7, 5] (.enum (.loc 3) 0) (.tup [.nm 7, .nm 5]) [] (.tup [.loc 5, .loc 7])]), .asg (.nm 8) (.bi .sorted [.lc [9] (.val (.loc 2)) (.nm 9) [] (.bi .tuple [.bi .sorted [.lc [5] (.val (.loc 9)) (.nm 5) [] (.sub (.loc 6) (.loc 5))]])]), .ret (.cmp .eq (.call F.components [.loc 4]) (.bi .tuple [.loc 8]))]⟩
/- _law_drawing _law_far _law_due _law_ends_here _law_spots _law_rotation _law_both _law_end _law_more _law_spot _law_part -/
def c__law_beside_right : Fn := ⟨3, 11, [.asg (.tup [.nm 3, .nm 4]) (.tup [.bi .sum [.lc [5] (.val (.loc 0)) (.nm 5) [] (.bi .len [.loc 5])], .bi .len [.loc 0]]), .asg (.nm 6) (.bin .add (.loc 0) (.bi .tuple [.lc [5] (.val (.loc 1)) (.nm 5) [] (.bi .tuple [.lc [7] (.val (.loc 5)) (.nm 7) [] (.bin .add (.loc 7) (.loc 3))])])), .asg (.nm 8) (.lc [10] (.val (.call F._law_parts [.loc 1])) (.nm 10) [] (.bi .tuple [.lc [9] (.val (.loc 10)) (.nm 9) [] (.bin .add (.loc 9) (.loc 4))])), .ret (.cmp .eq (.call F.components [.loc 6]) (.bin .add (.loc 2) (.bi .tuple [.loc 8])))]⟩
/- _law_script _law_k _law_source_here _law_drawing _law_kept _law_due -/
def c_law : Fn := ⟨1, 6, [.forr (.rng [.bi .max2 [.con (.int 1), .bi .min2 [.con (.int 8), .bi .len [.loc 0]]]]) (.nm 1) [.asg (.nm 2) (.call F._law_source [.loc 0, .loc 1]), .asg (.nm 3) (.call F._law_any_graph [.loc 2, .con (.int 10), .con (.int 9)]), .asg (.tup [.nm 4, .nm 5]) (.tup [.bi .repr [.loc 3], .call F._law_parts [.loc 3]]), .iff (.or2 (.val (.cmp .ne (.bi .repr [.call F.components [.loc 3]]) (.bi .repr [.loc 5]))) (.val (.cmp .ne (.bi .repr [.loc 3]) (.loc 4)))) [.ret (.con (.bl false))] [], .iff (.and2 (.val (.cmp .eq (.bi .len [.loc 5]) (.con (.int 1)))) (.val (.cmp .lt (.bi .len [.call F._law_ends [.loc 3]]) (.bin .sub (.bi .len [.loc 3]) (.con (.int 1)))))) [.ret (.con (.bl false))] [], .iff (.nt (.val (.call F._law_moved_right [.loc 2, .loc 3, .loc 5]))) [.ret (.con (.bl false))] [], .iff (.nt (.val (.call F._law_beside_right [.loc 3, .call F._law_any_graph [.loc 2, .con (.int 5), .con (.int 5)], .loc 5]))) [.ret (.con (.bl false))] []], .ret (.and2 (.cmp .eq (.call F.components [.tup []]) (.tup [])) (.cmp .eq (.call F.components [.tup [.tup [], .tup [], .tup []]]) (.tup [.tup [.con (.int 0)], .tup [.con (.int 1)], .tup [.con (.int 2)]])))]⟩
def fns : Nat → Option Fn
  | 0 => some c_is_index
  | 1 => some c_graph_fault
  | 2 => some c_check_graph
  | 3 => some c_dart_count
  | 4 => some c_opposite_of
  | 5 => some c_dart_tails
  | 6 => some c_component_list
  | 7 => some c_components
  | 8 => some c__law_source
  | 9 => some c__law_next
  | 10 => some c__law_mixed
  | 11 => some c__law_ends
  | 12 => some c__law_any_graph
  | 13 => some c__law_parts
  | 14 => some c__law_moved_right
  | 15 => some c__law_beside_right
  | 16 => some c_law
  | _ => none
def P : Pr := ⟨fns, fun _ => none, fun _ _ => false⟩
end Fs
/-! What a piece answers, as a claim about its end (the law's side, no world in sight). -/
namespace Fs
open PySem
section
variable {α β : Type}
def wr (r : R α) (Q : α → Sto → Prop) (E : D → Sto → Prop) : Prop := match r with
  | .ok a s' => Q a s'
  | .exc e s' => E e s'
  | .bad => False
def wp (m : M α) (s : Sto) (Q : α → Sto → Prop) (E : D → Sto → Prop) : Prop := wr (m s) Q E
def wb (k : Bool) (A B : Prop) : Prop := match k with
  | true => A
  | false => B
def og (o : Option α) (f : α → Prop) : Prop := match o with
  | some a => f a
  | none => False
theorem wp_congr {m m' : M α} {s s' : Sto} {Q : α → Sto → Prop} {E : D → Sto → Prop} (h : m = m') (h2 : s = s') : wp m s Q E = wp m' s' Q E := by rw [h, h2]
theorem wr_congr {m m' : R α} {Q : α → Sto → Prop} {E : D → Sto → Prop} (h : m = m') : wr m Q E = wr m' Q E := by rw [h]
theorem wb_congr {k k' : Bool} {A B : Prop} (h : k = k') : wb k A B = wb k' A B := by rw [h]
theorem og_congr {k k' : Option α} {A : α → Prop} (h : k = k') : og k A = og k' A := by rw [h]
theorem wb_t {A B : Prop} : wb true A B = A := propext Iff.rfl
theorem wb_f {A B : Prop} : wb false A B = B := propext Iff.rfl
theorem og_s {a : α} {f : α → Prop} : og (some a) f = f a := propext Iff.rfl
theorem og_of {o : Option α} {a : α} {f : α → Prop} (h : o = some a) (hf : f a) : og o f := by rw [h]; exact hf
theorem wb_of {k : Bool} {A B : Prop} (h1 : k = true → A) (h2 : k = false → B) : wb k A B := by
  cases k
  · exact h2 rfl
  · exact h1 rfl
theorem wr_ok {a : α} {s : Sto} {Q : α → Sto → Prop} {E : D → Sto → Prop} : wr (.ok a s) Q E = Q a s := propext Iff.rfl
theorem wr_exc {a : D} {s : Sto} {Q : α → Sto → Prop} {E : D → Sto → Prop} : wr (.exc a s) Q E = E a s := propext Iff.rfl
theorem wp_of {m : M α} {s : Sto} {Q Q' : α → Sto → Prop} {E E' : D → Sto → Prop} (h : wp m s Q E) (hq : ∀ a s', Q a s' → Q' a s') (he : ∀ a s', E a s' → E' a s') : wp m s Q' E' := by
  unfold wp wr at *
  cases e : m s with
  | ok a s' => rw [e] at h; exact hq _ _ h
  | exc a s' => rw [e] at h; exact he _ _ h
  | bad => rw [e] at h; exact h
theorem wp_q {m : M α} {s : Sto} {Q Q' : α → Sto → Prop} {E : D → Sto → Prop} (h : ∀ a s', Q a s' = Q' a s') : wp m s Q E = wp m s Q' E := by
  have : Q = Q' := funext fun a => funext fun s' => h a s'
  rw [this]
theorem og_q {o : Option α} {f g : α → Prop} (h : ∀ a, f a = g a) : og o f = og o g := by
  have : f = g := funext h
  rw [this]
/-- nothing raised -/
abbrev NX : D → Sto → Prop := fun _ _ => False
theorem wp_nx {m : M α} {s : Sto} {Q Q' : α → Sto → Prop} {E' : D → Sto → Prop} (h : wp m s Q NX) (hq : ∀ a s', Q a s' → Q' a s') : wp m s Q' E' := wp_of h hq (fun _ _ h => h.elim)
theorem wp_run {m : M α} {s : Sto} {Q : α → Sto → Prop} (h : wp m s Q NX) : ∃ a s', m s = .ok a s' ∧ Q a s' := by
  unfold wp wr at h
  cases e : m s with
  | ok a s' => rw [e] at h; exact ⟨a, s', rfl, h⟩
  | exc a s' => rw [e] at h; exact h.elim
  | bad => rw [e] at h; exact h.elim
variable {s : Sto} {E : D → Sto → Prop}
theorem wp_ret {a : α} {Q : α → Sto → Prop} : wp (ret a) s Q E = Q a s := propext Iff.rfl
theorem wp_bnd {m : M α} {f : α → M β} {Q : β → Sto → Prop} : wp (bnd m f) s Q E = wp m s (fun a s' => wp (f a) s' Q E) E := by
  simp only [wp, bnd]
  cases m s <;> rfl
theorem wp_opt {o : Option α} {f : α → M β} {Q : β → Sto → Prop} : wp (opt o f) s Q E = og o (fun a => wp (f a) s Q E) := by
  cases o <;> rfl
theorem wp_bndS {m : Sto → M α} {f : α → M β} {Q : β → Sto → Prop} : wp (fun st => bnd (m st) f st) s Q E = wp (m s) s (fun a s' => wp (f a) s' Q E) E := by
  show wr (bnd (m s) f s) Q E = _
  simp only [wp, bnd]
  cases m s s <;> rfl
theorem wp_optS {o : Sto → Option α} {f : α → M β} {Q : β → Sto → Prop} : wp (fun st => opt (o st) f st) s Q E = og (o s) (fun a => wp (f a) s Q E) := by
  show wr (opt (o s) f s) Q E = _
  cases o s <;> rfl
theorem wp_gdS {b : Sto → Bool} {m : Sto → M β} {Q : β → Sto → Prop} : wp (fun st => gd (b st) (m st) st) s Q E = (b s = true ∧ wp (m s) s Q E) := by
  show wr (gd (b s) (m s) s) Q E = _
  cases b s <;> simp [gd, wp, wr, bad]
theorem wp_gd {b : Bool} {m : M α} {Q : α → Sto → Prop} : wp (gd b m) s Q E = (b = true ∧ wp m s Q E) := by
  cases b <;> simp [gd, wp, wr, bad]
theorem wp_noX {m : M α} {Q : α → Sto → Prop} : wp (noX m) s Q E = wp m s Q NX := by
  simp only [wp, noX]
  cases m s <;> rfl
theorem wp_lft {σ : Env} {m : M α} {f : α → M Fl} {Q : Fl → Sto → Prop} : wp (lft σ m f) s Q E = wp m s (fun a s' => wp (f a) s' Q E) (fun e s' => Q (.ex σ e) s') := by
  simp only [wp, lft]
  cases m s <;> rfl
/-- how the pieces of a body follow -/
def fq (k : Env → Sto → Prop) (Q : Fl → Sto → Prop) : Fl → Sto → Prop := fun f s' => match f with
  | .nx σ => k σ s'
  | f => Q f s'
theorem fq_nx {k : Env → Sto → Prop} {Q : Fl → Sto → Prop} {σ : Env} : fq k Q (.nx σ) s = k σ s := propext Iff.rfl
theorem fq_rt {k : Env → Sto → Prop} {Q : Fl → Sto → Prop} {d : D} : fq k Q (.rt d) s = Q (.rt d) s := propext Iff.rfl
theorem fq_br {k : Env → Sto → Prop} {Q : Fl → Sto → Prop} {d : Env} : fq k Q (.br d) s = Q (.br d) s := propext Iff.rfl
theorem fq_ct {k : Env → Sto → Prop} {Q : Fl → Sto → Prop} {d : Env} : fq k Q (.ct d) s = Q (.ct d) s := propext Iff.rfl
theorem fq_ex {k : Env → Sto → Prop} {Q : Fl → Sto → Prop} {d : Env} {e : D} : fq k Q (.ex d e) s = Q (.ex d e) s := propext Iff.rfl
theorem wp_seqF {m : M Fl} {k : Env → M Fl} {Q : Fl → Sto → Prop} (hE : E = NX) : wp (seqF m k) s Q E = wp m s (fq (fun σ s' => wp (k σ) s' Q E) Q) E := by
  subst hE
  simp only [wp, seqF]
  cases m s with
  | ok f s' => cases f <;> rfl
  | exc => rfl
  | bad => rfl
end
section
variable {T : Tbl} {σ : Env} {s : Sto} {E : D → Sto → Prop} {Q : D → Sto → Prop} {QB : Bool → Sto → Prop} {QF : Fl → Sto → Prop}
def lk (o : Option (Option D)) (f : D → Prop) : Prop := match o with
  | some (some d) => f d
  | _ => False
theorem lk_congr {k k' : Option (Option D)} {A : D → Prop} (h : k = k') : lk k A = lk k' A := by rw [h]
theorem lk_s {d : D} {f : D → Prop} : lk (some (some d)) f = f d := propext Iff.rfl
theorem e_loc {i : Nat} : wp (ev T (.loc i) σ) s Q E = lk σ[i]? (fun d => Q d s) := by
  simp only [ev]
  cases σ[i]? with
  | none => rfl
  | some o => cases o <;> rfl
theorem e_con {d : D} : wp (ev T (.con d) σ) s Q E = Q d s := by simp only [ev, wp_ret]
theorem e_bin {op : Bop} {a b : Ex} : wp (ev T (.bin op a b) σ) s Q E = wp (ev T a σ) s (fun x s => wp (ev T b σ) s (fun y s => wp (binD op x y) s Q E) E) E := by
  simp only [ev, wp_bnd]
theorem e_neg {a : Ex} : wp (ev T (.neg a) σ) s Q E = wp (ev T a σ) s (fun x s => og (intv x) fun i => Q (.int (-i)) s) E := by
  simp only [ev, wp_bnd, wp_opt, wp_ret]
theorem e_nt {a : Cn} : wp (ev T (.nt a) σ) s Q E = wp (evT T a σ) s (fun c s => Q (.bl (!c)) s) E := by
  simp only [ev, wp_bnd, wp_ret]
theorem wp_st {f : Sto → M D} : wp (fun st => f st st) s Q E = wp (f s) s Q E := rfl
theorem e_cmp {op : Cop} {a b : Ex} : wp (ev T (.cmp op a b) σ) s Q E = wp (ev T a σ) s (fun x s => wp (ev T b σ) s (fun y s => og (cmpD op x y s) (fun c => Q (.bl c) s)) E) E := by
  simp only [ev, wp_bnd]
  refine wp_q fun x s => wp_q fun y s => ?_
  rw [wp_optS (o := fun st => cmpD op x y st)]
  exact og_q fun c => wp_ret
theorem e_chn {o1 o2 : Cop} {a b c : Ex} : wp (ev T (.chn o1 o2 a b c) σ) s Q E = wp (ev T a σ) s (fun x s => og (intv x) fun i => wp (ev T b σ) s (fun y s => og (intv y) fun j => og (cmpI o1 i j) fun k => wb k (wp (ev T c σ) s (fun z s => og (intv z) fun m => og (cmpI o2 j m) fun r => Q (.bl r) s) E) (Q (.bl false) s)) E) E := by
  simp only [ev, wp_bnd, wp_opt]
  refine wp_q fun x s => og_q fun i => wp_q fun y s => og_q fun j => og_q fun k => ?_
  cases k
  · rfl
  · simp only [wb, wp_bnd, wp_opt, wp_ret]
theorem e_and2 {a b : Ex} : wp (ev T (.and2 a b) σ) s Q E = wp (ev T a σ) s (fun x s => og (blv x) fun c => wb c (wp (ev T b σ) s Q E) (Q (.bl false) s)) E := by
  simp only [ev, wp_bnd, wp_opt]
  refine wp_q fun x s => og_q fun k => ?_
  cases k <;> rfl
theorem e_or2 {a b : Ex} : wp (ev T (.or2 a b) σ) s Q E = wp (ev T a σ) s (fun x s => og (blv x) fun c => wb c (Q (.bl true) s) (wp (ev T b σ) s Q E)) E := by
  simp only [ev, wp_bnd, wp_opt]
  refine wp_q fun x s => og_q fun k => ?_
  cases k <;> rfl
theorem e_ife {c : Cn} {a b : Ex} : wp (ev T (.ife c a b) σ) s Q E = wp (evT T c σ) s (fun k s => wb k (wp (ev T a σ) s Q E) (wp (ev T b σ) s Q E)) E := by
  simp only [ev, wp_bnd]
  refine wp_q fun k s => ?_
  cases k <;> rfl
theorem es_nil {Q : List D → Sto → Prop} : wp (evs T [] σ) s Q E = Q [] s := by simp only [evs, wp_ret]
theorem es_cons {e : Ex} {es : List Ex} {Q : List D → Sto → Prop} : wp (evs T (e :: es) σ) s Q E = wp (ev T e σ) s (fun x s => wp (evs T es σ) s (fun xs s => Q (x :: xs) s) E) E := by
  simp only [evs, wp_bnd, wp_ret]
theorem e_tup {es : List Ex} : wp (ev T (.tup es) σ) s Q E = wp (evs T es σ) s (fun ds s => ds.length ≤ sizeLine ∧ Q (.tup ds) s) E := by
  simp only [ev, wp_bnd, wp_gd, wp_ret, decide_eq_true_eq]
theorem e_lst {es : List Ex} : wp (ev T (.lst es) σ) s Q E = wp (evs T es σ) s (fun ds s => ds.length ≤ sizeLine ∧ Q (.lst ds) s) E := by
  simp only [ev, wp_bnd, wp_gd, wp_ret, decide_eq_true_eq]
theorem e_dct0 : wp (ev T (.dct []) σ) s Q E = Q (.dic []) s := by
  simp only [ev, evkv, wp_bnd, wp_gd, wp_ret, List.foldl, true_and]
theorem e_sub {a i : Ex} : wp (ev T (.sub a i) σ) s Q E = wp (ev T a σ) s (fun x s => wp (ev T i σ) s (fun y s => wp (getI x y) s Q E) E) E := by
  simp only [ev, wp_bnd]
theorem e_slc {a : Ex} {lo hi : Option Ex} : wp (ev T (.slc a lo hi) σ) s Q E = wp (ev T a σ) s (fun x s => wp (evo T lo σ) s (fun l s => wp (evo T hi σ) s (fun h s => wp (slcD x l h) s Q E) E) E) E := by
  simp only [ev, wp_bnd]
theorem eo_n {Q : Option Int → Sto → Prop} : wp (evo T none σ) s Q E = Q none s := by simp only [evo, wp_ret]
theorem eo_s {e : Ex} {Q : Option Int → Sto → Prop} : wp (evo T (some e) σ) s Q E = wp (ev T e σ) s (fun x s => og (intv x) fun i => Q (some i) s) E := by
  simp only [evo, wp_bnd, wp_opt, wp_ret]
theorem e_rev {a : Ex} : wp (ev T (.rev a) σ) s Q E = wp (ev T a σ) s (fun x s => wp (revD x) s Q E) E := by
  simp only [ev, wp_bnd]
theorem e_call {f : Nat} {es : List Ex} : wp (ev T (.call f es) σ) s Q E = wp (evs T es σ) s (fun ds s => wp (T.fn f ds) s Q E) E := by
  simp only [ev, wp_bnd]
theorem e_bi {b : Bi} {es : List Ex} : wp (ev T (.bi b es) σ) s Q E = wp (evs T es σ) s (fun ds s => wp (biD T b ds) s Q E) E := by
  simp only [ev, wp_bnd]
theorem e_me {m : Me} {o : Ex} {es : List Ex} : wp (ev T (.me m o es) σ) s Q E = wp (ev T o σ) s (fun x s1 => meK m (kndD s1 x) = true ∧ wp (evs T es σ) s1 (fun ds s2 => (kndD s1 x == kndD s2 x) = true ∧ wp (meD m x ds) s2 Q E) E) E := by
  simp only [ev, wp_bnd]
  refine wp_q fun x s1 => ?_
  rw [wp_gdS (b := fun st1 => meK m (kndD st1 x)) (m := fun st1 => bnd (evs T es σ) fun ds => fun st2 => gd (kndD st1 x == kndD st2 x) (meD m x ds) st2)]
  refine congrArg _ ?_
  rw [wp_bnd]
  refine wp_q fun ds s2 => ?_
  rw [wp_gdS (b := fun st2 => kndD s1 x == kndD st2 x) (m := fun _ => meD m x ds)]
/-- the inside of a comprehension -/
def lcT (T : Tbl) (own : List Nat) (tg : Tg) (ifs : List Cn) (e : Ex) (σ : Env) : D → M (Option D) := fun d => bnd (asgT T tg d (wipe σ own)) fun σ' => bnd (evTs T ifs σ') fun b => match b with
        | true => bnd (ev T e σ') fun y => ret (some y)
        | false => ret none
theorem e_lc {own : List Nat} {it : Ix} {tg : Tg} {ifs : List Cn} {e : Ex} : wp (ev T (.lc own it tg ifs e) σ) s Q E = wp (evI T it σ) s (fun t s => wp (lcLoop t (lcT T own tg ifs e σ) (t.len s + 1) 0 []) s (fun ys s => Q (.lst ys) s) E) E := by
  simp only [ev, wp_bnd]
  refine wp_q fun t s => ?_
  unfold lcT
  exact Eq.trans (wp_bndS (m := fun st => lcLoop t _ (t.len st + 1) 0 [])) (wp_q fun ys s => wp_ret)
def dcT (T : Tbl) (own : List Nat) (tg : Tg) (ifs : List Cn) (k v : Ex) (σ : Env) : D → M (Option (Ky × D)) := fun d => bnd (asgT T tg d (wipe σ own)) fun σ' => bnd (evTs T ifs σ') fun b => match b with
        | true => bnd (ev T k σ') fun x => bnd (ev T v σ') fun y => opt (keyOf x) fun q => ret (some (q, y))
        | false => ret none
theorem e_dc {own : List Nat} {it : Ix} {tg : Tg} {ifs : List Cn} {k v : Ex} : wp (ev T (.dc own it tg ifs k v) σ) s Q E = wp (evI T it σ) s (fun t s => wp (dcLoop t (dcT T own tg ifs k v σ) (t.len s + 1) 0 []) s (fun ys s => Q (.dic ys) s) E) E := by
  simp only [ev, wp_bnd]
  refine wp_q fun t s => ?_
  unfold dcT
  exact Eq.trans (wp_bndS (m := fun st => dcLoop t _ (t.len st + 1) 0 [])) (wp_q fun ys s => wp_ret)
theorem w_lcT {own : List Nat} {tg : Tg} {ifs : List Cn} {e : Ex} {d : D} {Q : Option D → Sto → Prop} : wp (lcT T own tg ifs e σ d) s Q E = wp (asgT T tg d (wipe σ own)) s (fun σ' s => wp (evTs T ifs σ') s (fun b s => wb b (wp (ev T e σ') s (fun y s => Q (some y) s) E) (Q none s)) E) E := by
  simp only [lcT, wp_bnd]
  refine wp_q fun t s => wp_q fun b s => ?_
  cases b
  · rfl
  · simp only [wb, wp_bnd, wp_ret]
theorem w_dcT {own : List Nat} {tg : Tg} {ifs : List Cn} {k v : Ex} {d : D} {Q : Option (Ky × D) → Sto → Prop} : wp (dcT T own tg ifs k v σ d) s Q E = wp (asgT T tg d (wipe σ own)) s (fun σ' s => wp (evTs T ifs σ') s (fun b s => wb b (wp (ev T k σ') s (fun x s => wp (ev T v σ') s (fun y s => og (keyOf x) fun q => Q (some (q, y)) s) E) E) (Q none s)) E) E := by
  simp only [dcT, wp_bnd]
  refine wp_q fun t s => wp_q fun b s => ?_
  cases b
  · rfl
  · simp only [wb, wp_bnd, wp_opt, wp_ret]
/-! tests -/
theorem t_nt {a : Cn} : wp (evT T (.nt a) σ) s QB E = wp (evT T a σ) s (fun c s => QB (!c) s) E := by
  simp only [evT, wp_bnd, wp_ret]
theorem t_and2 {a b : Cn} : wp (evT T (.and2 a b) σ) s QB E = wp (evT T a σ) s (fun c s => wb c (wp (evT T b σ) s QB E) (QB false s)) E := by
  simp only [evT, wp_bnd]
  refine wp_q fun x s => ?_
  cases x <;> rfl
theorem t_or2 {a b : Cn} : wp (evT T (.or2 a b) σ) s QB E = wp (evT T a σ) s (fun c s => wb c (QB true s) (wp (evT T b σ) s QB E)) E := by
  simp only [evT, wp_bnd]
  refine wp_q fun x s => ?_
  cases x <;> rfl
theorem t_ife {a b c : Cn} : wp (evT T (.ife c a b) σ) s QB E = wp (evT T c σ) s (fun k s => wb k (wp (evT T a σ) s QB E) (wp (evT T b σ) s QB E)) E := by
  simp only [evT, wp_bnd]
  refine wp_q fun x s => ?_
  cases x <;> rfl
theorem t_val {e : Ex} : wp (evT T (.val e) σ) s QB E = wp (ev T e σ) s (fun x s => og (truth s x) (fun b => QB b s)) E := by
  simp only [evT, wp_bnd]
  refine wp_q fun x s => ?_
  rw [wp_optS (o := fun st => truth st x)]
  exact og_q fun c => wp_ret
theorem ts_nil : wp (evTs T [] σ) s QB E = QB true s := by simp only [evTs, wp_ret]
theorem ts_cons {e : Cn} {es : List Cn} : wp (evTs T (e :: es) σ) s QB E = wp (evT T e σ) s (fun c s => wb c (wp (evTs T es σ) s QB E) (QB false s)) E := by
  simp only [evTs, wp_bnd]
  refine wp_q fun x s => ?_
  cases x <;> rfl
/-! iterables -/
theorem i_val {e : Ex} {Q : It → Sto → Prop} : wp (evI T (.val e) σ) s Q E = wp (ev T e σ) s (fun x s => wp (srcOf x) s (fun w s => Q (.one w) s) E) E := by
  simp only [evI, wp_bnd, wp_ret]
theorem i_rng {es : List Ex} {Q : It → Sto → Prop} : wp (evI T (.rng es) σ) s Q E = wp (evs T es σ) s (fun ds s => og (rngL ds) fun xs => Q (.one (.items xs)) s) E := by
  simp only [evI, wp_bnd, wp_opt, wp_ret]
theorem i_enum {e : Ex} {k : Int} {Q : It → Sto → Prop} : wp (evI T (.enum e k) σ) s Q E = wp (ev T e σ) s (fun x s => wp (srcOf x) s (fun w s => Q (.enum k w) s) E) E := by
  simp only [evI, wp_bnd, wp_ret]
/-! targets -/
theorem wp_land {d : D} : wp (landM d) s Q E = Q (land d s).1 (land d s).2 := propext Iff.rfl
theorem g_nm {i : Nat} {d : D} {Q : Env → Sto → Prop} : wp (asgT T (.nm i) d σ) s Q E = Q (σ.set i (some (land d s).1)) (land d s).2 := by
  simp only [asgT, wp_bnd, wp_land, wp_ret]
theorem g_tup {ts : List Tg} {d : D} {Q : Env → Sto → Prop} : wp (asgT T (.tup ts) d σ) s Q E = og (ofTup d s) (fun ds => wp (asgTs T ts ds σ) s Q E) := by
  simp only [asgT, wp]
  cases ofTup d s <;> rfl
theorem g_sub {o i : Ex} {d : D} {Q : Env → Sto → Prop} : wp (asgT T (.sub o i) d σ) s Q E = wp (ev T o σ) s (fun x s => wp (ev T i σ) s (fun y s => wp (setI x y d) s (fun _ s => Q σ s) E) E) E := by
  simp only [asgT, wp_bnd, wp_ret]
theorem gs_nil {Q : Env → Sto → Prop} : wp (asgTs T [] [] σ) s Q E = Q σ s := by simp only [asgTs, wp_ret]
theorem gs_cons {t : Tg} {ts : List Tg} {d : D} {ds : List D} {Q : Env → Sto → Prop} : wp (asgTs T (t :: ts) (d :: ds) σ) s Q E = wp (asgT T t d σ) s (fun σ' s => wp (asgTs T ts ds σ') s Q E) E := by
  simp only [asgTs, wp_bnd]
/-! statements -/
theorem s_asg {t : Tg} {e : Ex} : wp (exS T (.asg t e) σ) s QF E = wp (ev T e σ) s (fun x s => wp (asgT T t x σ) s (fun σ' s => QF (.nx σ') s) NX) (fun e s => QF (.ex σ e) s) := by
  simp only [exS, wp_lft, wp_bnd, wp_noX, wp_ret]
theorem s_xpr {e : Ex} : wp (exS T (.xpr e) σ) s QF E = wp (ev T e σ) s (fun _ s => QF (.nx σ) s) (fun e s => QF (.ex σ e) s) := by
  simp only [exS, wp_lft, wp_ret]
theorem s_ret {e : Ex} : wp (exS T (.ret e) σ) s QF E = wp (ev T e σ) s (fun d s => QF (.rt d) s) (fun e s => QF (.ex σ e) s) := by
  simp only [exS, wp_lft, wp_ret]
theorem s_ret0 : wp (exS T .ret0 σ) s QF E = QF (.rt .non) s := by simp only [exS, wp_ret]
theorem s_iff {c : Cn} {a b : List Sx} : wp (exS T (.iff c a b) σ) s QF E = wp (evT T c σ) s (fun k s => wb k (wp (exL T a σ) s QF E) (wp (exL T b σ) s QF E)) (fun e s => QF (.ex σ e) s) := by
  simp only [exS, wp_lft]
  refine wp_q fun x s => ?_
  cases x <;> rfl
theorem s_brk : wp (exS T .brk σ) s QF E = QF (.br σ) s := by simp only [exS, wp_ret]
theorem s_cnt : wp (exS T .cnt σ) s QF E = QF (.ct σ) s := by simp only [exS, wp_ret]
theorem s_pas : wp (exS T .pas σ) s QF E = QF (.nx σ) s := by simp only [exS, wp_ret]
theorem s_for {it : Ix} {t : Tg} {b : List Sx} : wp (exS T (.forr it t b) σ) s QF E = wp (evI T it σ) s (fun w s => wp (forLoop w (fun d σ => asgT T t d σ) (fun σ => exL T b σ) (w.len s + 1) 0 σ) s QF E) (fun e s => QF (.ex σ e) s) := by
  simp only [exS, wp_lft]; rfl
theorem s_whl {c : Cn} {b : List Sx} : wp (exS T (.whl c b) σ) s QF E = wp (whLoop (fun σ => evT T c σ) (fun σ => exL T b σ) wfuel σ) s QF E := by
  simp only [exS]
theorem l_nil : wp (exL T [] σ) s QF E = QF (.nx σ) s := by simp only [exL, wp_ret]
theorem l_cons {x : Sx} {xs : List Sx} : wp (exL T (x :: xs) σ) s QF NX = wp (exS T x σ) s (fq (fun σ s => wp (exL T xs σ) s QF NX) QF) NX := by
  simp only [exL, wp_seqF]
/-! loops -/
/-- what a turn of a loop leads to -/
def tq (I : Env → Sto → Prop) (QF : Fl → Sto → Prop) : Fl → Sto → Prop := fun f s => match f with
  | .nx σ | .ct σ => I σ s
  | .br σ => QF (.nx σ) s
  | f => QF f s
theorem tq_nx {I : Env → Sto → Prop} {σ : Env} : tq I QF (.nx σ) s = I σ s := propext Iff.rfl
theorem tq_ct {I : Env → Sto → Prop} {σ : Env} : tq I QF (.ct σ) s = I σ s := propext Iff.rfl
theorem tq_br {I : Env → Sto → Prop} {σ : Env} : tq I QF (.br σ) s = QF (.nx σ) s := propext Iff.rfl
theorem tq_rt {I : Env → Sto → Prop} {d : D} : tq I QF (.rt d) s = QF (.rt d) s := propext Iff.rfl
theorem tq_ex {I : Env → Sto → Prop} {σ : Env} {d : D} : tq I QF (.ex σ d) s = QF (.ex σ d) s := propext Iff.rfl
theorem w_forAux {it : It} {g : D → Env → M Env} {b : Env → M Fl} (xs : List D) (I : Nat → Env → Sto → Prop)
    (hit : ∀ i σ s, I i σ s → it.next i s = some xs[i]?)
    (hb : ∀ i d σ s, I i σ s → xs[i]? = some d → wp (g d σ) s (fun σ1 s1 => wp (b σ1) s1 (tq (I (i + 1)) QF) NX) NX)
    (hq : ∀ σ s, I xs.length σ s → QF (.nx σ) s) : ∀ (n i : Nat) (σ : Env) (s : Sto), I i σ s → i ≤ xs.length → xs.length + 1 ≤ n + i → wp (forLoop it g b n i σ) s QF E
  | 0, i, σ, s, h, h1, h2 => absurd h2 (by omega)
  | n + 1, i, σ, s, h, h1, h2 => by
    simp only [wp, forLoop]
    rw [hit i σ s h]
    by_cases hi : i < xs.length
    · rw [List.getElem?_eq_getElem hi]
      have hw := hb i _ σ s h (List.getElem?_eq_getElem hi)
      simp only [wp, noX] at hw ⊢
      cases eg : g xs[i] σ s with
      | ok σ1 s1 =>
        rw [eg] at hw
        simp only [wr] at hw
        simp only
        cases eb : b σ1 s1 with
        | ok f s2 =>
          rw [eb] at hw
          simp only [wr] at hw
          cases f with
          | nx σ' => exact w_forAux xs I hit hb hq n (i + 1) σ' s2 hw hi (by omega)
          | ct σ' => exact w_forAux xs I hit hb hq n (i + 1) σ' s2 hw hi (by omega)
          | br σ' => exact hw
          | rt d => exact hw
          | ex σ' e => exact hw
        | exc e s2 => rw [eb] at hw; exact hw.elim
        | bad => rw [eb] at hw; exact hw.elim
      | exc e s2 => rw [eg] at hw; exact hw.elim
      | bad => rw [eg] at hw; exact hw.elim
    · obtain rfl : i = xs.length := by omega
      rw [List.getElem?_eq_none (Nat.le_refl _)]
      exact hq σ s h
/-- a loop over things that stand -/
theorem w_for {g : D → Env → M Env} {b : Env → M Fl} (xs : List D) (I : Nat → Env → Sto → Prop) (h0 : I 0 σ s)
    (hb : ∀ i d σ s, I i σ s → xs[i]? = some d → wp (g d σ) s (fun σ1 s1 => wp (b σ1) s1 (tq (I (i + 1)) QF) NX) NX)
    (hq : ∀ σ s, I xs.length σ s → QF (.nx σ) s) : wp (forLoop (.one (.items xs)) g b ((It.one (.items xs)).len s + 1) 0 σ) s QF E :=
  w_forAux xs I (fun i σ s _ => rfl) hb hq _ 0 σ s h0 (Nat.zero_le _) (by show xs.length + 1 ≤ xs.length + 1 + 0; omega)
def numb (k : Int) (xs : List D) : List D := (List.range xs.length).map fun (i : Nat) => .tup [.int (k + (i : Int)), xs.getD i .non]
theorem numb_get {k : Int} {xs : List D} {i : Nat} : (numb k xs)[i]? = xs[i]?.map fun d => .tup [.int (k + (i : Int)), d] := by
  simp only [numb, List.getElem?_map]
  by_cases h : i < xs.length
  · rw [List.getElem?_range h, List.getElem?_eq_getElem h]
    simp [List.getD, List.getElem?_eq_getElem h]
  · rw [List.getElem?_eq_none (l := List.range xs.length) (by simpa using h), List.getElem?_eq_none (by omega)]; rfl
theorem numb_len {k : Int} {xs : List D} : (numb k xs).length = xs.length := by simp [numb]
theorem enum_next {k : Int} {xs : List D} {i : Nat} {s : Sto} (h : i ≤ xs.length) : (It.enum k (.items xs)).next i s = some (numb k xs)[i]? := by
  rw [numb_get]
  simp only [It.next, Src.at]
  by_cases hi : i < xs.length
  · rw [List.getElem?_eq_getElem hi]; rfl
  · obtain rfl : i = xs.length := by omega
    rw [List.getElem?_eq_none (Nat.le_refl _)]
    simp [Src.len]
theorem w_forE {g : D → Env → M Env} {b : Env → M Fl} {k : Int} (xs : List D) (I : Nat → Env → Sto → Prop) (h0 : I 0 σ s)
    (hb : ∀ i d σ s, I i σ s → xs[i]? = some d → wp (g (.tup [.int (k + (i : Int)), d]) σ) s (fun σ1 s1 => wp (b σ1) s1 (tq (I (i + 1)) QF) NX) NX)
    (hq : ∀ σ s, I xs.length σ s → QF (.nx σ) s) : wp (forLoop (.enum k (.items xs)) g b ((It.enum k (.items xs)).len s + 1) 0 σ) s QF E := by
  refine w_forAux (numb k xs) (fun i σ s => i ≤ xs.length ∧ I i σ s) (fun i σ s h => enum_next h.1) ?_ ?_ _ 0 σ s ⟨Nat.zero_le _, h0⟩ (Nat.zero_le _) ?_
  · rintro i d σ s ⟨h, hI⟩ e
    rw [numb_get] at e
    cases e2 : xs[i]? with
    | none => rw [e2] at e; cases e
    | some x =>
      rw [e2] at e
      cases e
      have hi : i < xs.length := (List.getElem?_eq_some_iff.1 e2).1
      refine wp_nx (hb i x σ s hI e2) fun σ1 s1 h1 => wp_nx h1 fun f s2 h2 => ?_
      cases f <;> first
        | exact ⟨hi, h2⟩
        | exact h2
  · rintro σ s ⟨_, h⟩
    rw [numb_len] at h
    exact hq σ s h
  · rw [numb_len]; show xs.length + 1 ≤ xs.length + 1 + 0; omega
theorem w_lcAux {it : It} {turn : D → M (Option D)} (xs : List D) (I : Nat → List D → Sto → Prop) {Q : List D → Sto → Prop}
    (hit : ∀ i a s, I i a s → it.next i s = some xs[i]?)
    (hb : ∀ i d a s, I i a s → xs[i]? = some d → wp (turn d) s (fun o s1 => match o with
      | some y => a.length < sizeLine ∧ I (i + 1) (a ++ [y]) s1
      | none => I (i + 1) a s1) NX)
    (hq : ∀ a s, I xs.length a s → Q a s) : ∀ (n i : Nat) (a : List D) (s : Sto), I i a s → i ≤ xs.length → xs.length + 1 ≤ n + i → wp (lcLoop it turn n i a) s Q E
  | 0, i, σ, s, h, h1, h2 => absurd h2 (by omega)
  | n + 1, i, a, s, h, h1, h2 => by
    simp only [wp, lcLoop]
    rw [hit i a s h]
    by_cases hi : i < xs.length
    · rw [List.getElem?_eq_getElem hi]
      have hw := hb i _ a s h (List.getElem?_eq_getElem hi)
      simp only [wp] at hw ⊢
      cases eg : turn xs[i] s with
      | ok o s1 =>
        rw [eg] at hw
        cases o with
        | some y =>
          simp only [wr] at hw
          simp only [if_pos hw.1]
          exact w_lcAux xs I hit hb hq n (i + 1) _ s1 hw.2 hi (by omega)
        | none =>
          simp only [wr] at hw
          exact w_lcAux xs I hit hb hq n (i + 1) _ s1 hw hi (by omega)
      | exc e s2 => rw [eg] at hw; exact hw.elim
      | bad => rw [eg] at hw; exact hw.elim
    · obtain rfl : i = xs.length := by omega
      rw [List.getElem?_eq_none (Nat.le_refl _)]
      exact hq a s h
/-- a comprehension that maps; the store may change by the turns -/
theorem w_lcM {turn : D → M (Option D)} (xs : List D) (I : Nat → List D → Sto → Prop) {Q : List D → Sto → Prop} (h0 : I 0 [] s) (hl : ∀ i a s, I i a s → a.length ≤ i) (hx : xs.length ≤ sizeLine)
    (hb : ∀ i d a s, I i a s → xs[i]? = some d → wp (turn d) s (fun o s1 => match o with
      | some y => I (i + 1) (a ++ [y]) s1
      | none => I (i + 1) a s1) NX)
    (hq : ∀ a s, I xs.length a s → Q a s) : wp (lcLoop (.one (.items xs)) turn ((It.one (.items xs)).len s + 1) 0 []) s Q E :=
  w_lcAux xs I (fun i σ s _ => rfl) (fun i d a s h e => wp_nx (hb i d a s h e) fun o s1 h1 => by
    have hi : i < xs.length := (List.getElem?_eq_some_iff.1 e).1
    have := hl i a s h
    cases o with
    | none => exact h1
    | some y => exact ⟨by omega, h1⟩) hq _ 0 [] s h0 (Nat.zero_le _) (by show xs.length + 1 ≤ xs.length + 1 + 0; omega)
/-- a comprehension that leaves the store -/
theorem w_lc {turn : D → M (Option D)} (xs : List D) (f : D → Option D) {Q : List D → Sto → Prop} (hx : xs.length ≤ sizeLine)
    (hb : ∀ d ∈ xs, wp (turn d) s (fun o s1 => o = f d ∧ s1 = s) NX)
    (hq : Q (xs.filterMap f) s) : wp (lcLoop (.one (.items xs)) turn ((It.one (.items xs)).len s + 1) 0 []) s Q E := by
  refine w_lcM xs (fun i a s' => s' = s ∧ a = (xs.take i).filterMap f) ⟨rfl, by simp⟩ ?_ hx ?_ ?_
  · rintro i a s' ⟨rfl, rfl⟩
    exact Nat.le_trans (List.length_filterMap_le _ _) (List.length_take_le ..)
  · rintro i d a s' ⟨rfl, rfl⟩ e
    obtain ⟨hi, e2⟩ := List.getElem?_eq_some_iff.1 e
    refine wp_nx (hb d (by rw [← e2]; exact List.getElem_mem _)) ?_
    rintro o s1 ⟨rfl, rfl⟩
    have ht : xs.take (i + 1) = xs.take i ++ [d] := by rw [List.take_succ, e]; rfl
    cases ef : f d with
    | none => simp [ht, List.filterMap_append, ef]
    | some y => simp [ht, List.filterMap_append, ef]
  · rintro a s' ⟨rfl, rfl⟩
    rw [List.take_length]
    exact hq
theorem w_lcE {turn : D → M (Option D)} {k : Int} (xs : List D) (f : D → Option D) {Q : List D → Sto → Prop} (hx : xs.length ≤ sizeLine)
    (hb : ∀ (i : Nat) (d : D), xs[i]? = some d → wp (turn (.tup [.int (k + (i : Int)), d])) s (fun o s1 => o = f (.tup [.int (k + (i : Int)), d]) ∧ s1 = s) NX)
    (hq : Q ((numb k xs).filterMap f) s) : wp (lcLoop (.enum k (.items xs)) turn ((It.enum k (.items xs)).len s + 1) 0 []) s Q E := by
  refine w_lcAux (numb k xs) (fun i a s' => i ≤ xs.length ∧ s' = s ∧ a = ((numb k xs).take i).filterMap f) (fun i σ s h => enum_next h.1) ?_ ?_ _ 0 [] s ⟨Nat.zero_le _, rfl, by simp⟩ (Nat.zero_le _) (by rw [numb_len]; show xs.length + 1 ≤ xs.length + 1 + 0; omega)
  · rintro i d a s' ⟨hle, rfl, rfl⟩ e
    have hi : i < xs.length := by
      have := (List.getElem?_eq_some_iff.1 e).1
      rwa [numb_len] at this
    have ht : (numb k xs).take (i + 1) = (numb k xs).take i ++ [d] := by rw [List.take_succ, e]; rfl
    have e2 := e
    rw [numb_get, List.getElem?_eq_getElem hi] at e2
    cases e2
    refine wp_nx (hb i _ (List.getElem?_eq_getElem hi)) ?_
    rintro o s1 ⟨rfl, rfl⟩
    have hlen : (((numb k xs).take i).filterMap f).length < sizeLine := by
      refine Nat.lt_of_le_of_lt (List.length_filterMap_le _ _) (Nat.lt_of_le_of_lt (List.length_take_le ..) (by omega))
    simp only at ht
    cases ef : f (.tup [.int (k + (i : Int)), xs[i]]) with
    | none => exact ⟨hi, rfl, by simp [ht, List.filterMap_append, ef]⟩
    | some y => exact ⟨hlen, hi, rfl, by simp [ht, List.filterMap_append, ef]⟩
  · rintro a s' ⟨_, rfl, rfl⟩
    rw [List.take_length]
    exact hq
theorem w_wh {c : Env → M Bool} {b : Env → M Fl} (I : Nat → Env → Sto → Prop)
    (hb : ∀ k σ s, I k σ s → wp (c σ) s (fun t s1 => wb t (0 < k ∧ wp (b σ) s1 (tq (fun σ s => ∃ j, j < k ∧ I j σ s) QF) NX) (QF (.nx σ) s1)) NX) : ∀ (n k : Nat) (σ : Env) (s : Sto), I k σ s → k < n → wp (whLoop c b n σ) s QF E
  | 0, k, σ, s, h, h2 => absurd h2 (by omega)
  | n + 1, k, σ, s, h, h2 => by
    simp only [wp, whLoop, lft]
    have hw := hb k σ s h
    simp only [wp] at hw
    cases ec : c σ s with
    | ok t s1 =>
      rw [ec] at hw
      simp only [wr] at hw
      simp only
      cases t with
      | false => exact hw
      | true =>
        simp only [wb] at hw
        obtain ⟨hk, hw⟩ := hw
        simp only
        cases eb : b σ s1 with
        | ok f s2 =>
          rw [eb] at hw
          simp only [wr] at hw
          cases f with
          | nx σ' => obtain ⟨j, hj, hI⟩ := hw; exact w_wh I hb n j σ' s2 hI (by omega)
          | ct σ' => obtain ⟨j, hj, hI⟩ := hw; exact w_wh I hb n j σ' s2 hI (by omega)
          | br σ' => exact hw
          | rt d => exact hw
          | ex σ' e => exact hw
        | exc e s2 => rw [eb] at hw; exact hw.elim
        | bad => rw [eb] at hw; exact hw.elim
    | exc e s2 => rw [ec] at hw; exact hw.elim
    | bad => rw [ec] at hw; exact hw.elim
end
/-! ### a def -/
/-- what a def leaves -/
def lv (st : Sto) (Q E : D → Sto → Prop) : Fl → Sto → Prop := fun f s2 => match f with
  | .rt d => okPre st s2 st.length = true ∧ og (rback s2 st.length d) fun d' => Q d' (s2.take st.length)
  | .nx _ => okPre st s2 st.length = true ∧ Q .non (s2.take st.length)
  | .ex _ e => okPre st s2 st.length = true ∧ D.cls st.length e = true ∧ E e (s2.take st.length)
  | _ => False
theorem lv_rt {st s2 : Sto} {Q E : D → Sto → Prop} {d : D} : lv st Q E (.rt d) s2 = (okPre st s2 st.length = true ∧ og (rback s2 st.length d) fun d' => Q d' (s2.take st.length)) := propext Iff.rfl
theorem lv_nx {st s2 : Sto} {Q E : D → Sto → Prop} {d : Env} : lv st Q E (.nx d) s2 = (okPre st s2 st.length = true ∧ Q .non (s2.take st.length)) := propext Iff.rfl
theorem lv_ex {st s2 : Sto} {Q E : D → Sto → Prop} {d : Env} {e : D} : lv st Q E (.ex d e) s2 = (okPre st s2 st.length = true ∧ D.cls st.length e = true ∧ E e (s2.take st.length)) := propext Iff.rfl
theorem w_call {P : Pr} {n f : Nat} {ds : List D} {st : Sto} {F : Fn} {Q E : D → Sto → Prop} (hF : P.fns f = some F) (hl : ds.length = F.np)
    (h : wp (exL (P.tbl n) F.body ((lands ds st).1.map some ++ List.replicate (F.ns - F.np) none)) (lands ds st).2 (lv st Q E) NX) : wp (call P (n + 1) f ds) st Q E := by
  simp only [wp, call]
  rw [hF]
  simp only [decide_eq_true hl]
  simp only [wp, Pr.tbl] at h
  cases e : exL ⟨call P n, P.fld, P.anc⟩ F.body ((lands ds st).1.map some ++ List.replicate (F.ns - F.np) none) (lands ds st).2 with
  | ok f s2 =>
    rw [e] at h
    simp only [wr] at h
    cases f with
    | rt d =>
      rw [lv_rt] at h
      obtain ⟨h1, h2⟩ := h
      simp only [outR, leaveD, h1]
      cases er : rback s2 st.length d with
      | none => rw [er] at h2; exact h2.elim
      | some d' => rw [er] at h2; exact h2
    | nx σ =>
      rw [lv_nx] at h
      simp only [outR, leaveD, h.1]
      exact h.2
    | ex σ e =>
      rw [lv_ex] at h
      simp only [outR, leaveD, h.1, h.2.1, Bool.and_self]
      exact h.2.2
    | br => exact h.elim
    | ct => exact h.elim
  | exc e s2 => rw [e] at h; exact h.elim
  | bad => rw [e] at h; exact h.elim
end Fs
namespace Fs
open PySem
section
variable {T : Tbl} {σ : Env} {s : Sto} {E : D → Sto → Prop} {Q : D → Sto → Prop}
/-! numbers -/
theorem b_add {i j : Int} : wp (binD .add (.int i) (.int j)) s Q E = Q (.int (i + j)) s := propext Iff.rfl
theorem b_sub {i j : Int} : wp (binD .sub (.int i) (.int j)) s Q E = Q (.int (i - j)) s := propext Iff.rfl
theorem b_mul {i j : Int} : wp (binD .mul (.int i) (.int j)) s Q E = (i.natAbs.log2 + j.natAbs.log2 < 1000000 ∧ Q (.int (i * j)) s) := by
  by_cases h : i.natAbs.log2 + j.natAbs.log2 < 1000000
  · simp only [wp, binD, intOp, if_pos h]
    exact propext ⟨fun q => ⟨h, q⟩, fun q => q.2⟩
  · simp only [wp, binD, intOp, if_neg h]
    exact propext ⟨False.elim, fun q => h q.1⟩
theorem b_mod {i j : Int} : wp (binD .mod (.int i) (.int j)) s Q E = (j ≠ 0 ∧ Q (.int (i.fmod j)) s) := by
  by_cases h : j ≠ 0
  · simp only [wp, binD, intOp, if_pos h]
    exact propext ⟨fun q => ⟨h, q⟩, fun q => q.2⟩
  · simp only [wp, binD, intOp, if_neg h]
    exact propext ⟨False.elim, fun q => h q.1⟩
theorem b_fdiv {i j : Int} : wp (binD .fdiv (.int i) (.int j)) s Q E = ((j ≠ 0 ∧ j.natAbs.log2 < 9000) ∧ Q (.int (i.fdiv j)) s) := by
  by_cases h : j ≠ 0 ∧ j.natAbs.log2 < 9000
  · simp only [wp, binD, intOp, if_pos h]
    exact propext ⟨fun q => ⟨h, q⟩, fun q => q.2⟩
  · simp only [wp, binD, intOp, if_neg h]
    exact propext ⟨False.elim, fun q => h q.1⟩
theorem b_pow {i j : Int} : wp (binD .pow (.int i) (.int j)) s Q E = ((0 ≤ j ∧ j ≤ 1000000 ∧ i.natAbs < 2 ^ 64) ∧ Q (.int (i ^ j.toNat)) s) := by
  by_cases h : 0 ≤ j ∧ j ≤ 1000000 ∧ i.natAbs < 2 ^ 64
  · simp only [wp, binD, intOp, if_pos h]
    exact propext ⟨fun q => ⟨h, q⟩, fun q => q.2⟩
  · simp only [wp, binD, intOp, if_neg h]
    exact propext ⟨False.elim, fun q => h q.1⟩
theorem b_addT {xs ys : List D} : wp (binD .add (.tup xs) (.tup ys)) s Q E = (xs.length + ys.length ≤ sizeLine ∧ Q (.tup (xs ++ ys)) s) := by
  by_cases h : xs.length + ys.length ≤ sizeLine
  · simp only [wp, binD, intOp, if_pos h]
    exact propext ⟨fun q => ⟨h, q⟩, fun q => q.2⟩
  · simp only [wp, binD, intOp, if_neg h]
    exact propext ⟨False.elim, fun q => h q.1⟩
def lpC (c : Option D) : Option (List D) := match c with
  | some (.lst xs) => some xs
  | _ => none
theorem lpC_lst {xs : List D} : lpC (some (.lst xs)) = some xs := rfl
theorem lstv_ref {l : Nat} : lstv s (.ref l) = lpC s[l]? := by
  simp only [lstv, lpC] <;> (cases s[l]? with
    | none => rfl
    | some c => cases c <;> rfl)
theorem lstv_lst {xs : List D} : lstv s (.lst xs) = some xs := rfl
theorem b_addL {l : Nat} {ys : List D} : wp (binD .add (.ref l) (.lst ys)) s Q E = og (lpC s[l]?) (fun xs => xs.length + ys.length ≤ sizeLine ∧ Q (.lst (xs ++ ys)) s) := by
  simp only [wp, binD, lstv_ref, lstv_lst]
  cases lpC s[l]? with
  | none => rfl
  | some xs =>
    simp only [og]
    by_cases h : xs.length + ys.length ≤ sizeLine
    · rw [if_pos h]; exact propext ⟨fun q => ⟨h, q⟩, fun q => q.2⟩
    · rw [if_neg h]; exact propext ⟨False.elim, fun q => h q.1⟩
theorem b_mulL {xs : List D} {k : Int} : wp (binD .mul (.lst xs) (.int k)) s Q E = ((D.purs xs = true ∧ k < 2 ^ 63 ∧ -(2 ^ 63) ≤ k ∧ xs.length * k.toNat ≤ sizeLine) ∧ Q (.lst (rep k.toNat xs)) s) := by
  by_cases h : D.purs xs = true ∧ k < 2 ^ 63 ∧ -(2 ^ 63) ≤ k ∧ xs.length * k.toNat ≤ sizeLine
  · simp only [wp, binD, lstv_lst, if_pos h]
    exact propext ⟨fun q => ⟨h, q⟩, fun q => q.2⟩
  · simp only [wp, binD, lstv_lst, if_neg h]
    exact propext ⟨False.elim, fun q => h q.1⟩
/-! reading -/
def atC (c : Option D) (k : Int) : Option D := match c with
  | some (.lst xs) => L2.atI xs k
  | some (.frl xs) => L2.atI xs k
  | some (.dic kvs) => if okKeys (.k (.inl k)) kvs then dget (.k (.inl k)) kvs else none
  | _ => none
theorem atC_lst {xs : List D} {k : Int} : atC (some (.lst xs)) k = L2.atI xs k := rfl
theorem atC_frl {xs : List D} {k : Int} : atC (some (.frl xs)) k = L2.atI xs k := rfl
theorem atC_dic {xs : List (Ky × D)} {k : Int} : atC (some (.dic xs)) k = if okKeys (.k (.inl k)) xs then dget (.k (.inl k)) xs else none := rfl
theorem gi_tup {xs : List D} {k : Int} : wp (getI (.tup xs) (.int k)) s Q E = og (L2.atI xs k) (fun y => Q y s) := by
  simp only [wp, getI, seqv]
  cases L2.atI xs k <;> rfl
theorem gi_lst {xs : List D} {k : Int} : wp (getI (.lst xs) (.int k)) s Q E = og (L2.atI xs k) (fun y => Q y s) := by
  simp only [wp, getI, seqv]
  cases L2.atI xs k <;> rfl
theorem gi_ref {l : Nat} {k : Int} : wp (getI (.ref l) (.int k)) s Q E = og (atC s[l]? k) (fun y => Q y s) := by
  simp only [wp, getI, seqv, dicv]
  cases s[l]? with
  | none => rfl
  | some c =>
    cases c with
    | lst xs => simp only [atC]; cases L2.atI xs k <;> rfl
    | frl xs => simp only [atC]; cases L2.atI xs k <;> rfl
    | dic xs =>
      simp only [atC]
      split
      · cases dget (.k (.inl k)) xs <;> rfl
      · rfl
    | _ => rfl
/-! writing -/
def stC (c : Option D) (l : Nat) (i d : D) (s : Sto) (Q : Unit → Sto → Prop) : Prop := match c with
  | some (.lst xs) => og (intv i) fun k => og (L2.ixN xs.length k) fun j => Q () ((land d s).2.set l (.lst (xs.set j (land d s).1)))
  | some (.dic kvs) => og (keyOf i) fun q => (okKeys q kvs = true ∧ kvs.length < sizeLine) ∧ Q () ((land d s).2.set l (.dic (dput q (land d s).1 kvs)))
  | _ => False
theorem stC_congr {c c' : Option D} {l : Nat} {i d : D} {s : Sto} {Q : Unit → Sto → Prop} (h : c = c') : stC c l i d s Q = stC c' l i d s Q := by rw [h]
theorem stC_lst {xs : List D} {l : Nat} {i : Int} {d : D} {Q : Unit → Sto → Prop} : stC (some (.lst xs)) l (.int i) d s Q = og (L2.ixN xs.length i) fun j => Q () ((land d s).2.set l (.lst (xs.set j (land d s).1))) := propext Iff.rfl
theorem stC_dic {kvs : List (Ky × D)} {l : Nat} {i : D} {d : D} {Q : Unit → Sto → Prop} : stC (some (.dic kvs)) l i d s Q = og (keyOf i) fun q => (okKeys q kvs = true ∧ kvs.length < sizeLine) ∧ Q () ((land d s).2.set l (.dic (dput q (land d s).1 kvs))) := propext Iff.rfl
theorem si_ref {l : Nat} {i d : D} {Q : Unit → Sto → Prop} : wp (setI (.ref l) i d) s Q E = stC s[l]? l i d s Q := by
  simp only [wp, setI]
  cases s[l]? with
  | none => rfl
  | some c =>
    cases c with
    | lst xs =>
      simp only [stC]
      cases i with
      | int k => simp only [intv, og]; cases L2.ixN xs.length k <;> rfl
      | _ => rfl
    | dic xs =>
      simp only [stC]
      cases keyOf i with
      | none => rfl
      | some q =>
        simp only [og]
        by_cases h : okKeys q xs = true ∧ xs.length < sizeLine
        · rw [if_pos h]; exact propext ⟨fun q => ⟨h, q⟩, fun q => q.2⟩
        · rw [if_neg h]; exact propext ⟨False.elim, fun q => h q.1⟩
    | _ => rfl
/-! methods -/
theorem m_append {o d : D} : meD .append o [d] = mAppend o d := rfl
theorem m_pop {o : D} : meD .pop o [] = mPop o := rfl
theorem m_popi {o d : D} : wp (meD .popi o [d]) s Q E = wb (kndD s o == 5) (wp (mDpop o d) s Q E) (wp (mPopi o d) s Q E) := by
  show wr (match kndD s o with
    | 5 => b1 (mDpop o) [d] s
    | _ => b1 (mPopi o) [d] s) Q E = _
  cases h : (kndD s o == 5) with
  | true =>
    have e : kndD s o = 5 := by simpa using h
    rw [e]; rfl
  | false =>
    have e : kndD s o ≠ 5 := by simpa using h
    simp only [wb]
    rfl
def lcC (c : Option D) (f : List D → Prop) : Prop := match c with
  | some (.lst xs) => f xs
  | _ => False
theorem lcC_congr {c c' : Option D} {f : List D → Prop} (h : c = c') : lcC c f = lcC c' f := by rw [h]
theorem lcC_lst {xs : List D} {f : List D → Prop} : lcC (some (.lst xs)) f = f xs := propext Iff.rfl
def dcC (c : Option D) (f : List (Ky × D) → Prop) : Prop := match c with
  | some (.dic xs) => f xs
  | _ => False
theorem dcC_congr {c c' : Option D} {f : List (Ky × D) → Prop} (h : c = c') : dcC c f = dcC c' f := by rw [h]
theorem dcC_dic {xs : List (Ky × D)} {f : List (Ky × D) → Prop} : dcC (some (.dic xs)) f = f xs := propext Iff.rfl
theorem wp_lcell {f : Nat → List D → M D} {l : Nat} {s' : Sto} : wp (lcell s' f (.ref l)) s Q E = lcC s'[l]? (fun xs => wp (f l xs) s Q E) := by
  simp only [wp, lcell]
  cases s'[l]? with
  | none => rfl
  | some c => cases c <;> rfl
theorem wp_dcell {f : Nat → List (Ky × D) → M D} {l : Nat} {s' : Sto} : wp (dcell s' f (.ref l)) s Q E = dcC s'[l]? (fun xs => wp (f l xs) s Q E) := by
  simp only [wp, dcell]
  cases s'[l]? with
  | none => rfl
  | some c => cases c <;> rfl
theorem k_app {l : Nat} {d : D} : wp (mAppend (.ref l) d) s Q E = lcC s[l]? (fun xs => xs.length < sizeLine ∧ Q .non ((land d s).2.set l (.lst (xs ++ [(land d s).1])))) := by
  show wp (lcell s _ (.ref l)) s Q E = _
  rw [wp_lcell]
  cases s[l]? with
  | none => rfl
  | some c =>
    cases c with
    | lst xs => simp only [lcC, wp_gd, decide_eq_true_eq]; rfl
    | _ => rfl
theorem kw_pop {l : Nat} : wp (mPop (.ref l)) s Q E = lcC s[l]? (fun xs => og xs[xs.length - 1]? fun y => Q y (s.set l (.lst xs.dropLast))) := by
  show wp (lcell s _ (.ref l)) s Q E = _
  rw [wp_lcell]
  cases s[l]? with
  | none => rfl
  | some c =>
    cases c with
    | lst xs => simp only [lcC, wp_opt]; rfl
    | _ => rfl
theorem kw_popi {l : Nat} {k : Int} : wp (mPopi (.ref l) (.int k)) s Q E = lcC s[l]? (fun xs => (-(2 ^ 63) ≤ k ∧ k < 2 ^ 63) ∧ og (PySem.seqIndex? k xs.length) fun j => og xs[j]? fun y => Q y (s.set l (.lst (xs.eraseIdx j)))) := by
  show wp (lcell s _ (.ref l)) s Q E = _
  rw [wp_lcell]
  cases s[l]? with
  | none => rfl
  | some c =>
    cases c with
    | lst xs => simp only [lcC, wp_opt, intv, og_s, wp_gd, decide_eq_true_eq]; rfl
    | _ => rfl
theorem k_dpop {l : Nat} {k : D} : wp (mDpop (.ref l) k) s Q E = dcC s[l]? (fun kvs => og (keyOf k) fun q => okKeys q kvs = true ∧ og (dget q kvs) fun y => Q y (s.set l (.dic (ddel q kvs)))) := by
  show wp (dcell s _ (.ref l)) s Q E = _
  rw [wp_dcell]
  cases s[l]? with
  | none => rfl
  | some c =>
    cases c with
    | dic xs => simp only [dcC, wp_opt, wp_gd]; rfl
    | _ => rfl
def kC (c : Option D) : Nat := match c with
  | some (.lst _) => 4
  | some (.frl _) => 4
  | some (.dic _) => 5
  | _ => 0
theorem kC_lst {xs : List D} : kC (some (.lst xs)) = 4 := rfl
theorem kC_dic {xs : List (Ky × D)} : kC (some (.dic xs)) = 5 := rfl
theorem knd_ref {l : Nat} : kndD s (.ref l) = kC s[l]? := by
  simp only [kndD, kC] <;> (cases s[l]? with
    | none => rfl
    | some c => cases c <;> rfl)
/-! built-ins -/
theorem bi_len1 {d : D} : wp (biD T .len [d]) s Q E = wp (fLen d) s Q E := propext Iff.rfl
def leC (c : Option D) : Option Nat := match c with
  | some (.lst xs) => some xs.length
  | some (.frl xs) => some xs.length
  | some (.dic xs) => some xs.length
  | _ => none
theorem leC_lst {xs : List D} : leC (some (.lst xs)) = some xs.length := rfl
theorem leC_frl {xs : List D} : leC (some (.frl xs)) = some xs.length := rfl
theorem leC_dic {xs : List (Ky × D)} : leC (some (.dic xs)) = some xs.length := rfl
theorem f_len_tup {xs : List D} : wp (fLen (.tup xs)) s Q E = Q (.int xs.length) s := propext Iff.rfl
theorem f_len_lst {xs : List D} : wp (fLen (.lst xs)) s Q E = Q (.int xs.length) s := propext Iff.rfl
theorem f_len_dic {xs : List (Ky × D)} : wp (fLen (.dic xs)) s Q E = Q (.int xs.length) s := propext Iff.rfl
theorem f_len_ref {l : Nat} : wp (fLen (.ref l)) s Q E = og (leC s[l]?) fun n => Q (.int n) s := by
  simp only [wp, fLen, seqv, dicv]
  cases s[l]? with
  | none => rfl
  | some c => cases c <;> rfl
theorem bi_sum1 {d : D} : wp (biD T .sum [d]) s Q E = og (lInt s d) (fun ns => Q (.int ns.sum) s) := wp_optS (o := fun st => lInt st d)
theorem bi_all1 {d : D} : wp (biD T .all [d]) s Q E = og (lBl s d) (fun ns => Q (.bl (ns.all id)) s) := wp_optS (o := fun st => lBl st d)
theorem bi_any1 {d : D} : wp (biD T .any [d]) s Q E = og (lBl s d) (fun ns => Q (.bl (ns.any id)) s) := wp_optS (o := fun st => lBl st d)
theorem bi_tup1 {d : D} : wp (biD T .tuple [d]) s Q E = og (seqv s d) (fun ns => Q (.tup ns) s) := wp_optS (o := fun st => seqv st d)
theorem bi_lst1 {d : D} : wp (biD T .list [d]) s Q E = og (seqv s d) (fun ns => Q (.lst ns) s) := wp_optS (o := fun st => seqv st d)
theorem bi_min2' {i j : Int} : wp (biD T .min2 [.int i, .int j]) s Q E = Q (.int (if j < i then j else i)) s := propext Iff.rfl
theorem bi_max2' {i j : Int} : wp (biD T .max2 [.int i, .int j]) s Q E = Q (.int (if j > i then j else i)) s := propext Iff.rfl
theorem bi_isT1 {t : String} {d : D} : wp (biD T (.isT t) [d]) s Q E = og (isTy s t d) (fun c => Q (.bl c) s) := wp_optS (o := fun st => isTy st t d)
theorem bi_lrng1 {b : Int} : wp (biD T .lrng [.int b]) s Q E = (rgOk 0 b = true ∧ Q (.lst (rngN 0 1 b.toNat)) s) := by
  show wp (gd _ _) s Q E = _
  rw [wp_gd]; rfl
theorem bi_srt1 {d : D} : wp (biD T .sorted [d]) s Q E = wp (fSorted d) s Q E := propext Iff.rfl
theorem bi_ssort1 {d : D} : wp (biD T .ssort [d]) s Q E = og (lInt s d) (fun ns => ns.length < 64 ∧ Q (.lst ((sortI (dedI ns)).map .int)) s) := by
  refine (wp_optS (o := fun st => lInt st d)).trans (og_q fun ns => ?_)
  rw [wp_gd, wp_ret, decide_eq_true_eq]
theorem bi_dict1 {d : D} : wp (biD T .dict [d]) s Q E = og ((lstv s d).bind (optL pairv)) (fun kvs => (kvs.all fun p => D.pur p.2) = true ∧ Q (.dic (kvs.foldl (fun a p => dput p.1 p.2 a) [])) s) := by
  refine (wp_optS (o := fun st => (lstv st d).bind (optL pairv))).trans (og_q fun ns => ?_)
  rw [wp_gd, wp_ret]
theorem bi_repr1 {d : D} : wp (biD T .repr [d]) s Q E = og (toP false s 60 d) (fun p => (p.showable = true ∧ p.shown.length ≤ sizeLine ∧ p.depth ≤ 60 ∧ p.hasDict = false) ∧ Q (.str p.shown) s) := by
  refine (wp_optS (o := fun st => toP false st 60 d)).trans (og_q fun ns => ?_)
  rw [wp_gd, wp_ret, decide_eq_true_eq]
/-! sources -/
theorem so_tup {xs : List D} {Q : Src → Sto → Prop} : wp (srcOf (.tup xs)) s Q E = Q (.items xs) s := propext Iff.rfl
theorem so_lst {xs : List D} {Q : Src → Sto → Prop} : wp (srcOf (.lst xs)) s Q E = Q (.items xs) s := propext Iff.rfl
def soC (c : Option D) (l : Nat) : Option Src := match c with
  | some (.lst _) => some (.cell l)
  | some (.frl _) => some (.cell l)
  | _ => none
theorem soC_lst {xs : List D} {l : Nat} : soC (some (.lst xs)) l = some (.cell l) := rfl
theorem soC_frl {xs : List D} {l : Nat} : soC (some (.frl xs)) l = some (.cell l) := rfl
theorem so_ref {l : Nat} {Q : Src → Sto → Prop} : wp (srcOf (.ref l)) s Q E = og (soC s[l]? l) (fun w => Q w s) := by
  simp only [wp, srcOf]
  cases s[l]? with
  | none => rfl
  | some c => cases c <;> rfl
/-! landing -/
theorem la_int {i : Int} : land (.int i) s = (.int i, s) := by simp only [land]
theorem la_bl {i : Bool} : land (.bl i) s = (.bl i, s) := by simp only [land]
theorem la_non : land .non s = (.non, s) := by simp only [land]
theorem la_str {i : Str} : land (.str i) s = (.str i, s) := by simp only [land]
theorem la_ref {i : Nat} : land (.ref i) s = (.ref i, s) := by simp only [land]
theorem la_lst0 : land (.lst []) s = (.ref s.length, s ++ [.lst []]) := by simp only [land, lands]
theorem la_dic0 : land (.dic []) s = (.ref s.length, s ++ [.dic []]) := by simp only [land, landk]
mutual
theorem land_pur : ∀ {d : D} {s : Sto}, d.pur = true → land d s = (d, s)
  | .non, s, _ => by simp only [land]
  | .bl _, s, _ => by simp only [land]
  | .int _, s, _ => by simp only [land]
  | .str _, s, _ => by simp only [land]
  | .ref _, s, _ => by simp only [land]
  | .tup xs, s, h => by simp only [D.pur] at h; simp only [land, lands_pur h]
  | .exc _ xs, s, h => by simp only [land]
  | .lam _ xs, s, h => by simp only [land]
  | .lst _, s, h => by simp [D.pur] at h
  | .frl _, s, h => by simp [D.pur] at h
  | .dic _, s, h => by simp [D.pur] at h
  | .set _, s, h => by simp [D.pur] at h
theorem lands_pur : ∀ {ds : List D} {s : Sto}, D.purs ds = true → lands ds s = (ds, s)
  | [], s, _ => by simp only [lands]
  | d :: ds, s, h => by
    simp only [D.purs, Bool.and_eq_true] at h
    simp only [lands, land_pur h.1, lands_pur h.2]
end
theorem purs_of {ds : List D} (h : ∀ d ∈ ds, d.pur = true) : D.purs ds = true := by
  induction ds with
  | nil => rfl
  | cons d ds ih =>
    simp only [D.purs, Bool.and_eq_true]
    exact ⟨h d (List.mem_cons_self ..), ih fun x hx => h x (List.mem_cons_of_mem _ hx)⟩
theorem la_lst {xs : List D} (h : D.purs xs = true) : land (.lst xs) s = (.ref s.length, s ++ [.lst xs]) := by simp only [land, lands_pur h]
theorem landk_pur : ∀ {ds : List (Ky × D)} {s : Sto}, (ds.all fun p => D.pur p.2) = true → landk ds s = (ds, s)
  | [], s, _ => by simp only [landk]
  | d :: ds, s, h => by
    simp only [List.all_cons, Bool.and_eq_true] at h
    simp only [landk, land_pur h.1, landk_pur h.2]
theorem la_dic {xs : List (Ky × D)} (h : (xs.all fun p => D.pur p.2) = true) : land (.dic xs) s = (.ref s.length, s ++ [.dic xs]) := by simp only [land, landk_pur h]
theorem la_tup {xs : List D} (h : D.purs xs = true) : land (.tup xs) s = (.tup xs, s) := land_pur h
theorem og_if {α : Type} {c : Prop} [Decidable c] {a : α} {f : α → Prop} : og (if c then some a else none) f = (c ∧ f a) := by
  by_cases h : c
  · simp [h, og]
  · simp [h, og]
theorem ogm {α β : Type} {o : Option α} {g : α → β} {f : β → Prop} : og (o.map g) f = og o (fun a => f (g a)) := by cases o <;> rfl
theorem ogb {α β : Type} {o : Option α} {g : α → Option β} {f : β → Prop} : og (o.bind g) f = og o (fun a => og (g a) f) := by cases o <;> rfl
theorem ofT {xs : List D} : ofTup (.tup xs) s = some xs := rfl
theorem c_lt {i j : Int} : cmpD .lt (.int i) (.int j) s = some (decide (i < j)) := rfl
theorem c_le {i j : Int} : cmpD .le (.int i) (.int j) s = some (decide (i ≤ j)) := rfl
theorem c_gt {i j : Int} : cmpD .gt (.int i) (.int j) s = some (decide (j < i)) := rfl
theorem c_ge {i j : Int} : cmpD .ge (.int i) (.int j) s = some (decide (j ≤ i)) := rfl
theorem ci_lt {i j : Int} : cmpI .lt i j = some (decide (i < j)) := rfl
theorem ci_le {i j : Int} : cmpI .le i j = some (decide (i ≤ j)) := rfl
theorem c_eq {a b : D} : cmpD .eq a b s = eqD s a b := rfl
theorem c_ne {a b : D} : cmpD .ne a b s = (eqD s a b).map (!·) := rfl
theorem c_isN {a b : D} : cmpD .isN a b s = isD a b := rfl
theorem c_ntN {a b : D} : cmpD .ntN a b s = (isD a b).map (!·) := rfl
theorem c_in {a b : D} : cmpD .inn a b s = inD s a b := rfl
theorem c_nin {a b : D} : cmpD .nin a b s = (inD s a b).map (!·) := rfl
/-! stores -/
theorem sg0 {st r : Sto} {c : D} : (st ++ c :: r)[st.length]? = some c := by simp
theorem sg1 {st r : Sto} {c d : D} : (st ++ c :: d :: r)[st.length + 1]? = some d := by simp
theorem sg2 {st r : Sto} {c d e : D} : (st ++ c :: d :: e :: r)[st.length + 2]? = some e := by simp
theorem sg3 {st r : Sto} {c d e f : D} : (st ++ c :: d :: e :: f :: r)[st.length + 3]? = some f := by simp
theorem sgl {st r : Sto} {l : Nat} {c : D} (h : st[l]? = some c) : (st ++ r)[l]? = some c := by
  rw [List.getElem?_append_left (List.getElem?_eq_some_iff.1 h).1]; exact h
theorem ss0 {st r : Sto} {c x : D} : (st ++ c :: r).set st.length x = st ++ x :: r := by simp
theorem ss1 {st r : Sto} {c d x : D} : (st ++ c :: d :: r).set (st.length + 1) x = st ++ c :: x :: r := by simp
theorem ss2 {st r : Sto} {c d e x : D} : (st ++ c :: d :: e :: r).set (st.length + 2) x = st ++ c :: d :: x :: r := by simp
theorem ss3 {st r : Sto} {c d e f x : D} : (st ++ c :: d :: e :: f :: r).set (st.length + 3) x = st ++ c :: d :: e :: x :: r := by simp
theorem ssl {st r : Sto} {l : Nat} {c x : D} (h : st[l]? = some c) : (st ++ r).set l x = st.set l x ++ r := by
  rw [List.set_append_left]; exact (List.getElem?_eq_some_iff.1 h).1
theorem okP_app : ∀ {st r : Sto} {b : Nat}, okPre st (st ++ r) b = true
  | [], r, b => by cases r <;> rfl
  | c :: st, r, b => by simp [okPre, okP_app]
theorem okP_self {st : Sto} {b : Nat} : okPre st st b = true := by
  have := okP_app (st := st) (r := []) (b := b)
  rwa [List.append_nil] at this
theorem okP_set : ∀ {st r : Sto} {b l : Nat} {c : D}, cellCl b c = true → okPre st (st.set l c ++ r) b = true
  | [], r, b, l, c, h => by cases r <;> rfl
  | d :: st, r, b, 0, c, h => by simp [okPre, okP_app, h]
  | d :: st, r, b, l + 1, c, h => by simp [okPre, okP_set h]
theorem okP_set0 {st : Sto} {b l : Nat} {c : D} (h : cellCl b c = true) : okPre st (st.set l c) b = true := by
  have := okP_set (st := st) (r := []) (l := l) h
  rwa [List.append_nil] at this
theorem take0 {st r : Sto} : (st ++ r).take st.length = st := by simp
/-! reading back -/
def D.flat : D → Bool
  | .non | .bl _ | .int _ | .str _ => true
  | _ => false
mutual
/-- nothing but data -/
def D.clean : D → Bool
  | .non | .bl _ | .int _ | .str _ => true
  | .tup xs => D.cleans xs
  | _ => false
def D.cleans : List D → Bool
  | [] => true
  | x :: xs => D.clean x && D.cleans xs
end
mutual
theorem rb_clean {g : Nat → List Nat → Option (D × List Nat)} {b : Nat} : ∀ {d : D} {vis : List Nat}, d.clean = true → rbD g b d vis = some (d, vis)
  | .non, vis, _ => by simp only [rbD]
  | .bl _, vis, _ => by simp only [rbD]
  | .int _, vis, _ => by simp only [rbD]
  | .str _, vis, _ => by simp only [rbD]
  | .tup xs, vis, h => by simp only [D.clean] at h; simp only [rbD, rbs_clean h]; rfl
  | .ref _, vis, h => by simp [D.clean] at h
  | .lst _, vis, h => by simp [D.clean] at h
  | .frl _, vis, h => by simp [D.clean] at h
  | .dic _, vis, h => by simp [D.clean] at h
  | .set _, vis, h => by simp [D.clean] at h
  | .exc _ _, vis, h => by simp [D.clean] at h
  | .lam _ _, vis, h => by simp [D.clean] at h
theorem rbs_clean {g : Nat → List Nat → Option (D × List Nat)} {b : Nat} : ∀ {ds : List D} {vis : List Nat}, D.cleans ds = true → rbDs g b ds vis = some (ds, vis)
  | [], vis, _ => by simp only [rbDs]
  | d :: ds, vis, h => by
    simp only [D.cleans, Bool.and_eq_true] at h
    simp only [rbDs, rb_clean h.1, Option.bind_some, rbs_clean h.2, Option.map_some]
end
mutual
theorem clean_pur : ∀ {d : D}, d.clean = true → d.pur = true
  | .non, _ => rfl
  | .bl _, _ => rfl
  | .int _, _ => rfl
  | .str _, _ => rfl
  | .tup xs, h => by simp only [D.clean] at h; simp only [D.pur]; exact cleans_purs h
  | .ref _, h => by simp [D.clean] at h
  | .lst _, h => by simp [D.clean] at h
  | .frl _, h => by simp [D.clean] at h
  | .dic _, h => by simp [D.clean] at h
  | .set _, h => by simp [D.clean] at h
  | .exc _ _, h => by simp [D.clean] at h
  | .lam _ _, h => by simp [D.clean] at h
theorem cleans_purs : ∀ {ds : List D}, D.cleans ds = true → D.purs ds = true
  | [], _ => rfl
  | d :: ds, h => by
    simp only [D.cleans, Bool.and_eq_true] at h
    simp only [D.purs, clean_pur h.1, cleans_purs h.2, Bool.and_self]
end
mutual
theorem clean_cls {b : Nat} : ∀ {d : D}, d.clean = true → d.cls b = true
  | .non, _ => rfl
  | .bl _, _ => rfl
  | .int _, _ => rfl
  | .str _, _ => rfl
  | .tup xs, h => by simp only [D.clean] at h; simp only [D.cls]; exact cleans_clss h
  | .ref _, h => by simp [D.clean] at h
  | .lst _, h => by simp [D.clean] at h
  | .frl _, h => by simp [D.clean] at h
  | .dic _, h => by simp [D.clean] at h
  | .set _, h => by simp [D.clean] at h
  | .exc _ _, h => by simp [D.clean] at h
  | .lam _ _, h => by simp [D.clean] at h
theorem cleans_clss {b : Nat} : ∀ {ds : List D}, D.cleans ds = true → D.clss b ds = true
  | [], _ => rfl
  | d :: ds, h => by
    simp only [D.cleans, Bool.and_eq_true] at h
    simp only [D.clss, clean_cls h.1, cleans_clss h.2, Bool.and_self]
end
theorem rk_clean {b : Nat} {d : D} (h : d.clean = true) : rback s b d = some d := by
  simp only [rback, rb_clean h]; rfl
theorem rk_lst {st r : Sto} {l : Nat} {xs : List D} (hb : st.length ≤ l) (hl : (st ++ r)[l]? = some (.lst xs)) (h : D.cleans xs = true) : rback (st ++ r) st.length (.ref l) = some (.lst xs) := by
  simp only [rback, rbD]
  have : decide (l < st.length) = false := by simpa using hb
  rw [this]
  simp only [rbC, hl, List.contains_nil, rbD, rbs_clean h, Option.map_some]
theorem rk_set_lst {st r : Sto} {l m : Nat} {c : D} {xs : List D} (hb : st.length ≤ l) (hl : (st.set m c ++ r)[l]? = some (.lst xs)) (h : D.cleans xs = true) : rback (st.set m c ++ r) st.length (.ref l) = some (.lst xs) := by
  have := rk_lst (st := st.set m c) (by rwa [List.length_set]) hl h
  rwa [List.length_set] at this
theorem cleans_of {ds : List D} (h : ∀ d ∈ ds, d.clean = true) : D.cleans ds = true := by
  induction ds with
  | nil => rfl
  | cons d ds ih =>
    simp only [D.cleans, Bool.and_eq_true]
    exact ⟨h d (List.mem_cons_self ..), ih fun x hx => h x (List.mem_cons_of_mem _ hx)⟩
/-- node numbers as a row of values -/
def nv (ns : List Nat) : List D := ns.map fun (n : Nat) => D.int (n : Int)
theorem nv_clean {ns : List Nat} : D.cleans (nv ns) = true := cleans_of (by
  intro d hd
  obtain ⟨n, _, rfl⟩ := List.mem_map.1 hd
  rfl)
theorem nv_purs {ns : List Nat} : D.purs (nv ns) = true := cleans_purs nv_clean
theorem nv_len {ns : List Nat} : (nv ns).length = ns.length := by simp [nv]
theorem nv_get {ns : List Nat} {i : Nat} : (nv ns)[i]? = ns[i]?.map fun (n : Nat) => D.int (n : Int) := by simp [nv]
theorem nv_app {xs ys : List Nat} : nv (xs ++ ys) = nv xs ++ nv ys := by simp [nv]
theorem nv_one {x : Nat} : nv [x] = [.int (x : Int)] := rfl
/-- rows of numbers: a tuple of tuples -/
def tv (g : List (List Nat)) : List D := g.map fun r => D.tup (nv r)
theorem tv_clean {g : List (List Nat)} : D.cleans (tv g) = true := cleans_of (by
  intro d hd
  obtain ⟨n, _, rfl⟩ := List.mem_map.1 hd
  simp only [D.clean]
  exact nv_clean)
theorem tv_purs {g : List (List Nat)} : D.purs (tv g) = true := cleans_purs tv_clean
theorem tv_len {g : List (List Nat)} : (tv g).length = g.length := by simp [tv]
theorem tv_get {g : List (List Nat)} {i : Nat} : (tv g)[i]? = g[i]?.map fun r => D.tup (nv r) := by simp [tv]
theorem gv_clean {g : List (List Nat)} : (D.tup (tv g)).clean = true := by simp only [D.clean]; exact tv_clean
theorem atI_nat {α : Type} {xs : List α} {i : Nat} : L2.atI xs (i : Int) = xs[i]? := by
  simp only [L2.atI, L2.ixN]
  have h0 : (0 : Int) ≤ (i : Int) := by omega
  simp only [h0, if_true]
  by_cases h : i < xs.length
  · have h1 : (i : Int) < (xs.length : Int) := by omega
    simp [h1]
  · have h1 : ¬ (i : Int) < (xs.length : Int) := by omega
    simp only [h1, if_false, Option.bind_none]
    rw [List.getElem?_eq_none (by omega)]
theorem ixN_nat {n i : Nat} (h : i < n) : L2.ixN n (i : Int) = some i := by
  simp only [L2.ixN]
  have h0 : (0 : Int) ≤ (i : Int) := by omega
  have h1 : (i : Int) < (n : Int) := by omega
  simp [h0, h1]
theorem rngN_nv {n : Nat} : rngN 0 1 n = nv (List.range n) := by
  simp [rngN, nv]
theorem optL_ints {ns : List Int} : optL intv (ns.map D.int) = some ns := by
  induction ns with
  | nil => rfl
  | cons n ns ih => simp only [List.map_cons, optL, intv, ih]
theorem nv_ints {ns : List Nat} : nv ns = (ns.map fun (n : Nat) => (n : Int)).map D.int := by simp [nv]
theorem optL_nv {ns : List Nat} : optL intv (nv ns) = some (ns.map fun (n : Nat) => (n : Int)) := by rw [nv_ints, optL_ints]
theorem isTy_tup {xs : List D} : isTy s "tuple" (.tup xs) = some true := by simp [isTy]
theorem isTy_int {i : Int} : isTy s "int" (.int i) = some true := by simp [isTy]
theorem isTy_intb {i : Int} : isTy s "bool" (.int i) = some false := by simp [isTy]
end
theorem tbl_fn {P : Pr} {n f : Nat} {ds : List D} : (P.tbl n).fn f ds = call P n f ds := rfl
end Fs

open Lean.Parser.Tactic in
local macro_rules
  | `(tactic| simp! only [$ts,*]) => `(tactic| simp only [↓Fs.wb_t, ↓Fs.wb_f, ↓Fs.og_s, ↓Fs.wr_ok, ↓Fs.wr_exc, ↓Fs.wp_ret, ↓Fs.wp_bnd, ↓Fs.wp_opt, ↓Fs.wp_gd, ↓Fs.wp_noX, ↓Fs.wp_lft, ↓Fs.fq_nx, ↓Fs.fq_rt, ↓Fs.fq_br, ↓Fs.fq_ct, ↓Fs.fq_ex, ↓Fs.lk_s, ↓Fs.e_loc, ↓Fs.e_con, ↓Fs.e_bin, ↓Fs.e_neg, ↓Fs.e_nt, ↓Fs.e_cmp, ↓Fs.e_chn, ↓Fs.e_and2, ↓Fs.e_or2, ↓Fs.e_ife, ↓Fs.es_nil, ↓Fs.es_cons, ↓Fs.e_tup, ↓Fs.e_lst, ↓Fs.e_dct0, ↓Fs.e_sub, ↓Fs.e_slc, ↓Fs.eo_n, ↓Fs.eo_s, ↓Fs.e_rev, ↓Fs.e_call, ↓Fs.e_bi, ↓Fs.e_me, ↓Fs.e_lc, ↓Fs.e_dc, ↓Fs.w_lcT, ↓Fs.w_dcT, ↓Fs.t_nt, ↓Fs.t_and2, ↓Fs.t_or2, ↓Fs.t_ife, ↓Fs.t_val, ↓Fs.ts_nil, ↓Fs.ts_cons, ↓Fs.i_val, ↓Fs.i_rng, ↓Fs.i_enum, ↓Fs.wp_land, ↓Fs.g_nm, ↓Fs.g_tup, ↓Fs.g_sub, ↓Fs.gs_nil, ↓Fs.gs_cons, ↓Fs.s_asg, ↓Fs.s_xpr, ↓Fs.s_ret, ↓Fs.s_ret0, ↓Fs.s_iff, ↓Fs.s_brk, ↓Fs.s_cnt, ↓Fs.s_pas, ↓Fs.s_for, ↓Fs.s_whl, ↓Fs.l_nil, ↓Fs.l_cons, ↓Fs.tq_nx, ↓Fs.tq_ct, ↓Fs.tq_br, ↓Fs.tq_rt, ↓Fs.tq_ex, ↓Fs.lv_rt, ↓Fs.lv_nx, ↓Fs.lv_ex, ↓Fs.b_add, ↓Fs.b_sub, ↓Fs.b_mul, ↓Fs.b_mod, ↓Fs.b_fdiv, ↓Fs.b_pow, ↓Fs.b_addT, ↓Fs.b_addL, ↓Fs.b_mulL, Fs.lpC_lst, Fs.lstv_ref, Fs.lstv_lst, Fs.atC_lst, Fs.atC_frl, Fs.atC_dic, ↓Fs.gi_tup, ↓Fs.gi_lst, ↓Fs.gi_ref, ↓Fs.stC_lst, ↓Fs.stC_dic, ↓Fs.si_ref, Fs.m_append, Fs.m_pop, ↓Fs.m_popi, ↓Fs.lcC_lst, ↓Fs.dcC_dic, ↓Fs.k_app, ↓Fs.kw_pop, ↓Fs.kw_popi, ↓Fs.k_dpop, Fs.kC_lst, Fs.kC_dic, Fs.knd_ref, ↓Fs.bi_len1, Fs.leC_lst, Fs.leC_frl, Fs.leC_dic, ↓Fs.f_len_tup, ↓Fs.f_len_lst, ↓Fs.f_len_dic, ↓Fs.f_len_ref, ↓Fs.bi_sum1, ↓Fs.bi_all1, ↓Fs.bi_any1, ↓Fs.bi_tup1, ↓Fs.bi_lst1, ↓Fs.bi_min2', ↓Fs.bi_max2', ↓Fs.bi_isT1, ↓Fs.bi_lrng1, ↓Fs.bi_srt1, ↓Fs.bi_ssort1, ↓Fs.bi_dict1, ↓Fs.bi_repr1, ↓Fs.so_tup, ↓Fs.so_lst, ↓Fs.so_ref, Fs.soC_lst, Fs.soC_frl, Fs.la_int, Fs.la_bl, Fs.la_non, Fs.la_str, Fs.la_ref, Fs.la_lst0, Fs.la_dic0, Fs.ofT, Fs.c_lt, Fs.c_le, Fs.c_gt, Fs.c_ge, Fs.ci_lt, Fs.ci_le, Fs.c_eq, Fs.c_ne, Fs.c_isN, Fs.c_ntN, Fs.c_in, Fs.c_nin, Fs.intv, Fs.blv, Fs.isTy_tup, Fs.isTy_int, Fs.isTy_intb, Fs.sg0, Fs.sg1, Fs.sg2, Fs.sg3, Fs.ss0, Fs.ss1, Fs.ss2, Fs.ss3, List.append_assoc, List.cons_append, List.nil_append, List.length_append, List.length_cons, List.length_nil, Nat.zero_add, Fs.wipe, List.foldr, List.set_cons_zero, List.set_cons_succ, List.getElem?_cons_zero, List.getElem?_cons_succ, List.map_cons, List.map_nil, List.replicate, Fs.lands, Fs.meK, Bool.not_true, Bool.not_false, true_and, and_true, beq_self_eq_true, Fs.tbl_fn, $ts,*])
namespace Fs
open PySem
section
variable {T : Tbl} {σ : Env} {s : Sto} {E : D → Sto → Prop} {Q : D → Sto → Prop} {QF : Fl → Sto → Prop} {γ : Type}
theorem split_at {L : List γ} {i : Nat} {c : γ} (h : L[i]? = some c) : L = L.take i ++ c :: L.drop (i + 1) := by
  obtain ⟨hi, rfl⟩ := List.getElem?_eq_some_iff.1 h
  rw [← List.drop_eq_getElem_cons hi, List.take_append_drop]
theorem take_snoc {L : List γ} {i : Nat} {c : γ} (h : L[i]? = some c) : L.take (i + 1) = L.take i ++ [c] := by
  rw [List.take_add_one, h]; rfl
theorem w_forP {g : D → Env → M Env} {b : Env → M Fl} (L : List γ) (h : γ → D) (I : List γ → Env → Sto → Prop) (h0 : I [] σ s)
    (hb : ∀ pre c post σ s, L = pre ++ c :: post → I pre σ s → wp (g (h c) σ) s (fun σ1 s1 => wp (b σ1) s1 (tq (I (pre ++ [c])) QF) NX) NX)
    (hq : ∀ σ s, I L σ s → QF (.nx σ) s) : wp (forLoop (.one (.items (L.map h))) g b ((It.one (.items (L.map h))).len s + 1) 0 σ) s QF E := by
  refine w_for (L.map h) (fun i σ s => I (L.take i) σ s) (by simpa using h0) ?_ ?_
  · intro i d σ s hI e
    rw [List.getElem?_map] at e
    cases e2 : L[i]? with
    | none => rw [e2] at e; cases e
    | some c =>
      rw [e2] at e
      cases e
      have := hb (L.take i) c _ σ s (split_at e2) hI
      rw [← take_snoc e2] at this
      exact this
  · intro σ s hI
    rw [List.length_map, List.take_length] at hI
    exact hq σ s hI
theorem w_forPE {g : D → Env → M Env} {b : Env → M Fl} (L : List γ) (h : γ → D) (I : List γ → Env → Sto → Prop) (h0 : I [] σ s)
    (hb : ∀ pre c post σ s, L = pre ++ c :: post → I pre σ s → wp (g (.tup [.int (pre.length : Nat), h c]) σ) s (fun σ1 s1 => wp (b σ1) s1 (tq (I (pre ++ [c])) QF) NX) NX)
    (hq : ∀ σ s, I L σ s → QF (.nx σ) s) : wp (forLoop (.enum 0 (.items (L.map h))) g b ((It.enum 0 (.items (L.map h))).len s + 1) 0 σ) s QF E := by
  refine w_forE (L.map h) (fun i σ s => I (L.take i) σ s) (by simpa using h0) ?_ ?_
  · intro i d σ s hI e
    rw [List.getElem?_map] at e
    cases e2 : L[i]? with
    | none => rw [e2] at e; cases e
    | some c =>
      rw [e2] at e
      cases e
      have := hb (L.take i) c _ σ s (split_at e2) hI
      rw [← take_snoc e2, List.length_take] at this
      have hi : i < L.length := (List.getElem?_eq_some_iff.1 e2).1
      rw [Nat.min_eq_left (Nat.le_of_lt hi)] at this
      rw [Int.zero_add]
      exact this
  · intro σ s hI
    rw [List.length_map, List.take_length] at hI
    exact hq σ s hI
/-- a comprehension that maps things -/
theorem w_lcm {turn : D → M (Option D)} {Q : List D → Sto → Prop} (L : List γ) (h : γ → D) (k : γ → D) (hx : L.length ≤ sizeLine)
    (hb : ∀ c ∈ L, wp (turn (h c)) s (fun o s1 => o = some (k c) ∧ s1 = s) NX)
    (hq : Q (L.map k) s) : wp (lcLoop (.one (.items (L.map h))) turn ((It.one (.items (L.map h))).len s + 1) 0 []) s Q E := by
  refine w_lcM (L.map h) (fun i a s' => s' = s ∧ a = (L.take i).map k) ⟨rfl, by simp⟩ ?_ (by simpa using hx) ?_ ?_
  · rintro i a s' ⟨rfl, rfl⟩
    rw [List.length_map]
    exact List.length_take_le ..
  · rintro i d a s' ⟨rfl, rfl⟩ e
    rw [List.getElem?_map] at e
    cases e2 : L[i]? with
    | none => rw [e2] at e; cases e
    | some c =>
      rw [e2] at e
      cases e
      refine wp_nx (hb c (List.mem_of_getElem? e2)) ?_
      rintro o s1 ⟨rfl, rfl⟩
      refine ⟨rfl, ?_⟩
      rw [take_snoc e2, List.map_append]; rfl
  · rintro a s' ⟨rfl, rfl⟩
    rw [List.length_map, List.take_length]
    exact hq
/-- the turns may change the store -/
theorem w_lcP {turn : D → M (Option D)} {Q : List D → Sto → Prop} (L : List γ) (h : γ → D) (I : List γ → List D → Sto → Prop) (h0 : I [] [] s) (hx : L.length ≤ sizeLine)
    (hb : ∀ pre c post a s, L = pre ++ c :: post → a.length = pre.length → I pre a s → wp (turn (h c)) s (fun o s1 => ∃ y, o = some y ∧ I (pre ++ [c]) (a ++ [y]) s1) NX)
    (hq : ∀ a s, a.length = L.length → I L a s → Q a s) : wp (lcLoop (.one (.items (L.map h))) turn ((It.one (.items (L.map h))).len s + 1) 0 []) s Q E := by
  refine w_lcM (L.map h) (fun i a s' => (i ≤ L.length ∧ a.length = i) ∧ I (L.take i) a s') ⟨⟨Nat.zero_le _, rfl⟩, by simpa using h0⟩ ?_ (by simpa using hx) ?_ ?_
  · rintro i a s' ⟨⟨_, h⟩, _⟩
    exact Nat.le_of_eq h
  · rintro i d a s' ⟨⟨hi, hl⟩, hI⟩ e
    rw [List.getElem?_map] at e
    cases e2 : L[i]? with
    | none => rw [e2] at e; cases e
    | some c =>
      rw [e2] at e
      cases e
      have hi2 : i < L.length := (List.getElem?_eq_some_iff.1 e2).1
      refine wp_nx (hb (L.take i) c _ a s' (split_at e2) (by rw [hl, List.length_take]; omega) hI) ?_
      rintro o s1 ⟨y, rfl, h1⟩
      refine ⟨⟨hi2, by simp [hl]⟩, ?_⟩
      rw [take_snoc e2]
      exact h1
  · rintro a s' ⟨⟨_, hl⟩, hI⟩
    rw [List.length_map] at hl hI
    rw [List.take_length] at hI
    exact hq a s' hl hI
/-- a comprehension that maps and leaves out -/
theorem w_lcf {turn : D → M (Option D)} {Q : List D → Sto → Prop} (L : List γ) (h : γ → D) (p : γ → Bool) (k : γ → D) (hx : L.length ≤ sizeLine)
    (hb : ∀ c ∈ L, wp (turn (h c)) s (fun o s1 => o = (if p c then some (k c) else none) ∧ s1 = s) NX)
    (hq : Q ((L.filter p).map k) s) : wp (lcLoop (.one (.items (L.map h))) turn ((It.one (.items (L.map h))).len s + 1) 0 []) s Q E := by
  refine w_lcM (L.map h) (fun i a s' => s' = s ∧ a = ((L.take i).filter p).map k) ⟨rfl, by simp⟩ ?_ (by simpa using hx) ?_ ?_
  · rintro i a s' ⟨rfl, rfl⟩
    rw [List.length_map]
    exact Nat.le_trans (List.length_filter_le ..) (List.length_take_le ..)
  · rintro i d a s' ⟨rfl, rfl⟩ e
    rw [List.getElem?_map] at e
    cases e2 : L[i]? with
    | none => rw [e2] at e; cases e
    | some c =>
      rw [e2] at e
      cases e
      refine wp_nx (hb c (List.mem_of_getElem? e2)) ?_
      rintro o s1 ⟨rfl, rfl⟩
      cases hp : p c with
      | true =>
        show _ ∧ _
        refine ⟨rfl, ?_⟩
        rw [take_snoc e2, List.filter_append, List.map_append]
        simp [hp]
      | false =>
        show _ ∧ _
        refine ⟨rfl, ?_⟩
        rw [take_snoc e2, List.filter_append, List.map_append]
        simp [hp]
  · rintro a s' ⟨rfl, rfl⟩
    rw [List.length_map, List.take_length]
    exact hq
theorem w_lcmE {turn : D → M (Option D)} {Q : List D → Sto → Prop} (L : List γ) (h : γ → D) (k : Nat × γ → D) (hx : L.length ≤ sizeLine)
    (hb : ∀ i c, L[i]? = some c → wp (turn (.tup [.int (i : Nat), h c])) s (fun o s1 => o = some (k (i, c)) ∧ s1 = s) NX)
    (hq : ∀ Y : List D, Y.length = L.length → (∀ i, Y[i]? = L[i]?.map fun c => k (i, c)) → Q Y s) : wp (lcLoop (.enum 0 (.items (L.map h))) turn ((It.enum 0 (.items (L.map h))).len s + 1) 0 []) s Q E := by
  refine w_lcAux (numb 0 (L.map h)) (fun i a s' => i ≤ L.length ∧ s' = s ∧ a.length = i ∧ ∀ j, j < i → a[j]? = L[j]?.map fun c => k (j, c)) (fun i a s h => enum_next (by simpa using h.1)) ?_ ?_ _ 0 [] s ⟨Nat.zero_le _, rfl, rfl, fun j h => absurd h (Nat.not_lt_zero _)⟩ (Nat.zero_le _) (by rw [numb_len]; show (L.map h).length + 1 ≤ (L.map h).length + 1 + 0; omega)
  · rintro i d a s' ⟨hi, rfl, hl, ha⟩ e
    rw [numb_get, List.getElem?_map] at e
    cases e2 : L[i]? with
    | none => rw [e2] at e; cases e
    | some c =>
      rw [e2] at e
      cases e
      have hi2 : i < L.length := (List.getElem?_eq_some_iff.1 e2).1
      rw [Int.zero_add]
      refine wp_nx (hb i c e2) ?_
      rintro o s1 ⟨rfl, rfl⟩
      refine ⟨by omega, hi2, rfl, by simp [hl], ?_⟩
      intro j hj
      by_cases hji : j = i
      · subst hji
        rw [List.getElem?_append_right (by omega), e2]
        simp [hl]
      · rw [List.getElem?_append_left (by omega)]
        exact ha j (by omega)
  · rintro a s' ⟨hi, rfl, hl, ha⟩
    rw [numb_len, List.length_map] at hl ha
    refine hq a hl fun i => ?_
    by_cases hi : i < L.length
    · exact ha i hi
    · rw [List.getElem?_eq_none (by omega), List.getElem?_eq_none (by omega)]; rfl
end
/-! ### dicts with numbers as keys -/
section
variable {s : Sto}
abbrev ik (d : Nat) : Ky := .k (.inl (d : Int))
def kd (f : Nat → D) (L : List Nat) : List (Ky × D) := L.map fun d => (ik d, f d)
theorem ik_inj {a b : Nat} (h : ik a = ik b) : a = b := by
  have : (a : Int) = (b : Int) := by injection h with h; injection h
  omega
theorem kd_len {f : Nat → D} {L : List Nat} : (kd f L).length = L.length := by simp [kd]
theorem kd_ok {f : Nat → D} {L : List Nat} {d : Nat} : okKeys (ik d) (kd f L) = true := by
  simp [okKeys, kd, kyK]
theorem kd_okI {f : Nat → D} {L : List Nat} {d : Int} : okKeys (.k (.inl d)) (kd f L) = true := by
  simp [okKeys, kd, kyK]
theorem kd_get {f : Nat → D} {d : Nat} : ∀ {L : List Nat}, dget (ik d) (kd f L) = if d ∈ L then some (f d) else none
  | [] => rfl
  | a :: L => by
    simp only [kd, List.map_cons, dget]
    by_cases h : a = d
    · subst h; simp
    · have h2 : ¬ ik a = ik d := fun e => h (ik_inj e)
      rw [if_neg h2]
      have ih := kd_get (f := f) (d := d) (L := L)
      simp only [kd] at ih
      rw [ih]
      have h3 : d ≠ a := fun e => h e.symm
      simp [h3]
theorem kd_put {f : Nat → D} {d : Nat} : ∀ {L : List Nat}, d ∉ L → dput (ik d) (f d) (kd f L) = kd f (L ++ [d])
  | [], _ => rfl
  | a :: L, h => by
    simp only [kd, List.map_cons, dput, List.cons_append]
    have h2 : ¬ ik a = ik d := fun e => h (by rw [ik_inj e]; exact List.mem_cons_self ..)
    rw [if_neg h2]
    have ih := kd_put (f := f) (d := d) (L := L) fun q => h (List.mem_cons_of_mem _ q)
    simp only [kd] at ih
    rw [ih]
theorem kd_del {f : Nat → D} {d : Nat} : ∀ {L : List Nat}, ddel (ik d) (kd f L) = kd f (L.erase d)
  | [] => rfl
  | a :: L => by
    simp only [kd, List.map_cons, ddel]
    by_cases h : a = d
    · subst h; simp
    · have h2 : ¬ ik a = ik d := fun e => h (ik_inj e)
      rw [if_neg h2, List.erase_cons_tail (by simpa using h)]
      have ih := kd_del (f := f) (d := d) (L := L)
      simp only [kd] at ih
      rw [ih]; rfl
theorem kd_pur {f : Nat → D} {L : List Nat} (h : ∀ d, (f d).pur = true) : ((kd f L).all fun p => D.pur p.2) = true := by
  simp [kd, h]
theorem kd_isIn {f : Nat → D} {L : List Nat} {d l : Nat} (h : s[l]? = some (.dic (kd f L))) : inD s (.int (d : Int)) (.ref l) = some (decide (d ∈ L)) := by
  simp only [inD, dicv, h, keyOf]
  rw [if_pos kd_ok, kd_get]
  by_cases hd : d ∈ L
  · simp [hd]
  · simp [hd]
theorem kd_key {d : Int} : keyOf (.int d) = some (.k (.inl d)) := rfl
end
section
variable {T : Tbl} {σ : Env} {s : Sto} {E : D → Sto → Prop} {Q : List (Ky × D) → Sto → Prop}
theorem w_dcAux {s : Sto} {E : D → Sto → Prop} {Q : List (Ky × D) → Sto → Prop} {it : It} {turn : D → M (Option (Ky × D))} {f : Nat → D} (L : List Nat) (h : Nat → D) (hn : L.Nodup) (hf : ∀ d, (f d).pur = true) (hx : L.length ≤ sizeLine)
    (hit : ∀ i, it.next i s = some (L.map h)[i]?)
    (hb : ∀ c ∈ L, wp (turn (h c)) s (fun o s1 => o = some (ik c, f c) ∧ s1 = s) NX)
    (hq : Q (kd f L) s) : ∀ (n i : Nat), i ≤ L.length → L.length + 1 ≤ n + i → wp (dcLoop it turn n i (kd f (L.take i))) s Q E
  | 0, i, h1, h2 => absurd h2 (by omega)
  | n + 1, i, h1, h2 => by
    simp only [wp, dcLoop]
    rw [hit i, List.getElem?_map]
    cases e2 : L[i]? with
    | none =>
      have : L.length ≤ i := List.getElem?_eq_none_iff.1 e2
      rw [List.take_of_length_le this]
      exact hq
    | some c =>
      have hw := hb c (List.mem_of_getElem? e2)
      have hi : i < L.length := (List.getElem?_eq_some_iff.1 e2).1
      simp only [wp, Option.map_some] at hw ⊢
      cases eg : turn (h c) s with
      | ok o s1 =>
        rw [eg] at hw
        obtain ⟨rfl, rfl⟩ := hw
        have hc : (kd f (L.take i)).length < sizeLine ∧ okKeys (ik c) (kd f (L.take i)) = true ∧ D.pur (f c) = true := ⟨by rw [kd_len]; exact Nat.lt_of_le_of_lt (List.length_take_le ..) (by omega), kd_ok, hf c⟩
        simp only [if_pos hc]
        have hnot : c ∉ L.take i := by
          have h3 := split_at e2
          rw [h3] at hn
          have := (List.nodup_append.1 hn).2.2
          intro hm
          exact this c hm c (List.mem_cons_self ..) rfl
        rw [kd_put hnot, ← take_snoc e2]
        exact w_dcAux L h hn hf hx hit hb hq n (i + 1) hi (by omega)
      | exc e s2 => rw [eg] at hw; exact hw.elim
      | bad => rw [eg] at hw; exact hw.elim
theorem w_dcm {turn : D → M (Option (Ky × D))} {f : Nat → D} (L : List Nat) (h : Nat → D) (hn : L.Nodup) (hf : ∀ d, (f d).pur = true) (hx : L.length ≤ sizeLine)
    (hb : ∀ c ∈ L, wp (turn (h c)) s (fun o s1 => o = some (ik c, f c) ∧ s1 = s) NX)
    (hq : Q (kd f L) s) : wp (dcLoop (.one (.items (L.map h))) turn ((It.one (.items (L.map h))).len s + 1) 0 []) s Q E :=
  w_dcAux L h hn hf hx (fun i => rfl) hb hq _ 0 (Nat.zero_le _) (by show L.length + 1 ≤ (L.map h).length + 1 + 0; rw [List.length_map]; omega)
end
end Fs
namespace Fs
open PySem
def sqC (c : Option D) : Option (List D) := match c with
  | some (.lst xs) => some xs
  | some (.frl xs) => some xs
  | _ => none
theorem sqC_lst {xs : List D} : sqC (some (.lst xs)) = some xs := rfl
theorem sqC_frl {xs : List D} : sqC (some (.frl xs)) = some xs := rfl
theorem seqv_lst {s : Sto} {xs : List D} : seqv s (.lst xs) = some xs := rfl
theorem seqv_tup {s : Sto} {xs : List D} : seqv s (.tup xs) = some xs := rfl
theorem seqv_ref {s : Sto} {l : Nat} : seqv s (.ref l) = sqC s[l]? := by
  simp only [seqv, sqC] <;> (cases s[l]? with
    | none => rfl
    | some c => cases c <;> rfl)
section
variable {T : Tbl} {σ : Env} {s : Sto} {E : D → Sto → Prop} {Q : D → Sto → Prop} {QF : Fl → Sto → Prop} {γ : Type}
/-- a comprehension over a list that stands in the store and stays -/
theorem w_lcPC {turn : D → M (Option D)} {Q : List D → Sto → Prop} {l : Nat} (L : List γ) (h : γ → D) (I : List γ → List D → Sto → Prop) (h0 : I [] [] s) (hx : L.length ≤ sizeLine)
    (hc : ∀ p a s, I p a s → s[l]? = some (.lst (L.map h)))
    (hb : ∀ pre c post a s, L = pre ++ c :: post → a.length = pre.length → I pre a s → wp (turn (h c)) s (fun o s1 => ∃ y, o = some y ∧ I (pre ++ [c]) (a ++ [y]) s1) NX)
    (hq : ∀ a s, a.length = L.length → I L a s → Q a s) : wp (lcLoop (.one (.cell l)) turn ((It.one (.cell l)).len s + 1) 0 []) s Q E := by
  refine w_lcAux (L.map h) (fun i a s' => (i ≤ L.length ∧ a.length = i) ∧ I (L.take i) a s') ?_ ?_ ?_ _ 0 [] s ⟨⟨Nat.zero_le _, rfl⟩, by simpa using h0⟩ (Nat.zero_le _) ?_
  · rintro i a s' ⟨_, hI⟩
    simp only [It.next, Src.at, hc _ _ _ hI]
  · rintro i d a s' ⟨⟨hi, hl⟩, hI⟩ e
    rw [List.getElem?_map] at e
    cases e2 : L[i]? with
    | none => rw [e2] at e; cases e
    | some c =>
      rw [e2] at e
      cases e
      have hi2 : i < L.length := (List.getElem?_eq_some_iff.1 e2).1
      refine wp_nx (hb (L.take i) c _ a s' (split_at e2) (by rw [hl, List.length_take]; omega) hI) ?_
      rintro o s1 ⟨y, rfl, h1⟩
      refine ⟨by omega, ⟨hi2, by simp [hl]⟩, ?_⟩
      rw [take_snoc e2]
      exact h1
  · rintro a s' ⟨⟨_, hl⟩, hI⟩
    rw [List.length_map] at hl hI
    rw [List.take_length] at hI
    exact hq a s' hl hI
  · simp only [It.len, Src.len, hc _ _ _ h0]; omega
theorem w_lcmC {turn : D → M (Option D)} {Q : List D → Sto → Prop} {l : Nat} (L : List γ) (h : γ → D) (k : γ → D) (hx : L.length ≤ sizeLine) (hc : s[l]? = some (.lst (L.map h)))
    (hb : ∀ c ∈ L, wp (turn (h c)) s (fun o s1 => o = some (k c) ∧ s1 = s) NX)
    (hq : Q (L.map k) s) : wp (lcLoop (.one (.cell l)) turn ((It.one (.cell l)).len s + 1) 0 []) s Q E := by
  refine w_lcPC (l := l) L h (fun pre a s' => s' = s ∧ a = pre.map k) ⟨rfl, rfl⟩ hx (by rintro p a s' ⟨rfl, _⟩; exact hc) ?_ ?_
  · rintro pre c post a s' hL _ ⟨rfl, rfl⟩
    refine wp_nx (hb c (by rw [hL]; simp)) ?_
    rintro o s1 ⟨rfl, rfl⟩
    exact ⟨_, rfl, rfl, by simp⟩
  · rintro a s' _ ⟨rfl, rfl⟩
    exact hq
theorem w_lcmEC {turn : D → M (Option D)} {Q : List D → Sto → Prop} {l : Nat} (L : List γ) (h : γ → D) (k : Nat × γ → D) (hx : L.length ≤ sizeLine) (hc : s[l]? = some (.lst (L.map h)))
    (hb : ∀ i c, L[i]? = some c → wp (turn (.tup [.int (i : Nat), h c])) s (fun o s1 => o = some (k (i, c)) ∧ s1 = s) NX)
    (hq : ∀ Y : List D, Y.length = L.length → (∀ i, Y[i]? = L[i]?.map fun c => k (i, c)) → Q Y s) : wp (lcLoop (.enum 0 (.cell l)) turn ((It.enum 0 (.cell l)).len s + 1) 0 []) s Q E := by
  refine w_lcAux (numb 0 (L.map h)) (fun i a s' => i ≤ L.length ∧ s' = s ∧ a.length = i ∧ ∀ j, j < i → a[j]? = L[j]?.map fun c => k (j, c)) ?_ ?_ ?_ _ 0 [] s ⟨Nat.zero_le _, rfl, rfl, fun j h => absurd h (Nat.not_lt_zero _)⟩ (Nat.zero_le _) ?_
  · rintro i a s' ⟨hi, rfl, _⟩
    have h1 := enum_next (k := 0) (xs := L.map h) (i := i) (s := s') (by simpa using hi)
    rw [← h1]
    simp only [It.next, Src.at, Src.len, hc]
    cases (L.map h)[i]? <;> rfl
  · rintro i d a s' ⟨hi, rfl, hl, ha⟩ e
    rw [numb_get, List.getElem?_map] at e
    cases e2 : L[i]? with
    | none => rw [e2] at e; cases e
    | some c =>
      rw [e2] at e
      cases e
      have hi2 : i < L.length := (List.getElem?_eq_some_iff.1 e2).1
      rw [Int.zero_add]
      refine wp_nx (hb i c e2) ?_
      rintro o s1 ⟨rfl, rfl⟩
      refine ⟨by omega, hi2, rfl, by simp [hl], ?_⟩
      intro j hj
      by_cases hji : j = i
      · subst hji
        rw [List.getElem?_append_right (by omega), e2]
        simp [hl]
      · rw [List.getElem?_append_left (by omega)]
        exact ha j (by omega)
  · rintro a s' ⟨hi, rfl, hl, ha⟩
    rw [numb_len, List.length_map] at hl ha
    refine hq a hl fun i => ?_
    by_cases hi : i < L.length
    · exact ha i hi
    · rw [List.getElem?_eq_none (by omega), List.getElem?_eq_none (by omega)]; rfl
  · rw [numb_len, List.length_map]
    simp only [It.len, Src.len, hc, List.length_map]; omega
end
end Fs
namespace Fs
open PySem
def opp (d : Nat) : Nat := if d % 2 = 0 then d + 1 else d - 1
theorem fmod2 (d : Nat) : (d : Int).fmod 2 = ((d % 2 : Nat) : Int) := by rw [Int.fmod_eq_emod_of_nonneg _ (by decide)]; rfl
theorem opp_int (d : Nat) : (d : Int) + 1 - 2 * (d : Int).fmod 2 = (opp d : Nat) := by
  rw [fmod2]
  unfold opp
  split <;> omega
theorem k_opp (n : Nat) (d : Nat) (st : Sto) : wp (call P (n + 1) F.opposite_of [.int d]) st (fun r s' => r = .int (opp d : Nat) ∧ s' = st) NX := by
  refine w_call (F := c_opposite_of) rfl rfl ?_
  unfold c_opposite_of
  simp! only []
  refine ⟨by decide, ?_, okP_self, ?_⟩
  · have h1 : (d : Int).fmod 2 = 0 ∨ (d : Int).fmod 2 = 1 := by rw [fmod2]; omega
    rcases h1 with h1 | h1 <;> rw [h1] <;> decide
  · rw [rk_clean rfl, opp_int]
    exact ⟨rfl, by simp⟩
/-! ### graphs -/
structure Gr (g : List (List Nat)) (e : Nat) : Prop where
  perm : g.flatten.Perm (List.range (2 * e))
  n : g.length ≤ 60
  e : e ≤ 120
theorem Gr.nd {g : List (List Nat)} {e : Nat} (h : Gr g e) : g.flatten.Nodup := (h.perm.nodup_iff).2 List.nodup_range
theorem Gr.mem {g : List (List Nat)} {e d : Nat} (h : Gr g e) : d ∈ g.flatten ↔ d < 2 * e := by rw [h.perm.mem_iff, List.mem_range]
theorem Gr.len {g : List (List Nat)} {e : Nat} (h : Gr g e) : g.flatten.length = 2 * e := by rw [h.perm.length_eq, List.length_range]
theorem Gr.row {g : List (List Nat)} {e : Nat} (h : Gr g e) {pre post : List (List Nat)} {r : List Nat} (hg : g = pre ++ r :: post) : r.length ≤ 240 := by
  have h1 := h.len
  have h2 := h.e
  rw [hg] at h1
  simp only [List.flatten_append, List.flatten_cons, List.length_append] at h1
  omega
def tailOf (g : List (List Nat)) (d : Nat) : Nat := g.findIdx fun r => decide (d ∈ r)
theorem tail_at {d : Nat} {r : List Nat} {post : List (List Nat)} (hd : d ∈ r) : ∀ {pre : List (List Nat)}, (pre ++ r :: post).flatten.Nodup → tailOf (pre ++ r :: post) d = pre.length
  | [], _ => by simp [tailOf, List.findIdx_cons, hd]
  | a :: pre, h => by
    have h1 : d ∉ a := by
      intro ha
      simp only [List.cons_append, List.flatten_cons] at h
      have := (List.nodup_append.1 h).2.2 d ha d (by simp [hd])
      exact this rfl
    have h2 : (pre ++ r :: post).flatten.Nodup := by
      simp only [List.cons_append, List.flatten_cons] at h
      exact (List.nodup_append.1 h).2.1
    have ih := tail_at hd h2
    simp only [tailOf] at ih
    simp only [tailOf, List.cons_append, List.findIdx_cons, h1, decide_false, cond_false, ih, List.length_cons]
theorem optL_len : ∀ {g : List (List Nat)}, optL intv (g.map fun r => D.int (r.length : Nat)) = some (g.map fun r => ((r.length : Nat) : Int))
  | [] => rfl
  | a :: g => by simp only [List.map_cons, optL, intv, optL_len]
theorem sum_len : ∀ {g : List (List Nat)}, (g.map fun r => ((r.length : Nat) : Int)).sum = ((g.flatten.length : Nat) : Int)
  | [] => rfl
  | a :: g => by
    simp only [List.map_cons, List.sum_cons, sum_len, List.flatten_cons, List.length_append]
    omega
theorem lInt_lst {s : Sto} {xs : List D} : lInt s (.lst xs) = optL intv xs := rfl
theorem k_count (n : Nat) {g : List (List Nat)} (hg : g.length ≤ sizeLine) (st : Sto) : wp (call P (n + 1) F.dart_count [.tup (tv g)]) st (fun r s' => r = .int (g.flatten.length : Nat) ∧ s' = st) NX := by
  refine w_call (F := c_dart_count) rfl rfl ?_
  unfold c_dart_count
  simp! only [la_tup tv_purs]
  refine w_lcm g _ (fun r => .int (r.length : Nat)) hg ?_ ?_
  · intro r _
    simp! only [la_tup nv_purs, nv_len]
  · simp! only [lInt_lst, optL_len, sum_len]
    rw [rk_clean rfl]
    exact ⟨okP_self, rfl, by simp⟩
theorem sl_ge : 2 ^ 20 ≤ sizeLine := by decide
/-- the tails of the darts -/
def tails (g : List (List Nat)) (e : Nat) : List Nat := (List.range (2 * e)).map (tailOf g)
theorem tails_get {g : List (List Nat)} {e d : Nat} (h : d < 2 * e) : (tails g e)[d]? = some (tailOf g d) := by
  simp [tails, List.getElem?_range h]
theorem Gr.lt {g : List (List Nat)} {e : Nat} (h : Gr g e) {pre post : List (List Nat)} {r : List Nat} (hg : g = pre ++ r :: post) {d : Nat} (hd : d ∈ r) : d < 2 * e := by
  refine h.mem.1 ?_
  rw [hg]
  simp [hd]
theorem rep_nv {k : Nat} : rep k [.int 0] = nv (List.replicate k 0) := by
  simp only [rep, nv, List.map_replicate]
  induction k with
  | zero => rfl
  | succ k ih => rw [List.replicate_succ, List.flatten_cons, ih]; rfl
theorem nv_set {L : List Nat} {i x : Nat} : (nv L).set i (.int (x : Nat)) = nv (L.set i x) := by
  simp only [nv, List.map_set]
theorem k_tails (n : Nat) {g : List (List Nat)} {e : Nat} (h : Gr g e) (st : Sto) : wp (call P (n + 2) F.dart_tails [.tup (tv g)]) st (fun r s' => r = .lst (nv (tails g e)) ∧ s' = st) NX := by
  have hsl := sl_ge
  have hn := h.n
  have he := h.e
  refine w_call (F := c_dart_tails) rfl rfl ?_
  unfold c_dart_tails
  simp! only [la_tup tv_purs]
  refine ⟨by decide, ?_⟩
  refine wp_nx (k_count (n := n) (by omega) st) ?_
  rintro d s' ⟨rfl, rfl⟩
  rw [h.len]
  simp! only []
  refine ⟨⟨rfl, by omega, by omega, by simp; omega⟩, ?_⟩
  rw [rep_nv, Int.toNat_natCast, la_lst nv_purs]
  refine w_forPE g _ (fun pre σ s => (∃ a b c, σ = [some (.tup (tv g)), some (.ref s'.length), a, b, c]) ∧ ∃ t : List Nat, s = s' ++ [.lst (nv t)] ∧ t.length = 2 * e ∧ ∀ d, d ∈ pre.flatten → t[d]? = some (tailOf g d)) ⟨⟨_, _, _, rfl⟩, _, rfl, List.length_replicate, by simp⟩ ?_ ?_
  · rintro pre r post σ s hgs ⟨⟨a, b, c, rfl⟩, t, rfl, ht, htd⟩
    simp! only [la_tup nv_purs]
    refine w_forP r _ (fun pr σ s => (∃ c, σ = [some (.tup (tv g)), some (.ref s'.length), some (.int (pre.length : Nat)), some (.tup (nv r)), c]) ∧ ∃ t : List Nat, s = s' ++ [.lst (nv t)] ∧ t.length = 2 * e ∧ ∀ d, d ∈ pre.flatten ∨ d ∈ pr → t[d]? = some (tailOf g d)) ⟨⟨_, rfl⟩, t, rfl, ht, by simpa using htd⟩ ?_ ?_
    · rintro pr d po σ s hr ⟨⟨c, rfl⟩, t, rfl, ht, htd⟩
      have hdr : d ∈ r := by rw [hr]; simp
      have hd := h.lt hgs hdr
      have htl : tailOf g d = pre.length := by rw [hgs]; exact tail_at hdr (hgs ▸ h.nd)
      simp! only []
      rw [nv_len, ixN_nat (by omega)]
      simp! only []
      rw [nv_set]
      refine ⟨⟨_, rfl⟩, _, rfl, by simpa using ht, ?_⟩
      intro x hx
      by_cases hxd : x = d
      · subst hxd
        rw [List.getElem?_set_self (by omega), htl]
      · rw [List.getElem?_set_ne (fun q => hxd q.symm)]
        refine htd x ?_
        simp only [List.mem_append, List.mem_singleton] at hx
        rcases hx with hx | hx | hx
        · exact .inl hx
        · exact .inr hx
        · exact absurd hx hxd
    · rintro σ s ⟨⟨c, rfl⟩, t, rfl, ht, htd⟩
      simp! only []
      refine ⟨⟨_, _, _, rfl⟩, t, rfl, ht, ?_⟩
      intro x hx
      refine htd x ?_
      simpa using hx
  · rintro σ s ⟨⟨a, b, c, rfl⟩, t, rfl, ht, htd⟩
    simp! only []
    have hT : t = tails g e := by
      refine List.ext_getElem? fun i => ?_
      by_cases hi : i < 2 * e
      · rw [htd i (h.mem.2 hi), tails_get hi]
      · rw [List.getElem?_eq_none (by omega), List.getElem?_eq_none (by simp [tails]; omega)]
    subst hT
    refine ⟨okP_app, ?_⟩
    rw [rk_lst (Nat.le_refl _) sg0 nv_clean]
    exact ⟨rfl, take0⟩
end Fs
namespace Fs
open PySem
theorem rngL3 (a b c : Int) : rngL [.int a, .int b, .int c] = if c ≠ 0 ∧ c.natAbs < 1073741824 ∧ Builtin.Range.small a b c = true then some (rngN a c (Builtin.Range.rangeSize a b c).toNat) else none := rfl
theorem rngL1 {b : Nat} (h : b ≤ 2 ^ 20) : rngL [.int (b : Nat)] = some (nv (List.range b)) := by
  have h0 : b ≤ 1048576 := h
  have h1 : -(2 ^ 62 : Int) ≤ (b : Int) ∧ (b : Int) < 2 ^ 62 := by
    constructor <;> omega
  rw [← rngN_nv]
  have h2 : rngL [.int (b : Nat)] = if -(2 ^ 62 : Int) ≤ (b : Int) ∧ (b : Int) < 2 ^ 62 then some (rngN 0 1 (b : Int).toNat) else none := by
    generalize (b : Int) = x
    rfl
  rw [h2, if_pos h1, Int.toNat_natCast]
theorem small2 {e : Nat} (h : e ≤ 120) (h1 : Builtin.Range.rangeSize 0 (2 * e : Nat) 2 = e) : Builtin.Range.small 0 (2 * e : Nat) 2 = true := by
  have f1 : ∀ x : Int, 0 ≤ x → x < 1000 → Builtin.Range.rangeFitsLong x = true := by
    intro x h1 h2
    unfold Builtin.Range.rangeFitsLong
    have a1 : -(2 ^ 63 : Int) ≤ x := by omega
    have a2 : x < (2 ^ 63 : Int) := by omega
    rw [decide_eq_true a1, decide_eq_true a2]; rfl
  unfold Builtin.Range.small
  rw [h1]
  rw [f1 0 (by decide) (by decide), f1 2 (by decide) (by decide), f1 (2 * e : Nat) (by omega) (by omega), f1 e (by omega) (by omega)]
  rw [if_pos (by decide), f1 _ (by omega) (by omega)]
  simp
theorem k_index (n : Nat) {d m : Nat} (h : d < m) (st : Sto) : wp (call P (n + 1) F.is_index [.int d, .int m]) st (fun r s' => r = .bl true ∧ s' = st) NX := by
  refine w_call (F := c_is_index) rfl rfl ?_
  unfold c_is_index
  have h1 : decide ((0 : Int) ≤ (d : Int)) = true := by simp
  have h2 : decide ((d : Int) < (m : Int)) = true := by simp; exact h
  simp! only [truth, h1, h2]
  refine ⟨okP_self, ?_⟩
  rw [rk_clean rfl]
  exact ⟨rfl, by simp⟩
theorem optL_bl {γ : Type} (f : γ → Bool) : ∀ {g : List γ}, optL blv (g.map fun r => D.bl (f r)) = some (g.map f)
  | [] => rfl
  | a :: g => by simp only [List.map_cons, optL, blv, optL_bl]
theorem lBl_lst {s : Sto} {xs : List D} : lBl s (.lst xs) = optL blv xs := rfl
theorem k_fault (n : Nat) {g : List (List Nat)} {e : Nat} (h : Gr g e) (st : Sto) : wp (call P (n + 2) F.graph_fault [.tup (tv g)]) st (fun r s' => r = .non ∧ s' = st) NX := by
  have hsl := sl_ge
  have hn := h.n
  have he := h.e
  refine w_call (F := c_graph_fault) rfl rfl ?_
  unfold c_graph_fault
  simp! only [la_tup tv_purs]
  have h1 : decide ((60 : Int) < ((tv g).length : Nat)) = false := by simp [tv_len]; omega
  simp! only [truth, h1]
  refine w_lcm g _ (fun r => .bl true) (by omega) ?_ ?_
  · intro r _
    simp! only [la_tup nv_purs]
  have h2 : (g.map fun _ => true).all id = true := by simp
  simp! only [lBl_lst, optL_bl, h2, truth]
  refine w_lcm g _ (fun r => .int (r.length : Nat)) (by omega) ?_ ?_
  · intro r _
    simp! only [la_tup nv_purs, nv_len]
  have h3 : decide ((2 : Int) * 120 < ((2 * e : Nat) : Int)) = false := by simp; omega
  have h4 : (((2 * e : Nat) : Int).fmod 2) = 0 := by rw [fmod2]; simp
  have h5 : (Int.natAbs 2).log2 + (Int.natAbs 120).log2 < 1000000 := by decide
  have h6 : eqD st (.int 0) (.int 1) = some false := rfl
  simp! only [lInt_lst, optL_len, sum_len, h.len, h3, h4, h6, truth]
  refine ⟨h5, by decide, ?_⟩
  rw [rngL1 (by omega)]
  simp! only []
  refine w_dcm (f := fun _ => .bl true) (List.range (2 * e)) _ List.nodup_range (fun _ => rfl) (by simp; omega) ?_ ?_
  · intro c _
    simp! only []
    rw [kd_key]
    simp! only []
  rw [la_dic (kd_pur fun _ => rfl)]
  simp! only []
  refine w_forP g _ (fun pre σ s => (∃ a b, σ = [some (.tup (tv g)), a, some (.int (2 * e : Nat)), some (.ref st.length), b]) ∧ ∃ t : List Nat, s = st ++ [.dic (kd (fun _ => .bl true) t)] ∧ t.Nodup ∧ ∀ d, d ∈ t ↔ d < 2 * e ∧ d ∉ pre.flatten) ⟨⟨_, _, rfl⟩, _, rfl, List.nodup_range, by simp⟩ ?_ ?_
  · rintro pre r post σ s hgs ⟨⟨a, b, rfl⟩, t, rfl, ht, htd⟩
    simp! only [la_tup nv_purs]
    refine w_forP r _ (fun pr σ s => (∃ b, σ = [some (.tup (tv g)), some (.tup (nv r)), some (.int (2 * e : Nat)), some (.ref st.length), b]) ∧ ∃ t : List Nat, s = st ++ [.dic (kd (fun _ => .bl true) t)] ∧ t.Nodup ∧ ∀ d, d ∈ t ↔ d < 2 * e ∧ d ∉ pre.flatten ∧ d ∉ pr) ⟨⟨_, rfl⟩, t, rfl, ht, by simpa using htd⟩ ?_ ?_
    · rintro pr d po σ s hr ⟨⟨c, rfl⟩, t, rfl, ht, htd⟩
      have hdr : d ∈ r := by rw [hr]; simp
      have hd := h.lt hgs hdr
      have hnd := h.nd
      rw [hgs] at hnd
      simp only [List.flatten_append, List.flatten_cons] at hnd
      have hn1 := List.nodup_append.1 hnd
      have hdt : d ∈ t := by
        refine (htd d).2 ⟨hd, ?_, ?_⟩
        · intro hm
          exact hn1.2.2 d hm d (by simp [hdr]) rfl
        · have hn2 := (List.nodup_append.1 hn1.2.1).1
          rw [hr] at hn2
          have hn3 := (List.nodup_append.1 hn2).2.2
          intro hm
          exact hn3 d hm d (by simp) rfl
      simp! only []
      refine wp_nx (k_index (n := n) hd _) ?_
      rintro d' s2 ⟨rfl, rfl⟩
      have hin : inD (st ++ [.dic (kd (fun _ => .bl true) t)]) (.int (d : Int)) (.ref st.length) = some true := by
        rw [kd_isIn (f := fun _ => .bl true) (L := t) sg0]
        simp [hdt]
      simp! only [truth, hin, Option.map_some]
      rw [kd_key]
      simp! only []
      rw [kd_get, if_pos hdt, kd_del]
      refine ⟨rfl, kd_ok, ?_⟩
      simp! only []
      refine ⟨⟨_, rfl⟩, _, rfl, ht.erase d, ?_⟩
      intro x
      rw [ht.mem_erase_iff, htd]
      simp only [List.mem_append, List.mem_singleton]
      constructor
      · rintro ⟨h1, h2, h3, h4⟩
        exact ⟨h2, h3, fun q => q.elim h4 h1⟩
      · rintro ⟨h1, h2, h3⟩
        exact ⟨fun q => h3 (.inr q), h1, h2, fun q => h3 (.inl q)⟩
    · rintro σ s ⟨⟨c, rfl⟩, t, rfl, ht, htd⟩
      simp! only []
      refine ⟨⟨_, _, rfl⟩, t, rfl, ht, ?_⟩
      intro x
      rw [htd]
      simp
  · rintro σ s ⟨⟨a, b, rfl⟩, t, rfl, ht, htd⟩
    simp! only []
    refine ⟨okP_app, ?_⟩
    rw [rk_clean rfl]
    exact ⟨rfl, take0⟩
theorem k_check (n : Nat) {g : List (List Nat)} {e : Nat} (h : Gr g e) (st : Sto) : wp (call P (n + 3) F.check_graph [.tup (tv g)]) st (fun r s' => r = .non ∧ s' = st) NX := by
  refine w_call (F := c_check_graph) rfl rfl ?_
  unfold c_check_graph
  simp! only [la_tup tv_purs]
  refine wp_nx (k_fault (n := n) h st) ?_
  rintro d s' ⟨rfl, rfl⟩
  simp! only [isD, isNon, Option.map_some, truth]
  exact ⟨okP_self, by simp⟩
/-- both tails of each edge -/
def ends (g : List (List Nat)) (e : Nat) : List (Nat × Nat) := (List.range e).map fun k => (tailOf g (2 * k), tailOf g (2 * k + 1))
def ev2 (E : List (Nat × Nat)) : List D := E.map fun p => .tup [.int (p.1 : Nat), .int (p.2 : Nat)]
theorem ev2_clean {E : List (Nat × Nat)} : D.cleans (ev2 E) = true := cleans_of (by
  intro d hd
  obtain ⟨n, _, rfl⟩ := List.mem_map.1 hd
  rfl)
theorem rng2 {e : Nat} (h : e ≤ 120) : rngL [.int 0, .int (2 * e : Nat), .int 2] = some ((List.range e).map fun k => .int (2 * k : Nat)) := by
  have h1 : Builtin.Range.rangeSize 0 (2 * e : Nat) 2 = e := by
    simp only [Builtin.Range.rangeSize]
    by_cases he : e = 0
    · subst he; simp
    · rw [if_pos (by decide), if_pos (by omega)]
      omega
  have h2 := small2 h h1
  rw [rngL3, if_pos ⟨by decide, by decide, h2⟩, h1]
  simp [rngN]
  intro a _
  omega
theorem k_ends (n : Nat) {g : List (List Nat)} {e : Nat} (h : Gr g e) (st : Sto) : wp (call P (n + 1) F._law_ends [.tup (tv g)]) st (fun r s' => r = .lst (ev2 (ends g e)) ∧ s' = st) NX := by
  have hsl := sl_ge
  have hn := h.n
  have he := h.e
  refine w_call (F := c__law_ends) rfl rfl ?_
  unfold c__law_ends
  simp! only [la_tup tv_purs]
  refine w_forPE g _ (fun pre σ s => (∃ a b c, σ = [some (.tup (tv g)), some (.ref st.length), a, b, c]) ∧ s = st ++ [.dic (kd (fun d => .int (tailOf g d : Nat)) pre.flatten)]) ⟨⟨_, _, _, rfl⟩, rfl⟩ ?_ ?_
  · rintro pre r post σ s hgs ⟨⟨a, b, c, rfl⟩, rfl⟩
    simp! only [la_tup nv_purs]
    refine w_forP r _ (fun pr σ s => (∃ c, σ = [some (.tup (tv g)), some (.ref st.length), some (.int (pre.length : Nat)), some (.tup (nv r)), c]) ∧ s = st ++ [.dic (kd (fun d => .int (tailOf g d : Nat)) (pre.flatten ++ pr))]) ⟨⟨_, rfl⟩, by simp⟩ ?_ ?_
    · rintro pr d po σ s hr ⟨⟨c, rfl⟩, rfl⟩
      have hdr : d ∈ r := by rw [hr]; simp
      have hd := h.lt hgs hdr
      have htl : tailOf g d = pre.length := by rw [hgs]; exact tail_at hdr (hgs ▸ h.nd)
      have hnew : d ∉ pre.flatten ++ pr := by
        have hnd := h.nd
        rw [hgs, hr] at hnd
        simp only [List.flatten_append, List.flatten_cons, ← List.append_assoc] at hnd
        have h1 := (List.nodup_append.1 hnd).1
        rw [List.append_assoc] at h1
        have hn1 := (List.nodup_append.1 hnd).1
        have h3 : ((pre.flatten ++ pr) ++ [d] ++ po).Nodup := by simpa using hn1
        have h4 := (List.nodup_append.1 (List.nodup_append.1 h3).1).2.2
        intro hm
        exact h4 d hm d (by simp) rfl
      have hlen : (pre.flatten ++ pr).length ≤ 2 * e := by
        have h1 := h.len
        rw [hgs, hr] at h1
        simp only [List.flatten_append, List.flatten_cons, List.length_append] at h1 ⊢
        omega
      simp! only []
      rw [kd_key]
      simp! only []
      rw [← htl, kd_put (f := fun d => .int (tailOf g d : Nat)) hnew]
      refine ⟨⟨kd_ok, by rw [kd_len]; omega⟩, ⟨_, rfl⟩, by simp⟩
    · rintro σ s ⟨⟨c, rfl⟩, rfl⟩
      simp! only []
      exact ⟨⟨_, _, _, rfl⟩, by simp⟩
  · rintro σ s ⟨⟨a, b, c, rfl⟩, rfl⟩
    simp! only []
    rw [kd_len, h.len, rng2 he]
    simp! only []
    refine w_lcm (List.range e) _ (fun k => .tup [.int (tailOf g (2 * k) : Nat), .int (tailOf g (2 * k + 1) : Nat)]) (by simp; omega) ?_ ?_
    · intro k hk
      have hk := List.mem_range.1 hk
      simp! only [kd_okI, if_true]
      have e1 : ((2 * k : Nat) : Int) + 1 = ((2 * k + 1 : Nat) : Int) := by omega
      rw [e1, kd_get, kd_get, if_pos (h.mem.2 (by omega)), if_pos (h.mem.2 (by omega))]
      simp! only []
      omega
    · refine ⟨okP_app, ?_⟩
      have hE : ((List.range e).map fun k => D.tup [.int (tailOf g (2 * k) : Nat), .int (tailOf g (2 * k + 1) : Nat)]) = ev2 (ends g e) := by
        simp [ev2, ends]
      rw [hE]
      have : rback (st ++ [.dic (kd (fun d => .int (tailOf g d : Nat)) g.flatten)]) st.length (.lst (ev2 (ends g e))) = some (.lst (ev2 (ends g e))) := by
        simp only [rback, rbD, rbs_clean ev2_clean]; rfl
      rw [this]
      exact ⟨rfl, take0⟩
end Fs
namespace Fs
open PySem
/-! ### what edges connect -/
inductive Cx (R : Nat → Nat → Prop) : Nat → Nat → Prop where
  | refl (u : Nat) : Cx R u u
  | fwd {u v w : Nat} : Cx R u v → R v w → Cx R u w
  | bwd {u v w : Nat} : Cx R u v → R w v → Cx R u w
section
variable {R : Nat → Nat → Prop}
theorem Cx.trans {u v w : Nat} (h : Cx R u v) (h2 : Cx R v w) : Cx R u w := by
  induction h2 with
  | refl => exact h
  | fwd _ r ih => exact .fwd ih r
  | bwd _ r ih => exact .bwd ih r
theorem Cx.symm {u v : Nat} (h : Cx R u v) : Cx R v u := by
  induction h with
  | refl => exact .refl _
  | fwd _ r ih => exact (Cx.bwd (.refl _) r).trans ih
  | bwd _ r ih => exact (Cx.fwd (.refl _) r).trans ih
theorem Cx.mono {R' : Nat → Nat → Prop} (hR : ∀ u v, R u v → Cx R' u v) {u v : Nat} (h : Cx R u v) : Cx R' u v := by
  induction h with
  | refl => exact .refl _
  | fwd _ r ih => exact ih.trans (hR _ _ r)
  | bwd _ r ih => exact ih.trans (hR _ _ r).symm
end
open Classical in
noncomputable def lead (R : Nat → Nat → Prop) (m : Nat) : Bool := decide (∀ u, u < m → ¬ Cx R u m)
open Classical in
noncomputable def cls (R : Nat → Nat → Prop) (n m : Nat) : List Nat := (List.range n).filter fun v => decide (Cx R m v)
noncomputable def canU (R : Nat → Nat → Prop) (n i : Nat) : List (List Nat) := ((List.range i).filter (lead R)).map (cls R n)
noncomputable def canon (R : Nat → Nat → Prop) (n : Nat) : List (List Nat) := canU R n n
theorem mem_cls {R : Nat → Nat → Prop} {n m v : Nat} : v ∈ cls R n m ↔ v < n ∧ Cx R m v := by
  simp [cls, List.mem_filter]
theorem lead_iff {R : Nat → Nat → Prop} {m : Nat} : lead R m = true ↔ ∀ u, u < m → ¬ Cx R u m := by
  simp [lead]
theorem cls_sorted {R : Nat → Nat → Prop} {n m : Nat} : (cls R n m).Pairwise (· < ·) := List.Pairwise.filter _ List.pairwise_lt_range
/-- the least of its kind -/
theorem lead_ex {R : Nat → Nat → Prop} : ∀ v : Nat, ∃ m, m ≤ v ∧ lead R m = true ∧ Cx R m v := by
  intro v
  induction v using Nat.strongRecOn with
  | ind v ih =>
    by_cases h : lead R v = true
    · exact ⟨v, Nat.le_refl _, h, .refl _⟩
    · have h2 : ∃ u, u < v ∧ Cx R u v := by
        refine Classical.byContradiction fun hn => h (lead_iff.2 fun u hu hc => hn ⟨u, hu, hc⟩)
      obtain ⟨u, hu, hc⟩ := h2
      obtain ⟨m, hm, hl, hc2⟩ := ih u hu
      exact ⟨m, by omega, hl, hc2.trans hc⟩
theorem lead_uniq {R : Nat → Nat → Prop} {a b : Nat} (ha : lead R a = true) (hb : lead R b = true) (h : Cx R a b) : a = b := by
  rcases Nat.lt_trichotomy a b with hl | he | hl
  · exact absurd h (lead_iff.1 hb a hl)
  · exact he
  · exact absurd h.symm (lead_iff.1 ha b hl)
theorem canU_succ {R : Nat → Nat → Prop} {n i : Nat} : canU R n (i + 1) = canU R n i ++ (if lead R i then [cls R n i] else []) := by
  simp only [canU, List.range_succ, List.filter_append, List.map_append]
  by_cases h : lead R i = true
  · simp [h]
  · simp [h]
theorem canU_len {R : Nat → Nat → Prop} {n i : Nat} : (canU R n i).length ≤ i := by
  simp only [canU, List.length_map]
  exact Nat.le_trans (List.length_filter_le ..) (by simp)
/-! ### sorting -/
theorem insI_perm' (i : Int) : ∀ r : List Int, (insI i r).Perm (i :: r)
  | [] => .refl _
  | j :: r => by
    simp only [insI]
    split
    · exact (List.Perm.cons _ (insI_perm' i r)).trans (List.Perm.swap ..)
    · exact .refl _
theorem sortI_perm' : ∀ r : List Int, (sortI r).Perm r
  | [] => .refl _
  | i :: r => by
    simp only [sortI]
    exact (insI_perm' i _).trans (List.Perm.cons _ (sortI_perm' r))
theorem insI_sorted' (i : Int) : ∀ {r : List Int}, r.Pairwise (· ≤ ·) → (insI i r).Pairwise (· ≤ ·)
  | [], _ => by simp [insI]
  | j :: r, h => by
    simp only [insI]
    have h2 := List.pairwise_cons.1 h
    split
    · rename_i hj
      refine List.pairwise_cons.2 ⟨?_, insI_sorted' i h2.2⟩
      intro a ha
      rcases List.mem_cons.1 ((insI_perm' i r).mem_iff.1 ha) with rfl | ha
      · exact hj
      · exact h2.1 a ha
    · rename_i hj
      refine List.pairwise_cons.2 ⟨?_, h⟩
      intro a ha
      rcases List.mem_cons.1 ha with rfl | ha
      · omega
      · have := h2.1 a ha; omega
theorem sortI_sorted' : ∀ r : List Int, (sortI r).Pairwise (· ≤ ·)
  | [] => .nil
  | i :: r => by simp only [sortI]; exact insI_sorted' i (sortI_sorted' r)
theorem sortI_eq {r q : List Int} (hp : r.Perm q) (hq : q.Pairwise (· < ·)) : sortI r = q :=
  List.Perm.eq_of_pairwise (le := (· ≤ ·)) (fun a b _ _ h1 h2 => by omega) (sortI_sorted' r) (hq.imp fun h => by omega) ((sortI_perm' r).trans hp)
abbrev toZ (L : List Nat) : List Int := L.map fun (n : Nat) => (n : Int)
theorem toZ_sorted {L : List Nat} (h : L.Pairwise (· < ·)) : (toZ L).Pairwise (· < ·) := by
  rw [List.pairwise_map]
  exact h.imp fun h => by omega
theorem nd_of_lt {L : List Nat} (h : L.Pairwise (· < ·)) : L.Nodup := h.imp fun h => by omega
theorem sort_nat {P q : List Nat} (hP : P.Nodup) (hq : q.Pairwise (· < ·)) (hm : ∀ v, v ∈ P ↔ v ∈ q) : (sortI (toZ P)).map D.int = nv q := by
  rw [sortI_eq (q := toZ q) (((List.perm_ext_iff_of_nodup hP (nd_of_lt hq)).2 hm).map _) (toZ_sorted hq), nv_ints]
/-! ### the edges of a graph -/
def Ed (g : List (List Nat)) (e : Nat) (u v : Nat) : Prop := (u, v) ∈ ends g e
theorem Gr.at {g : List (List Nat)} {e d : Nat} (h : Gr g e) (hd : d < 2 * e) : ∃ r, g[tailOf g d]? = some r ∧ d ∈ r := by
  obtain ⟨r, hr, hdr⟩ := List.mem_flatten.1 (h.mem.2 hd)
  obtain ⟨pre, post, rfl⟩ := List.append_of_mem hr
  refine ⟨r, ?_, hdr⟩
  rw [tail_at hdr h.nd]
  simp
theorem Gr.tail_lt {g : List (List Nat)} {e d : Nat} (h : Gr g e) (hd : d < 2 * e) : tailOf g d < g.length := by
  obtain ⟨r, hr, _⟩ := h.at hd
  exact (List.getElem?_eq_some_iff.1 hr).1
theorem Gr.tail_of {g : List (List Nat)} {e d u : Nat} {r : List Nat} (h : Gr g e) (hr : g[u]? = some r) (hd : d ∈ r) : tailOf g d = u ∧ d < 2 * e := by
  have hs := split_at hr
  have hu : u < g.length := (List.getElem?_eq_some_iff.1 hr).1
  refine ⟨?_, h.lt hs hd⟩
  have := tail_at (pre := g.take u) (post := g.drop (u + 1)) hd (hs ▸ h.nd)
  rw [← hs, List.length_take] at this
  omega
theorem opp_lt {d e : Nat} (h : d < 2 * e) : opp d < 2 * e := by
  unfold opp; split <;> omega
theorem opp_opp (d : Nat) : opp (opp d) = d := by
  unfold opp; split <;> split <;> omega
theorem mem_ends {g : List (List Nat)} {e u v : Nat} : Ed g e u v ↔ ∃ k, k < e ∧ tailOf g (2 * k) = u ∧ tailOf g (2 * k + 1) = v := by
  simp only [Ed, ends, List.mem_map, List.mem_range, Prod.mk.injEq]
theorem adj_of {g : List (List Nat)} {e d u : Nat} {r : List Nat} (h : Gr g e) (hr : g[u]? = some r) (hd : d ∈ r) : Cx (Ed g e) u (tailOf g (opp d)) := by
  obtain ⟨h1, h2⟩ := h.tail_of hr hd
  by_cases hp : d % 2 = 0
  · have : opp d = 2 * (d / 2) + 1 := by unfold opp; rw [if_pos hp]; omega
    refine .fwd (.refl _) (mem_ends.2 ⟨d / 2, by omega, ?_, by rw [this]⟩)
    rw [← h1]; congr 1; omega
  · have : opp d = 2 * (d / 2) := by unfold opp; rw [if_neg hp]; omega
    refine .bwd (.refl _) (mem_ends.2 ⟨d / 2, by omega, by rw [this], ?_⟩)
    rw [← h1]; congr 1; omega
/-- a set that holds all neighbours holds all that is connected -/
theorem closed_of {g : List (List Nat)} {e : Nat} (h : Gr g e) {S : Nat → Prop} (hS : ∀ u r d, S u → g[u]? = some r → d ∈ r → S (tailOf g (opp d))) {u v : Nat} (hu : S u) (hc : Cx (Ed g e) u v) : S v := by
  induction hc with
  | refl => exact hu
  | fwd _ r ih =>
    obtain ⟨k, hk, rfl, rfl⟩ := mem_ends.1 r
    obtain ⟨r, hr, hd⟩ := h.at (d := 2 * k) (by omega)
    have := hS _ r (2 * k) ih hr hd
    have ho : opp (2 * k) = 2 * k + 1 := by unfold opp; rw [if_pos (by omega)]
    rwa [ho] at this
  | bwd _ r ih =>
    obtain ⟨k, hk, rfl, rfl⟩ := mem_ends.1 r
    obtain ⟨r, hr, hd⟩ := h.at (d := 2 * k + 1) (by omega)
    have := hS _ r (2 * k + 1) ih hr hd
    have ho : opp (2 * k + 1) = 2 * k := by unfold opp; rw [if_neg (by omega)]; omega
    rwa [ho] at this
theorem cx_lt {g : List (List Nat)} {e : Nat} (h : Gr g e) {u v : Nat} (hu : u < g.length) (hc : Cx (Ed g e) u v) : v < g.length :=
  closed_of h (S := fun v => v < g.length) (fun u r d _ hr hd => h.tail_lt (opp_lt (h.tail_of hr hd).2)) hu hc
theorem range_split {n c : Nat} {pre post : List Nat} (h : List.range n = pre ++ c :: post) : pre = List.range c ∧ c < n ∧ pre.length = c := by
  have hl : pre.length < n := by
    have := congrArg List.length h
    simp at this
    omega
  have h1 : (List.range n)[pre.length]? = some c := by rw [h]; simp
  rw [List.getElem?_range hl] at h1
  have hc : pre.length = c := by simpa using h1
  have h2 : (List.range n).take pre.length = pre := by rw [h]; simp
  rw [List.take_range, Nat.min_eq_left (Nat.le_of_lt hl), hc] at h2
  exact ⟨h2.symm, by omega, hc⟩
/-! ### lists of numbers as data -/
theorem optL_map {γ α β : Type} {f : α → Option β} {h : γ → α} {k : γ → β} (hf : ∀ c, f (h c) = some (k c)) : ∀ L : List γ, optL f (L.map h) = some (L.map k)
  | [] => rfl
  | a :: L => by simp only [List.map_cons, optL, hf, optL_map hf L]
def pn (L : List Nat) : List PyData := L.map fun (n : Nat) => PyData.int (n : Int)
def pt (g : List (List Nat)) : List PyData := g.map fun r => PyData.tuple (pn r)
theorem pn_nil : pn [] = [] := rfl
theorem pt_nil : pt [] = [] := rfl
theorem pn_cons {a : Nat} {L : List Nat} : pn (a :: L) = .int (a : Int) :: pn L := rfl
theorem pt_cons {a : List Nat} {L : List (List Nat)} : pt (a :: L) = .tuple (pn a) :: pt L := rfl
theorem toP_int {z : Bool} {s : Sto} {k : Nat} {i : Int} : toP z s (k + 1) (.int i) = some (.int i) := rfl
theorem toP_tup {z : Bool} {s : Sto} {k : Nat} {xs : List D} : toP z s (k + 1) (.tup xs) = (optL (toP z s k) xs).map .tuple := rfl
theorem toP_lst {z : Bool} {s : Sto} {k : Nat} {xs : List D} : toP z s (k + 1) (.lst xs) = (optL (toP z s k) xs).map .list := rfl
theorem toP_ref {z : Bool} {s : Sto} {k l : Nat} {xs : List D} (h : s[l]? = some (.lst xs)) : toP z s (k + 1) (.ref l) = (optL (toP z s k) xs).map .list := by
  simp only [toP, h]
theorem toP_nv {z : Bool} {s : Sto} {k : Nat} {L : List Nat} : optL (toP z s (k + 1)) (nv L) = some (pn L) := optL_map (fun c => toP_int) L
theorem toP_tv {z : Bool} {s : Sto} {k : Nat} {g : List (List Nat)} : optL (toP z s (k + 2)) (tv g) = some (pt g) := optL_map (fun c => by rw [toP_tup, toP_nv]; rfl) g
theorem pn_lay : ∀ L : List Nat, PyData.canLayAll0 (pn L) = true
  | [] => by simp [pn_nil, pt_nil, pn_cons, pt_cons, PyData.canLayAll0]
  | a :: L => by
    have := pn_lay L
    simp [pn_nil, pt_nil, pn_cons, pt_cons, PyData.canLayAll0, PyData.canLay0, this]
theorem pn_depth : ∀ L : List Nat, PyData.depthAll (pn L) ≤ 1
  | [] => by simp [pn_nil, pt_nil, pn_cons, pt_cons, PyData.depthAll]
  | a :: L => by
    have := pn_depth L
    simp only [pn_cons, PyData.depthAll, PyData.depth]
    omega
theorem pt_lay : ∀ L : List (List Nat), PyData.canLayAll0 (pt L) = true
  | [] => by simp [pn_nil, pt_nil, pn_cons, pt_cons, PyData.canLayAll0]
  | a :: L => by
    have := pt_lay L
    simp [pn_nil, pt_nil, pn_cons, pt_cons, PyData.canLayAll0, PyData.canLay0, this, pn_lay]
theorem pt_depth : ∀ L : List (List Nat), PyData.depthAll (pt L) ≤ 2
  | [] => by simp [pn_nil, pt_nil, pn_cons, pt_cons, PyData.depthAll]
  | a :: L => by
    have := pt_depth L
    have := pn_depth a
    simp only [pt_cons, PyData.depthAll, PyData.depth]
    omega
theorem eqvAll_pn : ∀ L : List Nat, PyData.eqvAll (pn L) (pn L) = true
  | [] => by simp [pn_nil, pt_nil, pn_cons, pt_cons, PyData.eqvAll]
  | a :: L => by
    have := eqvAll_pn L
    simp [pn_nil, pt_nil, pn_cons, pt_cons, PyData.eqvAll, PyData.eqv, this]
theorem eqvAll_pt : ∀ L : List (List Nat), PyData.eqvAll (pt L) (pt L) = true
  | [] => by simp [pn_nil, pt_nil, pn_cons, pt_cons, PyData.eqvAll]
  | a :: L => by
    have := eqvAll_pt L
    simp [pn_nil, pt_nil, pn_cons, pt_cons, PyData.eqvAll, PyData.eqv, this, eqvAll_pn]
theorem eq_tv {s : Sto} {g : List (List Nat)} : eqD s (.tup (tv g)) (.tup (tv g)) = some true := by
  have h1 : toP false s 66 (.tup (tv g)) = some (.tuple (pt g)) := by rw [toP_tup, toP_tv]; rfl
  have h2 : SeqAt.shaped (.tuple (pt g)) = true := by
    have h := pt_depth g
    have hd : PyData.depth (.tuple (pt g)) ≤ 64 := by simp only [PyData.depth]; omega
    simp [SeqAt.shaped, PyData.canLay0, pt_lay, hd]
  simp only [eqD, h1]
  rw [if_pos ⟨h2, h2⟩]
  simp only [PyData.eqv, eqvAll_pt]
theorem eq_nil {s : Sto} {l : Nat} {W : List Nat} (h : s[l]? = some (.lst (nv W))) : eqD s (.ref l) (.lst []) = some W.isEmpty := by
  have h1 : toP false s 66 (.ref l) = some (.list (pn W)) := by rw [toP_ref h, toP_nv]; rfl
  have h0 : toP false s 66 (.lst []) = some (.list []) := rfl
  have h2 : SeqAt.shaped (.list (pn W)) = true := by
    have h := pn_depth W
    have hd : PyData.depth (.list (pn W)) ≤ 64 := by simp only [PyData.depth]; omega
    simp [SeqAt.shaped, PyData.canLay0, pn_lay, hd]
  have h3 : SeqAt.shaped (.list []) = true := by decide
  simp only [eqD, h1, h0]
  rw [if_pos ⟨h2, h3⟩]
  cases W with
  | nil => simp [pn_nil, pt_nil, pn_cons, pt_cons, PyData.eqv, PyData.eqvAll]
  | cons a W => simp [pn_nil, pt_nil, pn_cons, pt_cons, PyData.eqv, PyData.eqvAll]
end Fs
namespace Fs
open PySem
section
variable {st J r : Sto} {a b c p w x : D}
theorem pA : (st ++ a :: b :: c :: (J ++ p :: r))[st.length + (J.length + 1 + 1 + 1)]? = some p := by
  rw [List.getElem?_append_right (by omega)]
  simp
theorem wA : (st ++ a :: b :: c :: (J ++ p :: w :: r))[st.length + (J.length + 1 + 1 + 1 + 1)]? = some w := by
  rw [List.getElem?_append_right (by omega)]
  simp [List.getElem?_cons, List.getElem?_append]
theorem pS : (st ++ a :: b :: c :: (J ++ p :: r)).set (st.length + (J.length + 1 + 1 + 1)) x = st ++ a :: b :: c :: (J ++ x :: r) := by
  rw [List.set_append_right _ _ (by omega)]
  simp
theorem wS : (st ++ a :: b :: c :: (J ++ p :: w :: r)).set (st.length + (J.length + 1 + 1 + 1 + 1)) x = st ++ a :: b :: c :: (J ++ p :: x :: r) := by
  rw [List.set_append_right _ _ (by omega)]
  simp [List.set_append, show J.length + 1 - J.length = 1 by omega]
end
theorem nv_last {W : List Nat} {v : Nat} : (nv (W ++ [v]))[(nv (W ++ [v])).length - 1]? = some (.int (v : Int)) := by
  rw [nv_len, nv_get]
  simp
theorem nv_last' {W : List Nat} {v : Nat} : (nv (W ++ [v]))[W.length + 1 - 1]? = some (.int (v : Int)) := by
  rw [nv_get]
  simp
theorem nv_dropLast {W : List Nat} {v : Nat} : (nv (W ++ [v])).dropLast = nv W := by
  rw [nv_app, nv_one, List.dropLast_concat]
theorem srt_ints {s : Sto} {d : D} {ns : List Int} {Q : D → Sto → Prop} {E : D → Sto → Prop} (h : lInt s d = some ns) : wp (fSorted d) s Q E = Q (.lst ((sortI ns).map .int)) s := by
  simp only [wp, fSorted, h, wr]
theorem lInt_ref {s : Sto} {l : Nat} {xs : List D} (h : s[l]? = some (.lst xs)) : lInt s (.ref l) = optL intv xs := by
  simp only [lInt, seqv, h]
theorem snoc_cases (W : List Nat) : W = [] ∨ ∃ V v, W = V ++ [v] := by
  rcases List.eq_nil_or_concat W with h | ⟨V, v, h⟩
  · exact .inl h
  · exact .inr ⟨V, v, by rw [h, List.concat_eq_append]⟩
theorem nodup_len : ∀ {n : Nat} {L : List Nat}, L.Nodup → (∀ v, v ∈ L → v < n) → L.length ≤ n
  | 0, L, _, h => by
    cases L with
    | nil => simp
    | cons a L => exact absurd (h a (List.mem_cons_self ..)) (by omega)
  | n + 1, L, hn, h => by
    have h1 : (L.erase n).length ≤ n := nodup_len (hn.erase n) fun v hv => by
      have h2 := hn.mem_erase_iff.1 hv
      have := h v h2.2
      omega
    have h3 : L.length ≤ (L.erase n).length + 1 := by
      rw [List.length_erase]
      split <;> omega
    omega
theorem canU_app {R : Nat → Nat → Prop} {n i : Nat} (h : lead R i = true) : tv (canU R n i) ++ [.tup (nv (cls R n i))] = tv (canU R n (i + 1)) := by
  rw [canU_succ, if_pos h, tv, tv, List.map_append]; rfl
theorem k_list (n : Nat) {g : List (List Nat)} {e : Nat} (h : Gr g e) (st : Sto) : wp (call P (n + 3) F.component_list [.tup (tv g)]) st (fun r s' => r = .lst (tv (canon (Ed g e) g.length)) ∧ s' = st) NX := by
  have hsl := sl_ge
  have hn := h.n
  have he := h.e
  refine w_call (F := c_component_list) rfl rfl ?_
  unfold c_component_list
  simp! only [la_tup tv_purs]
  refine wp_nx (k_tails (n := n) h st) ?_
  rintro d s' ⟨rfl, rfl⟩
  refine ⟨by omega, by omega, ?_⟩
  simp! only [la_lst nv_purs, tv_len]
  rw [rngL1 (by omega)]
  simp! only []
  refine w_forP (List.range g.length) _ (fun pre σ s => (∃ x4 x5 x6 x7 x8 x9, σ = [some (.tup (tv g)), some (.ref s'.length), some (.ref (s'.length + 1)), some (.ref (s'.length + 2)), x4, x5, x6, x7, x8, x9]) ∧ ∃ (S : List Nat) (J : Sto), s = s' ++ .lst (nv (tails g e)) :: .lst (tv (canU (Ed g e) g.length pre.length)) :: .dic (kd (fun _ => .bl true) S) :: J ∧ S.Nodup ∧ ∀ v, v ∈ S ↔ v < g.length ∧ ∃ u, u < pre.length ∧ Cx (Ed g e) u v) ⟨⟨_, _, _, _, _, _, rfl⟩, [], [], rfl, .nil, by simp⟩ ?_ ?_
  · rintro pre start post σ s hr ⟨⟨x4, x5, x6, x7, x8, x9, rfl⟩, S, J, rfl, hSn, hS⟩
    obtain ⟨hpre, hstart, hlen⟩ := range_split hr
    rw [hlen] at hS ⊢
    have hlen2 : (pre ++ [start]).length = start + 1 := by simp [hlen]
    rw [hlen2]
    simp! only []
    rw [kd_isIn (f := fun _ => .bl true) (L := S) sg2]
    simp! only [Option.map_some, truth]
    refine wb_of ?_ ?_
    · intro hs
      have hs : start ∉ S := by simpa using hs
      have hlead : lead (Ed g e) start = true := lead_iff.2 fun u hu hc => hs ((hS start).2 ⟨hstart, u, hu, hc⟩)
      have hSl : S.length ≤ g.length := by
        exact nodup_len hSn fun v hv => ((hS v).1 hv).1
      refine ⟨by omega, by omega, by omega, ?_⟩
      simp! only [la_lst (xs := [.int (start : Int)]) rfl]
      rw [kd_key]
      simp! only []
      rw [kd_put (f := fun _ => .bl true) hs]
      refine ⟨⟨kd_ok, by rw [kd_len]; omega⟩, ?_⟩
      refine w_wh (fun k σ s => ∃ (S' P' W : List Nat) (x7 x8 x9 : Option D), σ = [some (.tup (tv g)), some (.ref s'.length), some (.ref (s'.length + 1)), some (.ref (s'.length + 2)), some (.int start), some (.ref (s'.length + (J.length + 1 + 1 + 1))), some (.ref (s'.length + (J.length + 1 + 1 + 1 + 1))), x7, x8, x9] ∧ s = s' ++ .lst (nv (tails g e)) :: .lst (tv (canU (Ed g e) g.length start)) :: .dic (kd (fun _ => .bl true) S') :: (J ++ [.lst (nv P'), .lst (nv W)]) ∧ k = g.length - P'.length ∧ S'.Nodup ∧ (∀ v, v ∈ S' ↔ v ∈ S ∨ v ∈ P' ∨ v ∈ W) ∧ (P' ++ W).Nodup ∧ (∀ v, v ∈ P' ∨ v ∈ W → v < g.length ∧ Cx (Ed g e) start v ∧ v ∉ S) ∧ (∀ u r d, u ∈ P' → g[u]? = some r → d ∈ r → tailOf g (opp d) ∈ S') ∧ (start ∈ P' ∨ start ∈ W)) ?_ wfuel g.length _ _ ?_ (by rw [show wfuel = 1000000 from rfl]; omega)
      · rintro k σ s ⟨S', P', W, x7, x8, x9, rfl, rfl, rfl, hSn', hS', hPW, hcx, hcl, hst⟩
        have hPl : (P' ++ W).length ≤ g.length := by
          exact nodup_len hPW fun v hv => (hcx v (by simpa using hv)).1
        rw [List.length_append] at hPl
        simp! only []
        refine ⟨by omega, ?_⟩
        rw [eq_nil (W := W) wA]
        simp! only [Option.map_some, truth]
        rcases snoc_cases W with rfl | ⟨W, node, rfl⟩
        · simp! only [List.isEmpty_nil]
          rw [srt_ints ((lInt_ref pA).trans optL_nv)]
          simp! only [seqv]
          have hP : ∀ v, v ∈ P' ↔ v ∈ cls (Ed g e) g.length start := by
            intro v
            rw [mem_cls]
            constructor
            · intro hv
              exact ⟨(hcx v (.inl hv)).1, (hcx v (.inl hv)).2.1⟩
            · rintro ⟨_, hv⟩
              have hs0 : start ∈ P' := by simpa using hst
              refine closed_of h (S := fun v => v ∈ P') ?_ hs0 hv
              intro u r d hu hr hd
              have h1 := hcl u r d hu hr hd
              rcases (hS' _).1 h1 with h2 | h2 | h2
              · exfalso
                obtain ⟨_, u0, hu0, hc0⟩ := (hS _).1 h2
                have h3 := hcx u (.inl hu)
                exact h3.2.2 ((hS u).2 ⟨h3.1, u0, hu0, hc0.trans (adj_of h hr hd).symm⟩)
              · exact h2
              · simp at h2
          rw [sort_nat (by simpa using hPW) cls_sorted hP]
          simp! only [tv_len]
          refine ⟨by have := canU_len (R := Ed g e) (n := g.length) (i := start); omega, ?_⟩
          rw [la_tup nv_purs]
          simp! only []
          rw [canU_app hlead]
          refine ⟨⟨_, _, _, _, _, _, rfl⟩, S', _, rfl, hSn', ?_⟩
          intro v
          rw [hS', hS, hP, mem_cls]
          constructor
          · rintro (⟨h1, u, h2, h3⟩ | ⟨h1, h2⟩ | h1)
            · exact ⟨h1, u, by omega, h3⟩
            · exact ⟨h1, start, by omega, h2⟩
            · simp at h1
          · rintro ⟨h1, u, h2, h3⟩
            by_cases hu : u = start
            · subst hu; exact .inr (.inl ⟨h1, h3⟩)
            · exact .inl ⟨h1, u, by omega, h3⟩
        · have hne : (W ++ [node]).isEmpty = false := by simp
          have hnode := hcx node (.inr (by simp))
          have hg : g[node]? = some g[node] := List.getElem?_eq_getElem hnode.1
          rw [hne]
          rw [List.length_append, List.length_cons, List.length_nil] at hPl
          simp! only [wA, pA, wS, pS, nv_last', nv_dropLast, nv_len, atI_nat, tv_get, hg, Option.map_some]
          rw [← nv_one, ← nv_app]
          refine ⟨by omega, by omega, ?_⟩
          have hPn : (P' ++ [node] ++ W).Nodup := by
            have : (P' ++ [node] ++ W).Perm (P' ++ (W ++ [node])) := by
              rw [List.append_assoc]
              exact List.Perm.append_left _ List.perm_append_comm
            exact this.nodup_iff.2 hPW
          refine w_forP g[node] _ (fun pr σ s => ∃ (S' W : List Nat) (x8 x9 : Option D), σ = [some (.tup (tv g)), some (.ref s'.length), some (.ref (s'.length + 1)), some (.ref (s'.length + 2)), some (.int start), some (.ref (s'.length + (J.length + 1 + 1 + 1))), some (.ref (s'.length + (J.length + 1 + 1 + 1 + 1))), some (.int (node : Int)), x8, x9] ∧ s = s' ++ .lst (nv (tails g e)) :: .lst (tv (canU (Ed g e) g.length start)) :: .dic (kd (fun _ => .bl true) S') :: (J ++ [.lst (nv (P' ++ [node])), .lst (nv W)]) ∧ S'.Nodup ∧ (∀ v, v ∈ S' ↔ v ∈ S ∨ v ∈ P' ++ [node] ∨ v ∈ W) ∧ (P' ++ [node] ++ W).Nodup ∧ (∀ v, v ∈ P' ++ [node] ∨ v ∈ W → v < g.length ∧ Cx (Ed g e) start v ∧ v ∉ S) ∧ (∀ u r d, u ∈ P' → g[u]? = some r → d ∈ r → tailOf g (opp d) ∈ S') ∧ (∀ d, d ∈ pr → tailOf g (opp d) ∈ S') ∧ (start ∈ P' ++ [node] ∨ start ∈ W)) ⟨S', W, _, _, rfl, rfl, hSn', ?_, hPn, ?_, hcl, by simp, ?_⟩ ?_ ?_
          · intro v
            rw [hS']
            simp only [List.mem_append, List.mem_singleton]
            constructor
            · rintro (h1 | h1 | h1 | h1)
              · exact .inl h1
              · exact .inr (.inl (.inl h1))
              · exact .inr (.inr h1)
              · exact .inr (.inl (.inr h1))
            · rintro (h1 | (h1 | h1) | h1)
              · exact .inl h1
              · exact .inr (.inl h1)
              · exact .inr (.inr (.inr h1))
              · exact .inr (.inr (.inl h1))
          · intro v hv
            refine hcx v ?_
            simp only [List.mem_append, List.mem_singleton] at hv ⊢
            rcases hv with (h1 | h1) | h1
            · exact .inl h1
            · exact .inr (.inr h1)
            · exact .inr (.inl h1)
          · simp only [List.mem_append, List.mem_singleton] at hst ⊢
            rcases hst with h1 | h1 | h1
            · exact .inl (.inl h1)
            · exact .inr h1
            · exact .inl (.inr h1)
          · rintro pr d po σ s hrr ⟨S', W, x8, x9, rfl, rfl, hSn', hS', hPn, hcx, hcl, hpr, hst⟩
            have hdr : d ∈ g[node] := by rw [hrr]; simp
            have hd := h.tail_of hg hdr
            have hfar := h.tail_lt (opp_lt hd.2)
            have hPl : (P' ++ [node] ++ W).length ≤ g.length := by
              exact nodup_len hPn fun v hv => (hcx v (by simpa [or_assoc] using hv)).1
            have hSl : S'.length ≤ g.length := by
              exact nodup_len hSn' fun v hv => by
                rcases (hS' v).1 hv with h1 | h1
                · exact ((hS v).1 h1).1
                · exact (hcx v h1).1
            have hPl2 : W.length ≤ g.length := by
              rw [List.length_append] at hPl; omega
            simp! only []
            refine wp_nx (k_opp (n := n + 1) d _) ?_
            rintro d' s2 ⟨rfl, rfl⟩
            simp! only []
            rw [atI_nat, nv_get, tails_get (opp_lt hd.2)]
            simp! only [Option.map_some]
            rw [kd_isIn (f := fun _ => .bl true) (L := S') sg2]
            simp! only [Option.map_some, truth]
            refine wb_of ?_ ?_
            · intro hs
              have hs : tailOf g (opp d) ∉ S' := by simpa using hs
              rw [kd_key]
              simp! only [wA, wS, nv_len]
              rw [kd_put (f := fun _ => .bl true) hs, ← nv_one, ← nv_app]
              have hs2 : tailOf g (opp d) ∉ S ∧ tailOf g (opp d) ∉ P' ++ [node] ∧ tailOf g (opp d) ∉ W := by
                refine ⟨fun q => hs ((hS' _).2 (.inl q)), fun q => hs ((hS' _).2 (.inr (.inl q))), fun q => hs ((hS' _).2 (.inr (.inr q)))⟩
              refine ⟨⟨kd_ok, by rw [kd_len]; omega⟩, by omega, S' ++ [tailOf g (opp d)], W ++ [tailOf g (opp d)], _, _, rfl, rfl, ?_, ?_, ?_, ?_, ?_, ?_, ?_⟩
              · refine List.nodup_append.2 ⟨hSn', by simp, ?_⟩
                intro a ha b hb hab
                simp only [List.mem_singleton] at hb
                subst hab; subst hb
                exact hs ha
              · intro v
                simp only [List.mem_append, List.mem_singleton, hS']
                constructor
                · rintro ((h1 | h1 | h1) | h1)
                  · exact .inl h1
                  · exact .inr (.inl h1)
                  · exact .inr (.inr (.inl h1))
                  · exact .inr (.inr (.inr h1))
                · rintro (h1 | h1 | h1 | h1)
                  · exact .inl (.inl h1)
                  · exact .inl (.inr (.inl h1))
                  · exact .inl (.inr (.inr h1))
                  · exact .inr h1
              · have h00 : ((P' ++ [node] ++ W) ++ [tailOf g (opp d)]).Nodup → (P' ++ node :: (W ++ [tailOf g (opp d)])).Nodup := fun q => by simpa using q
                refine h00 ?_
                refine List.nodup_append.2 ⟨hPn, by simp, ?_⟩
                intro a ha b hb hab
                simp only [List.mem_singleton] at hb
                subst hab; subst hb
                rcases List.mem_append.1 ha with h1 | h1
                · exact hs2.2.1 h1
                · exact hs2.2.2 h1
              · rintro v (hv | hv)
                · exact hcx v (.inl hv)
                · rcases List.mem_append.1 hv with h1 | h1
                  · exact hcx v (.inr h1)
                  · simp only [List.mem_singleton] at h1
                    subst h1
                    exact ⟨hfar, hnode.2.1.trans (adj_of h hg hdr), hs2.1⟩
              · intro u r d hu hr hd
                exact List.mem_append_left _ (hcl u r d hu hr hd)
              · intro x hx
                rcases List.mem_append.1 hx with h1 | h1
                · exact List.mem_append_left _ (hpr x h1)
                · simp only [List.mem_singleton] at h1
                  subst h1
                  simp
              · rcases hst with h1 | h1
                · exact .inl h1
                · exact .inr (List.mem_append_left _ h1)
            · intro hs
              have hs : tailOf g (opp d) ∈ S' := by simpa using hs
              refine ⟨S', W, _, _, rfl, rfl, hSn', hS', by simpa using hPn, hcx, hcl, ?_, hst⟩
              intro x hx
              rcases List.mem_append.1 hx with h1 | h1
              · exact hpr x h1
              · simp only [List.mem_singleton] at h1
                subst h1
                exact hs
          · rintro σ s ⟨S', W, x8, x9, rfl, rfl, hSn', hS', hPn, hcx, hcl, hpr, hst⟩
            simp! only []
            have hPl3 : (P' ++ [node]).length = P'.length + 1 := by simp
            refine ⟨g.length - (P' ++ [node]).length, by omega, S', P' ++ [node], W, _, _, _, rfl, rfl, rfl, hSn', hS', hPn, hcx, ?_, hst⟩
            intro u r d hu hr hd
            rcases List.mem_append.1 hu with h1 | h1
            · exact hcl u r d h1 hr hd
            · simp only [List.mem_singleton] at h1
              subst h1
              rw [hg] at hr
              cases hr
              exact hpr d hd
      · refine ⟨S ++ [start], [], [start], _, _, _, rfl, by rw [nv_one]; rfl, rfl, ?_, ?_, by simp, ?_, by simp, .inr (by simp)⟩
        · refine List.nodup_append.2 ⟨hSn, by simp, ?_⟩
          intro a ha b hb hab
          simp only [List.mem_singleton] at hb
          subst hab; subst hb
          exact hs ha
        · intro v; simp
        · rintro v (hv | hv)
          · simp at hv
          · simp only [List.mem_singleton] at hv
            subst hv
            exact ⟨hstart, .refl _, hs⟩
    · intro hs
      have hs : start ∈ S := by simpa using hs
      obtain ⟨_, u0, hu0, hc0⟩ := (hS start).1 hs
      have hl : lead (Ed g e) start = false := by
        cases hq : lead (Ed g e) start with
        | false => rfl
        | true => exact absurd hc0 (lead_iff.1 hq u0 hu0)
      refine ⟨⟨_, _, _, _, _, _, rfl⟩, S, J, ?_, hSn, ?_⟩
      · rw [canU_succ, hl]; simp
      · intro v
        rw [hS]
        constructor
        · rintro ⟨h1, u, h2, h3⟩
          exact ⟨h1, u, by omega, h3⟩
        · rintro ⟨h1, u, h2, h3⟩
          by_cases hu : u = start
          · subst hu; exact ⟨h1, u0, hu0, hc0.trans h3⟩
          · exact ⟨h1, u, by omega, h3⟩
  · rintro σ s ⟨⟨x4, x5, x6, x7, x8, x9, rfl⟩, S, J, rfl, hSn, hS⟩
    simp! only []
    refine ⟨okP_app, ?_⟩
    rw [rk_lst (by omega) sg1 tv_clean]
    rw [List.length_range]
    exact ⟨rfl, take0⟩
end Fs
namespace Fs
open PySem
theorem rk_val {s : Sto} {b : Nat} {xs : List D} (h : D.cleans xs = true) : rback s b (.lst xs) = some (.lst xs) := by
  simp only [rback, rbD, rbs_clean h]; rfl
theorem k_comp (n : Nat) {g : List (List Nat)} {e : Nat} (h : Gr g e) (st : Sto) : wp (call P (n + 4) F.components [.tup (tv g)]) st (fun r s' => r = .tup (tv (canon (Ed g e) g.length)) ∧ s' = st) NX := by
  refine w_call (F := c_components) rfl rfl ?_
  unfold c_components
  simp! only [la_tup tv_purs]
  refine wp_nx (k_check (n := n) h st) ?_
  rintro d s' ⟨rfl, rfl⟩
  refine wp_nx (k_list (n := n) h _) ?_
  rintro d s2 ⟨rfl, rfl⟩
  simp! only [seqv]
  refine ⟨okP_self, ?_⟩
  rw [rk_clean gv_clean]
  exact ⟨rfl, by simp⟩
/-- a source of numbers -/
def src (a b c : Int) : D := .lst [.int a, .int b, .int c]
/-- the source stands at l with a small counter -/
def Sr (st : Sto) (l : Nat) (N : Int) : Prop := ∃ a b c, st[l]? = some (src a b c) ∧ 0 ≤ b ∧ b ≤ N
/-- the source went on -/
def Up (st st' : Sto) (l : Nat) (N : Int) : Prop := ∃ a b c, st' = st.set l (src a b c) ∧ 0 ≤ b ∧ b ≤ N
theorem Up.sr {st st' : Sto} {l : Nat} {N : Int} (h : Up st st' l N) (hl : l < st.length) : Sr st' l N := by
  obtain ⟨a, b, c, rfl, h1, h2⟩ := h
  exact ⟨a, b, c, by simp [hl], h1, h2⟩
theorem Up.trans {st st' st2 : Sto} {l : Nat} {N M : Int} (h : Up st st' l N) (h2 : Up st' st2 l M) : Up st st2 l M := by
  obtain ⟨a, b, c, rfl, _, _⟩ := h
  obtain ⟨a', b', c', rfl, h3, h4⟩ := h2
  exact ⟨a', b', c', by simp, h3, h4⟩
theorem Up.len {st st' : Sto} {l : Nat} {N : Int} (h : Up st st' l N) : st'.length = st.length := by
  obtain ⟨a, b, c, rfl, _, _⟩ := h
  simp
theorem Sr.lt {st : Sto} {l : Nat} {N : Int} (h : Sr st l N) : l < st.length := by
  obtain ⟨a, b, c, h, _⟩ := h
  exact (List.getElem?_eq_some_iff.1 h).1
theorem Sr.up {st : Sto} {l : Nat} {N : Int} (h : Sr st l N) : Up st st l N := by
  have hl := h.lt
  obtain ⟨a, b, c, h, h1, h2⟩ := h
  refine ⟨a, b, c, ?_, h1, h2⟩
  have : st[l] = src a b c := by
    rw [List.getElem?_eq_getElem hl] at h
    exact Option.some.inj h
  rw [← this]; simp
theorem Sr.mono {st : Sto} {l : Nat} {N M : Int} (h : Sr st l N) (hNM : N ≤ M) : Sr st l M := by
  obtain ⟨a, b, c, h, h1, h2⟩ := h
  exact ⟨a, b, c, h, h1, by omega⟩
theorem Up.mono {st st' : Sto} {l : Nat} {N M : Int} (h : Up st st' l N) (hNM : N ≤ M) : Up st st' l M := by
  obtain ⟨a, b, c, h, h1, h2⟩ := h
  exact ⟨a, b, c, h, h1, by omega⟩
theorem src_cl {b : Nat} {x y z : Int} : cellCl b (src x y z) = true := rfl
theorem sgk {st r : Sto} {k : Nat} : (st ++ r)[st.length + k]? = r[k]? := by
  rw [List.getElem?_append_right (by omega)]; simp
/-- the primes of the laws' sources -/
def primes : List Int := [2147483647, 2147483629, 2147483587, 2147483579, 2147483563, 2147483549, 2147483543, 2147483497, 2147483489, 2147483477, 2147483423]
theorem prime_at {k : Int} (h0 : 0 ≤ k) (h : k < 11) : ∃ q, L2.atI (primes.map D.int) k = some (.int q) ∧ 2147483423 ≤ q ∧ q ≤ 2147483647 := by
  have : k = 0 ∨ k = 1 ∨ k = 2 ∨ k = 3 ∨ k = 4 ∨ k = 5 ∨ k = 6 ∨ k = 7 ∨ k = 8 ∨ k = 9 ∨ k = 10 := by omega
  rcases this with rfl | rfl | rfl | rfl | rfl | rfl | rfl | rfl | rfl | rfl | rfl <;> exact ⟨_, rfl, by decide, by decide⟩
theorem log_lt {x : Int} {k : Nat} (h : x.natAbs < 2 ^ k) (hk : k ≤ 500000) : x.natAbs.log2 < 500000 := by
  by_cases h0 : x.natAbs = 0
  · rw [h0]; decide
  · have := (Nat.log2_lt h0).2 h
    omega
theorem take_set {st r : Sto} {l : Nat} {c : D} : (st.set l c ++ r).take st.length = st.set l c := by
  rw [List.take_append_of_le_length (by simp), List.take_of_length_le (by simp)]
theorem k_next (n : Nat) {st : Sto} {l : Nat} {N m : Int} (hm : 0 < m) (hm2 : m < 2 ^ 20) (hN : N ≤ 2 ^ 30) (h : Sr st l N) : wp (call P (n + 1) F._law_next [.ref l, .int m]) st (fun r s' => (∃ x : Int, r = .int x ∧ 0 ≤ x ∧ x < m) ∧ Up st s' l (N + 1)) NX := by
  have hsl := sl_ge
  obtain ⟨a, b, c, hl, hb0, hb⟩ := h
  have hll : l < st.length := (List.getElem?_eq_some_iff.1 hl).1
  refine w_call (F := c__law_next) rfl rfl ?_
  unfold c__law_next
  have e0 : L2.atI [D.int a, D.int b, D.int c] 0 = some (.int a) := rfl
  have e1 : L2.atI [D.int a, D.int b, D.int c] 1 = some (.int b) := rfl
  have e2 : L2.atI [D.int a, D.int b, D.int c] 2 = some (.int c) := rfl
  have i1 : L2.ixN 3 1 = some 1 := rfl
  have i2 : L2.ixN 3 2 = some 2 := rfl
  have hl2 : st[l]? = some (.lst [.int a, .int b, .int c]) := hl
  have hmod : ∀ c : Int, 0 ≤ (c.fmod m) ∧ c.fmod m < m := fun c => ⟨Int.fmod_nonneg_of_pos _ hm, Int.fmod_lt_of_pos _ hm⟩
  have hmlog : m.natAbs.log2 < 9000 := by
    by_cases h0 : m.natAbs = 0
    · rw [h0]; decide
    · have := (Nat.log2_lt (k := 20) h0).2 (by omega)
      omega
  simp! only [hl2, e2, truth, i2]
  refine wb_of ?_ ?_
  · intro hc
    refine ⟨by omega, ⟨by omega, hmlog⟩, ?_⟩
    refine ⟨okP_set0 rfl, ?_⟩
    rw [rk_clean rfl]
    refine ⟨⟨_, rfl, hmod _⟩, a, b, c.fdiv m, ?_, hb0, by omega⟩
    rw [List.take_of_length_le (by simp)]; rfl
  · intro hc
    have hs : (st.set l (.lst [.int a, .int (b + 1), .int c]))[l]? = some (.lst [.int a, .int (b + 1), .int c]) := by simp [hll]
    have hs2 : ∀ r, (st.set l (.lst [.int a, .int (b + 1), .int c]) ++ r)[l]? = some (.lst [.int a, .int (b + 1), .int c]) := fun r => sgl hs
    have hpr : L2.atI (primes.map D.int) ((b + 1).fmod 11) = L2.atI (primes.map D.int) ((b + 1).fmod 11) := rfl
    obtain ⟨q, hq, hq1, hq2⟩ := prime_at (k := (b + 1).fmod 11) (Int.fmod_nonneg_of_pos _ (by decide)) (Int.fmod_lt_of_pos _ (by decide))
    have e1' : L2.atI [D.int a, D.int (b + 1), D.int c] 1 = some (.int (b + 1)) := rfl
    have e0' : L2.atI [D.int a, D.int (b + 1), D.int c] 0 = some (.int a) := rfl
    have hq' : L2.atI [D.int 2147483647, D.int 2147483629, D.int 2147483587, D.int 2147483579, D.int 2147483563, D.int 2147483549, D.int 2147483543, D.int 2147483497, D.int 2147483489, D.int 2147483477, D.int 2147483423] ((b + 1).fmod 11) = some (.int q) := hq
    have sg0' : ∀ x, (st.set l (.lst [.int a, .int (b + 1), .int c]) ++ [x])[st.length]? = some x := fun x => by
      have := sg0 (st := st.set l (.lst [.int a, .int (b + 1), .int c])) (c := x) (r := [])
      rwa [List.length_set] at this
    simp! only [hl2, e1, i1, la_lst (xs := [D.int 2147483647, D.int 2147483629, D.int 2147483587, D.int 2147483579, D.int 2147483563, D.int 2147483549, D.int 2147483543, D.int 2147483497]) rfl, hs2, hs, List.length_set, sg0', e1', e0', hq']
    have hf1 := Int.fmod_nonneg_of_pos a (b := q) (by omega)
    have hf2 := Int.fmod_lt_of_pos a (b := q) (by omega)
    refine ⟨by omega, by omega, by omega, by decide, by omega, ?_, ⟨by decide, by decide, by omega⟩, by omega, ⟨by decide, by decide⟩, by omega, okP_set rfl, ?_⟩
    · have h1 : (b + 1).natAbs.log2 < 500000 := log_lt (k := 32) (by omega) (by decide)
      have h2 : (Int.natAbs 7919).log2 = 12 := by decide
      omega
    · rw [rk_clean rfl]
      refine ⟨⟨_, rfl, hmod _⟩, a, b + 1, c, ?_, by omega, by omega⟩
      rw [take_set]; rfl
end Fs
namespace Fs
open PySem
abbrev zv (L : List Int) : List D := L.map D.int
theorem seqIdx {x : Int} {n : Nat} (h0 : 0 ≤ x) (h : x < n) : PySem.seqIndex? x n = some x.toNat := by
  unfold PySem.seqIndex?
  have h1 : ¬ x < 0 := by omega
  simp only [if_neg h1]
  rw [if_pos (by simp [h0, h])]
theorem erase_perm {L : List Nat} {j : Nat} {v : Nat} (h : L[j]? = some v) : L.Perm (v :: L.eraseIdx j) := by
  have h1 := split_at h
  rw [List.eraseIdx_eq_take_drop_succ]
  conv => lhs; rw [h1]
  exact List.perm_middle
theorem nv_erase {L : List Nat} {j : Nat} : (nv L).eraseIdx j = nv (L.eraseIdx j) := by
  simp only [nv, List.eraseIdx_eq_take_drop_succ, List.map_append, List.map_take, List.map_drop]
theorem wp_wrap {m : M D} {s : Sto} {Q : D → Sto → Prop} {E : D → Sto → Prop} (h : wp m s Q NX) : wp m s Q E := wp_of h (fun _ _ h => h) (fun _ _ h => h.elim)
section
variable {st X : Sto} {a b x : D}
theorem tA {r : Sto} : (st ++ (X ++ a :: r))[st.length + X.length]? = some a := by
  rw [List.getElem?_append_right (by omega)]; simp
theorem tB {r : Sto} : (st ++ (X ++ a :: b :: r))[st.length + X.length + 1]? = some b := by
  rw [List.getElem?_append_right (by omega)]
  simp [show st.length + X.length + 1 - st.length = X.length + 1 by omega]
theorem tAs {r : Sto} : (st ++ (X ++ a :: r)).set (st.length + X.length) x = st ++ (X ++ x :: r) := by
  rw [List.set_append_right _ _ (by omega)]; simp
theorem tBs {r : Sto} : (st ++ (X ++ a :: b :: r)).set (st.length + X.length + 1) x = st ++ (X ++ a :: x :: r) := by
  rw [List.set_append_right _ _ (by omega)]
  simp [show st.length + X.length + 1 - st.length = X.length + 1 by omega, List.set_append]
end
theorem k_mixed0 (n : Nat) {st X : Sto} {l : Nat} {N : Int} {L : List Nat} {d : D} (hN : N + L.length ≤ 2 ^ 30) (hL : L.length < 1000) (h : Sr st l N) (hd : seqv (st ++ X) d = some (nv L)) :
    wp (exL (P.tbl (n + 1)) c__law_mixed.body [some (.ref l), some d, none, none]) (st ++ X) (lv st (fun r s' => (∃ L', r = .lst (nv L') ∧ L'.Perm L) ∧ Up st s' l (N + L.length)) NX) NX := by
  have hsl := sl_ge
  have hll := h.lt
  unfold c__law_mixed
  simp! only [hd, la_lst nv_purs]
  refine ⟨by omega, by omega, ?_⟩
  refine w_wh (fun k σ s => ∃ (R F : List Nat) (st2 : Sto), σ = [some (.ref l), some d, some (.ref (st.length + X.length)), some (.ref (st.length + X.length + 1))] ∧ s = st2 ++ (X ++ [.lst (nv R), .lst (nv F)]) ∧ Up st st2 l (N + F.length) ∧ (F ++ R).Perm L ∧ k = R.length) ?_ wfuel L.length _ _ ?_ (by rw [show wfuel = 1000000 from rfl]; omega)
  · rintro k σ s ⟨R, F, st2, rfl, rfl, hu, hp, rfl⟩
    have hlen := hu.len
    have hpl : F.length + R.length = L.length := by have := hp.length_eq; simpa using this
    rw [← hlen]
    simp! only []
    refine ⟨by omega, ?_⟩
    rw [eq_nil (W := R) tA]
    simp! only [Option.map_some, truth]
    cases R with
    | nil =>
      simp! only [List.isEmpty_nil]
      obtain ⟨a, b, c, rfl, h1, h2⟩ := hu
      rw [List.length_set] at *
      refine ⟨okP_set rfl, ?_⟩
      have hg : (st.set l (src a b c) ++ (X ++ [.lst (nv []), .lst (nv F)]))[st.length + X.length + 1]? = some (.lst (nv F)) := by
        have := tB (st := st.set l (src a b c)) (X := X) (a := .lst (nv [])) (b := .lst (nv F)) (r := [])
        rwa [List.length_set] at this
      rw [rk_set_lst (by omega) hg nv_clean, take_set]
      refine ⟨⟨F, rfl, by simpa using hp⟩, a, b, c, rfl, h1, ?_⟩
      simp at hpl
      omega
    | cons r0 R0 =>
      have hsr : Sr (st2 ++ (X ++ [.lst (nv (r0 :: R0)), .lst (nv F)])) l (N + F.length) := by
        obtain ⟨a, b, c, h0, h1, h2⟩ := hu.sr hll
        exact ⟨a, b, c, sgl h0, h1, h2⟩
      have hne : (r0 :: R0).isEmpty = false := rfl
      rw [hne]
      simp! only [tA, tB, nv_len]
      rw [List.length_cons] at hpl
      refine ⟨by omega, rfl, ?_⟩
      refine wp_nx (k_next (n := n) (m := ((R0.length + 1 : Nat) : Int)) (by omega) (by omega) (by omega) hsr) ?_
      rintro y s3 ⟨⟨x, rfl, hx0, hx1⟩, a, b, c, rfl, hb0, hb1⟩
      have hst2 : ∃ c', st2[l]? = some c' := ⟨_, List.getElem?_eq_getElem (by omega)⟩
      obtain ⟨c', hc'⟩ := hst2
      rw [ssl hc']
      have hlen3 : (st2.set l (src a b c)).length = st2.length := by simp
      rw [← hlen3]
      have hk : ((4 : Nat) == 5) = false := rfl
      simp! only [tA, tB, hk, nv_len]
      refine ⟨by omega, ?_⟩
      rw [seqIdx hx0 hx1]
      simp! only [nv_get]
      have hxl : x.toNat < (r0 :: R0).length := by rw [List.length_cons]; omega
      rw [List.getElem?_eq_getElem hxl]
      simp! only [Option.map_some, tAs, nv_erase, tB, tBs, nv_len]
      rw [← nv_one, ← nv_app]
      refine ⟨by omega, ((r0 :: R0).eraseIdx x.toNat).length, ?_, (r0 :: R0).eraseIdx x.toNat, F ++ [(r0 :: R0)[x.toNat]], st2.set l (src a b c), rfl, ?_, ?_, rfl⟩
      · rw [List.length_eraseIdx_of_lt hxl]; simp
      · refine hu.trans ⟨a, b, c, rfl, hb0, ?_⟩
        simp; omega
      · have h1 := erase_perm (List.getElem?_eq_getElem hxl)
        rw [List.append_assoc]
        exact (List.Perm.append_left F h1.symm).trans hp
  · refine ⟨L, [], st, rfl, rfl, ?_, by simp, rfl⟩
    simpa using h.up
theorem k_mixedL (n : Nat) {st : Sto} {l : Nat} {N : Int} {L : List Nat} (hN : N + L.length ≤ 2 ^ 30) (hL : L.length < 1000) (h : Sr st l N) :
    wp (call P (n + 2) F._law_mixed [.ref l, .lst (nv L)]) st (fun r s' => (∃ L', r = .lst (nv L') ∧ L'.Perm L) ∧ Up st s' l (N + L.length)) NX := by
  refine w_call (F := c__law_mixed) rfl rfl ?_
  have e : lands [.ref l, .lst (nv L)] st = ([.ref l, .ref st.length], st ++ [.lst (nv L)]) := by
    simp only [lands, la_ref, la_lst nv_purs]
  rw [e]
  exact k_mixed0 n hN hL h (by simp only [seqv, sg0])
theorem k_mixedT (n : Nat) {st : Sto} {l : Nat} {N : Int} {L : List Nat} (hN : N + L.length ≤ 2 ^ 30) (hL : L.length < 1000) (h : Sr st l N) :
    wp (call P (n + 2) F._law_mixed [.ref l, .tup (nv L)]) st (fun r s' => (∃ L', r = .lst (nv L') ∧ L'.Perm L) ∧ Up st s' l (N + L.length)) NX := by
  refine w_call (F := c__law_mixed) rfl rfl ?_
  have e : lands [.ref l, .tup (nv L)] st = ([.ref l, .tup (nv L)], st ++ []) := by
    simp only [lands, la_ref, la_tup nv_purs, List.append_nil]
  rw [e]
  exact k_mixed0 n hN hL h rfl
end Fs
namespace Fs
open PySem
def cr (rows : List (List Nat)) : Sto := rows.map fun r => D.lst (nv r)
theorem cr_len {rows : List (List Nat)} : (cr rows).length = rows.length := by simp [cr]
def refs (b k : Nat) : List D := (List.range k).map fun i => D.ref (b + i)
theorem refs_len {b k : Nat} : (refs b k).length = k := by simp [refs]
theorem refs_succ {b k : Nat} : refs b (k + 1) = .ref b :: refs (b + 1) k := by
  simp only [refs, List.range_succ_eq_map, List.map_cons, List.map_map, Nat.add_zero]
  congr 1
  refine List.map_congr_left fun i _ => ?_
  simp only [Function.comp]
  congr 1; omega
def rows0 (k : Nat) : List D := List.replicate k (.lst [])
def nb (k : Nat) : List (List Nat) := List.replicate k []
theorem lands_rows : ∀ {k : Nat} {s : Sto}, lands (rows0 k) s = (refs s.length k, s ++ cr (nb k))
  | 0, s => by simp [lands, refs, cr, rows0, nb]
  | k + 1, s => by
    have ih := fun s => lands_rows (k := k) (s := s)
    simp only [rows0, nb] at ih ⊢
    rw [List.replicate_succ]
    simp only [lands, la_lst0, ih, List.length_append, List.length_cons, List.length_nil, Nat.zero_add]
    rw [refs_succ, List.replicate_succ]
    simp [cr, nv]
theorem land_rows {k : Nat} {s : Sto} : land (.lst (rows0 k)) s = (.ref (s.length + k), s ++ (cr (nb k) ++ [.lst (refs s.length k)])) := by
  simp only [land, lands_rows]
  simp [cr_len, nb]
section
variable {st r : Sto} {rows : List (List Nat)} {k j : Nat} {a : D}
theorem rA (hk : rows.length = k) : (st ++ (cr rows ++ a :: r))[st.length + k]? = some a := by
  rw [List.getElem?_append_right (by omega)]
  rw [List.getElem?_append_right (by rw [cr_len]; omega)]
  simp [cr_len, hk]
theorem rR {row : List Nat} (h : rows[j]? = some row) : (st ++ (cr rows ++ r))[st.length + j]? = some (.lst (nv row)) := by
  have hj : j < rows.length := (List.getElem?_eq_some_iff.1 h).1
  rw [List.getElem?_append_right (by omega), List.getElem?_append_left (by rw [cr_len]; omega)]
  simp [cr, h]
theorem rS {row : List Nat} (hj : j < rows.length) : (st ++ (cr rows ++ r)).set (st.length + j) (.lst (nv row)) = st ++ (cr (rows.set j row) ++ r) := by
  rw [List.set_append_right _ _ (by omega), List.set_append_left _ _ (by rw [cr_len]; omega)]
  simp [cr, List.map_set]
end
theorem row_len {rows : List (List Nat)} {j : Nat} {row : List Nat} (h : rows[j]? = some row) : row.length ≤ rows.flatten.length := by
  have h1 := split_at h
  conv => rhs; rw [h1]
  simp only [List.flatten_append, List.flatten_cons, List.length_append]
  omega
theorem flat_set {rows : List (List Nat)} {j d : Nat} {row : List Nat} (h : rows[j]? = some row) : (rows.set j (row ++ [d])).flatten.Perm (rows.flatten ++ [d]) := by
  have h1 := split_at h
  have hj : j < rows.length := (List.getElem?_eq_some_iff.1 h).1
  have h2 : rows.set j (row ++ [d]) = rows.take j ++ (row ++ [d]) :: rows.drop (j + 1) := by
    rw [List.set_eq_take_append_cons_drop, if_pos hj]
  rw [h2]
  conv => rhs; rw [h1]
  simp only [List.flatten_append, List.flatten_cons, List.append_assoc]
  refine List.Perm.append_left _ (List.Perm.append_left _ ?_)
  simpa using (List.perm_append_comm (l₁ := [d]) (l₂ := (rows.drop (j + 1)).flatten))
theorem k_any (n : Nat) {st : Sto} {l m k : Nat} {N : Int} (hm : 1 ≤ m) (hm2 : m ≤ 10) (hk : k ≤ 9) (hN : N + 100 ≤ 2 ^ 30) (h : Sr st l N) :
    wp (call P (n + 3) F._law_any_graph [.ref l, .int m, .int k]) st (fun r s' => (∃ g e, r = .tup (tv g) ∧ Gr g e ∧ 1 ≤ g.length ∧ g.length ≤ m ∧ e ≤ k) ∧ Up st s' l (N + 100)) NX := by
  have hsl := sl_ge
  have hll := h.lt
  refine w_call (F := c__law_any_graph) rfl rfl ?_
  unfold c__law_any_graph
  simp! only []
  refine wp_nx (k_next (n := n + 1) (by omega) (by omega) (by omega) h) ?_
  rintro y s1 ⟨⟨x, rfl, hx0, hx1⟩, hu1⟩
  obtain ⟨a, rfl⟩ : ∃ a : Nat, x = (a : Int) := ⟨x.toNat, by omega⟩
  simp! only []
  have e1 : (1 : Int) + (a : Int) = ((a + 1 : Nat) : Int) := by omega
  rw [e1, rngL1 (by omega)]
  simp! only []
  refine w_lcm (List.range (a + 1)) _ (fun _ => .lst []) (by simp; omega) ?_ ?_
  · intro c _
    simp! only []
    omega
  have e2 : (List.range (a + 1)).map (fun _ => D.lst []) = rows0 (a + 1) := by simp [List.map_const', rows0]
  rw [e2]
  simp! only [land_rows]
  have hs1 := hu1.sr hll
  have hl1 := hu1.len
  have hs2 : Sr (s1 ++ (cr (nb (a + 1)) ++ [.lst (refs s1.length (a + 1))])) l (N + 1) := by
    obtain ⟨p, q, r, h0, h1, h2⟩ := hs1
    exact ⟨p, q, r, sgl h0, h1, h2⟩
  have e3 : ((k : Int) + 1) = ((k + 1 : Nat) : Int) := by omega
  rw [e3]
  refine wp_nx (k_next (n := n + 1) (m := ((k + 1 : Nat) : Int)) (by omega) (by omega) (by omega) hs2) ?_
  rintro y s2 ⟨⟨x, rfl, hx0, hx1⟩, hu2⟩
  obtain ⟨e, rfl⟩ : ∃ a : Nat, x = (a : Int) := ⟨x.toNat, by omega⟩
  simp! only []
  have e4 : (2 : Int) * (e : Int) = ((2 * e : Nat) : Int) := by omega
  rw [e4]
  have hlog : (Int.natAbs 2).log2 + (Int.natAbs (e : Int)).log2 < 1000000 := by
    have h1 : (Int.natAbs (e : Int)).log2 < 500000 := log_lt (k := 10) (by omega) (by decide)
    have h2 : (Int.natAbs 2).log2 = 1 := by decide
    omega
  refine ⟨hlog, by simp [rgOk]; omega, ?_⟩
  rw [rngN_nv, Int.toNat_natCast]
  obtain ⟨p, q, r, rfl, hq0, hq1⟩ := hu2
  have hc1 : ∃ c', s1[l]? = some c' := ⟨_, List.getElem?_eq_getElem (by omega)⟩
  obtain ⟨c', hc'⟩ := hc1
  rw [ssl hc']
  have hu3 : Up st (s1.set l (src p q r)) l (N + 1 + 1) := hu1.trans ⟨p, q, r, rfl, hq0, hq1⟩
  have hl3 := hu3.len
  have hl4 : s1.length = (s1.set l (src p q r)).length := by simp
  rw [hl4]
  generalize s1.set l (src p q r) = s3 at *
  have hs3 : Sr (s3 ++ (cr (nb (a + 1)) ++ [.lst (refs s3.length (a + 1))])) l (N + 1 + 1) := by
    obtain ⟨p, q, r, h0, h1, h2⟩ := hu3.sr hll
    exact ⟨p, q, r, sgl h0, h1, h2⟩
  refine wp_nx (k_mixedL (n := n) (L := List.range (2 * e)) (by simp; omega) (by simp; omega) hs3) ?_
  rintro y s4 ⟨⟨L', rfl, hL'⟩, hu4⟩
  have hLl : L'.length = 2 * e := by rw [hL'.length_eq]; simp
  obtain ⟨p, q, r, rfl, hq0, hq1⟩ := hu4
  have hc1 : ∃ c', s3[l]? = some c' := ⟨_, List.getElem?_eq_getElem (by omega)⟩
  obtain ⟨c', hc'⟩ := hc1
  rw [ssl hc']
  have hu5 : Up st (s3.set l (src p q r)) l (N + 1 + 1 + (List.range (2 * e)).length) := hu3.trans ⟨p, q, r, rfl, hq0, hq1⟩
  have hl5 : s3.length = (s3.set l (src p q r)).length := by simp
  rw [hl5]
  generalize s3.set l (src p q r) = s5 at *
  simp! only []
  refine w_forP L' _ (fun pre σ s => (∃ x5 x6, σ = [some (.ref l), some (.int m), some (.int k), some (.ref (s5.length + (a + 1))), x5, x6, none]) ∧ ∃ (rows : List (List Nat)) (s6 : Sto), s = s6 ++ (cr rows ++ [.lst (refs s5.length (a + 1))]) ∧ Up st s6 l (N + 2 + 2 * e + pre.length) ∧ rows.length = a + 1 ∧ rows.flatten.Perm pre) ⟨⟨_, _, rfl⟩, nb (a + 1), s5, rfl, hu5.mono (by simp; omega), by simp [nb], by simp [nb]⟩ ?_ ?_
  · rintro pre d post σ s hLs ⟨⟨x5, x6, rfl⟩, rows, s6, rfl, hu6, hrl, hrp⟩
    have hpl : pre.length + (post.length + 1) = 2 * e := by rw [← hLl, hLs]; simp
    have hl6 := hu6.len
    have hl56 : s5.length = s6.length := by omega
    rw [hl56]
    simp! only [rA hrl, refs_len]
    have hs6 : Sr (s6 ++ (cr rows ++ [.lst (refs s6.length (a + 1))])) l (N + 2 + 2 * e + pre.length) := by
      obtain ⟨p, q, r, h0, h1, h2⟩ := hu6.sr hll
      exact ⟨p, q, r, sgl h0, h1, h2⟩
    refine wp_nx (k_next (n := n + 1) (m := ((a + 1 : Nat) : Int)) (by omega) (by omega) (by omega) hs6) ?_
    rintro y s7 ⟨⟨x, rfl, hx0, hx1⟩, hu7⟩
    obtain ⟨j, rfl⟩ : ∃ a : Nat, x = (a : Int) := ⟨x.toNat, by omega⟩
    obtain ⟨p, q, r, rfl, hq0, hq1⟩ := hu7
    have hc1 : ∃ c', s6[l]? = some c' := ⟨_, List.getElem?_eq_getElem (by omega)⟩
    obtain ⟨c', hc'⟩ := hc1
    rw [ssl hc']
    have hu8 : Up st (s6.set l (src p q r)) l (N + 2 + 2 * e + pre.length + 1) := hu6.trans ⟨p, q, r, rfl, hq0, hq1⟩
    have hl8 : s6.length = (s6.set l (src p q r)).length := by simp
    rw [hl8]
    generalize s6.set l (src p q r) = s8 at *
    have hj : j < rows.length := by omega
    have hrow : rows[j]? = some rows[j] := List.getElem?_eq_getElem hj
    have hrefs : (refs s8.length (a + 1))[j]? = some (.ref (s8.length + j)) := by
      simp only [refs, List.getElem?_map]
      rw [List.getElem?_range (by omega)]; rfl
    simp! only [rA hrl, atI_nat, hrefs, rR hrow, nv_len, rS hj]
    have hrj := row_len hrow
    rw [hrp.length_eq] at hrj
    rw [← nv_one, ← nv_app, rS hj]
    refine ⟨by omega, ⟨_, _, rfl⟩, _, s8, rfl, hu8.mono (by simp; omega), by simp [hrl], ?_⟩
    exact (flat_set hrow).trans (List.Perm.append_right _ hrp)
  · rintro σ s ⟨⟨x5, x6, rfl⟩, rows, s6, rfl, hu6, hrl, hrp⟩
    have hl6 := hu6.len
    have hl56 : s5.length = s6.length := by omega
    rw [hl56]
    simp! only [rA hrl]
    refine w_lcmC (l := s6.length + (a + 1)) (List.range (a + 1)) (fun i => .ref (s6.length + i)) (fun i => .tup (nv (rows.getD i []))) (by simp; omega) (rA hrl) ?_ ?_
    · intro i hi
      have hi := List.mem_range.1 hi
      have hrow : rows[i]? = some (rows.getD i []) := by
        rw [List.getElem?_eq_getElem (by omega)]
        simp [List.getD, List.getElem?_eq_getElem (show i < rows.length by omega)]
      simp! only [seqv, rR hrow]
    · simp! only [seqv]
      have hrows : (List.range (a + 1)).map (fun i => D.tup (nv (rows.getD i []))) = tv rows := by
        refine List.ext_getElem? fun i => ?_
        rw [tv_get, List.getElem?_map]
        by_cases hi : i < a + 1
        · rw [List.getElem?_range hi, List.getElem?_eq_getElem (show i < rows.length by omega)]
          simp [List.getD, List.getElem?_eq_getElem (show i < rows.length by omega)]
        · rw [List.getElem?_eq_none (by simpa using hi), List.getElem?_eq_none (by omega)]; rfl
      rw [hrows]
      obtain ⟨p, q, r, rfl, hq0, hq1⟩ := hu6
      refine ⟨okP_set rfl, ?_⟩
      rw [rk_clean gv_clean, take_set]
      refine ⟨⟨rows, e, rfl, ⟨hrp.trans hL', by omega, by omega⟩, by omega, by omega, by omega⟩, p, q, r, rfl, hq0, by omega⟩
end Fs
namespace Fs
open PySem
/-! ### merging marks -/
def mrg (M : List Nat) (p : Nat × Nat) : List Nat := M.map fun x => if x = max (M.getD p.1 0) (M.getD p.2 0) then min (M.getD p.1 0) (M.getD p.2 0) else x
theorem mrg_len {M : List Nat} {p : Nat × Nat} : (mrg M p).length = M.length := by simp [mrg]
theorem mrg_at {M : List Nat} {p : Nat × Nat} {u : Nat} (h : u < M.length) : (mrg M p).getD u 0 = if M.getD u 0 = max (M.getD p.1 0) (M.getD p.2 0) then min (M.getD p.1 0) (M.getD p.2 0) else M.getD u 0 := by
  simp only [List.getD, mrg, List.getElem?_map, List.getElem?_eq_getElem h, Option.map_some, Option.getD_some]
  rfl
theorem sub_len : ∀ {A B : List Nat}, A.Nodup → (∀ x, x ∈ A → x ∈ B) → A.length ≤ B.length
  | [], B, _, _ => Nat.zero_le _
  | a :: A, B, hn, h => by
    have hn2 := List.nodup_cons.1 hn
    have ha := h a (List.mem_cons_self ..)
    have h1 : A.length ≤ (B.erase a).length := sub_len hn2.2 fun x hx => by
      have hxa : x ≠ a := fun q => hn2.1 (q ▸ hx)
      exact (List.mem_erase_of_ne hxa).2 (h x (List.mem_cons_of_mem _ hx))
    rw [List.length_erase_of_mem ha] at h1
    have : 0 < B.length := List.length_pos_of_mem ha
    simp only [List.length_cons]
    omega
def Rl (E : List (Nat × Nat)) (u v : Nat) : Prop := (u, v) ∈ E
structure Mk (n : Nat) (E : List (Nat × Nat)) (M : List Nat) : Prop where
  len : M.length = n
  le : ∀ u, u < n → M.getD u 0 ≤ u
  fix : ∀ u, u < n → M.getD (M.getD u 0) 0 = M.getD u 0
  cx : ∀ u v, u < n → v < n → (M.getD u 0 = M.getD v 0 ↔ Cx (Rl E) u v)
theorem Mk.zero (n : Nat) : Mk n [] (List.range n) := by
  have h : ∀ u, u < n → (List.range n).getD u 0 = u := by
    intro u hu
    simp [List.getD, List.getElem?_range hu]
  refine ⟨by simp, fun u hu => by rw [h u hu]; exact Nat.le_refl _, fun u hu => by rw [h u hu, h u hu], ?_⟩
  intro u v hu hv
  rw [h u hu, h v hv]
  constructor
  · rintro rfl; exact .refl _
  · intro hc
    clear hu hv
    induction hc with
    | refl => rfl
    | fwd _ r _ => simp [Rl] at r
    | bwd _ r _ => simp [Rl] at r
theorem cx_add {E : List (Nat × Nat)} {a b u v : Nat} : Cx (Rl (E ++ [(a, b)])) u v ↔ Cx (Rl E) u v ∨ (Cx (Rl E) u a ∧ Cx (Rl E) b v) ∨ (Cx (Rl E) u b ∧ Cx (Rl E) a v) := by
  constructor
  · intro h
    have step : ∀ x y z : Nat, Cx (Rl E) y z ∨ (y = a ∧ z = b) ∨ (y = b ∧ z = a) → (Cx (Rl E) x y ∨ (Cx (Rl E) x a ∧ Cx (Rl E) b y) ∨ (Cx (Rl E) x b ∧ Cx (Rl E) a y)) → (Cx (Rl E) x z ∨ (Cx (Rl E) x a ∧ Cx (Rl E) b z) ∨ (Cx (Rl E) x b ∧ Cx (Rl E) a z)) := by
      rintro x y z (h1 | ⟨rfl, rfl⟩ | ⟨rfl, rfl⟩) (h2 | ⟨h2, h3⟩ | ⟨h2, h3⟩)
      · exact .inl (h2.trans h1)
      · exact .inr (.inl ⟨h2, h3.trans h1⟩)
      · exact .inr (.inr ⟨h2, h3.trans h1⟩)
      · exact .inr (.inl ⟨h2, .refl _⟩)
      · exact .inr (.inl ⟨h2, .refl _⟩)
      · exact .inl h2
      · exact .inr (.inr ⟨h2, .refl _⟩)
      · exact .inl h2
      · exact .inr (.inr ⟨h2, .refl _⟩)
    induction h with
    | refl => exact .inl (.refl _)
    | fwd _ r ih =>
      refine step _ _ _ ?_ ih
      simp only [Rl, List.mem_append, List.mem_singleton, Prod.mk.injEq] at r
      rcases r with r | ⟨rfl, rfl⟩
      · exact .inl (.fwd (.refl _) r)
      · exact .inr (.inl ⟨rfl, rfl⟩)
    | bwd _ r ih =>
      refine step _ _ _ ?_ ih
      simp only [Rl, List.mem_append, List.mem_singleton, Prod.mk.injEq] at r
      rcases r with r | ⟨rfl, rfl⟩
      · exact .inl (.bwd (.refl _) r)
      · exact .inr (.inr ⟨rfl, rfl⟩)
  · have up : ∀ {x y : Nat}, Cx (Rl E) x y → Cx (Rl (E ++ [(a, b)])) x y := fun h => h.mono fun u v r => .fwd (.refl _) (by simp only [Rl, List.mem_append]; exact .inl r)
    have ab : Cx (Rl (E ++ [(a, b)])) a b := .fwd (.refl _) (by simp [Rl])
    rintro (h | ⟨h1, h2⟩ | ⟨h1, h2⟩)
    · exact up h
    · exact ((up h1).trans ab).trans (up h2)
    · exact ((up h1).trans ab.symm).trans (up h2)
theorem Mk.step {n : Nat} {E : List (Nat × Nat)} {M : List Nat} (h : Mk n E M) {a b : Nat} (ha : a < n) (hb : b < n) : Mk n (E ++ [(a, b)]) (mrg M (a, b)) := by
  have hA := h.len
  have at' : ∀ u, u < n → (mrg M (a, b)).getD u 0 = if M.getD u 0 = max (M.getD a 0) (M.getD b 0) then min (M.getD a 0) (M.getD b 0) else M.getD u 0 := fun u hu => mrg_at (by omega)
  have la := h.le a ha
  have lb := h.le b hb
  have fa := h.fix a ha
  have fb := h.fix b hb
  refine ⟨by rw [mrg_len]; exact hA, ?_, ?_, ?_⟩
  · intro u hu
    rw [at' u hu]
    have := h.le u hu
    split <;> omega
  · intro u hu
    rw [at' u hu]
    have lu := h.le u hu
    have fu := h.fix u hu
    split
    · rename_i he
      rw [at' _ (by omega)]
      rcases Nat.le_total (M.getD a 0) (M.getD b 0) with hl | hl
      · rw [Nat.min_eq_left hl, Nat.max_eq_right hl, fa]
        split <;> rfl
      · rw [Nat.min_eq_right hl, Nat.max_eq_left hl, fb]
        split <;> rfl
    · rename_i he
      rw [at' _ (by omega), fu, if_neg he]
  · intro u v hu hv
    rw [at' u hu, at' v hv, cx_add, ← h.cx u v hu hv, ← h.cx u a hu ha, ← h.cx b v hb hv, ← h.cx u b hu hb, ← h.cx a v ha hv]
    generalize M.getD u 0 = x
    generalize M.getD v 0 = y
    generalize M.getD a 0 = p
    generalize M.getD b 0 = q
    split <;> split <;> omega
/-- how many are their own mark -/
def own (M : List Nat) : List Nat := (List.range M.length).filter fun m => decide (M.getD m 0 = m)
theorem Mk.own {n : Nat} {E : List (Nat × Nat)} {M : List Nat} (h : Mk n E M) : own M = (List.range n).filter (lead (Rl E)) := by
  unfold Fs.own
  rw [h.len]
  refine List.filter_congr fun m hm => ?_
  have hm := List.mem_range.1 hm
  have hle := h.le m hm
  by_cases hl : lead (Rl E) m = true
  · rw [hl, decide_eq_true_eq]
    have h1 := (h.cx (M.getD m 0) m (by omega) hm).1 (h.fix m hm)
    by_cases he : M.getD m 0 = m
    · exact he
    · exact absurd h1 (lead_iff.1 hl _ (by omega))
  · have h0 : lead (Rl E) m = false := by simpa using hl
    rw [h0, decide_eq_false_iff_not]
    intro he
    refine hl (lead_iff.2 fun u hu hc => ?_)
    have h1 := (h.cx u m (by omega) hm).2 hc
    have h2 := h.le u (by omega)
    omega
theorem own_step {n : Nat} {E : List (Nat × Nat)} {M : List Nat} (h : Mk n E M) {a b : Nat} (ha : a < n) (hb : b < n) : (own M).length ≤ (own (mrg M (a, b))).length + 1 := by
  have hA := h.len
  have at' : ∀ u, u < n → (mrg M (a, b)).getD u 0 = if M.getD u 0 = max (M.getD a 0) (M.getD b 0) then min (M.getD a 0) (M.getD b 0) else M.getD u 0 := fun u hu => mrg_at (by omega)
  have h1 : ∀ m, m ∈ (own M).erase (max (M.getD a 0) (M.getD b 0)) → m ∈ own (mrg M (a, b)) := by
    intro m hm
    have hn : (own M).Nodup := List.Pairwise.filter _ List.nodup_range
    rw [hn.mem_erase_iff] at hm
    obtain ⟨h1, h2⟩ := hm
    simp only [own, List.mem_filter, List.mem_range, decide_eq_true_eq] at h2 ⊢
    rw [mrg_len]
    refine ⟨h2.1, ?_⟩
    rw [at' m (by omega), h2.2, if_neg h1]
  have hn1 : ((own M).erase (max (M.getD a 0) (M.getD b 0))).Nodup := (List.Pairwise.filter _ List.nodup_range).erase _
  have h2 : ((own M).erase (max (M.getD a 0) (M.getD b 0))).length ≤ (own (mrg M (a, b))).length := sub_len hn1 h1
  have h3 : (own M).length ≤ ((own M).erase (max (M.getD a 0) (M.getD b 0))).length + 1 := by
    rw [List.length_erase]
    split <;> omega
  omega
def marks (n : Nat) (E : List (Nat × Nat)) : List Nat := E.foldl mrg (List.range n)
theorem marks_snoc {n : Nat} {E : List (Nat × Nat)} {p : Nat × Nat} : marks n (E ++ [p]) = mrg (marks n E) p := by simp [marks]
theorem snocE (E : List (Nat × Nat)) : E = [] ∨ ∃ V v, E = V ++ [v] := by
  rcases List.eq_nil_or_concat E with h | ⟨V, v, h⟩
  · exact .inl h
  · exact .inr ⟨V, v, by rw [h, List.concat_eq_append]⟩
theorem marks_ok {n : Nat} : ∀ {k : Nat} {E : List (Nat × Nat)}, E.length = k → (∀ p ∈ E, p.1 < n ∧ p.2 < n) → Mk n E (marks n E) ∧ n ≤ (own (marks n E)).length + E.length := by
  intro k
  induction k with
  | zero =>
    intro E hE h
    have : E = [] := List.length_eq_zero_iff.1 hE
    subst this
    refine ⟨Mk.zero n, ?_⟩
    have h1 : own (marks n []) = List.range n := by
      unfold own marks
      rw [List.foldl_nil, List.length_range]
      rw [List.filter_eq_self]
      intro m hm
      have hm := List.mem_range.1 hm
      simp [List.getD, List.getElem?_range hm]
    rw [h1]; simp
  | succ k ih =>
    intro E hE h
    rcases snocE E with rfl | ⟨V, ⟨a, b⟩, rfl⟩
    · simp at hE
    · obtain ⟨h1, h2⟩ := ih (E := V) (by simpa using hE) fun p hp => h p (by simp [hp])
      have hab := h (a, b) (by simp)
      rw [marks_snoc]
      refine ⟨h1.step hab.1 hab.2, ?_⟩
      have := own_step (a := a) (b := b) h1 hab.1 hab.2
      simp only [List.length_append, List.length_cons, List.length_nil]
      omega
theorem Gr.ends_lt {g : List (List Nat)} {e : Nat} (h : Gr g e) : ∀ p ∈ ends g e, p.1 < g.length ∧ p.2 < g.length := by
  intro p hp
  simp only [ends, List.mem_map, List.mem_range] at hp
  obtain ⟨k, hk, rfl⟩ := hp
  exact ⟨h.tail_lt (by omega), h.tail_lt (by omega)⟩
theorem Ed_eq {g : List (List Nat)} {e : Nat} : Ed g e = Rl (ends g e) := rfl
theorem Gr.mks {g : List (List Nat)} {e : Nat} (h : Gr g e) : Mk g.length (ends g e) (marks g.length (ends g e)) := (marks_ok rfl h.ends_lt).1
/-- few components need many edges -/
theorem canon_count {g : List (List Nat)} {e : Nat} (h : Gr g e) : g.length ≤ (canon (Ed g e) g.length).length + e := by
  have h1 := (marks_ok rfl h.ends_lt).2
  rw [h.mks.own] at h1
  simp only [canon, canU, List.length_map, Ed_eq]
  have h2 : (ends g e).length = e := by simp [ends]
  omega
end Fs
namespace Fs
open PySem
theorem eq_int {s : Sto} {a b : Int} : eqD s (.int a) (.int b) = some (decide (a = b)) := by
  have h1 : ∀ a : Int, toP false s 66 (.int a) = some (.int a) := fun a => rfl
  have h2 : ∀ a : Int, SeqAt.shaped (.int a) = true := fun a => by simp [SeqAt.shaped, PyData.canLay0, PyData.depth]
  simp only [eqD, h1]
  rw [if_pos ⟨h2 a, h2 b⟩]
  congr 1
theorem rgOk_nat {b : Nat} (h : b ≤ 2 ^ 20) : rgOk 0 (b : Int) = true := by
  unfold rgOk
  exact decide_eq_true ⟨by decide, by decide, by omega, by omega, by omega⟩
theorem toZ_mem {L : List Nat} {x : Int} : x ∈ toZ L ↔ ∃ n : Nat, n ∈ L ∧ (n : Int) = x := by simp [toZ]
theorem toZ_nodup {L : List Nat} (h : L.Nodup) : (toZ L).Nodup := by
  rw [List.Nodup, List.pairwise_map]
  exact h.imp fun h q => h (by omega)
theorem mem_own {M : List Nat} {m : Nat} : m ∈ own M ↔ m < M.length ∧ M.getD m 0 = m := by simp [own]
theorem ssort_marks {n : Nat} {E : List (Nat × Nat)} {M : List Nat} (h : Mk n E M) : (sortI (dedI (toZ M))).map D.int = nv (own M) := by
  have hs : (own M).Pairwise (· < ·) := List.Pairwise.filter _ List.pairwise_lt_range
  have hp : (dedI (toZ M)).Perm (toZ (own M)) := by
    rw [List.perm_ext_iff_of_nodup dedI_nodup (toZ_nodup (nd_of_lt hs))]
    intro x
    rw [dedI_mem, toZ_mem, toZ_mem]
    have hA := h.len
    constructor
    · rintro ⟨m, hm, rfl⟩
      obtain ⟨u, hu⟩ := List.mem_iff_getElem?.1 hm
      have hul : u < M.length := (List.getElem?_eq_some_iff.1 hu).1
      have hu2 : M.getD u 0 = m := by simp [List.getD, hu]
      refine ⟨m, mem_own.2 ⟨?_, ?_⟩, rfl⟩
      · have := h.le u (by omega); omega
      · have := h.fix u (by omega)
        rwa [hu2] at this
    · rintro ⟨m, hm, rfl⟩
      have hm := mem_own.1 hm
      refine ⟨m, ?_, rfl⟩
      have : M[m]? = some m := by
        rw [List.getElem?_eq_getElem hm.1]
        have := hm.2
        simp [List.getD, List.getElem?_eq_getElem hm.1] at this
        rw [this]
      exact List.mem_of_getElem? this
  rw [sortI_eq hp (toZ_sorted hs), nv_ints]
theorem cls_marks {n : Nat} {E : List (Nat × Nat)} {M : List Nat} (h : Mk n E M) {m : Nat} (hm : m ∈ own M) : (List.range n).filter (fun v => decide (M.getD v 0 = m)) = cls (Rl E) n m := by
  unfold cls
  have hm := mem_own.1 hm
  have hA := h.len
  refine List.filter_congr fun v hv => ?_
  have hv := List.mem_range.1 hv
  have := h.cx m v (by omega) hv
  rw [hm.2] at this
  refine decide_eq_decide.2 ?_
  rw [← this]
  exact ⟨fun q => q.symm, fun q => q.symm⟩
theorem ev2_get {E : List (Nat × Nat)} : ev2 E = E.map fun p => D.tup [.int (p.1 : Nat), .int (p.2 : Nat)] := rfl
theorem getD_some {M : List Nat} {u : Nat} (h : u < M.length) : M[u]? = some (M.getD u 0) := by
  simp [List.getD, List.getElem?_eq_getElem h]
theorem int_min {a b : Nat} : (if (b : Int) < (a : Int) then (b : Int) else (a : Int)) = ((min a b : Nat) : Int) := by split <;> omega
theorem int_max {a b : Nat} : (if (b : Int) > (a : Int) then (b : Int) else (a : Int)) = ((max a b : Nat) : Int) := by split <;> omega
theorem uA {st X r : Sto} {a : D} : (st ++ (X ++ a :: r))[st.length + X.length]? = some a := tA
theorem call_parts {n : Nat} {t : D} {st : Sto} {Q E : D → Sto → Prop} (h : wp (exL (P.tbl n) c__law_parts.body ((lands [t] st).1.map some ++ List.replicate (c__law_parts.ns - c__law_parts.np) none)) (lands [t] st).2 (lv st Q E) NX) : wp (call P (n + 1) F._law_parts [t]) st Q E := w_call (F := c__law_parts) rfl rfl h
theorem k_parts (n : Nat) {g : List (List Nat)} {e : Nat} (h : Gr g e) (st : Sto) : wp (call P (n + 2) F._law_parts [.tup (tv g)]) st (fun r s' => r = .tup (tv (canon (Ed g e) g.length)) ∧ s' = st) NX := by
  have hsl := sl_ge
  have hn := h.n
  have he := h.e
  refine call_parts ?_
  unfold c__law_parts
  simp! only [la_tup tv_purs, tv_len]
  refine ⟨rgOk_nat (by omega), ?_⟩
  simp! only [rngN_nv, Int.toNat_natCast, la_lst nv_purs]
  refine wp_nx (k_ends (n := n) h _) ?_
  rintro y s' ⟨rfl, rfl⟩
  simp! only []
  refine w_forP (ends g e) _ (fun pre σ s => ∃ (J : Sto) (x2 x3 x4 x5 x6 x7 x8 : Option D), σ = [some (.tup (tv g)), some (.ref (st.length + J.length)), x2, x3, x4, x5, x6, x7, x8] ∧ s = st ++ (J ++ [.lst (nv (marks g.length pre))])) ⟨[], _, _, _, _, _, _, _, rfl, rfl⟩ ?_ ?_
  · rintro pre ⟨u, v⟩ post σ s hE ⟨J, x2, x3, x4, x5, x6, x7, x8, rfl, rfl⟩
    have hall := h.ends_lt
    have huv := hall (u, v) (by rw [hE]; simp)
    simp only at huv
    have hM := (marks_ok (E := pre) (n := g.length) rfl fun p hp => hall p (by rw [hE]; simp [hp])).1
    have hMl := hM.len
    have hu := getD_some (M := marks g.length pre) (u := u) (by omega)
    have hv := getD_some (M := marks g.length pre) (u := v) (by omega)
    simp! only [tA, atI_nat, nv_get, hu, hv, Option.map_some, int_min, int_max]
    refine ⟨by omega, ?_⟩
    refine w_lcmC (l := st.length + J.length) (marks g.length pre) (fun (x : Nat) => .int (x : Int)) (fun x => .int ((if x = max ((marks g.length pre).getD u 0) ((marks g.length pre).getD v 0) then min ((marks g.length pre).getD u 0) ((marks g.length pre).getD v 0) else x : Nat) : Int)) (by omega) tA ?_ ?_
    · intro x hx
      simp! only [eq_int, truth]
      by_cases hxe : x = max ((marks g.length pre).getD u 0) ((marks g.length pre).getD v 0)
      · have : decide ((x : Int) = ((max ((marks g.length pre).getD u 0) ((marks g.length pre).getD v 0) : Nat) : Int)) = true := by rw [decide_eq_true_eq]; omega
        rw [this, if_pos hxe]
        simp! only []
      · have : decide ((x : Int) = ((max ((marks g.length pre).getD u 0) ((marks g.length pre).getD v 0) : Nat) : Int)) = false := by rw [decide_eq_false_iff_not]; omega
        rw [this, if_neg hxe]
        simp! only []
    · have hm : (marks g.length pre).map (fun x => D.int ((if x = max ((marks g.length pre).getD u 0) ((marks g.length pre).getD v 0) then min ((marks g.length pre).getD u 0) ((marks g.length pre).getD v 0) else x : Nat) : Int)) = nv (marks g.length (pre ++ [(u, v)])) := by
        rw [marks_snoc, mrg, nv, List.map_map]; rfl
      rw [hm]
      simp! only [la_lst nv_purs]
      have hJ : st.length + (J.length + 1) = st.length + (J ++ [D.lst (nv (marks g.length pre))]).length := by simp
      rw [hJ]
      refine ⟨J ++ [.lst (nv (marks g.length pre))], _, _, _, _, _, _, _, rfl, ?_⟩
      simp
  · rintro σ s ⟨J, x2, x3, x4, x5, x6, x7, x8, rfl, rfl⟩
    have hM := h.mks
    have hMl := hM.len
    generalize hMe : marks g.length (ends g e) = M at *
    simp! only []
    rw [(lInt_ref tA).trans optL_nv]
    simp! only []
    refine ⟨by omega, by simp; omega, ?_⟩
    rw [ssort_marks hM]
    refine w_forP (own M) _ (fun pre σ s => ∃ (x2 x3 x4 x5 x6 x8 : Option D), σ = [some (.tup (tv g)), some (.ref (st.length + J.length)), x2, x3, x4, x5, x6, some (.ref (st.length + J.length + 1)), x8] ∧ s = st ++ (J ++ [.lst (nv M), .lst (tv (pre.map (cls (Ed g e) g.length)))])) ⟨_, _, _, _, _, _, rfl, rfl⟩ ?_ ?_
    · rintro pre m post σ s hO ⟨x2, x3, x4, x5, x6, x8, rfl, rfl⟩
      have hm : m ∈ own M := by rw [hO]; simp
      have hol : (own M).length ≤ g.length := by
        have : (own M).length ≤ (List.range M.length).length := List.length_filter_le ..
        rw [List.length_range, hMl] at this
        exact this
      rw [hO] at hol
      simp at hol
      simp! only [tB, tv_len]
      rw [rngL1 (by omega)]
      simp! only []
      refine w_lcf (List.range g.length) _ (fun v => decide (M.getD v 0 = m)) (fun (v : Nat) => .int (v : Int)) (by simp; omega) ?_ ?_
      · intro v hv
        have hv := List.mem_range.1 hv
        have hg := getD_some (M := M) (u := v) (by omega)
        simp! only [tA, atI_nat, nv_get, hg, Option.map_some, eq_int, truth]
        by_cases hd : M.getD v 0 = m
        · have : decide (((M.getD v 0 : Nat) : Int) = (m : Int)) = true := by rw [decide_eq_true_eq]; omega
          rw [this]
          simp! only [hd, decide_true, if_true]
        · have : decide (((M.getD v 0 : Nat) : Int) = (m : Int)) = false := by rw [decide_eq_false_iff_not]; omega
          rw [this]
          simp! only [hd, decide_false, Bool.false_eq_true, if_false]
      · rw [cls_marks hM hm]
        have hnv : (cls (Rl (ends g e)) g.length m).map (fun v => D.int ((v : Nat) : Int)) = nv (cls (Ed g e) g.length m) := rfl
        rw [hnv]
        simp! only [seqv, tB, la_tup nv_purs, tBs, tv_len, List.length_map]
        refine ⟨by omega, _, _, _, _, _, _, rfl, ?_⟩
        simp [tv]
    · rintro σ s ⟨x2, x3, x4, x5, x6, x8, rfl, rfl⟩
      simp! only [tB, seqv]
      refine ⟨okP_app, ?_⟩
      have hc : (own M).map (cls (Ed g e) g.length) = canon (Ed g e) g.length := by
        rw [hM.own]; rfl
      rw [hc, rk_clean gv_clean, take0]
      exact ⟨rfl, rfl⟩
end Fs
namespace Fs
open PySem
/-! ### two graphs side by side -/
def beside (g f : List (List Nat)) (e : Nat) : List (List Nat) := g ++ f.map fun r => r.map fun d => d + 2 * e
section
variable {g f : List (List Nat)} {e e2 : Nat}
theorem beside_len : (beside g f e).length = g.length + f.length := by simp [beside]
theorem Gr.beside (h : Gr g e) (h2 : Gr f e2) (hn : g.length + f.length ≤ 60) (he : e + e2 ≤ 120) : Gr (beside g f e) (e + e2) := by
  refine ⟨?_, by rw [beside_len]; exact hn, he⟩
  have h1 : List.range (2 * (e + e2)) = List.range (2 * e) ++ (List.range (2 * e2)).map (fun d => 2 * e + d) := by
    rw [Nat.mul_add, List.range_add]
  rw [h1]
  simp only [Fs.beside, List.flatten_append]
  refine List.Perm.append h.perm ?_
  have h3 : (f.map fun r => r.map fun d => d + 2 * e).flatten = f.flatten.map fun d => 2 * e + d := by
    rw [List.map_flatten]
    congr 1
    refine List.map_congr_left fun r _ => List.map_congr_left fun d _ => ?_
    omega
  rw [h3]
  exact h2.perm.map _
theorem beside_tail1 (h : Gr g e) (hB : Gr (beside g f e) (e + e2)) {d : Nat} (hd : d < 2 * e) : tailOf (beside g f e) d = tailOf g d := by
  obtain ⟨r, hr, hdr⟩ := h.at hd
  refine (hB.tail_of (r := r) ?_ hdr).1
  rw [Fs.beside, List.getElem?_append_left (List.getElem?_eq_some_iff.1 hr).1]
  exact hr
theorem beside_tail2 (h2 : Gr f e2) (hB : Gr (beside g f e) (e + e2)) {d : Nat} (hd : d < 2 * e2) : tailOf (beside g f e) (d + 2 * e) = tailOf f d + g.length := by
  obtain ⟨r, hr, hdr⟩ := h2.at hd
  refine (hB.tail_of (r := r.map fun d => d + 2 * e) ?_ (List.mem_map.2 ⟨d, hdr, rfl⟩)).1
  rw [Fs.beside, List.getElem?_append_right (by omega)]
  simp [hr]
theorem beside_ed (h : Gr g e) (h2 : Gr f e2) (hB : Gr (beside g f e) (e + e2)) {u v : Nat} : Ed (beside g f e) (e + e2) u v ↔ Ed g e u v ∨ ∃ a b, u = a + g.length ∧ v = b + g.length ∧ Ed f e2 a b := by
  simp only [mem_ends]
  constructor
  · rintro ⟨k, hk, h3, h4⟩
    by_cases hke : k < e
    · rw [beside_tail1 h hB (by omega)] at h3 h4
      exact .inl ⟨k, hke, h3, h4⟩
    · have e1 : 2 * k = 2 * (k - e) + 2 * e := by omega
      have e3 : 2 * k + 1 = (2 * (k - e) + 1) + 2 * e := by omega
      rw [e3, beside_tail2 h2 hB (by omega)] at h4
      rw [e1, beside_tail2 h2 hB (by omega)] at h3
      exact .inr ⟨_, _, h3.symm, h4.symm, k - e, by omega, rfl, rfl⟩
  · rintro (⟨k, hk, h3, h4⟩ | ⟨a, b, rfl, rfl, k, hk, rfl, rfl⟩)
    · exact ⟨k, by omega, by rw [beside_tail1 h hB (by omega)]; exact h3, by rw [beside_tail1 h hB (by omega)]; exact h4⟩
    · refine ⟨k + e, by omega, ?_, ?_⟩
      · have e1 : 2 * (k + e) = 2 * k + 2 * e := by omega
        rw [e1, beside_tail2 h2 hB (by omega)]
      · have e1 : 2 * (k + e) + 1 = (2 * k + 1) + 2 * e := by omega
        rw [e1, beside_tail2 h2 hB (by omega)]
theorem Cx.map {R R' : Nat → Nat → Prop} (φ : Nat → Nat) (hR : ∀ u v, R u v → R' (φ u) (φ v)) {u v : Nat} (h : Cx R u v) : Cx R' (φ u) (φ v) := by
  induction h with
  | refl => exact .refl _
  | fwd _ r ih => exact .fwd ih (hR _ _ r)
  | bwd _ r ih => exact .bwd ih (hR _ _ r)
theorem Ed_lt (h : Gr g e) {u v : Nat} (hr : Ed g e u v) : u < g.length ∧ v < g.length := h.ends_lt (u, v) hr
theorem beside_cx1 (h : Gr g e) (h2 : Gr f e2) (hB : Gr (beside g f e) (e + e2)) {u v : Nat} (hu : u < g.length) : Cx (Ed (beside g f e) (e + e2)) u v ↔ (v < g.length ∧ Cx (Ed g e) u v) := by
  constructor
  · intro hc
    induction hc with
    | refl => exact ⟨hu, .refl _⟩
    | fwd _ r ih =>
      rcases (beside_ed h h2 hB).1 r with r | ⟨a, b, rfl, rfl, r⟩
      · exact ⟨(Ed_lt h r).2, .fwd ih.2 r⟩
      · have := ih.1; omega
    | bwd _ r ih =>
      rcases (beside_ed h h2 hB).1 r with r | ⟨a, b, rfl, rfl, r⟩
      · exact ⟨(Ed_lt h r).1, .bwd ih.2 r⟩
      · have := ih.1; omega
  · rintro ⟨_, hc⟩
    exact hc.mono fun u v r => .fwd (.refl _) ((beside_ed h h2 hB).2 (.inl r))
theorem beside_cx2 (h : Gr g e) (h2 : Gr f e2) (hB : Gr (beside g f e) (e + e2)) {u v : Nat} : Cx (Ed (beside g f e) (e + e2)) (u + g.length) v ↔ ∃ w, v = w + g.length ∧ Cx (Ed f e2) u w := by
  constructor
  · intro hc
    induction hc with
    | refl => exact ⟨u, rfl, .refl _⟩
    | fwd _ r ih =>
      obtain ⟨w, rfl, hw⟩ := ih
      rcases (beside_ed h h2 hB).1 r with r | ⟨a, b, h3, rfl, r⟩
      · have := (Ed_lt h r).1; omega
      · obtain rfl : w = a := by omega
        exact ⟨b, rfl, .fwd hw r⟩
    | bwd _ r ih =>
      obtain ⟨w, rfl, hw⟩ := ih
      rcases (beside_ed h h2 hB).1 r with r | ⟨a, b, rfl, h3, r⟩
      · have := (Ed_lt h r).2; omega
      · obtain rfl : w = b := by omega
        exact ⟨a, rfl, .bwd hw r⟩
  · rintro ⟨w, rfl, hw⟩
    exact hw.map (fun x => x + g.length) fun u v r => (beside_ed h h2 hB).2 (.inr ⟨u, v, rfl, rfl, r⟩)
open Classical in
theorem beside_canon (h : Gr g e) (h2 : Gr f e2) (hB : Gr (beside g f e) (e + e2)) : canon (Ed (beside g f e) (e + e2)) (beside g f e).length = canon (Ed g e) g.length ++ (canon (Ed f e2) f.length).map (fun c => c.map (fun v => v + g.length)) := by
  rw [beside_len]
  simp only [canon, canU, List.range_add, List.filter_append, List.map_append]
  have cA : ∀ m, m < g.length → cls (Ed (beside g f e) (e + e2)) (g.length + f.length) m = cls (Ed g e) g.length m := by
    intro m hm
    simp only [cls, List.range_add, List.filter_append]
    have hz : ((List.range f.length).map (fun x => g.length + x)).filter (fun v => @decide (Cx (Ed (beside g f e) (e + e2)) m v) (Classical.propDecidable _)) = [] := by
      rw [List.filter_eq_nil_iff]
      intro v hv
      obtain ⟨x, _, rfl⟩ := List.mem_map.1 hv
      rw [decide_eq_true_eq, beside_cx1 h h2 hB hm]
      rintro ⟨h3, _⟩; omega
    rw [hz, List.append_nil]
    refine List.filter_congr fun v hv => ?_
    have hv := List.mem_range.1 hv
    refine decide_eq_decide.2 ?_
    rw [beside_cx1 h h2 hB hm]
    exact ⟨fun q => q.2, fun q => ⟨hv, q⟩⟩
  have cB : ∀ m, cls (Ed (beside g f e) (e + e2)) (g.length + f.length) (m + g.length) = (cls (Ed f e2) f.length m).map (fun v => v + g.length) := by
    intro m
    simp only [cls, List.range_add, List.filter_append]
    have hz : (List.range g.length).filter (fun v => @decide (Cx (Ed (beside g f e) (e + e2)) (m + g.length) v) (Classical.propDecidable _)) = [] := by
      rw [List.filter_eq_nil_iff]
      intro v hv
      have hv := List.mem_range.1 hv
      rw [decide_eq_true_eq, beside_cx2 h h2 hB]
      rintro ⟨w, h3, _⟩; omega
    rw [hz, List.nil_append, List.filter_map]
    have hfun : (fun x => g.length + x) = fun v => v + g.length := by funext x; omega
    rw [hfun]
    congr 1
    refine List.filter_congr fun v hv => ?_
    refine decide_eq_decide.2 ?_
    rw [beside_cx2 h h2 hB]
    constructor
    · rintro ⟨w, h3, h4⟩
      have h5 : v + g.length = w + g.length := h3
      obtain rfl : v = w := by omega
      exact h4
    · intro h4
      exact ⟨v, rfl, h4⟩
  have lA : (List.range g.length).filter (lead (Ed (beside g f e) (e + e2))) = (List.range g.length).filter (lead (Ed g e)) := by
    refine List.filter_congr fun m hm => ?_
    have hm := List.mem_range.1 hm
    unfold lead
    refine decide_eq_decide.2 ?_
    constructor
    · intro q u hu hc
      exact q u hu ((beside_cx1 h h2 hB (by omega)).2 ⟨hm, hc⟩)
    · intro q u hu hc
      exact q u hu ((beside_cx1 h h2 hB (by omega)).1 hc).2
  have lB : ((List.range f.length).map (fun x => g.length + x)).filter (lead (Ed (beside g f e) (e + e2))) = ((List.range f.length).filter (lead (Ed f e2))).map (fun v => v + g.length) := by
    have hfun : (fun x => g.length + x) = fun v => v + g.length := by funext x; omega
    rw [List.filter_map, hfun]
    congr 1
    refine List.filter_congr fun m hm => ?_
    simp only [Function.comp, lead]
    refine decide_eq_decide.2 ?_
    constructor
    · intro q u hu hc
      exact q (u + g.length) (by omega) ((beside_cx2 h h2 hB).2 ⟨m, rfl, hc⟩)
    · intro q u hu hc
      by_cases hg : u < g.length
      · have := ((beside_cx1 h h2 hB hg).1 hc).1; omega
      · obtain ⟨a, rfl⟩ : ∃ a, u = a + g.length := ⟨u - g.length, by omega⟩
        obtain ⟨w, h3, h4⟩ := (beside_cx2 h h2 hB).1 hc
        obtain rfl : m = w := by omega
        exact q a (by omega) h4
  rw [lA, lB]
  congr 1
  · refine List.map_congr_left fun m hm => ?_
    exact cA m (List.mem_range.1 (List.mem_filter.1 hm).1)
  · rw [List.map_map, List.map_map]
    refine List.map_congr_left fun m hm => ?_
    exact cB m
end
end Fs
namespace Fs
open PySem
/-- the list of classes ascends -/
theorem cls_head {R : Nat → Nat → Prop} {n m : Nat} (hm : m < n) (hl : lead R m = true) : ∃ t, cls R n m = m :: t := by
  have hmem : m ∈ cls R n m := mem_cls.2 ⟨hm, .refl _⟩
  cases hc : cls R n m with
  | nil => rw [hc] at hmem; cases hmem
  | cons a t =>
    have hs := cls_sorted (R := R) (n := n) (m := m)
    rw [hc] at hs hmem
    have h1 := List.pairwise_cons.1 hs
    have ha : a ∈ cls R n m := by rw [hc]; exact List.mem_cons_self ..
    have ha2 := (mem_cls.1 ha).2
    rcases List.mem_cons.1 hmem with rfl | h2
    · exact ⟨t, rfl⟩
    · have := h1.1 m h2
      exact absurd ha2.symm (lead_iff.1 hl a this)
theorem canon_sorted {R : Nat → Nat → Prop} {n : Nat} : ((canon R n).map toZ).Pairwise fun a b => lexL a b = true := by
  rw [List.pairwise_map]
  simp only [canon, canU]
  rw [List.pairwise_map]
  have h1 : ((List.range n).filter (lead R)).Pairwise (· < ·) := List.Pairwise.filter _ List.pairwise_lt_range
  refine List.Pairwise.imp_of_mem ?_ h1
  intro a b ha hb hab
  have ha := List.mem_filter.1 ha
  have hb := List.mem_filter.1 hb
  obtain ⟨t, ht⟩ := cls_head (List.mem_range.1 ha.1) ha.2
  obtain ⟨t', ht'⟩ := cls_head (List.mem_range.1 hb.1) hb.2
  rw [ht, ht']
  simp only [toZ, List.map_cons, lexL]
  rw [if_neg (by omega)]
  exact decide_eq_true (by omega)
/-! ### other numbers of the nodes -/
structure Mv (g m : List (List Nat)) (O : List Nat) : Prop where
  perm : O.Perm (List.range g.length)
  len : m.length = g.length
  row : ∀ (p u : Nat) (r : List Nat), O[p]? = some u → g[u]? = some r → ∃ q : List Nat, m[p]? = some q ∧ q.Perm r
abbrev plc (O : List Nat) (u : Nat) : Nat := O.idxOf u
section
variable {g m : List (List Nat)} {e : Nat} {O : List Nat}
theorem Mv.nd (h : Mv g m O) : O.Nodup := h.perm.nodup_iff.2 List.nodup_range
theorem Mv.olen (h : Mv g m O) : O.length = g.length := by rw [h.perm.length_eq]; simp
theorem Mv.mem (h : Mv g m O) {u : Nat} : u ∈ O ↔ u < g.length := by rw [h.perm.mem_iff, List.mem_range]
theorem Mv.plc_lt (h : Mv g m O) {u : Nat} (hu : u < g.length) : plc O u < g.length := by
  rw [← h.olen]; exact List.idxOf_lt_length_iff.2 (h.mem.2 hu)
theorem Mv.at_plc (h : Mv g m O) {u : Nat} (hu : u < g.length) : O[plc O u]? = some u := by
  have hl := List.idxOf_lt_length_iff.2 (h.mem.2 hu)
  rw [List.getElem?_eq_getElem hl, List.getElem_idxOf hl]
theorem Mv.plc_at (h : Mv g m O) {p u : Nat} (hp : O[p]? = some u) : plc O u = p := by
  obtain ⟨hl, rfl⟩ := List.getElem?_eq_some_iff.1 hp
  exact h.nd.idxOf_getElem p hl
theorem perm_rows : ∀ {A B : List (List Nat)}, A.length = B.length → (∀ (i : Nat) (a b : List Nat), A[i]? = some a → B[i]? = some b → a.Perm b) → A.flatten.Perm B.flatten
  | [], [], _, _ => .refl _
  | [], _ :: _, h, _ => by simp at h
  | _ :: _, [], h, _ => by simp at h
  | a :: A, b :: B, h, hr => by
    simp only [List.flatten_cons]
    exact List.Perm.append (hr 0 a b rfl rfl) (perm_rows (by simpa using h) fun i x y hx hy => hr (i + 1) x y hx hy)
theorem Mv.gr (h : Mv g m O) (hg : Gr g e) : Gr m e := by
  refine ⟨?_, by rw [h.len]; exact hg.n, hg.e⟩
  refine List.Perm.trans ?_ hg.perm
  have h1 : (O.map fun u => g.getD u []).Perm g := by
    refine (h.perm.map _).trans ?_
    have : (List.range g.length).map (fun u => g.getD u []) = g := by
      refine List.ext_getElem? fun i => ?_
      rw [List.getElem?_map]
      by_cases hi : i < g.length
      · rw [List.getElem?_range hi]
        simp [List.getD, List.getElem?_eq_getElem hi]
      · rw [List.getElem?_eq_none (by simpa using hi), List.getElem?_eq_none (by omega)]; rfl
    rw [this]
  refine List.Perm.trans ?_ h1.flatten
  refine perm_rows (by rw [h.len, List.length_map, h.olen]) ?_
  intro p q r hq hr
  rw [List.getElem?_map] at hr
  cases ho : O[p]? with
  | none => rw [ho] at hr; cases hr
  | some u =>
    rw [ho] at hr
    cases hr
    have hu : u < g.length := h.mem.1 (List.mem_of_getElem? ho)
    have hgu : g[u]? = some (g.getD u []) := by simp [List.getD, List.getElem?_eq_getElem hu]
    obtain ⟨q', hq', hp⟩ := h.row p u _ ho hgu
    rw [hq] at hq'
    cases hq'
    exact hp
theorem Mv.tail (h : Mv g m O) (hg : Gr g e) {d : Nat} (hd : d < 2 * e) : tailOf m d = plc O (tailOf g d) := by
  obtain ⟨r, hr, hdr⟩ := hg.at hd
  obtain ⟨q, hq, hp⟩ := h.row _ _ _ (h.at_plc (hg.tail_lt hd)) hr
  exact ((h.gr hg).tail_of hq (hp.mem_iff.2 hdr)).1
theorem Mv.cx (h : Mv g m O) (hg : Gr g e) {u v : Nat} (hu : u < g.length) (hv : v < g.length) : Cx (Ed m e) (plc O u) (plc O v) ↔ Cx (Ed g e) u v := by
  constructor
  · intro hc
    have := Cx.map (R' := Ed g e) (fun p => O.getD p 0) (fun a b r => by
      obtain ⟨k, hk, rfl, rfl⟩ := mem_ends.1 r
      rw [h.tail hg (by omega), h.tail hg (by omega)]
      have e1 := h.at_plc (hg.tail_lt (d := 2 * k) (by omega))
      have e2 := h.at_plc (hg.tail_lt (d := 2 * k + 1) (by omega))
      simp only [List.getD, e1, e2, Option.getD_some]
      exact mem_ends.2 ⟨k, hk, rfl, rfl⟩) hc
    simp only [List.getD, h.at_plc hu, h.at_plc hv, Option.getD_some] at this
    exact this
  · intro hc
    exact Cx.map (R' := Ed m e) (plc O) (fun a b r => by
      obtain ⟨k, hk, rfl, rfl⟩ := mem_ends.1 r
      exact mem_ends.2 ⟨k, hk, h.tail hg (by omega), h.tail hg (by omega)⟩) hc
/-- the components in the other numbers -/
theorem Mv.sorted (h : Mv g m O) (hg : Gr g e) : sortL ((canon (Ed g e) g.length).map fun c => sortI (toZ (c.map (plc O)))) = (canon (Ed m e) m.length).map toZ := by
  refine sortL_eq ?_ canon_sorted
  have hplc : ∀ {u v : Nat}, u < g.length → v < g.length → plc O u = plc O v → u = v := by
    intro u v hu hv he
    have h1 := h.at_plc hu
    rw [he, h.at_plc hv] at h1
    exact (Option.some.inj h1).symm
  have hcl : ∀ a, a < g.length → ∃ a', a' < m.length ∧ lead (Ed m e) a' = true ∧ Cx (Ed m e) a' (plc O a) ∧ sortI (toZ ((cls (Ed g e) g.length a).map (plc O))) = toZ (cls (Ed m e) m.length a') := by
    intro a ha
    obtain ⟨a', hle, hl, hc⟩ := lead_ex (R := Ed m e) (plc O a)
    have hpa := h.plc_lt ha
    refine ⟨a', by rw [h.len]; omega, hl, hc, ?_⟩
    refine sortI_eq (List.Perm.map _ ?_) (toZ_sorted cls_sorted)
    have hnd : ((cls (Ed g e) g.length a).map (plc O)).Nodup := by
      rw [List.Nodup, List.pairwise_map]
      refine List.Pairwise.imp_of_mem ?_ (nd_of_lt cls_sorted)
      intro u v hu hv hne hq
      exact hne (hplc (mem_cls.1 hu).1 (mem_cls.1 hv).1 hq)
    rw [List.perm_ext_iff_of_nodup hnd (nd_of_lt cls_sorted)]
    intro x
    rw [mem_cls]
    constructor
    · intro hx
      obtain ⟨u, hu, rfl⟩ := List.mem_map.1 hx
      have hu := mem_cls.1 hu
      exact ⟨by rw [h.len]; exact h.plc_lt hu.1, hc.trans ((h.cx hg ha hu.1).2 hu.2)⟩
    · rintro ⟨hx, hcx⟩
      rw [h.len] at hx
      have hxO : x < O.length := by rw [h.olen]; exact hx
      have hOx : O[x]? = some O[x] := List.getElem?_eq_getElem hxO
      have hu : O[x] < g.length := h.mem.1 (List.getElem_mem hxO)
      have hpx := h.plc_at hOx
      refine List.mem_map.2 ⟨O[x], mem_cls.2 ⟨hu, ?_⟩, hpx⟩
      rw [← h.cx hg ha hu, hpx]
      exact hc.symm.trans hcx
  simp only [canon, canU]
  rw [List.map_map, List.map_map]
  have hr1 : ((List.range g.length).filter (lead (Ed g e))).Nodup := List.Pairwise.filter _ List.nodup_range
  have hr2 : ((List.range m.length).filter (lead (Ed m e))).Nodup := List.Pairwise.filter _ List.nodup_range
  have hinj : ∀ {L L' : List Nat}, toZ L = toZ L' → L = L' := by
    intro L L' hq
    have hb : ∀ L : List Nat, (toZ L).map Int.toNat = L := by
      intro L
      induction L with
      | nil => rfl
      | cons a L ih => rw [toZ, List.map_cons, List.map_cons, ih, Int.toNat_natCast]
    have := congrArg (List.map Int.toNat) hq
    rwa [hb, hb] at this
  refine (List.perm_ext_iff_of_nodup ?_ ?_).2 ?_
  · rw [List.Nodup, List.pairwise_map]
    refine List.Pairwise.imp_of_mem ?_ hr1
    intro a b ha hb hne hq
    have ha := List.mem_filter.1 ha
    have hb := List.mem_filter.1 hb
    have han := List.mem_range.1 ha.1
    have hbn := List.mem_range.1 hb.1
    obtain ⟨a', ha1, ha2, ha3, ha4⟩ := hcl a han
    obtain ⟨b', hb1, hb2, hb3, hb4⟩ := hcl b hbn
    simp only [Function.comp] at hq
    rw [ha4, hb4] at hq
    have hq2 := hinj hq
    have h1 : plc O b ∈ cls (Ed m e) m.length b' := mem_cls.2 ⟨by rw [h.len]; exact h.plc_lt hbn, hb3⟩
    rw [← hq2] at h1
    have h2 := (h.cx hg han hbn).1 (ha3.symm.trans (mem_cls.1 h1).2)
    exact hne (lead_uniq ha.2 hb.2 h2)
  · rw [List.Nodup, List.pairwise_map]
    refine List.Pairwise.imp_of_mem ?_ hr2
    intro a b ha hb hne hq
    have ha := List.mem_filter.1 ha
    have hb := List.mem_filter.1 hb
    have han := List.mem_range.1 ha.1
    have hq2 := hinj hq
    have h1 : a ∈ cls (Ed m e) m.length a := mem_cls.2 ⟨han, .refl _⟩
    rw [hq2] at h1
    exact hne (lead_uniq ha.2 hb.2 (mem_cls.1 h1).2.symm)
  · intro x
    constructor
    · intro hx
      obtain ⟨a, ha, rfl⟩ := List.mem_map.1 hx
      have ha := List.mem_filter.1 ha
      obtain ⟨a', ha1, ha2, ha3, ha4⟩ := hcl a (List.mem_range.1 ha.1)
      simp only [Function.comp]
      rw [ha4]
      exact List.mem_map.2 ⟨a', List.mem_filter.2 ⟨List.mem_range.2 ha1, ha2⟩, rfl⟩
    · intro hx
      obtain ⟨b, hb, rfl⟩ := List.mem_map.1 hx
      have hb := List.mem_filter.1 hb
      have hbn := List.mem_range.1 hb.1
      rw [h.len] at hbn
      have hbO : b < O.length := by rw [h.olen]; exact hbn
      have hOb : O[b]? = some O[b] := List.getElem?_eq_getElem hbO
      have hu : O[b] < g.length := h.mem.1 (List.getElem_mem hbO)
      have hpb := h.plc_at hOb
      obtain ⟨a, hle, hl, hc⟩ := lead_ex (R := Ed g e) O[b]
      have han : a < g.length := by omega
      obtain ⟨a', ha1, ha2, ha3, ha4⟩ := hcl a han
      have hab : a' = b := by
        refine lead_uniq ha2 hb.2 (ha3.trans ?_)
        have := (h.cx hg han hu).2 hc
        rwa [hpb] at this
      refine List.mem_map.2 ⟨a, List.mem_filter.2 ⟨List.mem_range.2 han, hl⟩, ?_⟩
      simp only [Function.comp]
      rw [ha4, hab]
end
end Fs
namespace Fs
open PySem
theorem ofS_ok (x : String) : PyData.strOk (Str.ofString x) = true := by
  have h := cpsOfBytes_string x
  simp only [PyData.strOk, Str.ofString]
  rw [h, List.all_toArray, List.all_eq_true]
  intro c hc
  obtain ⟨ch, _, rfl⟩ := List.mem_map.1 hc
  rw [decide_eq_true_eq]
  have h2 := ch.valid
  have h3 : ch.toNat = ch.val.toNat := rfl
  rw [h3]
  rcases h2 with h2 | h2
  · have : ch.val.toNat < 0xD800 := h2
    omega
  · exact h2.2
theorem app_ok {a b : Str} (h : PyData.strOk a = true) (h2 : PyData.strOk b = true) : PyData.strOk (a ++ b) = true := by
  have e : (a ++ b).cps = a.cps ++ b.cps := rfl
  simp only [PyData.strOk] at *
  rw [e, Array.all_append, h, h2]; rfl
theorem join_ok {s : Str} (h : PyData.strOk s = true) : ∀ {L : List Str}, (∀ x, x ∈ L → PyData.strOk x = true) → PyData.strOk (s.join L) = true
  | [], _ => by simp only [Str.join]; decide +kernel
  | [a], hL => by simp only [Str.join]; exact hL a (by simp)
  | a :: b :: L, hL => by
    have ih := join_ok h (L := b :: L) fun x hx => hL x (List.mem_cons_of_mem _ hx)
    simp only [Str.join]
    exact app_ok (app_ok (hL a (by simp)) h) ih
theorem tupT_ok {L : List Str} (hL : ∀ x, x ∈ L → PyData.strOk x = true) : PyData.strOk (tupleText L) = true := by
  simp only [tupleText]
  exact app_ok (app_ok (ofS_ok _) (join_ok (ofS_ok _) hL)) (ofS_ok _)
theorem shownAll_map : ∀ {L : List PyData}, PyData.shownAll L = L.map PyData.shown
  | [] => by simp [PyData.shownAll]
  | a :: L => by simp [PyData.shownAll, shownAll_map]
theorem pn_ok {L : List Nat} : PyData.strOk (PyData.tuple (pn L)).shown = true := by
  simp only [PyData.shown]
  refine tupT_ok fun x hx => ?_
  rw [shownAll_map] at hx
  obtain ⟨d, hd, rfl⟩ := List.mem_map.1 hx
  obtain ⟨n, _, rfl⟩ := List.mem_map.1 hd
  simp only [PyData.shown]
  exact ofS_ok _
theorem pt_ok {g : List (List Nat)} : PyData.strOk (PyData.tuple (pt g)).shown = true := by
  rw [PyData.shown]
  refine tupT_ok fun x hx => ?_
  rw [shownAll_map] at hx
  obtain ⟨d, hd, rfl⟩ := List.mem_map.1 hx
  obtain ⟨n, _, rfl⟩ := List.mem_map.1 hd
  exact pn_ok
theorem int_short : ∀ d : Nat, d < 240 → (PyData.int (d : Int)).shown.length ≤ 8 := by decide +kernel
theorem int_weight : ∀ d : Nat, d < 240 → (PyData.int (d : Int)).weight ≤ 8 := by decide +kernel
theorem int_showable : ∀ d : Nat, d < 240 → (PyData.int (d : Int)).showable = true := by decide +kernel
theorem pn_short : ∀ {L : List Nat}, (∀ d, d ∈ L → d < 240) → PyData.leavesShortAll 8 (pn L) = true ∧ PyData.weightAll (pn L) ≤ 9 * L.length ∧ PyData.showableAll (pn L) = true ∧ PyData.hasDictAll (pn L) = false
  | [], _ => by simp [pn_nil, PyData.leavesShortAll, PyData.weightAll, PyData.showableAll, PyData.hasDictAll]
  | a :: L, h => by
    obtain ⟨h1, h2, h3, h4⟩ := pn_short (L := L) fun d hd => h d (List.mem_cons_of_mem _ hd)
    have ha := h a (List.mem_cons_self ..)
    have w := int_weight a ha
    refine ⟨?_, ?_, ?_, ?_⟩
    · simp only [pn_cons, PyData.leavesShortAll, PyData.leavesShort, h1, Bool.and_true]
      exact decide_eq_true (int_short a ha)
    · simp only [pn_cons, PyData.weightAll, List.length_cons]; omega
    · simp only [pn_cons, PyData.showableAll, h3, int_showable a ha, Bool.and_self]
    · simp only [pn_cons, PyData.hasDictAll, PyData.hasDict, h4, Bool.or_self]
theorem pt_short : ∀ {g : List (List Nat)}, (∀ r, r ∈ g → ∀ d, d ∈ r → d < 240) → PyData.leavesShortAll 8 (pt g) = true ∧ PyData.weightAll (pt g) ≤ 9 * g.flatten.length + g.length ∧ PyData.showableAll (pt g) = true ∧ PyData.hasDictAll (pt g) = false
  | [], _ => by simp [pt_nil, PyData.leavesShortAll, PyData.weightAll, PyData.showableAll, PyData.hasDictAll]
  | a :: g, h => by
    obtain ⟨h1, h2, h3, h4⟩ := pt_short (g := g) fun d hd => h d (List.mem_cons_of_mem _ hd)
    obtain ⟨q1, q2, q3, q4⟩ := pn_short (L := a) (h a (List.mem_cons_self ..))
    refine ⟨?_, ?_, ?_, ?_⟩
    · simp only [pt_cons, PyData.leavesShortAll, PyData.leavesShort, h1, q1, Bool.and_self]
    · simp only [pt_cons, PyData.weightAll, PyData.weight, List.length_cons, List.flatten_cons, List.length_append]; omega
    · simp only [pt_cons, PyData.showableAll, PyData.showable, h3, q3, Bool.and_self]
    · simp only [pt_cons, PyData.hasDictAll, PyData.hasDict, h4, q4, Bool.or_self]
theorem sum_rows : ∀ {g : List (List Nat)} {k : Nat}, (∀ r, r ∈ g → r.length ≤ k) → g.flatten.length ≤ k * g.length
  | [], k, _ => by simp
  | a :: g, k, h => by
    have h1 := sum_rows (g := g) (k := k) fun r hr => h r (List.mem_cons_of_mem _ hr)
    have h2 := h a (List.mem_cons_self ..)
    simp only [List.flatten_cons, List.length_append, List.length_cons, Nat.mul_add]
    omega
def rt (g : List (List Nat)) : Str := (PyData.tuple (pt g)).shown
/-- repr of rows of small numbers -/
theorem w_repr {T : Tbl} {s : Sto} {g : List (List Nat)} {Q : D → Sto → Prop} {E : D → Sto → Prop} (h : ∀ r, r ∈ g → ∀ d, d ∈ r → d < 240) (hn : g.length ≤ 60) (hl : ∀ r, r ∈ g → r.length ≤ 240) (hq : Q (.str (rt g)) s) : wp (biD T .repr [.tup (tv g)]) s Q E := by
  obtain ⟨h1, h2, h3, h4⟩ := pt_short h
  have hd := pt_depth g
  have hf := sum_rows (k := 240) hl
  have hf2 : 240 * g.length ≤ 240 * 60 := Nat.mul_le_mul_left _ hn
  rw [bi_repr1]
  have e : toP false s 60 (.tup (tv g)) = some (.tuple (pt g)) := by rw [toP_tup, toP_tv]; rfl
  rw [e]
  refine ⟨⟨by simp only [PyData.showable]; exact h3, ?_, ?_, by simp only [PyData.hasDict]; exact h4⟩, hq⟩
  · refine PyData.shown_fits (B := 8) (by decide) (by decide) (by simp only [PyData.leavesShort]; exact h1) ?_
    simp only [PyData.weight]
    omega
  · simp only [PyData.depth]; omega
theorem eq_rt {s : Sto} {g : List (List Nat)} : eqD s (.str (rt g)) (.str (rt g)) = some true := by
  have h1 : toP false s 66 (.str (rt g)) = some (.str (rt g)) := rfl
  have h2 : SeqAt.shaped (.str (rt g)) = true := by
    simp only [SeqAt.shaped, PyData.canLay0, PyData.depth]
    rw [rt, pt_ok]; rfl
  simp only [eqD, h1]
  rw [if_pos ⟨h2, h2⟩]
  simp [PyData.eqv]
/-! ### side by side: the walk -/
theorem tv_app {a b : List (List Nat)} : tv (a ++ b) = tv a ++ tv b := by simp [tv]
theorem call_beside {n : Nat} {a b c : D} {st : Sto} {Q E : D → Sto → Prop} (h : wp (exL (P.tbl n) c__law_beside_right.body ((lands [a, b, c] st).1.map some ++ List.replicate (c__law_beside_right.ns - c__law_beside_right.np) none)) (lands [a, b, c] st).2 (lv st Q E) NX) : wp (call P (n + 1) F._law_beside_right [a, b, c]) st Q E := w_call (F := c__law_beside_right) rfl rfl h
end Fs
namespace Fs
open PySem
theorem k_beside (n : Nat) {g f : List (List Nat)} {e e2 : Nat} (h : Gr g e) (h2 : Gr f e2) (hn : g.length + f.length ≤ 60) (he : e + e2 ≤ 120) (st : Sto) :
    wp (call P (n + 5) F._law_beside_right [.tup (tv g), .tup (tv f), .tup (tv (canon (Ed g e) g.length))]) st (fun r s' => r = .bl true ∧ s' = st) NX := by
  apply call_beside
  have hsl := sl_ge
  have hB := h.beside h2 hn he
  unfold c__law_beside_right
  simp! only [la_tup tv_purs]
  refine w_lcm g _ (fun r => .int (r.length : Nat)) (by omega) ?_ ?_
  · intro r _
    simp! only [la_tup nv_purs, nv_len]
  simp! only [lInt_lst, optL_len, sum_len, h.len, tv_len]
  refine ⟨by omega, ?_⟩
  refine w_lcm f _ (fun r => .tup (nv (r.map fun d => d + 2 * e))) (by omega) ?_ ?_
  · intro r hr
    have hrl : r.length ≤ 240 := by
      obtain ⟨pre, post, hp⟩ := List.append_of_mem hr
      exact h2.row hp
    simp! only [la_tup nv_purs]
    refine w_lcm r _ (fun d => .int ((d + 2 * e : Nat) : Int)) (by omega) ?_ ?_
    · intro d _
      simp! only []
      rfl
    · have hr2 : r.map (fun d => D.int ((d + 2 * e : Nat) : Int)) = nv (r.map fun d => d + 2 * e) := by simp [nv]
      rw [hr2]
      simp! only [seqv_lst]
  have hf2 : f.map (fun r => D.tup (nv (r.map fun d => d + 2 * e))) = tv (f.map fun r => r.map fun d => d + 2 * e) := by simp [tv]
  rw [hf2]
  simp! only [seqv_lst, tv_len, List.length_map]
  rw [← tv_app]
  have hbe : g ++ f.map (fun r => r.map fun d => d + 2 * e) = beside g f e := rfl
  rw [hbe]
  simp! only [la_tup tv_purs]
  refine ⟨by omega, ?_⟩
  with_reducible refine wp_nx (k_parts (n + 2) h2 st) ?_
  rintro y s' ⟨rfl, rfl⟩
  have hc2 : (canon (Ed f e2) f.length).length ≤ f.length := canU_len
  have hc1 : (canon (Ed g e) g.length).length ≤ g.length := canU_len
  simp! only []
  refine w_lcm (canon (Ed f e2) f.length) _ (fun r => .tup (nv (r.map fun v => v + g.length))) (by omega) ?_ ?_
  · intro r hr
    have hrl : r.length ≤ 60 := by
      obtain ⟨m, _, rfl⟩ := List.mem_map.1 hr
      have : (cls (Ed f e2) f.length m).length ≤ (List.range f.length).length := List.length_filter_le ..
      simp at this
      omega
    simp! only [la_tup nv_purs]
    refine w_lcm r _ (fun d => .int ((d + g.length : Nat) : Int)) (by omega) ?_ ?_
    · intro d _
      simp! only []
      rfl
    · have hr2 : r.map (fun d => D.int ((d + g.length : Nat) : Int)) = nv (r.map fun d => d + g.length) := by simp [nv]
      rw [hr2]
      simp! only [seqv_lst]
  have hc3 : (canon (Ed f e2) f.length).map (fun r => D.tup (nv (r.map fun v => v + g.length))) = tv ((canon (Ed f e2) f.length).map fun r => r.map fun v => v + g.length) := by simp [tv]
  rw [hc3]
  simp! only [la_lst tv_purs]
  refine wp_nx (k_comp (n := n) hB _) ?_
  rintro y s2 ⟨rfl, rfl⟩
  rw [beside_canon h h2 hB]
  simp! only [seqv_ref, sqC_lst, sg0, tv_len, List.length_map]
  refine ⟨by omega, ?_⟩
  rw [← tv_app, eq_tv]
  simp! only []
  refine ⟨okP_app, ?_⟩
  rw [rk_clean rfl]
  exact ⟨rfl, take0⟩
end Fs
namespace Fs
open PySem
theorem foldl_kd {f : Nat → D} : ∀ {O L : List Nat}, (L ++ O).Nodup → (kd f O).foldl (fun a p => dput p.1 p.2 a) (kd f L) = kd f (L ++ O)
  | [], L, _ => by simp [kd]
  | a :: O, L, h => by
    have ha : a ∉ L := by
      intro hm
      exact (List.nodup_append.1 h).2.2 a hm a (List.mem_cons_self ..) rfl
    have h2 : ((L ++ [a]) ++ O).Nodup := by simpa using h
    have e : (kd f (a :: O)) = (ik a, f a) :: kd f O := rfl
    rw [e, List.foldl_cons, kd_put ha, foldl_kd h2]
    simp
theorem foldl_kd0 {f : Nat → D} {O : List Nat} (h : O.Nodup) : (kd f O).foldl (fun a p => dput p.1 p.2 a) [] = kd f O := by
  have := foldl_kd (f := f) (O := O) (L := []) (by simpa using h)
  simpa [kd] using this
theorem optL_tupI : ∀ L : List (List Int), optL tupI (L.map fun l => D.tup (l.map D.int)) = some L
  | [] => rfl
  | a :: L => by simp only [List.map_cons, optL, tupI, optL_ints, optL_tupI L]
theorem w_sortT {s : Sto} {L : List (List Int)} {Q : D → Sto → Prop} {E : D → Sto → Prop} (hne : (L.all fun l => !l.isEmpty) = true) (h : Q (.lst ((sortL L).map fun l => .tup (l.map D.int))) s) : wp (fSorted (.lst (L.map fun l => D.tup (l.map D.int)))) s Q E := by
  unfold wp
  cases L with
  | nil => exact h
  | cons a L =>
    have h1 : lInt s (.lst ((a :: L).map fun l => D.tup (l.map D.int))) = none := rfl
    have h2 : lTups s (.lst ((a :: L).map fun l => D.tup (l.map D.int))) = some (a :: L) := optL_tupI (a :: L)
    simp only [fSorted, h1, h2, hne]
    exact h
theorem toZ_int {L : List Nat} : (toZ L).map D.int = nv L := by rw [nv_ints]
theorem k_moved (n : Nat) {g : List (List Nat)} {e l : Nat} {N : Int} (hg : Gr g e) {st : Sto} (hN : N + 20000 ≤ 2 ^ 30) (h : Sr st l N) :
    wp (call P (n + 5) F._law_moved_right [.ref l, .tup (tv g), .tup (tv (canon (Ed g e) g.length))]) st (fun r s' => r = .bl true ∧ Up st s' l (N + 20000)) NX := by
  have hsl := sl_ge
  have hn := hg.n
  have he := hg.e
  have hll := h.lt
  with_reducible refine w_call (F := c__law_moved_right) rfl rfl ?_
  unfold c__law_moved_right
  simp! only [la_tup tv_purs, tv_len]
  refine ⟨rgOk_nat (by omega), ?_⟩
  simp! only [rngN_nv, Int.toNat_natCast]
  refine wp_nx (k_mixedL (n + 2) (L := List.range g.length) (by simp; omega) (by simp; omega) h) ?_
  rintro y s1 ⟨⟨O, rfl, hO⟩, hu1⟩
  have hl1 := hu1.len
  simp! only [la_lst nv_purs]
  have hOl : O.length = g.length := by rw [hO.length_eq]; simp
  have hOm : ∀ u, u ∈ O ↔ u < g.length := fun u => by rw [hO.mem_iff, List.mem_range]
  have hOn : O.Nodup := hO.nodup_iff.2 List.nodup_range
  refine w_lcPC (l := s1.length) O (fun (u : Nat) => .int (u : Int)) (fun pre a s => ∃ (rows : List (List Nat)) (s2 : Sto), s = s2 ++ [.lst (nv O)] ∧ a = tv rows ∧ Up st s2 l (N + 60 + 240 * pre.length) ∧ rows.length = pre.length ∧ ∀ (p u : Nat) (r : List Nat), pre[p]? = some u → g[u]? = some r → ∃ q : List Nat, rows[p]? = some q ∧ q.Perm r) ⟨[], s1, rfl, rfl, hu1.mono (by simp; omega), rfl, by simp⟩ (by omega) ?_ ?_ ?_
  · rintro p a s ⟨rows, s2, rfl, rfl, hu2, _⟩
    have hl2 := hu2.len
    rw [hl1, ← hl2]
    exact sg0
  · rintro pre u post a s hOs hal ⟨rows, s2, rfl, rfl, hu2, hrl, hrw⟩
    have hl2 := hu2.len
    have hu : u < g.length := (hOm u).1 (by rw [hOs]; simp)
    have hgu : g[u]? = some g[u] := List.getElem?_eq_getElem hu
    have hrow : (g[u]).length ≤ 240 := hg.row (split_at hgu)
    have hpl : pre.length + (post.length + 1) = g.length := by rw [← hOl, hOs]; simp
    simp! only [atI_nat, tv_get, hgu, Option.map_some]
    have hs2 : Sr (s2 ++ [.lst (nv O)]) l (N + 60 + 240 * pre.length) := by
      obtain ⟨p, q, r, h0, h1, h2⟩ := hu2.sr hll
      exact ⟨p, q, r, sgl h0, h1, h2⟩
    refine wp_nx (k_mixedT (n + 2) (L := g[u]) (by omega) (by omega) hs2) ?_
    rintro y s3 ⟨⟨r', rfl, hr'⟩, hu3⟩
    obtain ⟨p, q, r, rfl, hq0, hq1⟩ := hu3
    have hc1 : ∃ c', s2[l]? = some c' := ⟨_, List.getElem?_eq_getElem (by omega)⟩
    obtain ⟨c', hc'⟩ := hc1
    rw [ssl hc']
    simp! only [seqv_lst]
    refine ⟨_, rfl, rows ++ [r'], s2.set l (src p q r), rfl, by simp [tv], hu2.trans ⟨p, q, r, rfl, hq0, ?_⟩, by simp [hrl], ?_⟩
    · omega
    · intro p u' r0 hp hr0
      by_cases hpl2 : p < pre.length
      · rw [List.getElem?_append_left hpl2] at hp
        obtain ⟨q, hq, hqp⟩ := hrw p u' r0 hp hr0
        exact ⟨q, by rw [List.getElem?_append_left (by omega)]; exact hq, hqp⟩
      · rw [List.getElem?_append_right (by omega)] at hp
        have hp0 : p - pre.length = 0 := by
          have := (List.getElem?_eq_some_iff.1 hp).1
          simp at this; omega
        rw [hp0] at hp
        have : u = u' := by simpa using hp
        subst this
        rw [hgu] at hr0
        cases hr0
        refine ⟨r', ?_, hr'⟩
        rw [List.getElem?_append_right (by omega), hrl, hp0]; rfl
  · rintro a s hal ⟨m, s2, rfl, rfl, hu2, hml, hrw⟩
    have hl2 := hu2.len
    have hMv : Mv g m O := ⟨hO, by rw [hml, hOl], hrw⟩
    have hGm := hMv.gr hg
    have hl12 : s1.length = s2.length := by omega
    rw [hl12]
    simp! only [seqv_lst, la_tup tv_purs, sg0]
    refine w_lcmEC (l := s2.length) O (fun (u : Nat) => .int (u : Int)) (fun p => .tup [.int (p.2 : Nat), .int (p.1 : Nat)]) (by omega) sg0 ?_ ?_
    · intro i c _
      simp! only []
      omega
    · intro Y hYl hY
      have hYe : Y = O.map fun (u : Nat) => D.tup [.int (u : Int), .int ((plc O u : Nat) : Int)] := by
        refine List.ext_getElem? fun i => ?_
        rw [hY, List.getElem?_map]
        cases ho : O[i]? with
        | none => rfl
        | some u => rw [Option.map_some, Option.map_some, hMv.plc_at ho]
      have hYp : optL pairv Y = some (kd (fun u => .int (plc O u : Nat)) O) := by
        rw [hYe]
        exact optL_map (h := fun (u : Nat) => D.tup [.int (u : Int), .int ((plc O u : Nat) : Int)]) (k := fun u => (ik u, D.int ((plc O u : Nat) : Int))) (fun c => rfl) O
      subst hYe
      simp! only [Option.bind_some, hYp]
      refine ⟨kd_pur (f := fun u => .int (plc O u : Nat)) fun _ => rfl, ?_⟩
      rw [foldl_kd0 hOn]
      simp! only [la_dic (kd_pur (f := fun u => .int (plc O u : Nat)) fun _ => rfl)]
      have hcl : (canon (Ed g e) g.length).length ≤ g.length := canU_len
      refine w_lcm (canon (Ed g e) g.length) _ (fun c => .tup ((sortI (toZ (c.map (plc O)))).map D.int)) (by omega) ?_ ?_
      · intro c hc
        obtain ⟨mm, _, rfl⟩ := List.mem_map.1 hc
        have hcl2 : (cls (Ed g e) g.length mm).length ≤ g.length := by
          have : (cls (Ed g e) g.length mm).length ≤ (List.range g.length).length := List.length_filter_le ..
          simpa using this
        simp! only [la_tup nv_purs]
        refine w_lcm (cls (Ed g e) g.length mm) _ (fun u => .int ((plc O u : Nat) : Int)) (by omega) ?_ ?_
        · intro u hu
          have hu := (mem_cls.1 hu).1
          simp! only [sg1, kd_okI, if_true]
          rw [kd_get, if_pos ((hOm u).2 hu)]
          simp! only []
        · have hnv : (cls (Ed g e) g.length mm).map (fun u => D.int ((plc O u : Nat) : Int)) = nv ((cls (Ed g e) g.length mm).map (plc O)) := by simp [nv]
          rw [hnv]
          rw [srt_ints (lInt_lst.trans optL_nv)]
          simp! only [seqv_lst]
      · have hso : (canon (Ed g e) g.length).map (fun c => D.tup ((sortI (toZ (c.map (plc O)))).map D.int)) = ((canon (Ed g e) g.length).map fun c => sortI (toZ (c.map (plc O)))).map fun l => D.tup (l.map D.int) := by simp
        rw [hso]
        refine w_sortT ?_ ?_
        · rw [List.all_eq_true]
          intro z hz
          obtain ⟨c, hc, rfl⟩ := List.mem_map.1 hz
          obtain ⟨mm, hmm, rfl⟩ := List.mem_map.1 hc
          have hmm := List.mem_filter.1 hmm
          obtain ⟨t, ht⟩ := cls_head (List.mem_range.1 hmm.1) hmm.2
          have hl : (sortI (toZ ((cls (Ed g e) g.length mm).map (plc O)))).length = t.length + 1 := by
            rw [(sortI_perm' _).length_eq, ht]; simp
          cases hs : sortI (toZ ((cls (Ed g e) g.length mm).map (plc O))) with
          | nil => rw [hs] at hl; simp at hl
          | cons _ _ => rfl
        rw [hMv.sorted hg]
        have htv : ((canon (Ed m e) m.length).map toZ).map (fun l => D.tup (l.map D.int)) = tv (canon (Ed m e) m.length) := by
          rw [List.map_map, tv]
          refine List.map_congr_left fun c _ => ?_
          simp only [Function.comp, toZ_int]
        rw [htv]
        simp! only [la_lst tv_purs]
        refine wp_nx (k_comp n hGm _) ?_
        rintro y s3 ⟨rfl, rfl⟩
        simp! only [seqv_ref, sg2, sqC_lst]
        rw [eq_tv]
        simp! only []
        obtain ⟨p, q, r, rfl, hq0, hq1⟩ := hu2
        refine ⟨okP_set rfl, ?_⟩
        rw [rk_clean rfl, take_set]
        refine ⟨rfl, p, q, r, rfl, hq0, by omega⟩
end Fs
namespace Fs
open PySem
def pz (L : List Int) : List PyData := L.map PyData.int
theorem pz_lay : ∀ L : List Int, PyData.canLayAll0 (pz L) = true
  | [] => by simp [pz, PyData.canLayAll0]
  | a :: L => by
    have h : pz (a :: L) = .int a :: pz L := rfl
    rw [h]
    simp only [PyData.canLayAll0, PyData.canLay0, pz_lay L, Bool.and_self]
theorem pz_depth : ∀ L : List Int, PyData.depthAll (pz L) ≤ 1
  | [] => by simp [pz, PyData.depthAll]
  | a :: L => by
    have h : pz (a :: L) = .int a :: pz L := rfl
    have := pz_depth L
    rw [h]
    simp only [PyData.depthAll, PyData.depth]
    omega
theorem toP_refF {z : Bool} {s : Sto} {k l : Nat} {xs : List D} (h : s[l]? = some (.frl xs)) : toP z s (k + 1) (.ref l) = (optL (toP z s k) xs).map .list := by
  simp only [toP, h]
theorem eq_nilF {s : Sto} {l : Nat} {W : List Int} (h : s[l]? = some (.frl (zv W))) : eqD s (.ref l) (.lst []) = some W.isEmpty := by
  have h1 : toP false s 66 (.ref l) = some (.list (pz W)) := by
    have e : optL (toP false s 65) (zv W) = some (pz W) := optL_map (fun c => toP_int) W
    rw [toP_refF h, e]; rfl
  have h0 : toP false s 66 (.lst []) = some (.list []) := rfl
  have h2 : SeqAt.shaped (.list (pz W)) = true := by
    have h := pz_depth W
    have hd : PyData.depth (.list (pz W)) ≤ 64 := by simp only [PyData.depth]; omega
    simp [SeqAt.shaped, PyData.canLay0, pz_lay, hd]
  have h3 : SeqAt.shaped (.list []) = true := by decide
  simp only [eqD, h1, h0]
  rw [if_pos ⟨h2, h3⟩]
  cases W with
  | nil => simp [pz, PyData.eqv, PyData.eqvAll]
  | cons a W => simp [pz, PyData.eqv, PyData.eqvAll]
theorem rk_valc {s : Sto} {b : Nat} {a x y : Int} : rback s b (src a x y) = some (src a x y) := rk_val (xs := [.int a, .int x, .int y]) rfl
theorem k_source (n : Nat) {st : Sto} {l k : Nat} {ns : List Int} (hk : k < 8) (hns : ns.length ≤ 63) (h : st[l]? = some (.frl (zv ns))) :
    wp (call P (n + 1) F._law_source [.ref l, .int k]) st (fun r s' => (∃ a b c, r = src a b c ∧ 0 ≤ b ∧ b ≤ 24) ∧ s' = st) NX := by
  have hsl := sl_ge
  refine w_call (F := c__law_source) rfl rfl ?_
  unfold c__law_source
  simp! only []
  refine ⟨by omega, ?_⟩
  rw [eq_nilF h]
  simp! only [Option.map_some, truth]
  have h10 : (0 : Int) ≤ 18 ∧ (18 : Int) ≤ 1000000 ∧ (Int.natAbs 10) < 2 ^ 64 := by decide
  have h1018 : (10 : Int) ^ (Int.toNat 18) = 1000000000000000000 := by decide
  have hlog : (Int.natAbs 3).log2 + (Int.natAbs (k : Int)).log2 < 1000000 := by
    have h1 : (Int.natAbs (k : Int)).log2 < 500000 := log_lt (k := 10) (by omega) (by decide)
    have h2 : (Int.natAbs 3).log2 = 1 := by decide
    omega
  by_cases hn0 : ns = []
  · subst hn0
    simp! only [List.isEmpty_nil, truth]
    refine ⟨hlog, h10, by omega, okP_self, ?_⟩
    have := rk_valc (s := st) (b := st.length) (a := 1) (x := 3 * (k : Int)) (y := 0)
    rw [src] at this
    rw [this]
    exact ⟨⟨1, 3 * (k : Int), 0, rfl, by omega, by omega⟩, by simp⟩
  · have hpos : 0 < ns.length := List.length_pos_iff.2 hn0
    have hz : (zv ns).length = ns.length := by simp
    have hm1 : 0 ≤ (k : Int).fmod (ns.length : Int) := Int.fmod_nonneg_of_pos _ (by omega)
    have hm2 : (k : Int).fmod (ns.length : Int) < (ns.length : Int) := Int.fmod_lt_of_pos _ (by omega)
    have hne : ns.isEmpty = false := by simpa using hn0
    rw [hne]
    simp! only [h, leC_frl, hz, truth]
    refine ⟨by omega, ?_⟩
    generalize (k : Int).fmod (ns.length : Int) = j at *
    obtain ⟨i, rfl⟩ : ∃ i : Nat, j = (i : Int) := ⟨j.toNat, by omega⟩
    have hi : (zv ns)[i]? = some (.int (ns[i]'(by omega))) := by
      rw [List.getElem?_map, List.getElem?_eq_getElem (by omega)]; rfl
    simp! only [atI_nat, hi]
    generalize ns[i] = a
    refine ⟨hlog, h10, ?_⟩
    rw [h1018]
    refine wb_of ?_ ?_
    · intro _
      refine ⟨h10, ⟨by decide, by decide⟩, by omega, okP_self, ?_⟩
      have := rk_valc (s := st) (b := st.length) (a := a) (x := 3 * (k : Int)) (y := a.fdiv 1000000000000000000)
      rw [src] at this
      rw [this]
      exact ⟨⟨a, 3 * (k : Int), _, rfl, by omega, by omega⟩, by simp⟩
    · intro _
      refine ⟨by omega, okP_self, ?_⟩
      have := rk_valc (s := st) (b := st.length) (a := a) (x := 3 * (k : Int)) (y := 0)
      rw [src] at this
      rw [this]
      exact ⟨⟨a, 3 * (k : Int), 0, rfl, by omega, by omega⟩, by simp⟩
end Fs
namespace Fs
open PySem
theorem gr0 {k : Nat} (hk : k ≤ 60) : Gr (List.replicate k []) 0 := by
  refine ⟨?_, by simpa using hk, by omega⟩
  simp
theorem cx0 {R : Nat → Nat → Prop} (hR : ∀ u v, ¬ R u v) {u v : Nat} : Cx R u v ↔ u = v := by
  constructor
  · intro h
    cases h with
    | refl => rfl
    | fwd _ r => exact absurd r (hR _ _)
    | bwd _ r => exact absurd r (hR _ _)
  · rintro rfl; exact .refl _
theorem canon0 {R : Nat → Nat → Prop} (hR : ∀ u v, ¬ R u v) {n : Nat} : canon R n = (List.range n).map fun m => [m] := by
  have hl : ∀ m, lead R m = true := fun m => lead_iff.2 fun u hu hc => by have := (cx0 hR).1 hc; omega
  have hc : ∀ m, m < n → cls R n m = [m] := by
    intro m hm
    refine List.Perm.eq_of_pairwise (le := (· < ·)) (fun a b _ _ h1 h2 => by omega) cls_sorted (by simp) ?_
    rw [List.perm_ext_iff_of_nodup (nd_of_lt cls_sorted) (by simp)]
    intro v
    rw [mem_cls, cx0 hR]
    simp only [List.mem_singleton]
    constructor
    · rintro ⟨_, h⟩; exact h.symm
    · rintro rfl; exact ⟨hm, rfl⟩
  simp only [canon, canU]
  rw [List.filter_eq_self.2 fun m _ => hl m]
  refine List.map_congr_left fun m hm => hc m (List.mem_range.1 hm)
theorem ed0 {g : List (List Nat)} {u v : Nat} : ¬ Ed g 0 u v := by
  simp [Ed, ends]
theorem rev2_len {g : List (List Nat)} {e : Nat} : (ev2 (ends g e)).length = e := by simp [ev2, ends]
theorem Gr.small {g : List (List Nat)} {e : Nat} (h : Gr g e) : ∀ r, r ∈ g → ∀ d, d ∈ r → d < 240 := by
  intro r hr d hd
  obtain ⟨pre, post, hp⟩ := List.append_of_mem hr
  have := h.lt hp hd
  have := h.e
  omega
theorem Gr.rows {g : List (List Nat)} {e : Nat} (h : Gr g e) : ∀ r, r ∈ g → r.length ≤ 240 := by
  intro r hr
  obtain ⟨pre, post, hp⟩ := List.append_of_mem hr
  exact h.row hp
theorem can_small {R : Nat → Nat → Prop} {n : Nat} (hn : n ≤ 60) : (∀ r, r ∈ canon R n → ∀ d, d ∈ r → d < 240) ∧ (canon R n).length ≤ 60 ∧ ∀ r, r ∈ canon R n → r.length ≤ 240 := by
  refine ⟨?_, Nat.le_trans canU_len hn, ?_⟩
  · intro r hr d hd
    obtain ⟨m, _, rfl⟩ := List.mem_map.1 hr
    have := (mem_cls.1 hd).1
    omega
  · intro r hr
    obtain ⟨m, _, rfl⟩ := List.mem_map.1 hr
    have : (cls R n m).length ≤ (List.range n).length := List.length_filter_le ..
    simp at this
    omega
theorem og_repr {s : Sto} {g : List (List Nat)} {F : PyData → Prop} (h : ∀ r, r ∈ g → ∀ d, d ∈ r → d < 240) (hn : g.length ≤ 60) (hl : ∀ r, r ∈ g → r.length ≤ 240) (hq : F (.tuple (pt g))) : og (toP false s 60 (.tup (tv g))) fun p => (p.showable = true ∧ p.shown.length ≤ sizeLine ∧ p.depth ≤ 60 ∧ p.hasDict = false) ∧ F p := by
  have hw := w_repr (T := P.tbl 0) (s := s) (Q := fun _ _ => True) (E := NX) h hn hl trivial
  rw [bi_repr1] at hw
  have e : toP false s 60 (.tup (tv g)) = some (.tuple (pt g)) := by rw [toP_tup, toP_tv]; rfl
  rw [e] at hw ⊢
  exact ⟨hw.1, hq⟩
theorem eq_sh {s : Sto} {g : List (List Nat)} : eqD s (.str (PyData.tuple (pt g)).shown) (.str (PyData.tuple (pt g)).shown) = some true := eq_rt
theorem tr_bl {s : Sto} {b : Bool} : truth s (.bl b) = some b := rfl
theorem k_law {ns : List Int} (hns : ns.length ≤ 63) : wp (call P 6 F.law [.ref 0]) [.frl (zv ns)] (fun r s' => r = .bl true ∧ s' = [.frl (zv ns)]) NX := by
  have hsl := sl_ge
  refine w_call (F := c_law) rfl rfl ?_
  unfold c_law
  have h0 : ([D.frl (zv ns)] : Sto)[0]? = some (.frl (zv ns)) := rfl
  have hz : (zv ns).length = ns.length := by simp
  obtain ⟨K, hK, hK8⟩ : ∃ K : Nat, (if (1 : Int) < (if ((ns.length : Nat) : Int) < 8 then ((ns.length : Nat) : Int) else 8) then (if ((ns.length : Nat) : Int) < 8 then ((ns.length : Nat) : Int) else 8) else 1) = (K : Int) ∧ K ≤ 8 := by
    refine ⟨(if (1 : Int) < (if ((ns.length : Nat) : Int) < 8 then ((ns.length : Nat) : Int) else 8) then (if ((ns.length : Nat) : Int) < 8 then ((ns.length : Nat) : Int) else 8) else 1).toNat, ?_, ?_⟩
    · split <;> split <;> omega
    · split <;> split <;> omega
  simp! only [leC_frl, hz, gt_iff_lt]
  rw [hK, rngL1 (by omega)]
  simp! only []
  refine w_forP (List.range K) _ (fun pre σ s => (∃ x1 x2 x3 x4 x5, σ = [some (.ref 0), x1, x2, x3, x4, x5]) ∧ s[0]? = some (.frl (zv ns))) ⟨⟨_, _, _, _, _, rfl⟩, rfl⟩ ?_ ?_
  · rintro pre k post σ s hr ⟨⟨x1, x2, x3, x4, x5, rfl⟩, hs⟩
    obtain ⟨_, hk, _⟩ := range_split hr
    have hl0 : 0 < s.length := (List.getElem?_eq_some_iff.1 hs).1
    simp! only []
    refine wp_nx (k_source 4 (by omega) hns hs) ?_
    rintro y s' ⟨⟨a, b, c, rfl, hb0, hb1⟩, rfl⟩
    have hla : land (src a b c) s' = (.ref s'.length, s' ++ [src a b c]) := la_lst (xs := [.int a, .int b, .int c]) rfl
    simp! only [hla]
    have hS1 : Sr (s' ++ [src a b c]) s'.length 24 := ⟨a, b, c, sg0, hb0, hb1⟩
    refine wp_nx (k_any 2 (m := 10) (k := 9) (by omega) (by omega) (by omega) (by omega) hS1) ?_
    rintro y s2 ⟨⟨g, e, rfl, hg, hg1, hg10, he9⟩, hu2⟩
    have hS2 := hu2.sr (by simp)
    have hl2 : s2.length = s'.length + 1 := by rw [hu2.len]; simp
    have h20 : s2[0]? = some (.frl (zv ns)) := by
      obtain ⟨p, q, r, rfl, _, _⟩ := hu2
      rw [List.getElem?_set_ne (by omega)]
      exact sgl hs
    obtain ⟨c1, c2, c3⟩ := can_small (R := Ed g e) (n := g.length) hg.n
    simp! only [la_tup tv_purs]
    refine og_repr hg.small hg.n hg.rows ?_
    with_reducible refine wp_nx (k_parts 3 hg _) ?_
    rintro y s3 ⟨rfl, rfl⟩
    simp! only [la_tup tv_purs]
    refine ⟨by omega, ?_⟩
    refine wp_nx (k_comp 1 hg _) ?_
    rintro y s4 ⟨rfl, rfl⟩
    refine og_repr c1 c2 c3 ?_
    refine og_repr c1 c2 c3 ?_
    rw [eq_sh]
    simp! only [Option.map_some, tr_bl]
    refine og_repr hg.small hg.n hg.rows ?_
    rw [eq_sh]
    simp! only [Option.map_some, tr_bl]
    rw [tv_len, eq_int]
    simp! only []
    refine wb_of ?_ ?_
    · intro hc
      have hc : (canon (Ed g e) g.length).length = 1 := by
        have := of_decide_eq_true hc
        omega
      have hcount := canon_count hg
      refine wp_nx (k_ends 4 hg _) ?_
      rintro y s5 ⟨rfl, rfl⟩
      have hlt : decide (((ev2 (ends g e)).length : Int) < ((tv g).length : Int) - 1) = false := by
        rw [rev2_len, tv_len, decide_eq_false_iff_not]; omega
      simp! only [hlt, tr_bl]
      with_reducible refine wp_nx (k_moved 0 hg (by omega) hS2) ?_
      rintro y s6 ⟨rfl, hu6⟩
      simp! only [tr_bl]
      have hS6 := hu6.sr (by omega)
      refine wp_nx (k_any 2 (m := 5) (k := 5) (by omega) (by omega) (by omega) (by omega) hS6) ?_
      rintro y s7 ⟨⟨f, e2, rfl, hf, hf1, hf10, hf9⟩, hu7⟩
      refine wp_nx (k_beside 0 hg hf (by omega) (by omega) _) ?_
      rintro y s8 ⟨rfl, rfl⟩
      simp! only [tr_bl]
      refine ⟨⟨_, _, _, _, _, rfl⟩, ?_⟩
      obtain ⟨p, q, r, rfl, _, _⟩ := hu6.trans hu7
      rw [List.getElem?_set_ne (by omega)]
      exact h20
    · intro hc
      with_reducible refine wp_nx (k_moved 0 hg (by omega) hS2) ?_
      rintro y s6 ⟨rfl, hu6⟩
      simp! only [tr_bl]
      have hS6 := hu6.sr (by omega)
      refine wp_nx (k_any 2 (m := 5) (k := 5) (by omega) (by omega) (by omega) (by omega) hS6) ?_
      rintro y s7 ⟨⟨f, e2, rfl, hf, hf1, hf10, hf9⟩, hu7⟩
      refine wp_nx (k_beside 0 hg hf (by omega) (by omega) _) ?_
      rintro y s8 ⟨rfl, rfl⟩
      simp! only [tr_bl]
      refine ⟨⟨_, _, _, _, _, rfl⟩, ?_⟩
      obtain ⟨p, q, r, rfl, _, _⟩ := hu6.trans hu7
      rw [List.getElem?_set_ne (by omega)]
      exact h20
  · rintro σ s ⟨⟨x1, x2, x3, x4, x5, rfl⟩, hs⟩
    obtain ⟨J, rfl⟩ : ∃ J, s = .frl (zv ns) :: J := by
      cases s with
      | nil => cases hs
      | cons c J => 
        have : c = .frl (zv ns) := by simpa using hs
        exact ⟨J, by rw [this]⟩
    simp! only []
    have hg0 := gr0 (k := 0) (by omega)
    have hg3 := gr0 (k := 3) (by omega)
    refine ⟨by omega, ?_⟩
    refine wp_nx (k_comp 1 (g := List.replicate 0 []) (e := 0) hg0 _) ?_
    rintro y s8 ⟨rfl, rfl⟩
    refine ⟨by omega, ?_⟩
    have hc0 : canon (Ed (List.replicate 0 []) 0) (List.replicate 0 ([] : List Nat)).length = [] := rfl
    rw [hc0]
    have he0 : eqD (.frl (zv ns) :: J) (.tup (tv [])) (.tup []) = some true := eq_tv (g := [])
    rw [he0]
    simp! only []
    refine ⟨by omega, by omega, by omega, by omega, ?_⟩
    have e172 : ([D.tup [], D.tup [], D.tup []] : List D) = tv (List.replicate 3 []) := rfl
    rw [e172]
    with_reducible refine wp_nx (k_comp 1 (g := List.replicate 3 []) (e := 0) hg3 _) ?_
    rintro y s8 ⟨rfl, rfl⟩
    refine ⟨by omega, by omega, by omega, by omega, ?_⟩
    have hc3 : canon (Ed (List.replicate 3 []) 0) (List.replicate 3 ([] : List Nat)).length = [[0], [1], [2]] := by
      rw [canon0 fun _ _ => ed0]; rfl
    rw [hc3]
    have he3 : eqD (.frl (zv ns) :: J) (.tup (tv [[0], [1], [2]])) (.tup [.tup [.int 0], .tup [.int 1], .tup [.int 2]]) = some true := eq_tv (g := [[0], [1], [2]])
    rw [he3]
    simp! only []
    refine ⟨okP_app (st := [.frl (zv ns)]) (r := J), ?_⟩
    rw [rk_clean rfl]
    exact ⟨rfl, rfl⟩
end Fs
namespace Fs
open PySem L2 PyProof.Rows PySem.Spec
abbrev pw : Program := PySem.Challenge.pw_flatsum_k05_components
def top (i : Nat) : Stmt := pw.main.body.getD i (.Pass ⟨0, 0, 0, 0⟩)
structure Ev (w : World) (K : PySem.W.Frag) (mg : Str → Option Value) (base : Heap) (Z : Wc) (n : Nat) : Prop where
  f_all : mg "all" = none
  f_bool : mg "bool" = none
  f_dict : mg "dict" = none
  f_enumerate : mg "enumerate" = none
  f_int : mg "int" = none
  f_isinstance : mg "isinstance" = none
  f_len : mg "len" = none
  f_list : mg "list" = none
  f_max : mg "max" = none
  f_min : mg "min" = none
  f_range : mg "range" = none
  f_repr : mg "repr" = none
  f_set : mg "set" = none
  f_sorted : mg "sorted" = none
  f_sum : mg "sum" = none
  f_tuple : mg "tuple" = none
  q_MAX_EDGES : ∃ t, mg "MAX_EDGES" = some (.int 120 t)
  q_MAX_NODES : ∃ t, mg "MAX_NODES" = some (.int 60 t)
  C_is_index : Cal pw w K mg base Z P n F.is_index "is_index" ["value", "many"]
  C_graph_fault : Cal pw w K mg base Z P n F.graph_fault "graph_fault" ["value"]
  C_check_graph : Cal pw w K mg base Z P n F.check_graph "check_graph" ["graph"]
  C_dart_count : Cal pw w K mg base Z P n F.dart_count "dart_count" ["graph"]
  C_opposite_of : Cal pw w K mg base Z P n F.opposite_of "opposite_of" ["dart"]
  C_dart_tails : Cal pw w K mg base Z P n F.dart_tails "dart_tails" ["graph"]
  C_component_list : Cal pw w K mg base Z P n F.component_list "component_list" ["graph"]
  C_components : Cal pw w K mg base Z P n F.components "components" ["graph"]
  C__law_source : Cal pw w K mg base Z P n F._law_source "_law_source" ["_law_script", "_law_k"]
  C__law_next : Cal pw w K mg base Z P n F._law_next "_law_next" ["_law_source_here", "_law_many"]
  C__law_mixed : Cal pw w K mg base Z P n F._law_mixed "_law_mixed" ["_law_source_here", "_law_items"]
  C__law_ends : Cal pw w K mg base Z P n F._law_ends "_law_ends" ["_law_graph"]
  C__law_any_graph : Cal pw w K mg base Z P n F._law_any_graph "_law_any_graph" ["_law_source_here", "_law_nodes", "_law_edges"]
  C__law_parts : Cal pw w K mg base Z P n F._law_parts "_law_parts" ["_law_drawing"]
  C__law_moved_right : Cal pw w K mg base Z P n F._law_moved_right "_law_moved_right" ["_law_source_here", "_law_drawing", "_law_due"]
  C__law_beside_right : Cal pw w K mg base Z P n F._law_beside_right "_law_beside_right" ["_law_drawing", "_law_far", "_law_due"]
  C_law : Cal pw w K mg base Z P n F.law "law" ["_law_script"]
theorem bd_is_index {w : World} {K : PySem.W.Frag} {mg : Str → Option Value} {base : Heap} {Z : Wc} {n : Nat} (hK : K = Z.K) (E : Ev w K mg base Z n) {cdv : Value} {A : Around} {outer : List PySem.Env} {s : Shared} {H : Hp} {Ek : XK} {fa : Addr} (hr : Room n (A.deeper (envOfC "is_index" (defScope (top 6)) s.heap.objs.size fa cdv))) (hgd : A.guards = some []) :
    PSs (cxOf (L2.CX pw w) pw w K mg base [("value" : Str), ("many" : Str)] "is_index" (defScope (top 6)) fa cdv A outer s H Ek) (defBody (top 6)) (iL (P.tbl n) Z (fun cls dx _ H' => Ek cls dx H') c_is_index.body) := by
  obtain ⟨t_MAX_EDGES, q_MAX_EDGES⟩ := E.q_MAX_EDGES
  obtain ⟨t_MAX_NODES, q_MAX_NODES⟩ := E.q_MAX_NODES
  have hu65 : (cxOf (L2.CX pw w) pw w K mg base [("value" : Str), ("many" : Str)] "is_index" (defScope (top 6)) fa cdv A outer s H Ek).A.units + 65 < cLine := (by have h := hr.un; show (A.deeper (envOfC "is_index" (defScope (top 6)) s.heap.objs.size fa cdv)).units + 65 < cLine; omega)
  have hu64 : (cxOf (L2.CX pw w) pw w K mg base [("value" : Str), ("many" : Str)] "is_index" (defScope (top 6)) fa cdv A outer s H Ek).A.units + 64 < cLine := by omega
  have hu1 : (cxOf (L2.CX pw w) pw w K mg base [("value" : Str), ("many" : Str)] "is_index" (defScope (top 6)) fa cdv A outer s H Ek).A.units + 1 < cLine := by omega
  have hN : (cxOf (L2.CX pw w) pw w K mg base [("value" : Str), ("many" : Str)] "is_index" (defScope (top 6)) fa cdv A outer s H Ek).N.Nodup := by show List.Nodup [("value" : Str), ("many" : Str)]; decide +kernel
  have tk : Takes (cxOf (L2.CX pw w) pw w K mg base [("value" : Str), ("many" : Str)] "is_index" (defScope (top 6)) fa cdv A outer s H Ek) (fun cls dx _ H' => Ek cls dx H') := takes_of rfl rfl rfl rfl
  have hp : PassesOwn (model pw w) (cxOf (L2.CX pw w) pw w K mg base [("value" : Str), ("many" : Str)] "is_index" (defScope (top 6)) fa cdv A outer s H Ek).A (cxOf (L2.CX pw w) pw w K mg base [("value" : Str), ("many" : Str)] "is_index" (defScope (top 6)) fa cdv A outer s H Ek).env (cxOf (L2.CX pw w) pw w K mg base [("value" : Str), ("many" : Str)] "is_index" (defScope (top 6)) fa cdv A outer s H Ek).xe := passes_of rfl
  exact (ssl_cons (ss_ret (se_and (se_isT (t := "int") hK okT_int (by rfl) E.f_isinstance (by rfl) E.f_int (by decide +kernel) (se_loc (i := 0) rfl (by first | exact Or.inl rfl | exact Or.inr (Or.inl rfl) | exact Or.inr (Or.inr rfl)) rfl rfl) (by decide) (by rfl) rfl rfl rfl) (se_and (se_nt hK (se_isT (t := "bool") hK okT_bool (by rfl) E.f_isinstance (by rfl) E.f_bool (by decide +kernel) (se_loc (i := 0) rfl (by first | exact Or.inl rfl | exact Or.inr (Or.inl rfl) | exact Or.inr (Or.inr rfl)) rfl rfl) (by decide) (by rfl) rfl rfl rfl)) (se_one (se_chn (o1 := .le) (o2 := .lt) se_int (se_loc (i := 0) rfl (by first | exact Or.inl rfl | exact Or.inr (Or.inl rfl) | exact Or.inr (Or.inr rfl)) rfl rfl) (se_loc (i := 1) rfl (by first | exact Or.inl rfl | exact Or.inr (Or.inl rfl) | exact Or.inr (Or.inr rfl)) rfl rfl) (by rfl))))))
  ssl_nil)
theorem bd_graph_fault {w : World} {K : PySem.W.Frag} {mg : Str → Option Value} {base : Heap} {Z : Wc} {n : Nat} (hK : K = Z.K) (E : Ev w K mg base Z n) {cdv : Value} {A : Around} {outer : List PySem.Env} {s : Shared} {H : Hp} {Ek : XK} {fa : Addr} (hr : Room n (A.deeper (envOfC "graph_fault" (defScope (top 7)) s.heap.objs.size fa cdv))) (hgd : A.guards = some []) :
    PSs (cxOf (L2.CX pw w) pw w K mg base [("value" : Str), ("rotation" : Str), ("many" : Str), ("missing" : Str), ("dart" : Str)] "graph_fault" (defScope (top 7)) fa cdv A outer s H Ek) (defBody (top 7)) (iL (P.tbl n) Z (fun cls dx _ H' => Ek cls dx H') c_graph_fault.body) := by
  obtain ⟨t_MAX_EDGES, q_MAX_EDGES⟩ := E.q_MAX_EDGES
  obtain ⟨t_MAX_NODES, q_MAX_NODES⟩ := E.q_MAX_NODES
  have hu65 : (cxOf (L2.CX pw w) pw w K mg base [("value" : Str), ("rotation" : Str), ("many" : Str), ("missing" : Str), ("dart" : Str)] "graph_fault" (defScope (top 7)) fa cdv A outer s H Ek).A.units + 65 < cLine := (by have h := hr.un; show (A.deeper (envOfC "graph_fault" (defScope (top 7)) s.heap.objs.size fa cdv)).units + 65 < cLine; omega)
  have hu64 : (cxOf (L2.CX pw w) pw w K mg base [("value" : Str), ("rotation" : Str), ("many" : Str), ("missing" : Str), ("dart" : Str)] "graph_fault" (defScope (top 7)) fa cdv A outer s H Ek).A.units + 64 < cLine := by omega
  have hu1 : (cxOf (L2.CX pw w) pw w K mg base [("value" : Str), ("rotation" : Str), ("many" : Str), ("missing" : Str), ("dart" : Str)] "graph_fault" (defScope (top 7)) fa cdv A outer s H Ek).A.units + 1 < cLine := by omega
  have hN : (cxOf (L2.CX pw w) pw w K mg base [("value" : Str), ("rotation" : Str), ("many" : Str), ("missing" : Str), ("dart" : Str)] "graph_fault" (defScope (top 7)) fa cdv A outer s H Ek).N.Nodup := by show List.Nodup [("value" : Str), ("rotation" : Str), ("many" : Str), ("missing" : Str), ("dart" : Str)]; decide +kernel
  have tk : Takes (cxOf (L2.CX pw w) pw w K mg base [("value" : Str), ("rotation" : Str), ("many" : Str), ("missing" : Str), ("dart" : Str)] "graph_fault" (defScope (top 7)) fa cdv A outer s H Ek) (fun cls dx _ H' => Ek cls dx H') := takes_of rfl rfl rfl rfl
  have hp : PassesOwn (model pw w) (cxOf (L2.CX pw w) pw w K mg base [("value" : Str), ("rotation" : Str), ("many" : Str), ("missing" : Str), ("dart" : Str)] "graph_fault" (defScope (top 7)) fa cdv A outer s H Ek).A (cxOf (L2.CX pw w) pw w K mg base [("value" : Str), ("rotation" : Str), ("many" : Str), ("missing" : Str), ("dart" : Str)] "graph_fault" (defScope (top 7)) fa cdv A outer s H Ek).env (cxOf (L2.CX pw w) pw w K mg base [("value" : Str), ("rotation" : Str), ("many" : Str), ("missing" : Str), ("dart" : Str)] "graph_fault" (defScope (top 7)) fa cdv A outer s H Ek).xe := passes_of rfl
  exact (ssl_cons (ss_if (st_w (sw_or (st_not (st_val (se_isT (t := "tuple") hK okT_tuple (by rfl) E.f_isinstance (by rfl) E.f_tuple (by decide +kernel) (se_loc (i := 0) rfl (by first | exact Or.inl rfl | exact Or.inr (Or.inl rfl) | exact Or.inr (Or.inr rfl)) rfl rfl) (by decide) (by rfl) rfl rfl rfl) (fun _ => rfl) hK)) (sw_or1 (st_cmp1 (op := .gt) hK hu65 (se_bi (b := .len) (fun _ => bi_len hK) (by rfl) E.f_len (by decide +kernel) (sa_cons (se_loc (i := 0) rfl (by first | exact Or.inl rfl | exact Or.inr (Or.inl rfl) | exact Or.inr (Or.inr rfl)) rfl rfl) sa_nil rfl)) (se_glob (d := .int 60) (v := .int 60) (by rfl) q_MAX_NODES ⟨_, rfl⟩ (fun _ _ => ⟨rfl, rfl⟩) rfl))))) (ssl_cons (ss_ret se_str)
  ssl_nil) ssl_nil)
  (ssl_cons (ss_if (st_not (st_val (se_bi (b := .all) (fun _ => bi_all hK rfl) (by rfl) E.f_all (by decide +kernel) (sa_cons (se_lc (own := [("rotation", 1)]) rfl hN (by first | (show blkC [("value" : Str), ("rotation" : Str), ("many" : Str), ("missing" : Str), ("dart" : Str)] (defScope (top 7)) _ _ = true; decide +kernel) | rfl) (by decide +kernel) (si_val hK (se_loc (i := 0) rfl (by first | exact Or.inl rfl | exact Or.inr (Or.inl rfl) | exact Or.inr (Or.inr rfl)) rfl rfl)) (fun _ _ _ _ _ => (sg_nm (i := 1) hN rfl (by first | exact Or.inl rfl | exact Or.inr rfl) (by first | exact Or.inl rfl | exact Or.inr rfl))) (fun _ _ _ _ _ => sts_nil) (fun _ _ _ _ _ => (se_isT (t := "tuple") hK okT_tuple (by rfl) E.f_isinstance (by rfl) E.f_tuple (by decide +kernel) (se_loc (i := 1) rfl (by first | exact Or.inl rfl | exact Or.inr (Or.inl rfl) | exact Or.inr (Or.inr rfl)) rfl rfl) (by decide) (by rfl) rfl rfl rfl))) sa_nil rfl)) (fun _ => rfl) hK)) (ssl_cons (ss_ret se_str)
  ssl_nil) ssl_nil)
  (ssl_cons (ss_asg (se_bi (b := .sum) (fun _ => bi_sum hK rfl) (by rfl) E.f_sum (by decide +kernel) (sa_cons (se_lc (own := [("rotation", 1)]) rfl hN (by first | (show blkC [("value" : Str), ("rotation" : Str), ("many" : Str), ("missing" : Str), ("dart" : Str)] (defScope (top 7)) _ _ = true; decide +kernel) | rfl) (by decide +kernel) (si_val hK (se_loc (i := 0) rfl (by first | exact Or.inl rfl | exact Or.inr (Or.inl rfl) | exact Or.inr (Or.inr rfl)) rfl rfl)) (fun _ _ _ _ _ => (sg_nm (i := 1) hN rfl (by first | exact Or.inl rfl | exact Or.inr rfl) (by first | exact Or.inl rfl | exact Or.inr rfl))) (fun _ _ _ _ _ => sts_nil) (fun _ _ _ _ _ => (se_bi (b := .len) (fun _ => bi_len hK) (by rfl) E.f_len (by decide +kernel) (sa_cons (se_loc (i := 1) rfl (by first | exact Or.inl rfl | exact Or.inr (Or.inl rfl) | exact Or.inr (Or.inr rfl)) rfl rfl) sa_nil rfl)))) sa_nil rfl)) (sg_nm (i := 2) hN rfl (by first | exact Or.inl rfl | exact Or.inr rfl) (by first | exact Or.inl rfl | exact Or.inr rfl)) rfl rfl rfl)
  (ssl_cons (ss_if (st_w (sw_or (st_cmp1 (op := .gt) hK hu65 (se_loc (i := 2) rfl (by first | exact Or.inl rfl | exact Or.inr (Or.inl rfl) | exact Or.inr (Or.inr rfl)) rfl rfl) (se_bin (op := .mul) hK se_int (se_glob (d := .int 120) (v := .int 120) (by rfl) q_MAX_EDGES ⟨_, rfl⟩ (fun _ _ => ⟨rfl, rfl⟩) rfl))) (sw_or1 (st_cmp1 (op := .eq) hK hu65 (se_bin (op := .mod) hK (se_loc (i := 2) rfl (by first | exact Or.inl rfl | exact Or.inr (Or.inl rfl) | exact Or.inr (Or.inr rfl)) rfl rfl) se_int) se_int)))) (ssl_cons (ss_ret se_str)
  ssl_nil) ssl_nil)
  (ssl_cons (ss_setDc (i := 3) (own := [("dart", 4)]) rfl hN rfl rfl (by rfl) (by first | (show blkC [("value" : Str), ("rotation" : Str), ("many" : Str), ("missing" : Str), ("dart" : Str)] (defScope (top 7)) _ _ = true; decide +kernel) | rfl) (by decide +kernel) (si_rng1 (by rfl) E.f_range (se_loc (i := 2) rfl (by first | exact Or.inl rfl | exact Or.inr (Or.inl rfl) | exact Or.inr (Or.inr rfl)) rfl rfl) rfl) (fun _ _ _ _ _ => (sg_nm (i := 4) hN rfl (by first | exact Or.inl rfl | exact Or.inr rfl) (by first | exact Or.inl rfl | exact Or.inr rfl))) (fun _ _ _ _ _ => sts_nil) (fun _ _ _ _ _ => (se_loc (i := 4) rfl (by first | exact Or.inl rfl | exact Or.inr (Or.inl rfl) | exact Or.inr (Or.inr rfl)) rfl rfl)) (fun _ _ _ _ _ => se_bl))
  (ssl_cons (ss_for hp rfl (si_val hK (se_loc (i := 0) rfl (by first | exact Or.inl rfl | exact Or.inr (Or.inl rfl) | exact Or.inr (Or.inr rfl)) rfl rfl)) (sg_nm (i := 1) hN rfl (by first | exact Or.inl rfl | exact Or.inr rfl) (by first | exact Or.inl rfl | exact Or.inr rfl)) (ssl_cons (ss_for hp rfl (si_val hK (se_loc (i := 1) rfl (by first | exact Or.inl rfl | exact Or.inr (Or.inl rfl) | exact Or.inr (Or.inr rfl)) rfl rfl)) (sg_nm (i := 4) hN rfl (by first | exact Or.inl rfl | exact Or.inr rfl) (by first | exact Or.inl rfl | exact Or.inr rfl)) (ssl_cons (ss_if (st_w (sw_or (st_not (st_val (se_callC E.C_is_index hr hgd tk (by rfl) (sa_cons (se_loc (i := 4) rfl (by first | exact Or.inl rfl | exact Or.inr (Or.inl rfl) | exact Or.inr (Or.inr rfl)) rfl rfl) (sa_cons (se_loc (i := 2) rfl (by first | exact Or.inl rfl | exact Or.inr (Or.inl rfl) | exact Or.inr (Or.inr rfl)) rfl rfl) sa_nil rfl) rfl)) (fun _ => rfl) hK)) (sw_or1 (st_cmp1 (op := .nin) hK hu65 (se_loc (i := 4) rfl (by first | exact Or.inl rfl | exact Or.inr (Or.inl rfl) | exact Or.inr (Or.inr rfl)) rfl rfl) (se_loc (i := 3) rfl (by first | exact Or.inl rfl | exact Or.inr (Or.inl rfl) | exact Or.inr (Or.inr rfl)) rfl rfl))))) (ssl_cons (ss_ret se_str)
  ssl_nil) ssl_nil)
  (ssl_cons (ss_xpr (se_me (m := .popi) hK (k_popi hu1) (se_loc (i := 3) rfl (by first | exact Or.inl rfl | exact Or.inr (Or.inl rfl) | exact Or.inr (Or.inr rfl)) rfl rfl) (sa_cons (se_loc (i := 4) rfl (by first | exact Or.inl rfl | exact Or.inr (Or.inl rfl) | exact Or.inr (Or.inr rfl)) rfl rfl) sa_nil rfl)) rfl)
  ssl_nil)) (fun _ => rfl))
  ssl_nil) (fun _ => rfl))
  (ssl_cons (ss_ret se_non)
  ssl_nil)))))))
theorem bd_check_graph {w : World} {K : PySem.W.Frag} {mg : Str → Option Value} {base : Heap} {Z : Wc} {n : Nat} (hK : K = Z.K) (E : Ev w K mg base Z n) {cdv : Value} {A : Around} {outer : List PySem.Env} {s : Shared} {H : Hp} {Ek : XK} {fa : Addr} (hr : Room n (A.deeper (envOfC "check_graph" (defScope (top 8)) s.heap.objs.size fa cdv))) (hgd : A.guards = some []) :
    PSs (cxOf (L2.CX pw w) pw w K mg base [("graph" : Str), ("place" : Str)] "check_graph" (defScope (top 8)) fa cdv A outer s H Ek) (defBody (top 8)) (iL (P.tbl n) Z (fun cls dx _ H' => Ek cls dx H') c_check_graph.body) := by
  obtain ⟨t_MAX_EDGES, q_MAX_EDGES⟩ := E.q_MAX_EDGES
  obtain ⟨t_MAX_NODES, q_MAX_NODES⟩ := E.q_MAX_NODES
  have hu65 : (cxOf (L2.CX pw w) pw w K mg base [("graph" : Str), ("place" : Str)] "check_graph" (defScope (top 8)) fa cdv A outer s H Ek).A.units + 65 < cLine := (by have h := hr.un; show (A.deeper (envOfC "check_graph" (defScope (top 8)) s.heap.objs.size fa cdv)).units + 65 < cLine; omega)
  have hu64 : (cxOf (L2.CX pw w) pw w K mg base [("graph" : Str), ("place" : Str)] "check_graph" (defScope (top 8)) fa cdv A outer s H Ek).A.units + 64 < cLine := by omega
  have hu1 : (cxOf (L2.CX pw w) pw w K mg base [("graph" : Str), ("place" : Str)] "check_graph" (defScope (top 8)) fa cdv A outer s H Ek).A.units + 1 < cLine := by omega
  have hN : (cxOf (L2.CX pw w) pw w K mg base [("graph" : Str), ("place" : Str)] "check_graph" (defScope (top 8)) fa cdv A outer s H Ek).N.Nodup := by show List.Nodup [("graph" : Str), ("place" : Str)]; decide +kernel
  have tk : Takes (cxOf (L2.CX pw w) pw w K mg base [("graph" : Str), ("place" : Str)] "check_graph" (defScope (top 8)) fa cdv A outer s H Ek) (fun cls dx _ H' => Ek cls dx H') := takes_of rfl rfl rfl rfl
  have hp : PassesOwn (model pw w) (cxOf (L2.CX pw w) pw w K mg base [("graph" : Str), ("place" : Str)] "check_graph" (defScope (top 8)) fa cdv A outer s H Ek).A (cxOf (L2.CX pw w) pw w K mg base [("graph" : Str), ("place" : Str)] "check_graph" (defScope (top 8)) fa cdv A outer s H Ek).env (cxOf (L2.CX pw w) pw w K mg base [("graph" : Str), ("place" : Str)] "check_graph" (defScope (top 8)) fa cdv A outer s H Ek).xe := passes_of rfl
  exact (ssl_cons (ss_asg (se_callC E.C_graph_fault hr hgd tk (by rfl) (sa_cons (se_loc (i := 0) rfl (by first | exact Or.inl rfl | exact Or.inr (Or.inl rfl) | exact Or.inr (Or.inr rfl)) rfl rfl) sa_nil rfl)) (sg_nm (i := 1) hN rfl (by first | exact Or.inl rfl | exact Or.inr rfl) (by first | exact Or.inl rfl | exact Or.inr rfl)) rfl rfl rfl)
  (ssl_cons (ss_if (st_cmp1 (op := .ntN) hK hu65 (se_loc (i := 1) rfl (by first | exact Or.inl rfl | exact Or.inr (Or.inl rfl) | exact Or.inr (Or.inr rfl)) rfl rfl) se_non) (ssl_cons ss_hole
  ssl_nil) ssl_nil)
  ssl_nil))
theorem bd_dart_count {w : World} {K : PySem.W.Frag} {mg : Str → Option Value} {base : Heap} {Z : Wc} {n : Nat} (hK : K = Z.K) (E : Ev w K mg base Z n) {cdv : Value} {A : Around} {outer : List PySem.Env} {s : Shared} {H : Hp} {Ek : XK} {fa : Addr} (hr : Room n (A.deeper (envOfC "dart_count" (defScope (top 9)) s.heap.objs.size fa cdv))) (hgd : A.guards = some []) :
    PSs (cxOf (L2.CX pw w) pw w K mg base [("graph" : Str), ("rotation" : Str)] "dart_count" (defScope (top 9)) fa cdv A outer s H Ek) (defBody (top 9)) (iL (P.tbl n) Z (fun cls dx _ H' => Ek cls dx H') c_dart_count.body) := by
  obtain ⟨t_MAX_EDGES, q_MAX_EDGES⟩ := E.q_MAX_EDGES
  obtain ⟨t_MAX_NODES, q_MAX_NODES⟩ := E.q_MAX_NODES
  have hu65 : (cxOf (L2.CX pw w) pw w K mg base [("graph" : Str), ("rotation" : Str)] "dart_count" (defScope (top 9)) fa cdv A outer s H Ek).A.units + 65 < cLine := (by have h := hr.un; show (A.deeper (envOfC "dart_count" (defScope (top 9)) s.heap.objs.size fa cdv)).units + 65 < cLine; omega)
  have hu64 : (cxOf (L2.CX pw w) pw w K mg base [("graph" : Str), ("rotation" : Str)] "dart_count" (defScope (top 9)) fa cdv A outer s H Ek).A.units + 64 < cLine := by omega
  have hu1 : (cxOf (L2.CX pw w) pw w K mg base [("graph" : Str), ("rotation" : Str)] "dart_count" (defScope (top 9)) fa cdv A outer s H Ek).A.units + 1 < cLine := by omega
  have hN : (cxOf (L2.CX pw w) pw w K mg base [("graph" : Str), ("rotation" : Str)] "dart_count" (defScope (top 9)) fa cdv A outer s H Ek).N.Nodup := by show List.Nodup [("graph" : Str), ("rotation" : Str)]; decide +kernel
  have tk : Takes (cxOf (L2.CX pw w) pw w K mg base [("graph" : Str), ("rotation" : Str)] "dart_count" (defScope (top 9)) fa cdv A outer s H Ek) (fun cls dx _ H' => Ek cls dx H') := takes_of rfl rfl rfl rfl
  have hp : PassesOwn (model pw w) (cxOf (L2.CX pw w) pw w K mg base [("graph" : Str), ("rotation" : Str)] "dart_count" (defScope (top 9)) fa cdv A outer s H Ek).A (cxOf (L2.CX pw w) pw w K mg base [("graph" : Str), ("rotation" : Str)] "dart_count" (defScope (top 9)) fa cdv A outer s H Ek).env (cxOf (L2.CX pw w) pw w K mg base [("graph" : Str), ("rotation" : Str)] "dart_count" (defScope (top 9)) fa cdv A outer s H Ek).xe := passes_of rfl
  exact (ssl_cons (ss_ret (se_bi (b := .sum) (fun _ => bi_sum hK rfl) (by rfl) E.f_sum (by decide +kernel) (sa_cons (se_lc (own := [("rotation", 1)]) rfl hN (by first | (show blkC [("graph" : Str), ("rotation" : Str)] (defScope (top 9)) _ _ = true; decide +kernel) | rfl) (by decide +kernel) (si_val hK (se_loc (i := 0) rfl (by first | exact Or.inl rfl | exact Or.inr (Or.inl rfl) | exact Or.inr (Or.inr rfl)) rfl rfl)) (fun _ _ _ _ _ => (sg_nm (i := 1) hN rfl (by first | exact Or.inl rfl | exact Or.inr rfl) (by first | exact Or.inl rfl | exact Or.inr rfl))) (fun _ _ _ _ _ => sts_nil) (fun _ _ _ _ _ => (se_bi (b := .len) (fun _ => bi_len hK) (by rfl) E.f_len (by decide +kernel) (sa_cons (se_loc (i := 1) rfl (by first | exact Or.inl rfl | exact Or.inr (Or.inl rfl) | exact Or.inr (Or.inr rfl)) rfl rfl) sa_nil rfl)))) sa_nil rfl)))
  ssl_nil)
theorem bd_opposite_of {w : World} {K : PySem.W.Frag} {mg : Str → Option Value} {base : Heap} {Z : Wc} {n : Nat} (hK : K = Z.K) (E : Ev w K mg base Z n) {cdv : Value} {A : Around} {outer : List PySem.Env} {s : Shared} {H : Hp} {Ek : XK} {fa : Addr} (hr : Room n (A.deeper (envOfC "opposite_of" (defScope (top 10)) s.heap.objs.size fa cdv))) (hgd : A.guards = some []) :
    PSs (cxOf (L2.CX pw w) pw w K mg base [("dart" : Str)] "opposite_of" (defScope (top 10)) fa cdv A outer s H Ek) (defBody (top 10)) (iL (P.tbl n) Z (fun cls dx _ H' => Ek cls dx H') c_opposite_of.body) := by
  obtain ⟨t_MAX_EDGES, q_MAX_EDGES⟩ := E.q_MAX_EDGES
  obtain ⟨t_MAX_NODES, q_MAX_NODES⟩ := E.q_MAX_NODES
  have hu65 : (cxOf (L2.CX pw w) pw w K mg base [("dart" : Str)] "opposite_of" (defScope (top 10)) fa cdv A outer s H Ek).A.units + 65 < cLine := (by have h := hr.un; show (A.deeper (envOfC "opposite_of" (defScope (top 10)) s.heap.objs.size fa cdv)).units + 65 < cLine; omega)
  have hu64 : (cxOf (L2.CX pw w) pw w K mg base [("dart" : Str)] "opposite_of" (defScope (top 10)) fa cdv A outer s H Ek).A.units + 64 < cLine := by omega
  have hu1 : (cxOf (L2.CX pw w) pw w K mg base [("dart" : Str)] "opposite_of" (defScope (top 10)) fa cdv A outer s H Ek).A.units + 1 < cLine := by omega
  have hN : (cxOf (L2.CX pw w) pw w K mg base [("dart" : Str)] "opposite_of" (defScope (top 10)) fa cdv A outer s H Ek).N.Nodup := by show List.Nodup [("dart" : Str)]; decide +kernel
  have tk : Takes (cxOf (L2.CX pw w) pw w K mg base [("dart" : Str)] "opposite_of" (defScope (top 10)) fa cdv A outer s H Ek) (fun cls dx _ H' => Ek cls dx H') := takes_of rfl rfl rfl rfl
  have hp : PassesOwn (model pw w) (cxOf (L2.CX pw w) pw w K mg base [("dart" : Str)] "opposite_of" (defScope (top 10)) fa cdv A outer s H Ek).A (cxOf (L2.CX pw w) pw w K mg base [("dart" : Str)] "opposite_of" (defScope (top 10)) fa cdv A outer s H Ek).env (cxOf (L2.CX pw w) pw w K mg base [("dart" : Str)] "opposite_of" (defScope (top 10)) fa cdv A outer s H Ek).xe := passes_of rfl
  exact (ssl_cons (ss_ret (se_bin (op := .sub) hK (se_bin (op := .add) hK (se_loc (i := 0) rfl (by first | exact Or.inl rfl | exact Or.inr (Or.inl rfl) | exact Or.inr (Or.inr rfl)) rfl rfl) se_int) (se_bin (op := .mul) hK se_int (se_bin (op := .mod) hK (se_loc (i := 0) rfl (by first | exact Or.inl rfl | exact Or.inr (Or.inl rfl) | exact Or.inr (Or.inr rfl)) rfl rfl) se_int))))
  ssl_nil)
theorem bd_dart_tails {w : World} {K : PySem.W.Frag} {mg : Str → Option Value} {base : Heap} {Z : Wc} {n : Nat} (hK : K = Z.K) (E : Ev w K mg base Z n) {cdv : Value} {A : Around} {outer : List PySem.Env} {s : Shared} {H : Hp} {Ek : XK} {fa : Addr} (hr : Room n (A.deeper (envOfC "dart_tails" (defScope (top 11)) s.heap.objs.size fa cdv))) (hgd : A.guards = some []) :
    PSs (cxOf (L2.CX pw w) pw w K mg base [("graph" : Str), ("tails" : Str), ("node" : Str), ("rotation" : Str), ("dart" : Str)] "dart_tails" (defScope (top 11)) fa cdv A outer s H Ek) (defBody (top 11)) (iL (P.tbl n) Z (fun cls dx _ H' => Ek cls dx H') c_dart_tails.body) := by
  obtain ⟨t_MAX_EDGES, q_MAX_EDGES⟩ := E.q_MAX_EDGES
  obtain ⟨t_MAX_NODES, q_MAX_NODES⟩ := E.q_MAX_NODES
  have hu65 : (cxOf (L2.CX pw w) pw w K mg base [("graph" : Str), ("tails" : Str), ("node" : Str), ("rotation" : Str), ("dart" : Str)] "dart_tails" (defScope (top 11)) fa cdv A outer s H Ek).A.units + 65 < cLine := (by have h := hr.un; show (A.deeper (envOfC "dart_tails" (defScope (top 11)) s.heap.objs.size fa cdv)).units + 65 < cLine; omega)
  have hu64 : (cxOf (L2.CX pw w) pw w K mg base [("graph" : Str), ("tails" : Str), ("node" : Str), ("rotation" : Str), ("dart" : Str)] "dart_tails" (defScope (top 11)) fa cdv A outer s H Ek).A.units + 64 < cLine := by omega
  have hu1 : (cxOf (L2.CX pw w) pw w K mg base [("graph" : Str), ("tails" : Str), ("node" : Str), ("rotation" : Str), ("dart" : Str)] "dart_tails" (defScope (top 11)) fa cdv A outer s H Ek).A.units + 1 < cLine := by omega
  have hN : (cxOf (L2.CX pw w) pw w K mg base [("graph" : Str), ("tails" : Str), ("node" : Str), ("rotation" : Str), ("dart" : Str)] "dart_tails" (defScope (top 11)) fa cdv A outer s H Ek).N.Nodup := by show List.Nodup [("graph" : Str), ("tails" : Str), ("node" : Str), ("rotation" : Str), ("dart" : Str)]; decide +kernel
  have tk : Takes (cxOf (L2.CX pw w) pw w K mg base [("graph" : Str), ("tails" : Str), ("node" : Str), ("rotation" : Str), ("dart" : Str)] "dart_tails" (defScope (top 11)) fa cdv A outer s H Ek) (fun cls dx _ H' => Ek cls dx H') := takes_of rfl rfl rfl rfl
  have hp : PassesOwn (model pw w) (cxOf (L2.CX pw w) pw w K mg base [("graph" : Str), ("tails" : Str), ("node" : Str), ("rotation" : Str), ("dart" : Str)] "dart_tails" (defScope (top 11)) fa cdv A outer s H Ek).A (cxOf (L2.CX pw w) pw w K mg base [("graph" : Str), ("tails" : Str), ("node" : Str), ("rotation" : Str), ("dart" : Str)] "dart_tails" (defScope (top 11)) fa cdv A outer s H Ek).env (cxOf (L2.CX pw w) pw w K mg base [("graph" : Str), ("tails" : Str), ("node" : Str), ("rotation" : Str), ("dart" : Str)] "dart_tails" (defScope (top 11)) fa cdv A outer s H Ek).xe := passes_of rfl
  exact (ssl_cons (ss_asg (se_bin (op := .mul) hK (se_lst (sa_cons se_int sa_nil rfl)) (se_callC E.C_dart_count hr hgd tk (by rfl) (sa_cons (se_loc (i := 0) rfl (by first | exact Or.inl rfl | exact Or.inr (Or.inl rfl) | exact Or.inr (Or.inr rfl)) rfl rfl) sa_nil rfl))) (sg_nm (i := 1) hN rfl (by first | exact Or.inl rfl | exact Or.inr rfl) (by first | exact Or.inl rfl | exact Or.inr rfl)) rfl rfl rfl)
  (ssl_cons (ss_for hp rfl (si_en hK (by rfl) E.f_enumerate (se_loc (i := 0) rfl (by first | exact Or.inl rfl | exact Or.inr (Or.inl rfl) | exact Or.inr (Or.inr rfl)) rfl rfl) rfl) (sg_tup hK rfl (sgs_cons (sg_nm (i := 2) hN rfl (by first | exact Or.inl rfl | exact Or.inr rfl) (by first | exact Or.inl rfl | exact Or.inr rfl)) (sgs_cons (sg_nm (i := 3) hN rfl (by first | exact Or.inl rfl | exact Or.inr rfl) (by first | exact Or.inl rfl | exact Or.inr rfl)) sgs_nil rfl) rfl) rfl rfl rfl) (ssl_cons (ss_for hp rfl (si_val hK (se_loc (i := 3) rfl (by first | exact Or.inl rfl | exact Or.inr (Or.inl rfl) | exact Or.inr (Or.inr rfl)) rfl rfl)) (sg_nm (i := 4) hN rfl (by first | exact Or.inl rfl | exact Or.inr rfl) (by first | exact Or.inl rfl | exact Or.inr rfl)) (ssl_cons (ss_asg (se_loc (i := 2) rfl (by first | exact Or.inl rfl | exact Or.inr (Or.inl rfl) | exact Or.inr (Or.inr rfl)) rfl rfl) (sg_sub (W := fun cls dx _ H' => Ek cls dx H') hu1 (se_loc (i := 1) rfl (by first | exact Or.inl rfl | exact Or.inr (Or.inl rfl) | exact Or.inr (Or.inr rfl)) rfl rfl) (se_loc (i := 4) rfl (by first | exact Or.inl rfl | exact Or.inr (Or.inl rfl) | exact Or.inr (Or.inr rfl)) rfl rfl) (fun _ => rfl)) rfl rfl rfl)
  ssl_nil) (fun _ => rfl))
  ssl_nil) (fun _ => rfl))
  (ssl_cons (ss_ret (se_loc (i := 1) rfl (by first | exact Or.inl rfl | exact Or.inr (Or.inl rfl) | exact Or.inr (Or.inr rfl)) rfl rfl))
  ssl_nil)))
theorem bd_component_list {w : World} {K : PySem.W.Frag} {mg : Str → Option Value} {base : Heap} {Z : Wc} {n : Nat} (hK : K = Z.K) (E : Ev w K mg base Z n) {cdv : Value} {A : Around} {outer : List PySem.Env} {s : Shared} {H : Hp} {Ek : XK} {fa : Addr} (hr : Room n (A.deeper (envOfC "component_list" (defScope (top 12)) s.heap.objs.size fa cdv))) (hgd : A.guards = some []) :
    PSs (cxOf (L2.CX pw w) pw w K mg base [("graph" : Str), ("tails" : Str), ("found" : Str), ("seen" : Str), ("start" : Str), ("part" : Str), ("waiting" : Str), ("node" : Str), ("dart" : Str), ("far" : Str)] "component_list" (defScope (top 12)) fa cdv A outer s H Ek) (defBody (top 12)) (iL (P.tbl n) Z (fun cls dx _ H' => Ek cls dx H') c_component_list.body) := by
  obtain ⟨t_MAX_EDGES, q_MAX_EDGES⟩ := E.q_MAX_EDGES
  obtain ⟨t_MAX_NODES, q_MAX_NODES⟩ := E.q_MAX_NODES
  have hu65 : (cxOf (L2.CX pw w) pw w K mg base [("graph" : Str), ("tails" : Str), ("found" : Str), ("seen" : Str), ("start" : Str), ("part" : Str), ("waiting" : Str), ("node" : Str), ("dart" : Str), ("far" : Str)] "component_list" (defScope (top 12)) fa cdv A outer s H Ek).A.units + 65 < cLine := (by have h := hr.un; show (A.deeper (envOfC "component_list" (defScope (top 12)) s.heap.objs.size fa cdv)).units + 65 < cLine; omega)
  have hu64 : (cxOf (L2.CX pw w) pw w K mg base [("graph" : Str), ("tails" : Str), ("found" : Str), ("seen" : Str), ("start" : Str), ("part" : Str), ("waiting" : Str), ("node" : Str), ("dart" : Str), ("far" : Str)] "component_list" (defScope (top 12)) fa cdv A outer s H Ek).A.units + 64 < cLine := by omega
  have hu1 : (cxOf (L2.CX pw w) pw w K mg base [("graph" : Str), ("tails" : Str), ("found" : Str), ("seen" : Str), ("start" : Str), ("part" : Str), ("waiting" : Str), ("node" : Str), ("dart" : Str), ("far" : Str)] "component_list" (defScope (top 12)) fa cdv A outer s H Ek).A.units + 1 < cLine := by omega
  have hN : (cxOf (L2.CX pw w) pw w K mg base [("graph" : Str), ("tails" : Str), ("found" : Str), ("seen" : Str), ("start" : Str), ("part" : Str), ("waiting" : Str), ("node" : Str), ("dart" : Str), ("far" : Str)] "component_list" (defScope (top 12)) fa cdv A outer s H Ek).N.Nodup := by show List.Nodup [("graph" : Str), ("tails" : Str), ("found" : Str), ("seen" : Str), ("start" : Str), ("part" : Str), ("waiting" : Str), ("node" : Str), ("dart" : Str), ("far" : Str)]; decide +kernel
  have tk : Takes (cxOf (L2.CX pw w) pw w K mg base [("graph" : Str), ("tails" : Str), ("found" : Str), ("seen" : Str), ("start" : Str), ("part" : Str), ("waiting" : Str), ("node" : Str), ("dart" : Str), ("far" : Str)] "component_list" (defScope (top 12)) fa cdv A outer s H Ek) (fun cls dx _ H' => Ek cls dx H') := takes_of rfl rfl rfl rfl
  have hp : PassesOwn (model pw w) (cxOf (L2.CX pw w) pw w K mg base [("graph" : Str), ("tails" : Str), ("found" : Str), ("seen" : Str), ("start" : Str), ("part" : Str), ("waiting" : Str), ("node" : Str), ("dart" : Str), ("far" : Str)] "component_list" (defScope (top 12)) fa cdv A outer s H Ek).A (cxOf (L2.CX pw w) pw w K mg base [("graph" : Str), ("tails" : Str), ("found" : Str), ("seen" : Str), ("start" : Str), ("part" : Str), ("waiting" : Str), ("node" : Str), ("dart" : Str), ("far" : Str)] "component_list" (defScope (top 12)) fa cdv A outer s H Ek).env (cxOf (L2.CX pw w) pw w K mg base [("graph" : Str), ("tails" : Str), ("found" : Str), ("seen" : Str), ("start" : Str), ("part" : Str), ("waiting" : Str), ("node" : Str), ("dart" : Str), ("far" : Str)] "component_list" (defScope (top 12)) fa cdv A outer s H Ek).xe := passes_of rfl
  exact (ssl_cons (ss_par3 (i := 1) (j := 2) (l := 3) rfl hN rfl rfl rfl (by decide) (by decide) (by decide) rfl rfl rfl (sa_cons (se_callC E.C_dart_tails hr hgd tk (by rfl) (sa_cons (se_loc (i := 0) rfl (by first | exact Or.inl rfl | exact Or.inr (Or.inl rfl) | exact Or.inr (Or.inr rfl)) rfl rfl) sa_nil rfl)) (sa_cons (se_lst sa_nil) (sa_cons se_dct0 sa_nil rfl) rfl) rfl) (by rfl))
  (ssl_cons (ss_for hp rfl (si_rng1 (by rfl) E.f_range (se_bi (b := .len) (fun _ => bi_len hK) (by rfl) E.f_len (by decide +kernel) (sa_cons (se_loc (i := 0) rfl (by first | exact Or.inl rfl | exact Or.inr (Or.inl rfl) | exact Or.inr (Or.inr rfl)) rfl rfl) sa_nil rfl)) rfl) (sg_nm (i := 4) hN rfl (by first | exact Or.inl rfl | exact Or.inr rfl) (by first | exact Or.inl rfl | exact Or.inr rfl)) (ssl_cons (ss_if (st_cmp1 (op := .nin) hK hu65 (se_loc (i := 4) rfl (by first | exact Or.inl rfl | exact Or.inr (Or.inl rfl) | exact Or.inr (Or.inr rfl)) rfl rfl) (se_loc (i := 3) rfl (by first | exact Or.inl rfl | exact Or.inr (Or.inl rfl) | exact Or.inr (Or.inr rfl)) rfl rfl)) (ssl_cons (ss_asg (se_tup (sa_cons (se_lst sa_nil) (sa_cons (se_lst (sa_cons (se_loc (i := 4) rfl (by first | exact Or.inl rfl | exact Or.inr (Or.inl rfl) | exact Or.inr (Or.inr rfl)) rfl rfl) sa_nil rfl)) (sa_cons se_bl sa_nil rfl) rfl) rfl)) (sg_tup hK rfl (sgs_cons (sg_nm (i := 5) hN rfl (by first | exact Or.inl rfl | exact Or.inr rfl) (by first | exact Or.inl rfl | exact Or.inr rfl)) (sgs_cons (sg_nm (i := 6) hN rfl (by first | exact Or.inl rfl | exact Or.inr rfl) (by first | exact Or.inl rfl | exact Or.inr rfl)) (sgs_cons (sg_sub (W := fun cls dx _ H' => Ek cls dx H') hu1 (se_loc (i := 3) rfl (by first | exact Or.inl rfl | exact Or.inr (Or.inl rfl) | exact Or.inr (Or.inr rfl)) rfl rfl) (se_loc (i := 4) rfl (by first | exact Or.inl rfl | exact Or.inr (Or.inl rfl) | exact Or.inr (Or.inr rfl)) rfl rfl) (fun _ => rfl)) sgs_nil rfl) rfl) rfl) rfl rfl rfl) rfl rfl rfl)
  (ssl_cons (ss_whl hp (st_cmp1 (op := .ne) hK hu65 (se_loc (i := 6) rfl (by first | exact Or.inl rfl | exact Or.inr (Or.inl rfl) | exact Or.inr (Or.inr rfl)) rfl rfl) (se_lst sa_nil)) (ssl_cons (ss_asg (se_me0 (m := .pop) hK (k_pop) (se_loc (i := 6) rfl (by first | exact Or.inl rfl | exact Or.inr (Or.inl rfl) | exact Or.inr (Or.inr rfl)) rfl rfl)) (sg_nm (i := 7) hN rfl (by first | exact Or.inl rfl | exact Or.inr rfl) (by first | exact Or.inl rfl | exact Or.inr rfl)) rfl rfl rfl)
  (ssl_cons (ss_xpr (se_me (m := .append) hK (k_append) (se_loc (i := 5) rfl (by first | exact Or.inl rfl | exact Or.inr (Or.inl rfl) | exact Or.inr (Or.inr rfl)) rfl rfl) (sa_cons (se_loc (i := 7) rfl (by first | exact Or.inl rfl | exact Or.inr (Or.inl rfl) | exact Or.inr (Or.inr rfl)) rfl rfl) sa_nil rfl)) rfl)
  (ssl_cons (ss_for hp rfl (si_val hK (se_sub hK hu1 (se_loc (i := 0) rfl (by first | exact Or.inl rfl | exact Or.inr (Or.inl rfl) | exact Or.inr (Or.inr rfl)) rfl rfl) (se_loc (i := 7) rfl (by first | exact Or.inl rfl | exact Or.inr (Or.inl rfl) | exact Or.inr (Or.inr rfl)) rfl rfl) (fun _ _ => rfl))) (sg_nm (i := 8) hN rfl (by first | exact Or.inl rfl | exact Or.inr rfl) (by first | exact Or.inl rfl | exact Or.inr rfl)) (ssl_cons (ss_asg (se_sub hK hu1 (se_loc (i := 1) rfl (by first | exact Or.inl rfl | exact Or.inr (Or.inl rfl) | exact Or.inr (Or.inr rfl)) rfl rfl) (se_callC E.C_opposite_of hr hgd tk (by rfl) (sa_cons (se_loc (i := 8) rfl (by first | exact Or.inl rfl | exact Or.inr (Or.inl rfl) | exact Or.inr (Or.inr rfl)) rfl rfl) sa_nil rfl)) (fun _ _ => rfl)) (sg_nm (i := 9) hN rfl (by first | exact Or.inl rfl | exact Or.inr rfl) (by first | exact Or.inl rfl | exact Or.inr rfl)) rfl rfl rfl)
  (ssl_cons (ss_if (st_cmp1 (op := .nin) hK hu65 (se_loc (i := 9) rfl (by first | exact Or.inl rfl | exact Or.inr (Or.inl rfl) | exact Or.inr (Or.inr rfl)) rfl rfl) (se_loc (i := 3) rfl (by first | exact Or.inl rfl | exact Or.inr (Or.inl rfl) | exact Or.inr (Or.inr rfl)) rfl rfl)) (ssl_cons (ss_asg se_bl (sg_sub (W := fun cls dx _ H' => Ek cls dx H') hu1 (se_loc (i := 3) rfl (by first | exact Or.inl rfl | exact Or.inr (Or.inl rfl) | exact Or.inr (Or.inr rfl)) rfl rfl) (se_loc (i := 9) rfl (by first | exact Or.inl rfl | exact Or.inr (Or.inl rfl) | exact Or.inr (Or.inr rfl)) rfl rfl) (fun _ => rfl)) rfl rfl rfl)
  (ssl_cons (ss_xpr (se_me (m := .append) hK (k_append) (se_loc (i := 6) rfl (by first | exact Or.inl rfl | exact Or.inr (Or.inl rfl) | exact Or.inr (Or.inr rfl)) rfl rfl) (sa_cons (se_loc (i := 9) rfl (by first | exact Or.inl rfl | exact Or.inr (Or.inl rfl) | exact Or.inr (Or.inr rfl)) rfl rfl) sa_nil rfl)) rfl)
  ssl_nil)) ssl_nil)
  ssl_nil)) (fun _ => rfl))
  ssl_nil))))
  (ssl_cons (ss_xpr (se_me (m := .append) hK (k_append) (se_loc (i := 2) rfl (by first | exact Or.inl rfl | exact Or.inr (Or.inl rfl) | exact Or.inr (Or.inr rfl)) rfl rfl) (sa_cons (se_bt (b := .tuple) (fun _ => bi_tuple hK) (by rfl) E.f_tuple (by decide +kernel) (sa_cons (se_bi (b := .sorted) (fun _ => bi_sorted hK) (by rfl) E.f_sorted (by decide +kernel) (sa_cons (se_loc (i := 5) rfl (by first | exact Or.inl rfl | exact Or.inr (Or.inl rfl) | exact Or.inr (Or.inr rfl)) rfl rfl) sa_nil rfl)) sa_nil rfl)) sa_nil rfl)) rfl)
  ssl_nil))) ssl_nil)
  ssl_nil) (fun _ => rfl))
  (ssl_cons (ss_ret (se_loc (i := 2) rfl (by first | exact Or.inl rfl | exact Or.inr (Or.inl rfl) | exact Or.inr (Or.inr rfl)) rfl rfl))
  ssl_nil)))
theorem bd_components {w : World} {K : PySem.W.Frag} {mg : Str → Option Value} {base : Heap} {Z : Wc} {n : Nat} (hK : K = Z.K) (E : Ev w K mg base Z n) {cdv : Value} {A : Around} {outer : List PySem.Env} {s : Shared} {H : Hp} {Ek : XK} {fa : Addr} (hr : Room n (A.deeper (envOfC "components" (defScope (top 13)) s.heap.objs.size fa cdv))) (hgd : A.guards = some []) :
    PSs (cxOf (L2.CX pw w) pw w K mg base [("graph" : Str)] "components" (defScope (top 13)) fa cdv A outer s H Ek) (defBody (top 13)) (iL (P.tbl n) Z (fun cls dx _ H' => Ek cls dx H') c_components.body) := by
  obtain ⟨t_MAX_EDGES, q_MAX_EDGES⟩ := E.q_MAX_EDGES
  obtain ⟨t_MAX_NODES, q_MAX_NODES⟩ := E.q_MAX_NODES
  have hu65 : (cxOf (L2.CX pw w) pw w K mg base [("graph" : Str)] "components" (defScope (top 13)) fa cdv A outer s H Ek).A.units + 65 < cLine := (by have h := hr.un; show (A.deeper (envOfC "components" (defScope (top 13)) s.heap.objs.size fa cdv)).units + 65 < cLine; omega)
  have hu64 : (cxOf (L2.CX pw w) pw w K mg base [("graph" : Str)] "components" (defScope (top 13)) fa cdv A outer s H Ek).A.units + 64 < cLine := by omega
  have hu1 : (cxOf (L2.CX pw w) pw w K mg base [("graph" : Str)] "components" (defScope (top 13)) fa cdv A outer s H Ek).A.units + 1 < cLine := by omega
  have hN : (cxOf (L2.CX pw w) pw w K mg base [("graph" : Str)] "components" (defScope (top 13)) fa cdv A outer s H Ek).N.Nodup := by show List.Nodup [("graph" : Str)]; decide +kernel
  have tk : Takes (cxOf (L2.CX pw w) pw w K mg base [("graph" : Str)] "components" (defScope (top 13)) fa cdv A outer s H Ek) (fun cls dx _ H' => Ek cls dx H') := takes_of rfl rfl rfl rfl
  have hp : PassesOwn (model pw w) (cxOf (L2.CX pw w) pw w K mg base [("graph" : Str)] "components" (defScope (top 13)) fa cdv A outer s H Ek).A (cxOf (L2.CX pw w) pw w K mg base [("graph" : Str)] "components" (defScope (top 13)) fa cdv A outer s H Ek).env (cxOf (L2.CX pw w) pw w K mg base [("graph" : Str)] "components" (defScope (top 13)) fa cdv A outer s H Ek).xe := passes_of rfl
  exact (ssl_cons (ss_xpr (se_callC E.C_check_graph hr hgd tk (by rfl) (sa_cons (se_loc (i := 0) rfl (by first | exact Or.inl rfl | exact Or.inr (Or.inl rfl) | exact Or.inr (Or.inr rfl)) rfl rfl) sa_nil rfl)) rfl)
  (ssl_cons (ss_ret (se_bt (b := .tuple) (fun _ => bi_tuple hK) (by rfl) E.f_tuple (by decide +kernel) (sa_cons (se_callC E.C_component_list hr hgd tk (by rfl) (sa_cons (se_loc (i := 0) rfl (by first | exact Or.inl rfl | exact Or.inr (Or.inl rfl) | exact Or.inr (Or.inr rfl)) rfl rfl) sa_nil rfl)) sa_nil rfl)))
  ssl_nil))
theorem bd__law_source {w : World} {K : PySem.W.Frag} {mg : Str → Option Value} {base : Heap} {Z : Wc} {n : Nat} (hK : K = Z.K) (E : Ev w K mg base Z n) {cdv : Value} {A : Around} {outer : List PySem.Env} {s : Shared} {H : Hp} {Ek : XK} {fa : Addr} (hr : Room n (A.deeper (envOfC "_law_source" (defScope (top 15)) s.heap.objs.size fa cdv))) (hgd : A.guards = some []) :
    PSs (cxOf (L2.CX pw w) pw w K mg base [("_law_script" : Str), ("_law_k" : Str), ("_law_cell" : Str)] "_law_source" (defScope (top 15)) fa cdv A outer s H Ek) (defBody (top 15)) (iL (P.tbl n) Z (fun cls dx _ H' => Ek cls dx H') c__law_source.body) := by
  obtain ⟨t_MAX_EDGES, q_MAX_EDGES⟩ := E.q_MAX_EDGES
  obtain ⟨t_MAX_NODES, q_MAX_NODES⟩ := E.q_MAX_NODES
  have hu65 : (cxOf (L2.CX pw w) pw w K mg base [("_law_script" : Str), ("_law_k" : Str), ("_law_cell" : Str)] "_law_source" (defScope (top 15)) fa cdv A outer s H Ek).A.units + 65 < cLine := (by have h := hr.un; show (A.deeper (envOfC "_law_source" (defScope (top 15)) s.heap.objs.size fa cdv)).units + 65 < cLine; omega)
  have hu64 : (cxOf (L2.CX pw w) pw w K mg base [("_law_script" : Str), ("_law_k" : Str), ("_law_cell" : Str)] "_law_source" (defScope (top 15)) fa cdv A outer s H Ek).A.units + 64 < cLine := by omega
  have hu1 : (cxOf (L2.CX pw w) pw w K mg base [("_law_script" : Str), ("_law_k" : Str), ("_law_cell" : Str)] "_law_source" (defScope (top 15)) fa cdv A outer s H Ek).A.units + 1 < cLine := by omega
  have hN : (cxOf (L2.CX pw w) pw w K mg base [("_law_script" : Str), ("_law_k" : Str), ("_law_cell" : Str)] "_law_source" (defScope (top 15)) fa cdv A outer s H Ek).N.Nodup := by show List.Nodup [("_law_script" : Str), ("_law_k" : Str), ("_law_cell" : Str)]; decide +kernel
  have tk : Takes (cxOf (L2.CX pw w) pw w K mg base [("_law_script" : Str), ("_law_k" : Str), ("_law_cell" : Str)] "_law_source" (defScope (top 15)) fa cdv A outer s H Ek) (fun cls dx _ H' => Ek cls dx H') := takes_of rfl rfl rfl rfl
  have hp : PassesOwn (model pw w) (cxOf (L2.CX pw w) pw w K mg base [("_law_script" : Str), ("_law_k" : Str), ("_law_cell" : Str)] "_law_source" (defScope (top 15)) fa cdv A outer s H Ek).A (cxOf (L2.CX pw w) pw w K mg base [("_law_script" : Str), ("_law_k" : Str), ("_law_cell" : Str)] "_law_source" (defScope (top 15)) fa cdv A outer s H Ek).env (cxOf (L2.CX pw w) pw w K mg base [("_law_script" : Str), ("_law_k" : Str), ("_law_cell" : Str)] "_law_source" (defScope (top 15)) fa cdv A outer s H Ek).xe := passes_of rfl
  exact (ssl_cons (ss_asg (se_ife (st_cmp1 (op := .ne) hK hu65 (se_loc (i := 0) rfl (by first | exact Or.inl rfl | exact Or.inr (Or.inl rfl) | exact Or.inr (Or.inr rfl)) rfl rfl) (se_lst sa_nil)) (se_sub hK hu1 (se_loc (i := 0) rfl (by first | exact Or.inl rfl | exact Or.inr (Or.inl rfl) | exact Or.inr (Or.inr rfl)) rfl rfl) (se_bin (op := .mod) hK (se_loc (i := 1) rfl (by first | exact Or.inl rfl | exact Or.inr (Or.inl rfl) | exact Or.inr (Or.inr rfl)) rfl rfl) (se_bi (b := .len) (fun _ => bi_len hK) (by rfl) E.f_len (by decide +kernel) (sa_cons (se_loc (i := 0) rfl (by first | exact Or.inl rfl | exact Or.inr (Or.inl rfl) | exact Or.inr (Or.inr rfl)) rfl rfl) sa_nil rfl))) (fun _ _ => rfl)) se_int) (sg_nm (i := 2) hN rfl (by first | exact Or.inl rfl | exact Or.inr rfl) (by first | exact Or.inl rfl | exact Or.inr rfl)) rfl rfl rfl)
  (ssl_cons (ss_ret (se_lst (sa_cons (se_loc (i := 2) rfl (by first | exact Or.inl rfl | exact Or.inr (Or.inl rfl) | exact Or.inr (Or.inr rfl)) rfl rfl) (sa_cons (se_bin (op := .mul) hK se_int (se_loc (i := 1) rfl (by first | exact Or.inl rfl | exact Or.inr (Or.inl rfl) | exact Or.inr (Or.inr rfl)) rfl rfl)) (sa_cons (se_ife (st_cmp1 (op := .ge) hK hu65 (se_loc (i := 2) rfl (by first | exact Or.inl rfl | exact Or.inr (Or.inl rfl) | exact Or.inr (Or.inr rfl)) rfl rfl) (se_bin (op := .pow) hK se_int se_int)) (se_bin (op := .fdiv) hK (se_loc (i := 2) rfl (by first | exact Or.inl rfl | exact Or.inr (Or.inl rfl) | exact Or.inr (Or.inr rfl)) rfl rfl) (se_bin (op := .pow) hK se_int se_int)) se_int) sa_nil rfl) rfl) rfl)))
  ssl_nil))
theorem bd__law_next {w : World} {K : PySem.W.Frag} {mg : Str → Option Value} {base : Heap} {Z : Wc} {n : Nat} (hK : K = Z.K) (E : Ev w K mg base Z n) {cdv : Value} {A : Around} {outer : List PySem.Env} {s : Shared} {H : Hp} {Ek : XK} {fa : Addr} (hr : Room n (A.deeper (envOfC "_law_next" (defScope (top 16)) s.heap.objs.size fa cdv))) (hgd : A.guards = some []) :
    PSs (cxOf (L2.CX pw w) pw w K mg base [("_law_source_here" : Str), ("_law_many" : Str), ("_law_found" : Str), ("_law_primes" : Str), ("_law_prime" : Str)] "_law_next" (defScope (top 16)) fa cdv A outer s H Ek) (defBody (top 16)) (iL (P.tbl n) Z (fun cls dx _ H' => Ek cls dx H') c__law_next.body) := by
  obtain ⟨t_MAX_EDGES, q_MAX_EDGES⟩ := E.q_MAX_EDGES
  obtain ⟨t_MAX_NODES, q_MAX_NODES⟩ := E.q_MAX_NODES
  have hu65 : (cxOf (L2.CX pw w) pw w K mg base [("_law_source_here" : Str), ("_law_many" : Str), ("_law_found" : Str), ("_law_primes" : Str), ("_law_prime" : Str)] "_law_next" (defScope (top 16)) fa cdv A outer s H Ek).A.units + 65 < cLine := (by have h := hr.un; show (A.deeper (envOfC "_law_next" (defScope (top 16)) s.heap.objs.size fa cdv)).units + 65 < cLine; omega)
  have hu64 : (cxOf (L2.CX pw w) pw w K mg base [("_law_source_here" : Str), ("_law_many" : Str), ("_law_found" : Str), ("_law_primes" : Str), ("_law_prime" : Str)] "_law_next" (defScope (top 16)) fa cdv A outer s H Ek).A.units + 64 < cLine := by omega
  have hu1 : (cxOf (L2.CX pw w) pw w K mg base [("_law_source_here" : Str), ("_law_many" : Str), ("_law_found" : Str), ("_law_primes" : Str), ("_law_prime" : Str)] "_law_next" (defScope (top 16)) fa cdv A outer s H Ek).A.units + 1 < cLine := by omega
  have hN : (cxOf (L2.CX pw w) pw w K mg base [("_law_source_here" : Str), ("_law_many" : Str), ("_law_found" : Str), ("_law_primes" : Str), ("_law_prime" : Str)] "_law_next" (defScope (top 16)) fa cdv A outer s H Ek).N.Nodup := by show List.Nodup [("_law_source_here" : Str), ("_law_many" : Str), ("_law_found" : Str), ("_law_primes" : Str), ("_law_prime" : Str)]; decide +kernel
  have tk : Takes (cxOf (L2.CX pw w) pw w K mg base [("_law_source_here" : Str), ("_law_many" : Str), ("_law_found" : Str), ("_law_primes" : Str), ("_law_prime" : Str)] "_law_next" (defScope (top 16)) fa cdv A outer s H Ek) (fun cls dx _ H' => Ek cls dx H') := takes_of rfl rfl rfl rfl
  have hp : PassesOwn (model pw w) (cxOf (L2.CX pw w) pw w K mg base [("_law_source_here" : Str), ("_law_many" : Str), ("_law_found" : Str), ("_law_primes" : Str), ("_law_prime" : Str)] "_law_next" (defScope (top 16)) fa cdv A outer s H Ek).A (cxOf (L2.CX pw w) pw w K mg base [("_law_source_here" : Str), ("_law_many" : Str), ("_law_found" : Str), ("_law_primes" : Str), ("_law_prime" : Str)] "_law_next" (defScope (top 16)) fa cdv A outer s H Ek).env (cxOf (L2.CX pw w) pw w K mg base [("_law_source_here" : Str), ("_law_many" : Str), ("_law_found" : Str), ("_law_primes" : Str), ("_law_prime" : Str)] "_law_next" (defScope (top 16)) fa cdv A outer s H Ek).xe := passes_of rfl
  exact (ssl_cons (ss_if (st_cmp1 (op := .gt) hK hu65 (se_sub hK hu1 (se_loc (i := 0) rfl (by first | exact Or.inl rfl | exact Or.inr (Or.inl rfl) | exact Or.inr (Or.inr rfl)) rfl rfl) se_int (fun _ _ => rfl)) se_int) (ssl_cons (ss_asg (se_bin (op := .mod) hK (se_sub hK hu1 (se_loc (i := 0) rfl (by first | exact Or.inl rfl | exact Or.inr (Or.inl rfl) | exact Or.inr (Or.inr rfl)) rfl rfl) se_int (fun _ _ => rfl)) (se_loc (i := 1) rfl (by first | exact Or.inl rfl | exact Or.inr (Or.inl rfl) | exact Or.inr (Or.inr rfl)) rfl rfl)) (sg_nm (i := 2) hN rfl (by first | exact Or.inl rfl | exact Or.inr rfl) (by first | exact Or.inl rfl | exact Or.inr rfl)) rfl rfl rfl)
  (ssl_cons (ss_asg (se_bin (op := .fdiv) hK (se_sub hK hu1 (se_loc (i := 0) rfl (by first | exact Or.inl rfl | exact Or.inr (Or.inl rfl) | exact Or.inr (Or.inr rfl)) rfl rfl) se_int (fun _ _ => rfl)) (se_loc (i := 1) rfl (by first | exact Or.inl rfl | exact Or.inr (Or.inl rfl) | exact Or.inr (Or.inr rfl)) rfl rfl)) (sg_sub (W := fun cls dx _ H' => Ek cls dx H') hu1 (se_loc (i := 0) rfl (by first | exact Or.inl rfl | exact Or.inr (Or.inl rfl) | exact Or.inr (Or.inr rfl)) rfl rfl) se_int (fun _ => rfl)) rfl rfl rfl)
  (ssl_cons (ss_ret (se_loc (i := 2) rfl (by first | exact Or.inl rfl | exact Or.inr (Or.inl rfl) | exact Or.inr (Or.inr rfl)) rfl rfl))
  ssl_nil))) ssl_nil)
  (ssl_cons (ss_asg (se_bin (op := .add) hK (se_sub hK hu1 (se_loc (i := 0) rfl (by first | exact Or.inl rfl | exact Or.inr (Or.inl rfl) | exact Or.inr (Or.inr rfl)) rfl rfl) se_int (fun _ _ => rfl)) se_int) (sg_sub (W := fun cls dx _ H' => Ek cls dx H') hu1 (se_loc (i := 0) rfl (by first | exact Or.inl rfl | exact Or.inr (Or.inl rfl) | exact Or.inr (Or.inr rfl)) rfl rfl) se_int (fun _ => rfl)) rfl rfl rfl)
  (ssl_cons (ss_asg (se_lst (sa_cons se_int (sa_cons se_int (sa_cons se_int (sa_cons se_int (sa_cons se_int (sa_cons se_int (sa_cons se_int (sa_cons se_int sa_nil rfl) rfl) rfl) rfl) rfl) rfl) rfl) rfl)) (sg_nm (i := 3) hN rfl (by first | exact Or.inl rfl | exact Or.inr rfl) (by first | exact Or.inl rfl | exact Or.inr rfl)) rfl rfl rfl)
  (ssl_cons (ss_asg (se_sub hK hu1 (se_bin (op := .add) hK (se_loc (i := 3) rfl (by first | exact Or.inl rfl | exact Or.inr (Or.inl rfl) | exact Or.inr (Or.inr rfl)) rfl rfl) (se_lst (sa_cons se_int (sa_cons se_int (sa_cons se_int sa_nil rfl) rfl) rfl))) (se_bin (op := .mod) hK (se_sub hK hu1 (se_loc (i := 0) rfl (by first | exact Or.inl rfl | exact Or.inr (Or.inl rfl) | exact Or.inr (Or.inr rfl)) rfl rfl) se_int (fun _ _ => rfl)) se_int) (fun _ _ => rfl)) (sg_nm (i := 4) hN rfl (by first | exact Or.inl rfl | exact Or.inr rfl) (by first | exact Or.inl rfl | exact Or.inr rfl)) rfl rfl rfl)
  (ssl_cons (ss_ret (se_bin (op := .mod) hK (se_bin (op := .fdiv) hK (se_bin (op := .mod) hK (se_bin (op := .pow) hK (se_bin (op := .add) hK (se_bin (op := .add) hK (se_bin (op := .mod) hK (se_sub hK hu1 (se_loc (i := 0) rfl (by first | exact Or.inl rfl | exact Or.inr (Or.inl rfl) | exact Or.inr (Or.inr rfl)) rfl rfl) se_int (fun _ _ => rfl)) (se_loc (i := 4) rfl (by first | exact Or.inl rfl | exact Or.inr (Or.inl rfl) | exact Or.inr (Or.inr rfl)) rfl rfl)) (se_bin (op := .mul) hK se_int (se_sub hK hu1 (se_loc (i := 0) rfl (by first | exact Or.inl rfl | exact Or.inr (Or.inl rfl) | exact Or.inr (Or.inr rfl)) rfl rfl) se_int (fun _ _ => rfl)))) se_int) se_int) (se_loc (i := 4) rfl (by first | exact Or.inl rfl | exact Or.inr (Or.inl rfl) | exact Or.inr (Or.inr rfl)) rfl rfl)) se_int) (se_loc (i := 1) rfl (by first | exact Or.inl rfl | exact Or.inr (Or.inl rfl) | exact Or.inr (Or.inr rfl)) rfl rfl)))
  ssl_nil)))))
theorem bd__law_mixed {w : World} {K : PySem.W.Frag} {mg : Str → Option Value} {base : Heap} {Z : Wc} {n : Nat} (hK : K = Z.K) (E : Ev w K mg base Z n) {cdv : Value} {A : Around} {outer : List PySem.Env} {s : Shared} {H : Hp} {Ek : XK} {fa : Addr} (hr : Room n (A.deeper (envOfC "_law_mixed" (defScope (top 17)) s.heap.objs.size fa cdv))) (hgd : A.guards = some []) :
    PSs (cxOf (L2.CX pw w) pw w K mg base [("_law_source_here" : Str), ("_law_items" : Str), ("_law_rest" : Str), ("_law_found" : Str)] "_law_mixed" (defScope (top 17)) fa cdv A outer s H Ek) (defBody (top 17)) (iL (P.tbl n) Z (fun cls dx _ H' => Ek cls dx H') c__law_mixed.body) := by
  obtain ⟨t_MAX_EDGES, q_MAX_EDGES⟩ := E.q_MAX_EDGES
  obtain ⟨t_MAX_NODES, q_MAX_NODES⟩ := E.q_MAX_NODES
  have hu65 : (cxOf (L2.CX pw w) pw w K mg base [("_law_source_here" : Str), ("_law_items" : Str), ("_law_rest" : Str), ("_law_found" : Str)] "_law_mixed" (defScope (top 17)) fa cdv A outer s H Ek).A.units + 65 < cLine := (by have h := hr.un; show (A.deeper (envOfC "_law_mixed" (defScope (top 17)) s.heap.objs.size fa cdv)).units + 65 < cLine; omega)
  have hu64 : (cxOf (L2.CX pw w) pw w K mg base [("_law_source_here" : Str), ("_law_items" : Str), ("_law_rest" : Str), ("_law_found" : Str)] "_law_mixed" (defScope (top 17)) fa cdv A outer s H Ek).A.units + 64 < cLine := by omega
  have hu1 : (cxOf (L2.CX pw w) pw w K mg base [("_law_source_here" : Str), ("_law_items" : Str), ("_law_rest" : Str), ("_law_found" : Str)] "_law_mixed" (defScope (top 17)) fa cdv A outer s H Ek).A.units + 1 < cLine := by omega
  have hN : (cxOf (L2.CX pw w) pw w K mg base [("_law_source_here" : Str), ("_law_items" : Str), ("_law_rest" : Str), ("_law_found" : Str)] "_law_mixed" (defScope (top 17)) fa cdv A outer s H Ek).N.Nodup := by show List.Nodup [("_law_source_here" : Str), ("_law_items" : Str), ("_law_rest" : Str), ("_law_found" : Str)]; decide +kernel
  have tk : Takes (cxOf (L2.CX pw w) pw w K mg base [("_law_source_here" : Str), ("_law_items" : Str), ("_law_rest" : Str), ("_law_found" : Str)] "_law_mixed" (defScope (top 17)) fa cdv A outer s H Ek) (fun cls dx _ H' => Ek cls dx H') := takes_of rfl rfl rfl rfl
  have hp : PassesOwn (model pw w) (cxOf (L2.CX pw w) pw w K mg base [("_law_source_here" : Str), ("_law_items" : Str), ("_law_rest" : Str), ("_law_found" : Str)] "_law_mixed" (defScope (top 17)) fa cdv A outer s H Ek).A (cxOf (L2.CX pw w) pw w K mg base [("_law_source_here" : Str), ("_law_items" : Str), ("_law_rest" : Str), ("_law_found" : Str)] "_law_mixed" (defScope (top 17)) fa cdv A outer s H Ek).env (cxOf (L2.CX pw w) pw w K mg base [("_law_source_here" : Str), ("_law_items" : Str), ("_law_rest" : Str), ("_law_found" : Str)] "_law_mixed" (defScope (top 17)) fa cdv A outer s H Ek).xe := passes_of rfl
  exact (ssl_cons (ss_par2 (i := 2) (j := 3) rfl hN rfl rfl (by decide) rfl rfl (sa_cons (se_bt (b := .list) (fun _ => bi_list hK) (by rfl) E.f_list (by decide +kernel) (sa_cons (se_loc (i := 1) rfl (by first | exact Or.inl rfl | exact Or.inr (Or.inl rfl) | exact Or.inr (Or.inr rfl)) rfl rfl) sa_nil rfl)) (sa_cons (se_lst sa_nil) sa_nil rfl) rfl) (by rfl))
  (ssl_cons (ss_whl hp (st_cmp1 (op := .ne) hK hu65 (se_loc (i := 2) rfl (by first | exact Or.inl rfl | exact Or.inr (Or.inl rfl) | exact Or.inr (Or.inr rfl)) rfl rfl) (se_lst sa_nil)) (ssl_cons (ss_xpr (se_me (m := .append) hK (k_append) (se_loc (i := 3) rfl (by first | exact Or.inl rfl | exact Or.inr (Or.inl rfl) | exact Or.inr (Or.inr rfl)) rfl rfl) (sa_cons (se_me (m := .popi) hK (k_popi hu1) (se_loc (i := 2) rfl (by first | exact Or.inl rfl | exact Or.inr (Or.inl rfl) | exact Or.inr (Or.inr rfl)) rfl rfl) (sa_cons (se_callC E.C__law_next hr hgd tk (by rfl) (sa_cons (se_loc (i := 0) rfl (by first | exact Or.inl rfl | exact Or.inr (Or.inl rfl) | exact Or.inr (Or.inr rfl)) rfl rfl) (sa_cons (se_bi (b := .len) (fun _ => bi_len hK) (by rfl) E.f_len (by decide +kernel) (sa_cons (se_loc (i := 2) rfl (by first | exact Or.inl rfl | exact Or.inr (Or.inl rfl) | exact Or.inr (Or.inr rfl)) rfl rfl) sa_nil rfl)) sa_nil rfl) rfl)) sa_nil rfl)) sa_nil rfl)) rfl)
  ssl_nil))
  (ssl_cons (ss_ret (se_loc (i := 3) rfl (by first | exact Or.inl rfl | exact Or.inr (Or.inl rfl) | exact Or.inr (Or.inr rfl)) rfl rfl))
  ssl_nil)))
theorem bd__law_ends {w : World} {K : PySem.W.Frag} {mg : Str → Option Value} {base : Heap} {Z : Wc} {n : Nat} (hK : K = Z.K) (E : Ev w K mg base Z n) {cdv : Value} {A : Around} {outer : List PySem.Env} {s : Shared} {H : Hp} {Ek : XK} {fa : Addr} (hr : Room n (A.deeper (envOfC "_law_ends" (defScope (top 18)) s.heap.objs.size fa cdv))) (hgd : A.guards = some []) :
    PSs (cxOf (L2.CX pw w) pw w K mg base [("_law_graph" : Str), ("_law_tails" : Str), ("_law_node" : Str), ("_law_rotation" : Str), ("_law_dart" : Str)] "_law_ends" (defScope (top 18)) fa cdv A outer s H Ek) (defBody (top 18)) (iL (P.tbl n) Z (fun cls dx _ H' => Ek cls dx H') c__law_ends.body) := by
  obtain ⟨t_MAX_EDGES, q_MAX_EDGES⟩ := E.q_MAX_EDGES
  obtain ⟨t_MAX_NODES, q_MAX_NODES⟩ := E.q_MAX_NODES
  have hu65 : (cxOf (L2.CX pw w) pw w K mg base [("_law_graph" : Str), ("_law_tails" : Str), ("_law_node" : Str), ("_law_rotation" : Str), ("_law_dart" : Str)] "_law_ends" (defScope (top 18)) fa cdv A outer s H Ek).A.units + 65 < cLine := (by have h := hr.un; show (A.deeper (envOfC "_law_ends" (defScope (top 18)) s.heap.objs.size fa cdv)).units + 65 < cLine; omega)
  have hu64 : (cxOf (L2.CX pw w) pw w K mg base [("_law_graph" : Str), ("_law_tails" : Str), ("_law_node" : Str), ("_law_rotation" : Str), ("_law_dart" : Str)] "_law_ends" (defScope (top 18)) fa cdv A outer s H Ek).A.units + 64 < cLine := by omega
  have hu1 : (cxOf (L2.CX pw w) pw w K mg base [("_law_graph" : Str), ("_law_tails" : Str), ("_law_node" : Str), ("_law_rotation" : Str), ("_law_dart" : Str)] "_law_ends" (defScope (top 18)) fa cdv A outer s H Ek).A.units + 1 < cLine := by omega
  have hN : (cxOf (L2.CX pw w) pw w K mg base [("_law_graph" : Str), ("_law_tails" : Str), ("_law_node" : Str), ("_law_rotation" : Str), ("_law_dart" : Str)] "_law_ends" (defScope (top 18)) fa cdv A outer s H Ek).N.Nodup := by show List.Nodup [("_law_graph" : Str), ("_law_tails" : Str), ("_law_node" : Str), ("_law_rotation" : Str), ("_law_dart" : Str)]; decide +kernel
  have tk : Takes (cxOf (L2.CX pw w) pw w K mg base [("_law_graph" : Str), ("_law_tails" : Str), ("_law_node" : Str), ("_law_rotation" : Str), ("_law_dart" : Str)] "_law_ends" (defScope (top 18)) fa cdv A outer s H Ek) (fun cls dx _ H' => Ek cls dx H') := takes_of rfl rfl rfl rfl
  have hp : PassesOwn (model pw w) (cxOf (L2.CX pw w) pw w K mg base [("_law_graph" : Str), ("_law_tails" : Str), ("_law_node" : Str), ("_law_rotation" : Str), ("_law_dart" : Str)] "_law_ends" (defScope (top 18)) fa cdv A outer s H Ek).A (cxOf (L2.CX pw w) pw w K mg base [("_law_graph" : Str), ("_law_tails" : Str), ("_law_node" : Str), ("_law_rotation" : Str), ("_law_dart" : Str)] "_law_ends" (defScope (top 18)) fa cdv A outer s H Ek).env (cxOf (L2.CX pw w) pw w K mg base [("_law_graph" : Str), ("_law_tails" : Str), ("_law_node" : Str), ("_law_rotation" : Str), ("_law_dart" : Str)] "_law_ends" (defScope (top 18)) fa cdv A outer s H Ek).xe := passes_of rfl
  exact (ssl_cons (ss_asg se_dct0 (sg_nm (i := 1) hN rfl (by first | exact Or.inl rfl | exact Or.inr rfl) (by first | exact Or.inl rfl | exact Or.inr rfl)) rfl rfl rfl)
  (ssl_cons (ss_for hp rfl (si_en hK (by rfl) E.f_enumerate (se_loc (i := 0) rfl (by first | exact Or.inl rfl | exact Or.inr (Or.inl rfl) | exact Or.inr (Or.inr rfl)) rfl rfl) rfl) (sg_tup hK rfl (sgs_cons (sg_nm (i := 2) hN rfl (by first | exact Or.inl rfl | exact Or.inr rfl) (by first | exact Or.inl rfl | exact Or.inr rfl)) (sgs_cons (sg_nm (i := 3) hN rfl (by first | exact Or.inl rfl | exact Or.inr rfl) (by first | exact Or.inl rfl | exact Or.inr rfl)) sgs_nil rfl) rfl) rfl rfl rfl) (ssl_cons (ss_for hp rfl (si_val hK (se_loc (i := 3) rfl (by first | exact Or.inl rfl | exact Or.inr (Or.inl rfl) | exact Or.inr (Or.inr rfl)) rfl rfl)) (sg_nm (i := 4) hN rfl (by first | exact Or.inl rfl | exact Or.inr rfl) (by first | exact Or.inl rfl | exact Or.inr rfl)) (ssl_cons (ss_asg (se_loc (i := 2) rfl (by first | exact Or.inl rfl | exact Or.inr (Or.inl rfl) | exact Or.inr (Or.inr rfl)) rfl rfl) (sg_sub (W := fun cls dx _ H' => Ek cls dx H') hu1 (se_loc (i := 1) rfl (by first | exact Or.inl rfl | exact Or.inr (Or.inl rfl) | exact Or.inr (Or.inr rfl)) rfl rfl) (se_loc (i := 4) rfl (by first | exact Or.inl rfl | exact Or.inr (Or.inl rfl) | exact Or.inr (Or.inr rfl)) rfl rfl) (fun _ => rfl)) rfl rfl rfl)
  ssl_nil) (fun _ => rfl))
  ssl_nil) (fun _ => rfl))
  (ssl_cons (ss_ret (se_lc (own := [("_law_dart", 4)]) rfl hN (by first | (show blkC [("_law_graph" : Str), ("_law_tails" : Str), ("_law_node" : Str), ("_law_rotation" : Str), ("_law_dart" : Str)] (defScope (top 18)) _ _ = true; decide +kernel) | rfl) (by decide +kernel) (si_rng3 (by rfl) E.f_range se_int (se_bi (b := .len) (fun _ => bi_len hK) (by rfl) E.f_len (by decide +kernel) (sa_cons (se_loc (i := 1) rfl (by first | exact Or.inl rfl | exact Or.inr (Or.inl rfl) | exact Or.inr (Or.inr rfl)) rfl rfl) sa_nil rfl)) se_int rfl rfl rfl rfl) (fun _ _ _ _ _ => (sg_nm (i := 4) hN rfl (by first | exact Or.inl rfl | exact Or.inr rfl) (by first | exact Or.inl rfl | exact Or.inr rfl))) (fun _ _ _ _ _ => sts_nil) (fun _ _ _ _ _ => (se_tup (sa_cons (se_sub hK hu1 (se_loc (i := 1) rfl (by first | exact Or.inl rfl | exact Or.inr (Or.inl rfl) | exact Or.inr (Or.inr rfl)) rfl rfl) (se_loc (i := 4) rfl (by first | exact Or.inl rfl | exact Or.inr (Or.inl rfl) | exact Or.inr (Or.inr rfl)) rfl rfl) (fun _ _ => rfl)) (sa_cons (se_sub hK hu1 (se_loc (i := 1) rfl (by first | exact Or.inl rfl | exact Or.inr (Or.inl rfl) | exact Or.inr (Or.inr rfl)) rfl rfl) (se_bin (op := .add) hK (se_loc (i := 4) rfl (by first | exact Or.inl rfl | exact Or.inr (Or.inl rfl) | exact Or.inr (Or.inr rfl)) rfl rfl) se_int) (fun _ _ => rfl)) sa_nil rfl) rfl)))))
  ssl_nil)))
theorem bd__law_any_graph {w : World} {K : PySem.W.Frag} {mg : Str → Option Value} {base : Heap} {Z : Wc} {n : Nat} (hK : K = Z.K) (E : Ev w K mg base Z n) {cdv : Value} {A : Around} {outer : List PySem.Env} {s : Shared} {H : Hp} {Ek : XK} {fa : Addr} (hr : Room n (A.deeper (envOfC "_law_any_graph" (defScope (top 19)) s.heap.objs.size fa cdv))) (hgd : A.guards = some []) :
    PSs (cxOf (L2.CX pw w) pw w K mg base [("_law_source_here" : Str), ("_law_nodes" : Str), ("_law_edges" : Str), ("_law_rotations" : Str), ("_law_turn" : Str), ("_law_end" : Str), ("_law_rotation" : Str)] "_law_any_graph" (defScope (top 19)) fa cdv A outer s H Ek) (defBody (top 19)) (iL (P.tbl n) Z (fun cls dx _ H' => Ek cls dx H') c__law_any_graph.body) := by
  obtain ⟨t_MAX_EDGES, q_MAX_EDGES⟩ := E.q_MAX_EDGES
  obtain ⟨t_MAX_NODES, q_MAX_NODES⟩ := E.q_MAX_NODES
  have hu65 : (cxOf (L2.CX pw w) pw w K mg base [("_law_source_here" : Str), ("_law_nodes" : Str), ("_law_edges" : Str), ("_law_rotations" : Str), ("_law_turn" : Str), ("_law_end" : Str), ("_law_rotation" : Str)] "_law_any_graph" (defScope (top 19)) fa cdv A outer s H Ek).A.units + 65 < cLine := (by have h := hr.un; show (A.deeper (envOfC "_law_any_graph" (defScope (top 19)) s.heap.objs.size fa cdv)).units + 65 < cLine; omega)
  have hu64 : (cxOf (L2.CX pw w) pw w K mg base [("_law_source_here" : Str), ("_law_nodes" : Str), ("_law_edges" : Str), ("_law_rotations" : Str), ("_law_turn" : Str), ("_law_end" : Str), ("_law_rotation" : Str)] "_law_any_graph" (defScope (top 19)) fa cdv A outer s H Ek).A.units + 64 < cLine := by omega
  have hu1 : (cxOf (L2.CX pw w) pw w K mg base [("_law_source_here" : Str), ("_law_nodes" : Str), ("_law_edges" : Str), ("_law_rotations" : Str), ("_law_turn" : Str), ("_law_end" : Str), ("_law_rotation" : Str)] "_law_any_graph" (defScope (top 19)) fa cdv A outer s H Ek).A.units + 1 < cLine := by omega
  have hN : (cxOf (L2.CX pw w) pw w K mg base [("_law_source_here" : Str), ("_law_nodes" : Str), ("_law_edges" : Str), ("_law_rotations" : Str), ("_law_turn" : Str), ("_law_end" : Str), ("_law_rotation" : Str)] "_law_any_graph" (defScope (top 19)) fa cdv A outer s H Ek).N.Nodup := by show List.Nodup [("_law_source_here" : Str), ("_law_nodes" : Str), ("_law_edges" : Str), ("_law_rotations" : Str), ("_law_turn" : Str), ("_law_end" : Str), ("_law_rotation" : Str)]; decide +kernel
  have tk : Takes (cxOf (L2.CX pw w) pw w K mg base [("_law_source_here" : Str), ("_law_nodes" : Str), ("_law_edges" : Str), ("_law_rotations" : Str), ("_law_turn" : Str), ("_law_end" : Str), ("_law_rotation" : Str)] "_law_any_graph" (defScope (top 19)) fa cdv A outer s H Ek) (fun cls dx _ H' => Ek cls dx H') := takes_of rfl rfl rfl rfl
  have hp : PassesOwn (model pw w) (cxOf (L2.CX pw w) pw w K mg base [("_law_source_here" : Str), ("_law_nodes" : Str), ("_law_edges" : Str), ("_law_rotations" : Str), ("_law_turn" : Str), ("_law_end" : Str), ("_law_rotation" : Str)] "_law_any_graph" (defScope (top 19)) fa cdv A outer s H Ek).A (cxOf (L2.CX pw w) pw w K mg base [("_law_source_here" : Str), ("_law_nodes" : Str), ("_law_edges" : Str), ("_law_rotations" : Str), ("_law_turn" : Str), ("_law_end" : Str), ("_law_rotation" : Str)] "_law_any_graph" (defScope (top 19)) fa cdv A outer s H Ek).env (cxOf (L2.CX pw w) pw w K mg base [("_law_source_here" : Str), ("_law_nodes" : Str), ("_law_edges" : Str), ("_law_rotations" : Str), ("_law_turn" : Str), ("_law_end" : Str), ("_law_rotation" : Str)] "_law_any_graph" (defScope (top 19)) fa cdv A outer s H Ek).xe := passes_of rfl
  exact (ssl_cons (ss_setLc (i := 3) (own := [("_law_turn", 4)]) rfl hN rfl rfl (by rfl) (by first | (show blkC [("_law_source_here" : Str), ("_law_nodes" : Str), ("_law_edges" : Str), ("_law_rotations" : Str), ("_law_turn" : Str), ("_law_end" : Str), ("_law_rotation" : Str)] (defScope (top 19)) _ _ = true; decide +kernel) | rfl) (by decide +kernel) (si_rng1 (by rfl) E.f_range (se_bin (op := .add) hK se_int (se_callC E.C__law_next hr hgd tk (by rfl) (sa_cons (se_loc (i := 0) rfl (by first | exact Or.inl rfl | exact Or.inr (Or.inl rfl) | exact Or.inr (Or.inr rfl)) rfl rfl) (sa_cons (se_loc (i := 1) rfl (by first | exact Or.inl rfl | exact Or.inr (Or.inl rfl) | exact Or.inr (Or.inr rfl)) rfl rfl) sa_nil rfl) rfl))) rfl) (fun _ _ _ _ _ => (sg_nm (i := 4) hN rfl (by first | exact Or.inl rfl | exact Or.inr rfl) (by first | exact Or.inl rfl | exact Or.inr rfl))) (fun _ _ _ _ _ => sts_nil) (fun _ _ _ _ _ => (se_lst sa_nil)))
  (ssl_cons (ss_for hp rfl (si_val hK (se_callC E.C__law_mixed hr hgd tk (by rfl) (sa_cons (se_loc (i := 0) rfl (by first | exact Or.inl rfl | exact Or.inr (Or.inl rfl) | exact Or.inr (Or.inr rfl)) rfl rfl) (sa_cons (se_lrng1 rfl (by rfl) E.f_list (by rfl) E.f_range (se_bin (op := .mul) hK se_int (se_callC E.C__law_next hr hgd tk (by rfl) (sa_cons (se_loc (i := 0) rfl (by first | exact Or.inl rfl | exact Or.inr (Or.inl rfl) | exact Or.inr (Or.inr rfl)) rfl rfl) (sa_cons (se_bin (op := .add) hK (se_loc (i := 2) rfl (by first | exact Or.inl rfl | exact Or.inr (Or.inl rfl) | exact Or.inr (Or.inr rfl)) rfl rfl) se_int) sa_nil rfl) rfl))) rfl rfl) sa_nil rfl) rfl))) (sg_nm (i := 5) hN rfl (by first | exact Or.inl rfl | exact Or.inr rfl) (by first | exact Or.inl rfl | exact Or.inr rfl)) (ssl_cons (ss_xpr (se_me (m := .append) hK (k_append) (se_sub hK hu1 (se_loc (i := 3) rfl (by first | exact Or.inl rfl | exact Or.inr (Or.inl rfl) | exact Or.inr (Or.inr rfl)) rfl rfl) (se_callC E.C__law_next hr hgd tk (by rfl) (sa_cons (se_loc (i := 0) rfl (by first | exact Or.inl rfl | exact Or.inr (Or.inl rfl) | exact Or.inr (Or.inr rfl)) rfl rfl) (sa_cons (se_bi (b := .len) (fun _ => bi_len hK) (by rfl) E.f_len (by decide +kernel) (sa_cons (se_loc (i := 3) rfl (by first | exact Or.inl rfl | exact Or.inr (Or.inl rfl) | exact Or.inr (Or.inr rfl)) rfl rfl) sa_nil rfl)) sa_nil rfl) rfl)) (fun _ _ => rfl)) (sa_cons (se_loc (i := 5) rfl (by first | exact Or.inl rfl | exact Or.inr (Or.inl rfl) | exact Or.inr (Or.inr rfl)) rfl rfl) sa_nil rfl)) rfl)
  ssl_nil) (fun _ => rfl))
  (ssl_cons (ss_ret (se_bt (b := .tuple) (fun _ => bi_tuple hK) (by rfl) E.f_tuple (by decide +kernel) (sa_cons (se_lc (own := [("_law_rotation", 6)]) rfl hN (by first | (show blkC [("_law_source_here" : Str), ("_law_nodes" : Str), ("_law_edges" : Str), ("_law_rotations" : Str), ("_law_turn" : Str), ("_law_end" : Str), ("_law_rotation" : Str)] (defScope (top 19)) _ _ = true; decide +kernel) | rfl) (by decide +kernel) (si_val hK (se_loc (i := 3) rfl (by first | exact Or.inl rfl | exact Or.inr (Or.inl rfl) | exact Or.inr (Or.inr rfl)) rfl rfl)) (fun _ _ _ _ _ => (sg_nm (i := 6) hN rfl (by first | exact Or.inl rfl | exact Or.inr rfl) (by first | exact Or.inl rfl | exact Or.inr rfl))) (fun _ _ _ _ _ => sts_nil) (fun _ _ _ _ _ => (se_bt (b := .tuple) (fun _ => bi_tuple hK) (by rfl) E.f_tuple (by decide +kernel) (sa_cons (se_loc (i := 6) rfl (by first | exact Or.inl rfl | exact Or.inr (Or.inl rfl) | exact Or.inr (Or.inr rfl)) rfl rfl) sa_nil rfl)))) sa_nil rfl)))
  ssl_nil)))
theorem bd__law_parts {w : World} {K : PySem.W.Frag} {mg : Str → Option Value} {base : Heap} {Z : Wc} {n : Nat} (hK : K = Z.K) (E : Ev w K mg base Z n) {cdv : Value} {A : Around} {outer : List PySem.Env} {s : Shared} {H : Hp} {Ek : XK} {fa : Addr} (hr : Room n (A.deeper (envOfC "_law_parts" (defScope (top 20)) s.heap.objs.size fa cdv))) (hgd : A.guards = some []) :
    PSs (cxOf (L2.CX pw w) pw w K mg base [("_law_drawing" : Str), ("_law_marks" : Str), ("_law_u" : Str), ("_law_v" : Str), ("_law_low" : Str), ("_law_high" : Str), ("_law_mark" : Str), ("_law_found" : Str), ("_law_spot" : Str)] "_law_parts" (defScope (top 20)) fa cdv A outer s H Ek) (defBody (top 20)) (iL (P.tbl n) Z (fun cls dx _ H' => Ek cls dx H') c__law_parts.body) := by
  obtain ⟨t_MAX_EDGES, q_MAX_EDGES⟩ := E.q_MAX_EDGES
  obtain ⟨t_MAX_NODES, q_MAX_NODES⟩ := E.q_MAX_NODES
  have hu65 : (cxOf (L2.CX pw w) pw w K mg base [("_law_drawing" : Str), ("_law_marks" : Str), ("_law_u" : Str), ("_law_v" : Str), ("_law_low" : Str), ("_law_high" : Str), ("_law_mark" : Str), ("_law_found" : Str), ("_law_spot" : Str)] "_law_parts" (defScope (top 20)) fa cdv A outer s H Ek).A.units + 65 < cLine := (by have h := hr.un; show (A.deeper (envOfC "_law_parts" (defScope (top 20)) s.heap.objs.size fa cdv)).units + 65 < cLine; omega)
  have hu64 : (cxOf (L2.CX pw w) pw w K mg base [("_law_drawing" : Str), ("_law_marks" : Str), ("_law_u" : Str), ("_law_v" : Str), ("_law_low" : Str), ("_law_high" : Str), ("_law_mark" : Str), ("_law_found" : Str), ("_law_spot" : Str)] "_law_parts" (defScope (top 20)) fa cdv A outer s H Ek).A.units + 64 < cLine := by omega
  have hu1 : (cxOf (L2.CX pw w) pw w K mg base [("_law_drawing" : Str), ("_law_marks" : Str), ("_law_u" : Str), ("_law_v" : Str), ("_law_low" : Str), ("_law_high" : Str), ("_law_mark" : Str), ("_law_found" : Str), ("_law_spot" : Str)] "_law_parts" (defScope (top 20)) fa cdv A outer s H Ek).A.units + 1 < cLine := by omega
  have hN : (cxOf (L2.CX pw w) pw w K mg base [("_law_drawing" : Str), ("_law_marks" : Str), ("_law_u" : Str), ("_law_v" : Str), ("_law_low" : Str), ("_law_high" : Str), ("_law_mark" : Str), ("_law_found" : Str), ("_law_spot" : Str)] "_law_parts" (defScope (top 20)) fa cdv A outer s H Ek).N.Nodup := by show List.Nodup [("_law_drawing" : Str), ("_law_marks" : Str), ("_law_u" : Str), ("_law_v" : Str), ("_law_low" : Str), ("_law_high" : Str), ("_law_mark" : Str), ("_law_found" : Str), ("_law_spot" : Str)]; decide +kernel
  have tk : Takes (cxOf (L2.CX pw w) pw w K mg base [("_law_drawing" : Str), ("_law_marks" : Str), ("_law_u" : Str), ("_law_v" : Str), ("_law_low" : Str), ("_law_high" : Str), ("_law_mark" : Str), ("_law_found" : Str), ("_law_spot" : Str)] "_law_parts" (defScope (top 20)) fa cdv A outer s H Ek) (fun cls dx _ H' => Ek cls dx H') := takes_of rfl rfl rfl rfl
  have hp : PassesOwn (model pw w) (cxOf (L2.CX pw w) pw w K mg base [("_law_drawing" : Str), ("_law_marks" : Str), ("_law_u" : Str), ("_law_v" : Str), ("_law_low" : Str), ("_law_high" : Str), ("_law_mark" : Str), ("_law_found" : Str), ("_law_spot" : Str)] "_law_parts" (defScope (top 20)) fa cdv A outer s H Ek).A (cxOf (L2.CX pw w) pw w K mg base [("_law_drawing" : Str), ("_law_marks" : Str), ("_law_u" : Str), ("_law_v" : Str), ("_law_low" : Str), ("_law_high" : Str), ("_law_mark" : Str), ("_law_found" : Str), ("_law_spot" : Str)] "_law_parts" (defScope (top 20)) fa cdv A outer s H Ek).env (cxOf (L2.CX pw w) pw w K mg base [("_law_drawing" : Str), ("_law_marks" : Str), ("_law_u" : Str), ("_law_v" : Str), ("_law_low" : Str), ("_law_high" : Str), ("_law_mark" : Str), ("_law_found" : Str), ("_law_spot" : Str)] "_law_parts" (defScope (top 20)) fa cdv A outer s H Ek).xe := passes_of rfl
  exact (ssl_cons (ss_asg (se_lrng1 rfl (by rfl) E.f_list (by rfl) E.f_range (se_bi (b := .len) (fun _ => bi_len hK) (by rfl) E.f_len (by decide +kernel) (sa_cons (se_loc (i := 0) rfl (by first | exact Or.inl rfl | exact Or.inr (Or.inl rfl) | exact Or.inr (Or.inr rfl)) rfl rfl) sa_nil rfl)) rfl rfl) (sg_nm (i := 1) hN rfl (by first | exact Or.inl rfl | exact Or.inr rfl) (by first | exact Or.inl rfl | exact Or.inr rfl)) rfl rfl rfl)
  (ssl_cons (ss_for hp rfl (si_val hK (se_callC E.C__law_ends hr hgd tk (by rfl) (sa_cons (se_loc (i := 0) rfl (by first | exact Or.inl rfl | exact Or.inr (Or.inl rfl) | exact Or.inr (Or.inr rfl)) rfl rfl) sa_nil rfl))) (sg_tup hK rfl (sgs_cons (sg_nm (i := 2) hN rfl (by first | exact Or.inl rfl | exact Or.inr rfl) (by first | exact Or.inl rfl | exact Or.inr rfl)) (sgs_cons (sg_nm (i := 3) hN rfl (by first | exact Or.inl rfl | exact Or.inr rfl) (by first | exact Or.inl rfl | exact Or.inr rfl)) sgs_nil rfl) rfl) rfl rfl rfl) (ssl_cons (ss_asg (se_tup (sa_cons (se_bi (b := .min2) (fun _ => bi_min2 rfl) (by rfl) E.f_min (by decide +kernel) (sa_cons (se_sub hK hu1 (se_loc (i := 1) rfl (by first | exact Or.inl rfl | exact Or.inr (Or.inl rfl) | exact Or.inr (Or.inr rfl)) rfl rfl) (se_loc (i := 2) rfl (by first | exact Or.inl rfl | exact Or.inr (Or.inl rfl) | exact Or.inr (Or.inr rfl)) rfl rfl) (fun _ _ => rfl)) (sa_cons (se_sub hK hu1 (se_loc (i := 1) rfl (by first | exact Or.inl rfl | exact Or.inr (Or.inl rfl) | exact Or.inr (Or.inr rfl)) rfl rfl) (se_loc (i := 3) rfl (by first | exact Or.inl rfl | exact Or.inr (Or.inl rfl) | exact Or.inr (Or.inr rfl)) rfl rfl) (fun _ _ => rfl)) sa_nil rfl) rfl)) (sa_cons (se_bi (b := .max2) (fun _ => bi_max2 rfl) (by rfl) E.f_max (by decide +kernel) (sa_cons (se_sub hK hu1 (se_loc (i := 1) rfl (by first | exact Or.inl rfl | exact Or.inr (Or.inl rfl) | exact Or.inr (Or.inr rfl)) rfl rfl) (se_loc (i := 2) rfl (by first | exact Or.inl rfl | exact Or.inr (Or.inl rfl) | exact Or.inr (Or.inr rfl)) rfl rfl) (fun _ _ => rfl)) (sa_cons (se_sub hK hu1 (se_loc (i := 1) rfl (by first | exact Or.inl rfl | exact Or.inr (Or.inl rfl) | exact Or.inr (Or.inr rfl)) rfl rfl) (se_loc (i := 3) rfl (by first | exact Or.inl rfl | exact Or.inr (Or.inl rfl) | exact Or.inr (Or.inr rfl)) rfl rfl) (fun _ _ => rfl)) sa_nil rfl) rfl)) sa_nil rfl) rfl)) (sg_tup hK rfl (sgs_cons (sg_nm (i := 4) hN rfl (by first | exact Or.inl rfl | exact Or.inr rfl) (by first | exact Or.inl rfl | exact Or.inr rfl)) (sgs_cons (sg_nm (i := 5) hN rfl (by first | exact Or.inl rfl | exact Or.inr rfl) (by first | exact Or.inl rfl | exact Or.inr rfl)) sgs_nil rfl) rfl) rfl rfl rfl) rfl rfl rfl)
  (ssl_cons (ss_asg (se_lc (own := [("_law_mark", 6)]) rfl hN (by first | (show blkC [("_law_drawing" : Str), ("_law_marks" : Str), ("_law_u" : Str), ("_law_v" : Str), ("_law_low" : Str), ("_law_high" : Str), ("_law_mark" : Str), ("_law_found" : Str), ("_law_spot" : Str)] (defScope (top 20)) _ _ = true; decide +kernel) | rfl) (by decide +kernel) (si_val hK (se_loc (i := 1) rfl (by first | exact Or.inl rfl | exact Or.inr (Or.inl rfl) | exact Or.inr (Or.inr rfl)) rfl rfl)) (fun _ _ _ _ _ => (sg_nm (i := 6) hN rfl (by first | exact Or.inl rfl | exact Or.inr rfl) (by first | exact Or.inl rfl | exact Or.inr rfl))) (fun _ _ _ _ _ => sts_nil) (fun _ _ _ _ _ => (se_ife (st_cmp1 (op := .eq) hK hu65 (se_loc (i := 6) rfl (by first | exact Or.inl rfl | exact Or.inr (Or.inl rfl) | exact Or.inr (Or.inr rfl)) rfl rfl) (se_loc (i := 5) rfl (by first | exact Or.inl rfl | exact Or.inr (Or.inl rfl) | exact Or.inr (Or.inr rfl)) rfl rfl)) (se_loc (i := 4) rfl (by first | exact Or.inl rfl | exact Or.inr (Or.inl rfl) | exact Or.inr (Or.inr rfl)) rfl rfl) (se_loc (i := 6) rfl (by first | exact Or.inl rfl | exact Or.inr (Or.inl rfl) | exact Or.inr (Or.inr rfl)) rfl rfl)))) (sg_nm (i := 1) hN rfl (by first | exact Or.inl rfl | exact Or.inr rfl) (by first | exact Or.inl rfl | exact Or.inr rfl)) rfl rfl rfl)
  ssl_nil)) (fun _ => rfl))
  (ssl_cons (ss_asg (se_lst sa_nil) (sg_nm (i := 7) hN rfl (by first | exact Or.inl rfl | exact Or.inr rfl) (by first | exact Or.inl rfl | exact Or.inr rfl)) rfl rfl rfl)
  (ssl_cons (ss_for hp rfl (si_val hK (se_ssort hK rfl (by rfl) E.f_sorted (by rfl) E.f_set (se_loc (i := 1) rfl (by first | exact Or.inl rfl | exact Or.inr (Or.inl rfl) | exact Or.inr (Or.inr rfl)) rfl rfl))) (sg_nm (i := 6) hN rfl (by first | exact Or.inl rfl | exact Or.inr rfl) (by first | exact Or.inl rfl | exact Or.inr rfl)) (ssl_cons (ss_xpr (se_me (m := .append) hK (k_append) (se_loc (i := 7) rfl (by first | exact Or.inl rfl | exact Or.inr (Or.inl rfl) | exact Or.inr (Or.inr rfl)) rfl rfl) (sa_cons (se_bt (b := .tuple) (fun _ => bi_tuple hK) (by rfl) E.f_tuple (by decide +kernel) (sa_cons (se_lc (own := [("_law_spot", 8)]) rfl hN (by first | (show blkC [("_law_drawing" : Str), ("_law_marks" : Str), ("_law_u" : Str), ("_law_v" : Str), ("_law_low" : Str), ("_law_high" : Str), ("_law_mark" : Str), ("_law_found" : Str), ("_law_spot" : Str)] (defScope (top 20)) _ _ = true; decide +kernel) | rfl) (by decide +kernel) (si_rng1 (by rfl) E.f_range (se_bi (b := .len) (fun _ => bi_len hK) (by rfl) E.f_len (by decide +kernel) (sa_cons (se_loc (i := 0) rfl (by first | exact Or.inl rfl | exact Or.inr (Or.inl rfl) | exact Or.inr (Or.inr rfl)) rfl rfl) sa_nil rfl)) rfl) (fun _ _ _ _ _ => (sg_nm (i := 8) hN rfl (by first | exact Or.inl rfl | exact Or.inr rfl) (by first | exact Or.inl rfl | exact Or.inr rfl))) (fun _ _ _ _ _ => (sts_one (st_cmp1 (op := .eq) hK hu65 (se_sub hK hu1 (se_loc (i := 1) rfl (by first | exact Or.inl rfl | exact Or.inr (Or.inl rfl) | exact Or.inr (Or.inr rfl)) rfl rfl) (se_loc (i := 8) rfl (by first | exact Or.inl rfl | exact Or.inr (Or.inl rfl) | exact Or.inr (Or.inr rfl)) rfl rfl) (fun _ _ => rfl)) (se_loc (i := 6) rfl (by first | exact Or.inl rfl | exact Or.inr (Or.inl rfl) | exact Or.inr (Or.inr rfl)) rfl rfl)))) (fun _ _ _ _ _ => (se_loc (i := 8) rfl (by first | exact Or.inl rfl | exact Or.inr (Or.inl rfl) | exact Or.inr (Or.inr rfl)) rfl rfl))) sa_nil rfl)) sa_nil rfl)) rfl)
  ssl_nil) (fun _ => rfl))
  (ssl_cons (ss_ret (se_bt (b := .tuple) (fun _ => bi_tuple hK) (by rfl) E.f_tuple (by decide +kernel) (sa_cons (se_loc (i := 7) rfl (by first | exact Or.inl rfl | exact Or.inr (Or.inl rfl) | exact Or.inr (Or.inr rfl)) rfl rfl) sa_nil rfl)))
  ssl_nil)))))
theorem bd__law_moved_right {w : World} {K : PySem.W.Frag} {mg : Str → Option Value} {base : Heap} {Z : Wc} {n : Nat} (hK : K = Z.K) (E : Ev w K mg base Z n) {cdv : Value} {A : Around} {outer : List PySem.Env} {s : Shared} {H : Hp} {Ek : XK} {fa : Addr} (hr : Room n (A.deeper (envOfC "_law_moved_right" (defScope (top 21)) s.heap.objs.size fa cdv))) (hgd : A.guards = some []) :
    PSs (cxOf (L2.CX pw w) pw w K mg base [("_law_source_here" : Str), ("_law_drawing" : Str), ("_law_due" : Str), ("_law_order" : Str), ("_law_moved" : Str), ("_law_spot" : Str), ("_law_places" : Str), ("_law_place" : Str), ("_law_parts_here" : Str), ("_law_part" : Str)] "_law_moved_right" (defScope (top 21)) fa cdv A outer s H Ek) (defBody (top 21)) (iL (P.tbl n) Z (fun cls dx _ H' => Ek cls dx H') c__law_moved_right.body) := by
  obtain ⟨t_MAX_EDGES, q_MAX_EDGES⟩ := E.q_MAX_EDGES
  obtain ⟨t_MAX_NODES, q_MAX_NODES⟩ := E.q_MAX_NODES
  have hu65 : (cxOf (L2.CX pw w) pw w K mg base [("_law_source_here" : Str), ("_law_drawing" : Str), ("_law_due" : Str), ("_law_order" : Str), ("_law_moved" : Str), ("_law_spot" : Str), ("_law_places" : Str), ("_law_place" : Str), ("_law_parts_here" : Str), ("_law_part" : Str)] "_law_moved_right" (defScope (top 21)) fa cdv A outer s H Ek).A.units + 65 < cLine := (by have h := hr.un; show (A.deeper (envOfC "_law_moved_right" (defScope (top 21)) s.heap.objs.size fa cdv)).units + 65 < cLine; omega)
  have hu64 : (cxOf (L2.CX pw w) pw w K mg base [("_law_source_here" : Str), ("_law_drawing" : Str), ("_law_due" : Str), ("_law_order" : Str), ("_law_moved" : Str), ("_law_spot" : Str), ("_law_places" : Str), ("_law_place" : Str), ("_law_parts_here" : Str), ("_law_part" : Str)] "_law_moved_right" (defScope (top 21)) fa cdv A outer s H Ek).A.units + 64 < cLine := by omega
  have hu1 : (cxOf (L2.CX pw w) pw w K mg base [("_law_source_here" : Str), ("_law_drawing" : Str), ("_law_due" : Str), ("_law_order" : Str), ("_law_moved" : Str), ("_law_spot" : Str), ("_law_places" : Str), ("_law_place" : Str), ("_law_parts_here" : Str), ("_law_part" : Str)] "_law_moved_right" (defScope (top 21)) fa cdv A outer s H Ek).A.units + 1 < cLine := by omega
  have hN : (cxOf (L2.CX pw w) pw w K mg base [("_law_source_here" : Str), ("_law_drawing" : Str), ("_law_due" : Str), ("_law_order" : Str), ("_law_moved" : Str), ("_law_spot" : Str), ("_law_places" : Str), ("_law_place" : Str), ("_law_parts_here" : Str), ("_law_part" : Str)] "_law_moved_right" (defScope (top 21)) fa cdv A outer s H Ek).N.Nodup := by show List.Nodup [("_law_source_here" : Str), ("_law_drawing" : Str), ("_law_due" : Str), ("_law_order" : Str), ("_law_moved" : Str), ("_law_spot" : Str), ("_law_places" : Str), ("_law_place" : Str), ("_law_parts_here" : Str), ("_law_part" : Str)]; decide +kernel
  have tk : Takes (cxOf (L2.CX pw w) pw w K mg base [("_law_source_here" : Str), ("_law_drawing" : Str), ("_law_due" : Str), ("_law_order" : Str), ("_law_moved" : Str), ("_law_spot" : Str), ("_law_places" : Str), ("_law_place" : Str), ("_law_parts_here" : Str), ("_law_part" : Str)] "_law_moved_right" (defScope (top 21)) fa cdv A outer s H Ek) (fun cls dx _ H' => Ek cls dx H') := takes_of rfl rfl rfl rfl
  have hp : PassesOwn (model pw w) (cxOf (L2.CX pw w) pw w K mg base [("_law_source_here" : Str), ("_law_drawing" : Str), ("_law_due" : Str), ("_law_order" : Str), ("_law_moved" : Str), ("_law_spot" : Str), ("_law_places" : Str), ("_law_place" : Str), ("_law_parts_here" : Str), ("_law_part" : Str)] "_law_moved_right" (defScope (top 21)) fa cdv A outer s H Ek).A (cxOf (L2.CX pw w) pw w K mg base [("_law_source_here" : Str), ("_law_drawing" : Str), ("_law_due" : Str), ("_law_order" : Str), ("_law_moved" : Str), ("_law_spot" : Str), ("_law_places" : Str), ("_law_place" : Str), ("_law_parts_here" : Str), ("_law_part" : Str)] "_law_moved_right" (defScope (top 21)) fa cdv A outer s H Ek).env (cxOf (L2.CX pw w) pw w K mg base [("_law_source_here" : Str), ("_law_drawing" : Str), ("_law_due" : Str), ("_law_order" : Str), ("_law_moved" : Str), ("_law_spot" : Str), ("_law_places" : Str), ("_law_place" : Str), ("_law_parts_here" : Str), ("_law_part" : Str)] "_law_moved_right" (defScope (top 21)) fa cdv A outer s H Ek).xe := passes_of rfl
  exact (ssl_cons (ss_asg (se_callC E.C__law_mixed hr hgd tk (by rfl) (sa_cons (se_loc (i := 0) rfl (by first | exact Or.inl rfl | exact Or.inr (Or.inl rfl) | exact Or.inr (Or.inr rfl)) rfl rfl) (sa_cons (se_lrng1 rfl (by rfl) E.f_list (by rfl) E.f_range (se_bi (b := .len) (fun _ => bi_len hK) (by rfl) E.f_len (by decide +kernel) (sa_cons (se_loc (i := 1) rfl (by first | exact Or.inl rfl | exact Or.inr (Or.inl rfl) | exact Or.inr (Or.inr rfl)) rfl rfl) sa_nil rfl)) rfl rfl) sa_nil rfl) rfl)) (sg_nm (i := 3) hN rfl (by first | exact Or.inl rfl | exact Or.inr rfl) (by first | exact Or.inl rfl | exact Or.inr rfl)) rfl rfl rfl)
  (ssl_cons (ss_asg (se_bt (b := .tuple) (fun _ => bi_tuple hK) (by rfl) E.f_tuple (by decide +kernel) (sa_cons (se_lc (own := [("_law_spot", 5)]) rfl hN (by first | (show blkC [("_law_source_here" : Str), ("_law_drawing" : Str), ("_law_due" : Str), ("_law_order" : Str), ("_law_moved" : Str), ("_law_spot" : Str), ("_law_places" : Str), ("_law_place" : Str), ("_law_parts_here" : Str), ("_law_part" : Str)] (defScope (top 21)) _ _ = true; decide +kernel) | rfl) (by decide +kernel) (si_val hK (se_loc (i := 3) rfl (by first | exact Or.inl rfl | exact Or.inr (Or.inl rfl) | exact Or.inr (Or.inr rfl)) rfl rfl)) (fun _ _ _ _ _ => (sg_nm (i := 5) hN rfl (by first | exact Or.inl rfl | exact Or.inr rfl) (by first | exact Or.inl rfl | exact Or.inr rfl))) (fun _ _ _ _ _ => sts_nil) (fun _ _ _ _ _ => (se_bt (b := .tuple) (fun _ => bi_tuple hK) (by rfl) E.f_tuple (by decide +kernel) (sa_cons (se_callC E.C__law_mixed hr hgd tkF (by rfl) (sa_cons (se_loc (i := 0) rfl (by first | exact Or.inl rfl | exact Or.inr (Or.inl rfl) | exact Or.inr (Or.inr rfl)) rfl rfl) (sa_cons (se_sub hK hu1 (se_loc (i := 1) rfl (by first | exact Or.inl rfl | exact Or.inr (Or.inl rfl) | exact Or.inr (Or.inr rfl)) rfl rfl) (se_loc (i := 5) rfl (by first | exact Or.inl rfl | exact Or.inr (Or.inl rfl) | exact Or.inr (Or.inr rfl)) rfl rfl) (fun _ _ => rfl)) sa_nil rfl) rfl)) sa_nil rfl)))) sa_nil rfl)) (sg_nm (i := 4) hN rfl (by first | exact Or.inl rfl | exact Or.inr rfl) (by first | exact Or.inl rfl | exact Or.inr rfl)) rfl rfl rfl)
  (ssl_cons (ss_asg (se_bt (b := .dict) (fun _ => bi_dict hK rfl) (by rfl) E.f_dict (by decide +kernel) (sa_cons (se_lc (own := [("_law_place", 7), ("_law_spot", 5)]) rfl hN (by first | (show blkC [("_law_source_here" : Str), ("_law_drawing" : Str), ("_law_due" : Str), ("_law_order" : Str), ("_law_moved" : Str), ("_law_spot" : Str), ("_law_places" : Str), ("_law_place" : Str), ("_law_parts_here" : Str), ("_law_part" : Str)] (defScope (top 21)) _ _ = true; decide +kernel) | rfl) (by decide +kernel) (si_en hK (by rfl) E.f_enumerate (se_loc (i := 3) rfl (by first | exact Or.inl rfl | exact Or.inr (Or.inl rfl) | exact Or.inr (Or.inr rfl)) rfl rfl) rfl) (fun _ _ _ _ _ => (sg_tup hK rfl (sgs_cons (sg_nm (i := 7) hN rfl (by first | exact Or.inl rfl | exact Or.inr rfl) (by first | exact Or.inl rfl | exact Or.inr rfl)) (sgs_cons (sg_nm (i := 5) hN rfl (by first | exact Or.inl rfl | exact Or.inr rfl) (by first | exact Or.inl rfl | exact Or.inr rfl)) sgs_nil rfl) rfl) rfl rfl rfl)) (fun _ _ _ _ _ => sts_nil) (fun _ _ _ _ _ => (se_tup (sa_cons (se_loc (i := 5) rfl (by first | exact Or.inl rfl | exact Or.inr (Or.inl rfl) | exact Or.inr (Or.inr rfl)) rfl rfl) (sa_cons (se_loc (i := 7) rfl (by first | exact Or.inl rfl | exact Or.inr (Or.inl rfl) | exact Or.inr (Or.inr rfl)) rfl rfl) sa_nil rfl) rfl)))) sa_nil rfl)) (sg_nm (i := 6) hN rfl (by first | exact Or.inl rfl | exact Or.inr rfl) (by first | exact Or.inl rfl | exact Or.inr rfl)) rfl rfl rfl)
  (ssl_cons (ss_asg (se_bi (b := .sorted) (fun _ => bi_sorted hK) (by rfl) E.f_sorted (by decide +kernel) (sa_cons (se_lc (own := [("_law_part", 9)]) rfl hN (by first | (show blkC [("_law_source_here" : Str), ("_law_drawing" : Str), ("_law_due" : Str), ("_law_order" : Str), ("_law_moved" : Str), ("_law_spot" : Str), ("_law_places" : Str), ("_law_place" : Str), ("_law_parts_here" : Str), ("_law_part" : Str)] (defScope (top 21)) _ _ = true; decide +kernel) | rfl) (by decide +kernel) (si_val hK (se_loc (i := 2) rfl (by first | exact Or.inl rfl | exact Or.inr (Or.inl rfl) | exact Or.inr (Or.inr rfl)) rfl rfl)) (fun _ _ _ _ _ => (sg_nm (i := 9) hN rfl (by first | exact Or.inl rfl | exact Or.inr rfl) (by first | exact Or.inl rfl | exact Or.inr rfl))) (fun _ _ _ _ _ => sts_nil) (fun _ _ _ _ _ => (se_bt (b := .tuple) (fun _ => bi_tuple hK) (by rfl) E.f_tuple (by decide +kernel) (sa_cons (se_bi (b := .sorted) (fun _ => bi_sorted hK) (by rfl) E.f_sorted (by decide +kernel) (sa_cons (se_lc (own := [("_law_spot", 5)]) rfl hN (by first | (show blkC [("_law_source_here" : Str), ("_law_drawing" : Str), ("_law_due" : Str), ("_law_order" : Str), ("_law_moved" : Str), ("_law_spot" : Str), ("_law_places" : Str), ("_law_place" : Str), ("_law_parts_here" : Str), ("_law_part" : Str)] (defScope (top 21)) _ _ = true; decide +kernel) | rfl) (by decide +kernel) (si_val hK (se_loc (i := 9) rfl (by first | exact Or.inl rfl | exact Or.inr (Or.inl rfl) | exact Or.inr (Or.inr rfl)) rfl rfl)) (fun _ _ _ _ _ => (sg_nm (i := 5) hN rfl (by first | exact Or.inl rfl | exact Or.inr rfl) (by first | exact Or.inl rfl | exact Or.inr rfl))) (fun _ _ _ _ _ => sts_nil) (fun _ _ _ _ _ => (se_sub hK hu1 (se_loc (i := 6) rfl (by first | exact Or.inl rfl | exact Or.inr (Or.inl rfl) | exact Or.inr (Or.inr rfl)) rfl rfl) (se_loc (i := 5) rfl (by first | exact Or.inl rfl | exact Or.inr (Or.inl rfl) | exact Or.inr (Or.inr rfl)) rfl rfl) (fun _ _ => rfl)))) sa_nil rfl)) sa_nil rfl)))) sa_nil rfl)) (sg_nm (i := 8) hN rfl (by first | exact Or.inl rfl | exact Or.inr rfl) (by first | exact Or.inl rfl | exact Or.inr rfl)) rfl rfl rfl)
  (ssl_cons (ss_ret (se_cmp1 (op := .eq) hK hu65 (se_callC E.C_components hr hgd tk (by rfl) (sa_cons (se_loc (i := 4) rfl (by first | exact Or.inl rfl | exact Or.inr (Or.inl rfl) | exact Or.inr (Or.inr rfl)) rfl rfl) sa_nil rfl)) (se_bt (b := .tuple) (fun _ => bi_tuple hK) (by rfl) E.f_tuple (by decide +kernel) (sa_cons (se_loc (i := 8) rfl (by first | exact Or.inl rfl | exact Or.inr (Or.inl rfl) | exact Or.inr (Or.inr rfl)) rfl rfl) sa_nil rfl))))
  ssl_nil)))))
theorem bd__law_beside_right {w : World} {K : PySem.W.Frag} {mg : Str → Option Value} {base : Heap} {Z : Wc} {n : Nat} (hK : K = Z.K) (E : Ev w K mg base Z n) {cdv : Value} {A : Around} {outer : List PySem.Env} {s : Shared} {H : Hp} {Ek : XK} {fa : Addr} (hr : Room n (A.deeper (envOfC "_law_beside_right" (defScope (top 22)) s.heap.objs.size fa cdv))) (hgd : A.guards = some []) :
    PSs (cxOf (L2.CX pw w) pw w K mg base [("_law_drawing" : Str), ("_law_far" : Str), ("_law_due" : Str), ("_law_ends_here" : Str), ("_law_spots" : Str), ("_law_rotation" : Str), ("_law_both" : Str), ("_law_end" : Str), ("_law_more" : Str), ("_law_spot" : Str), ("_law_part" : Str)] "_law_beside_right" (defScope (top 22)) fa cdv A outer s H Ek) (defBody (top 22)) (iL (P.tbl n) Z (fun cls dx _ H' => Ek cls dx H') c__law_beside_right.body) := by
  obtain ⟨t_MAX_EDGES, q_MAX_EDGES⟩ := E.q_MAX_EDGES
  obtain ⟨t_MAX_NODES, q_MAX_NODES⟩ := E.q_MAX_NODES
  have hu65 : (cxOf (L2.CX pw w) pw w K mg base [("_law_drawing" : Str), ("_law_far" : Str), ("_law_due" : Str), ("_law_ends_here" : Str), ("_law_spots" : Str), ("_law_rotation" : Str), ("_law_both" : Str), ("_law_end" : Str), ("_law_more" : Str), ("_law_spot" : Str), ("_law_part" : Str)] "_law_beside_right" (defScope (top 22)) fa cdv A outer s H Ek).A.units + 65 < cLine := (by have h := hr.un; show (A.deeper (envOfC "_law_beside_right" (defScope (top 22)) s.heap.objs.size fa cdv)).units + 65 < cLine; omega)
  have hu64 : (cxOf (L2.CX pw w) pw w K mg base [("_law_drawing" : Str), ("_law_far" : Str), ("_law_due" : Str), ("_law_ends_here" : Str), ("_law_spots" : Str), ("_law_rotation" : Str), ("_law_both" : Str), ("_law_end" : Str), ("_law_more" : Str), ("_law_spot" : Str), ("_law_part" : Str)] "_law_beside_right" (defScope (top 22)) fa cdv A outer s H Ek).A.units + 64 < cLine := by omega
  have hu1 : (cxOf (L2.CX pw w) pw w K mg base [("_law_drawing" : Str), ("_law_far" : Str), ("_law_due" : Str), ("_law_ends_here" : Str), ("_law_spots" : Str), ("_law_rotation" : Str), ("_law_both" : Str), ("_law_end" : Str), ("_law_more" : Str), ("_law_spot" : Str), ("_law_part" : Str)] "_law_beside_right" (defScope (top 22)) fa cdv A outer s H Ek).A.units + 1 < cLine := by omega
  have hN : (cxOf (L2.CX pw w) pw w K mg base [("_law_drawing" : Str), ("_law_far" : Str), ("_law_due" : Str), ("_law_ends_here" : Str), ("_law_spots" : Str), ("_law_rotation" : Str), ("_law_both" : Str), ("_law_end" : Str), ("_law_more" : Str), ("_law_spot" : Str), ("_law_part" : Str)] "_law_beside_right" (defScope (top 22)) fa cdv A outer s H Ek).N.Nodup := by show List.Nodup [("_law_drawing" : Str), ("_law_far" : Str), ("_law_due" : Str), ("_law_ends_here" : Str), ("_law_spots" : Str), ("_law_rotation" : Str), ("_law_both" : Str), ("_law_end" : Str), ("_law_more" : Str), ("_law_spot" : Str), ("_law_part" : Str)]; decide +kernel
  have tk : Takes (cxOf (L2.CX pw w) pw w K mg base [("_law_drawing" : Str), ("_law_far" : Str), ("_law_due" : Str), ("_law_ends_here" : Str), ("_law_spots" : Str), ("_law_rotation" : Str), ("_law_both" : Str), ("_law_end" : Str), ("_law_more" : Str), ("_law_spot" : Str), ("_law_part" : Str)] "_law_beside_right" (defScope (top 22)) fa cdv A outer s H Ek) (fun cls dx _ H' => Ek cls dx H') := takes_of rfl rfl rfl rfl
  have hp : PassesOwn (model pw w) (cxOf (L2.CX pw w) pw w K mg base [("_law_drawing" : Str), ("_law_far" : Str), ("_law_due" : Str), ("_law_ends_here" : Str), ("_law_spots" : Str), ("_law_rotation" : Str), ("_law_both" : Str), ("_law_end" : Str), ("_law_more" : Str), ("_law_spot" : Str), ("_law_part" : Str)] "_law_beside_right" (defScope (top 22)) fa cdv A outer s H Ek).A (cxOf (L2.CX pw w) pw w K mg base [("_law_drawing" : Str), ("_law_far" : Str), ("_law_due" : Str), ("_law_ends_here" : Str), ("_law_spots" : Str), ("_law_rotation" : Str), ("_law_both" : Str), ("_law_end" : Str), ("_law_more" : Str), ("_law_spot" : Str), ("_law_part" : Str)] "_law_beside_right" (defScope (top 22)) fa cdv A outer s H Ek).env (cxOf (L2.CX pw w) pw w K mg base [("_law_drawing" : Str), ("_law_far" : Str), ("_law_due" : Str), ("_law_ends_here" : Str), ("_law_spots" : Str), ("_law_rotation" : Str), ("_law_both" : Str), ("_law_end" : Str), ("_law_more" : Str), ("_law_spot" : Str), ("_law_part" : Str)] "_law_beside_right" (defScope (top 22)) fa cdv A outer s H Ek).xe := passes_of rfl
  exact (ssl_cons (ss_asg (se_tup (sa_cons (se_bi (b := .sum) (fun _ => bi_sum hK rfl) (by rfl) E.f_sum (by decide +kernel) (sa_cons (se_lc (own := [("_law_rotation", 5)]) rfl hN (by first | (show blkC [("_law_drawing" : Str), ("_law_far" : Str), ("_law_due" : Str), ("_law_ends_here" : Str), ("_law_spots" : Str), ("_law_rotation" : Str), ("_law_both" : Str), ("_law_end" : Str), ("_law_more" : Str), ("_law_spot" : Str), ("_law_part" : Str)] (defScope (top 22)) _ _ = true; decide +kernel) | rfl) (by decide +kernel) (si_val hK (se_loc (i := 0) rfl (by first | exact Or.inl rfl | exact Or.inr (Or.inl rfl) | exact Or.inr (Or.inr rfl)) rfl rfl)) (fun _ _ _ _ _ => (sg_nm (i := 5) hN rfl (by first | exact Or.inl rfl | exact Or.inr rfl) (by first | exact Or.inl rfl | exact Or.inr rfl))) (fun _ _ _ _ _ => sts_nil) (fun _ _ _ _ _ => (se_bi (b := .len) (fun _ => bi_len hK) (by rfl) E.f_len (by decide +kernel) (sa_cons (se_loc (i := 5) rfl (by first | exact Or.inl rfl | exact Or.inr (Or.inl rfl) | exact Or.inr (Or.inr rfl)) rfl rfl) sa_nil rfl)))) sa_nil rfl)) (sa_cons (se_bi (b := .len) (fun _ => bi_len hK) (by rfl) E.f_len (by decide +kernel) (sa_cons (se_loc (i := 0) rfl (by first | exact Or.inl rfl | exact Or.inr (Or.inl rfl) | exact Or.inr (Or.inr rfl)) rfl rfl) sa_nil rfl)) sa_nil rfl) rfl)) (sg_tup hK rfl (sgs_cons (sg_nm (i := 3) hN rfl (by first | exact Or.inl rfl | exact Or.inr rfl) (by first | exact Or.inl rfl | exact Or.inr rfl)) (sgs_cons (sg_nm (i := 4) hN rfl (by first | exact Or.inl rfl | exact Or.inr rfl) (by first | exact Or.inl rfl | exact Or.inr rfl)) sgs_nil rfl) rfl) rfl rfl rfl) rfl rfl rfl)
  (ssl_cons (ss_asg (se_bin (op := .add) hK (se_loc (i := 0) rfl (by first | exact Or.inl rfl | exact Or.inr (Or.inl rfl) | exact Or.inr (Or.inr rfl)) rfl rfl) (se_bt (b := .tuple) (fun _ => bi_tuple hK) (by rfl) E.f_tuple (by decide +kernel) (sa_cons (se_lc (own := [("_law_rotation", 5)]) rfl hN (by first | (show blkC [("_law_drawing" : Str), ("_law_far" : Str), ("_law_due" : Str), ("_law_ends_here" : Str), ("_law_spots" : Str), ("_law_rotation" : Str), ("_law_both" : Str), ("_law_end" : Str), ("_law_more" : Str), ("_law_spot" : Str), ("_law_part" : Str)] (defScope (top 22)) _ _ = true; decide +kernel) | rfl) (by decide +kernel) (si_val hK (se_loc (i := 1) rfl (by first | exact Or.inl rfl | exact Or.inr (Or.inl rfl) | exact Or.inr (Or.inr rfl)) rfl rfl)) (fun _ _ _ _ _ => (sg_nm (i := 5) hN rfl (by first | exact Or.inl rfl | exact Or.inr rfl) (by first | exact Or.inl rfl | exact Or.inr rfl))) (fun _ _ _ _ _ => sts_nil) (fun _ _ _ _ _ => (se_bt (b := .tuple) (fun _ => bi_tuple hK) (by rfl) E.f_tuple (by decide +kernel) (sa_cons (se_lc (own := [("_law_end", 7)]) rfl hN (by first | (show blkC [("_law_drawing" : Str), ("_law_far" : Str), ("_law_due" : Str), ("_law_ends_here" : Str), ("_law_spots" : Str), ("_law_rotation" : Str), ("_law_both" : Str), ("_law_end" : Str), ("_law_more" : Str), ("_law_spot" : Str), ("_law_part" : Str)] (defScope (top 22)) _ _ = true; decide +kernel) | rfl) (by decide +kernel) (si_val hK (se_loc (i := 5) rfl (by first | exact Or.inl rfl | exact Or.inr (Or.inl rfl) | exact Or.inr (Or.inr rfl)) rfl rfl)) (fun _ _ _ _ _ => (sg_nm (i := 7) hN rfl (by first | exact Or.inl rfl | exact Or.inr rfl) (by first | exact Or.inl rfl | exact Or.inr rfl))) (fun _ _ _ _ _ => sts_nil) (fun _ _ _ _ _ => (se_bin (op := .add) hK (se_loc (i := 7) rfl (by first | exact Or.inl rfl | exact Or.inr (Or.inl rfl) | exact Or.inr (Or.inr rfl)) rfl rfl) (se_loc (i := 3) rfl (by first | exact Or.inl rfl | exact Or.inr (Or.inl rfl) | exact Or.inr (Or.inr rfl)) rfl rfl)))) sa_nil rfl)))) sa_nil rfl))) (sg_nm (i := 6) hN rfl (by first | exact Or.inl rfl | exact Or.inr rfl) (by first | exact Or.inl rfl | exact Or.inr rfl)) rfl rfl rfl)
  (ssl_cons (ss_setLc (i := 8) (own := [("_law_part", 10)]) rfl hN rfl rfl (by rfl) (by first | (show blkC [("_law_drawing" : Str), ("_law_far" : Str), ("_law_due" : Str), ("_law_ends_here" : Str), ("_law_spots" : Str), ("_law_rotation" : Str), ("_law_both" : Str), ("_law_end" : Str), ("_law_more" : Str), ("_law_spot" : Str), ("_law_part" : Str)] (defScope (top 22)) _ _ = true; decide +kernel) | rfl) (by decide +kernel) (si_val hK (se_callC E.C__law_parts hr hgd tk (by rfl) (sa_cons (se_loc (i := 1) rfl (by first | exact Or.inl rfl | exact Or.inr (Or.inl rfl) | exact Or.inr (Or.inr rfl)) rfl rfl) sa_nil rfl))) (fun _ _ _ _ _ => (sg_nm (i := 10) hN rfl (by first | exact Or.inl rfl | exact Or.inr rfl) (by first | exact Or.inl rfl | exact Or.inr rfl))) (fun _ _ _ _ _ => sts_nil) (fun _ _ _ _ _ => (se_bt (b := .tuple) (fun _ => bi_tuple hK) (by rfl) E.f_tuple (by decide +kernel) (sa_cons (se_lc (own := [("_law_spot", 9)]) rfl hN (by first | (show blkC [("_law_drawing" : Str), ("_law_far" : Str), ("_law_due" : Str), ("_law_ends_here" : Str), ("_law_spots" : Str), ("_law_rotation" : Str), ("_law_both" : Str), ("_law_end" : Str), ("_law_more" : Str), ("_law_spot" : Str), ("_law_part" : Str)] (defScope (top 22)) _ _ = true; decide +kernel) | rfl) (by decide +kernel) (si_val hK (se_loc (i := 10) rfl (by first | exact Or.inl rfl | exact Or.inr (Or.inl rfl) | exact Or.inr (Or.inr rfl)) rfl rfl)) (fun _ _ _ _ _ => (sg_nm (i := 9) hN rfl (by first | exact Or.inl rfl | exact Or.inr rfl) (by first | exact Or.inl rfl | exact Or.inr rfl))) (fun _ _ _ _ _ => sts_nil) (fun _ _ _ _ _ => (se_bin (op := .add) hK (se_loc (i := 9) rfl (by first | exact Or.inl rfl | exact Or.inr (Or.inl rfl) | exact Or.inr (Or.inr rfl)) rfl rfl) (se_loc (i := 4) rfl (by first | exact Or.inl rfl | exact Or.inr (Or.inl rfl) | exact Or.inr (Or.inr rfl)) rfl rfl)))) sa_nil rfl))))
  (ssl_cons (ss_ret (se_cmp1 (op := .eq) hK hu65 (se_callC E.C_components hr hgd tk (by rfl) (sa_cons (se_loc (i := 6) rfl (by first | exact Or.inl rfl | exact Or.inr (Or.inl rfl) | exact Or.inr (Or.inr rfl)) rfl rfl) sa_nil rfl)) (se_bin (op := .add) hK (se_loc (i := 2) rfl (by first | exact Or.inl rfl | exact Or.inr (Or.inl rfl) | exact Or.inr (Or.inr rfl)) rfl rfl) (se_bt (b := .tuple) (fun _ => bi_tuple hK) (by rfl) E.f_tuple (by decide +kernel) (sa_cons (se_loc (i := 8) rfl (by first | exact Or.inl rfl | exact Or.inr (Or.inl rfl) | exact Or.inr (Or.inr rfl)) rfl rfl) sa_nil rfl)))))
  ssl_nil))))
theorem bd_law {w : World} {K : PySem.W.Frag} {mg : Str → Option Value} {base : Heap} {Z : Wc} {n : Nat} (hK : K = Z.K) (E : Ev w K mg base Z n) {cdv : Value} {A : Around} {outer : List PySem.Env} {s : Shared} {H : Hp} {Ek : XK} {fa : Addr} (hr : Room n (A.deeper (envOfC "law" (defScope (top 23)) s.heap.objs.size fa cdv))) (hgd : A.guards = some []) :
    PSs (cxOf (L2.CX pw w) pw w K mg base [("_law_script" : Str), ("_law_k" : Str), ("_law_source_here" : Str), ("_law_drawing" : Str), ("_law_kept" : Str), ("_law_due" : Str)] "law" (defScope (top 23)) fa cdv A outer s H Ek) (defBody (top 23)) (iL (P.tbl n) Z (fun cls dx _ H' => Ek cls dx H') c_law.body) := by
  obtain ⟨t_MAX_EDGES, q_MAX_EDGES⟩ := E.q_MAX_EDGES
  obtain ⟨t_MAX_NODES, q_MAX_NODES⟩ := E.q_MAX_NODES
  have hu65 : (cxOf (L2.CX pw w) pw w K mg base [("_law_script" : Str), ("_law_k" : Str), ("_law_source_here" : Str), ("_law_drawing" : Str), ("_law_kept" : Str), ("_law_due" : Str)] "law" (defScope (top 23)) fa cdv A outer s H Ek).A.units + 65 < cLine := (by have h := hr.un; show (A.deeper (envOfC "law" (defScope (top 23)) s.heap.objs.size fa cdv)).units + 65 < cLine; omega)
  have hu64 : (cxOf (L2.CX pw w) pw w K mg base [("_law_script" : Str), ("_law_k" : Str), ("_law_source_here" : Str), ("_law_drawing" : Str), ("_law_kept" : Str), ("_law_due" : Str)] "law" (defScope (top 23)) fa cdv A outer s H Ek).A.units + 64 < cLine := by omega
  have hu1 : (cxOf (L2.CX pw w) pw w K mg base [("_law_script" : Str), ("_law_k" : Str), ("_law_source_here" : Str), ("_law_drawing" : Str), ("_law_kept" : Str), ("_law_due" : Str)] "law" (defScope (top 23)) fa cdv A outer s H Ek).A.units + 1 < cLine := by omega
  have hN : (cxOf (L2.CX pw w) pw w K mg base [("_law_script" : Str), ("_law_k" : Str), ("_law_source_here" : Str), ("_law_drawing" : Str), ("_law_kept" : Str), ("_law_due" : Str)] "law" (defScope (top 23)) fa cdv A outer s H Ek).N.Nodup := by show List.Nodup [("_law_script" : Str), ("_law_k" : Str), ("_law_source_here" : Str), ("_law_drawing" : Str), ("_law_kept" : Str), ("_law_due" : Str)]; decide +kernel
  have tk : Takes (cxOf (L2.CX pw w) pw w K mg base [("_law_script" : Str), ("_law_k" : Str), ("_law_source_here" : Str), ("_law_drawing" : Str), ("_law_kept" : Str), ("_law_due" : Str)] "law" (defScope (top 23)) fa cdv A outer s H Ek) (fun cls dx _ H' => Ek cls dx H') := takes_of rfl rfl rfl rfl
  have hp : PassesOwn (model pw w) (cxOf (L2.CX pw w) pw w K mg base [("_law_script" : Str), ("_law_k" : Str), ("_law_source_here" : Str), ("_law_drawing" : Str), ("_law_kept" : Str), ("_law_due" : Str)] "law" (defScope (top 23)) fa cdv A outer s H Ek).A (cxOf (L2.CX pw w) pw w K mg base [("_law_script" : Str), ("_law_k" : Str), ("_law_source_here" : Str), ("_law_drawing" : Str), ("_law_kept" : Str), ("_law_due" : Str)] "law" (defScope (top 23)) fa cdv A outer s H Ek).env (cxOf (L2.CX pw w) pw w K mg base [("_law_script" : Str), ("_law_k" : Str), ("_law_source_here" : Str), ("_law_drawing" : Str), ("_law_kept" : Str), ("_law_due" : Str)] "law" (defScope (top 23)) fa cdv A outer s H Ek).xe := passes_of rfl
  exact (ssl_cons (ss_for hp rfl (si_rng1 (by rfl) E.f_range (se_bi (b := .max2) (fun _ => bi_max2 rfl) (by rfl) E.f_max (by decide +kernel) (sa_cons se_int (sa_cons (se_bi (b := .min2) (fun _ => bi_min2 rfl) (by rfl) E.f_min (by decide +kernel) (sa_cons se_int (sa_cons (se_bi (b := .len) (fun _ => bi_len hK) (by rfl) E.f_len (by decide +kernel) (sa_cons (se_loc (i := 0) rfl (by first | exact Or.inl rfl | exact Or.inr (Or.inl rfl) | exact Or.inr (Or.inr rfl)) rfl rfl) sa_nil rfl)) sa_nil rfl) rfl)) sa_nil rfl) rfl)) rfl) (sg_nm (i := 1) hN rfl (by first | exact Or.inl rfl | exact Or.inr rfl) (by first | exact Or.inl rfl | exact Or.inr rfl)) (ssl_cons (ss_asg (se_callC E.C__law_source hr hgd tk (by rfl) (sa_cons (se_loc (i := 0) rfl (by first | exact Or.inl rfl | exact Or.inr (Or.inl rfl) | exact Or.inr (Or.inr rfl)) rfl rfl) (sa_cons (se_loc (i := 1) rfl (by first | exact Or.inl rfl | exact Or.inr (Or.inl rfl) | exact Or.inr (Or.inr rfl)) rfl rfl) sa_nil rfl) rfl)) (sg_nm (i := 2) hN rfl (by first | exact Or.inl rfl | exact Or.inr rfl) (by first | exact Or.inl rfl | exact Or.inr rfl)) rfl rfl rfl)
  (ssl_cons (ss_asg (se_callC E.C__law_any_graph hr hgd tk (by rfl) (sa_cons (se_loc (i := 2) rfl (by first | exact Or.inl rfl | exact Or.inr (Or.inl rfl) | exact Or.inr (Or.inr rfl)) rfl rfl) (sa_cons se_int (sa_cons se_int sa_nil rfl) rfl) rfl)) (sg_nm (i := 3) hN rfl (by first | exact Or.inl rfl | exact Or.inr rfl) (by first | exact Or.inl rfl | exact Or.inr rfl)) rfl rfl rfl)
  (ssl_cons (ss_par2 (i := 4) (j := 5) rfl hN rfl rfl (by decide) rfl rfl (sa_cons (se_bi (b := .repr) (fun _ => bi_repr hK hgd hu64) (by rfl) E.f_repr (by decide +kernel) (sa_cons (se_loc (i := 3) rfl (by first | exact Or.inl rfl | exact Or.inr (Or.inl rfl) | exact Or.inr (Or.inr rfl)) rfl rfl) sa_nil rfl)) (sa_cons (se_callC E.C__law_parts hr hgd tk (by rfl) (sa_cons (se_loc (i := 3) rfl (by first | exact Or.inl rfl | exact Or.inr (Or.inl rfl) | exact Or.inr (Or.inr rfl)) rfl rfl) sa_nil rfl)) sa_nil rfl) rfl) (by rfl))
  (ssl_cons (ss_if (st_w (sw_or (st_cmp1 (op := .ne) hK hu65 (se_bi (b := .repr) (fun _ => bi_repr hK hgd hu64) (by rfl) E.f_repr (by decide +kernel) (sa_cons (se_callC E.C_components hr hgd tk (by rfl) (sa_cons (se_loc (i := 3) rfl (by first | exact Or.inl rfl | exact Or.inr (Or.inl rfl) | exact Or.inr (Or.inr rfl)) rfl rfl) sa_nil rfl)) sa_nil rfl)) (se_bi (b := .repr) (fun _ => bi_repr hK hgd hu64) (by rfl) E.f_repr (by decide +kernel) (sa_cons (se_loc (i := 5) rfl (by first | exact Or.inl rfl | exact Or.inr (Or.inl rfl) | exact Or.inr (Or.inr rfl)) rfl rfl) sa_nil rfl))) (sw_or1 (st_cmp1 (op := .ne) hK hu65 (se_bi (b := .repr) (fun _ => bi_repr hK hgd hu64) (by rfl) E.f_repr (by decide +kernel) (sa_cons (se_loc (i := 3) rfl (by first | exact Or.inl rfl | exact Or.inr (Or.inl rfl) | exact Or.inr (Or.inr rfl)) rfl rfl) sa_nil rfl)) (se_loc (i := 4) rfl (by first | exact Or.inl rfl | exact Or.inr (Or.inl rfl) | exact Or.inr (Or.inr rfl)) rfl rfl))))) (ssl_cons (ss_ret se_bl)
  ssl_nil) ssl_nil)
  (ssl_cons (ss_if (st_w (sw_and (st_cmp1 (op := .eq) hK hu65 (se_bi (b := .len) (fun _ => bi_len hK) (by rfl) E.f_len (by decide +kernel) (sa_cons (se_loc (i := 5) rfl (by first | exact Or.inl rfl | exact Or.inr (Or.inl rfl) | exact Or.inr (Or.inr rfl)) rfl rfl) sa_nil rfl)) se_int) (sw_and1 (st_cmp1 (op := .lt) hK hu65 (se_bi (b := .len) (fun _ => bi_len hK) (by rfl) E.f_len (by decide +kernel) (sa_cons (se_callC E.C__law_ends hr hgd tk (by rfl) (sa_cons (se_loc (i := 3) rfl (by first | exact Or.inl rfl | exact Or.inr (Or.inl rfl) | exact Or.inr (Or.inr rfl)) rfl rfl) sa_nil rfl)) sa_nil rfl)) (se_bin (op := .sub) hK (se_bi (b := .len) (fun _ => bi_len hK) (by rfl) E.f_len (by decide +kernel) (sa_cons (se_loc (i := 3) rfl (by first | exact Or.inl rfl | exact Or.inr (Or.inl rfl) | exact Or.inr (Or.inr rfl)) rfl rfl) sa_nil rfl)) se_int))))) (ssl_cons (ss_ret se_bl)
  ssl_nil) ssl_nil)
  (ssl_cons (ss_if (st_not (st_val (se_callC E.C__law_moved_right hr hgd tk (by rfl) (sa_cons (se_loc (i := 2) rfl (by first | exact Or.inl rfl | exact Or.inr (Or.inl rfl) | exact Or.inr (Or.inr rfl)) rfl rfl) (sa_cons (se_loc (i := 3) rfl (by first | exact Or.inl rfl | exact Or.inr (Or.inl rfl) | exact Or.inr (Or.inr rfl)) rfl rfl) (sa_cons (se_loc (i := 5) rfl (by first | exact Or.inl rfl | exact Or.inr (Or.inl rfl) | exact Or.inr (Or.inr rfl)) rfl rfl) sa_nil rfl) rfl) rfl)) (fun _ => rfl) hK)) (ssl_cons (ss_ret se_bl)
  ssl_nil) ssl_nil)
  (ssl_cons (ss_if (st_not (st_val (se_callC E.C__law_beside_right hr hgd tk (by rfl) (sa_cons (se_loc (i := 3) rfl (by first | exact Or.inl rfl | exact Or.inr (Or.inl rfl) | exact Or.inr (Or.inr rfl)) rfl rfl) (sa_cons (se_callC E.C__law_any_graph hr hgd tk (by rfl) (sa_cons (se_loc (i := 2) rfl (by first | exact Or.inl rfl | exact Or.inr (Or.inl rfl) | exact Or.inr (Or.inr rfl)) rfl rfl) (sa_cons se_int (sa_cons se_int sa_nil rfl) rfl) rfl)) (sa_cons (se_loc (i := 5) rfl (by first | exact Or.inl rfl | exact Or.inr (Or.inl rfl) | exact Or.inr (Or.inr rfl)) rfl rfl) sa_nil rfl) rfl) rfl)) (fun _ => rfl) hK)) (ssl_cons (ss_ret se_bl)
  ssl_nil) ssl_nil)
  ssl_nil))))))) (fun _ => rfl))
  (ssl_cons (ss_ret (se_and (se_cmp1 (op := .eq) hK hu65 (se_callC E.C_components hr hgd tk (by rfl) (sa_cons (se_tup sa_nil) sa_nil rfl)) (se_tup sa_nil)) (se_one (se_cmp1 (op := .eq) hK hu65 (se_callC E.C_components hr hgd tk (by rfl) (sa_cons (se_tup (sa_cons (se_tup sa_nil) (sa_cons (se_tup sa_nil) (sa_cons (se_tup sa_nil) sa_nil rfl) rfl) rfl)) sa_nil rfl)) (se_tup (sa_cons (se_tup (sa_cons se_int sa_nil rfl)) (sa_cons (se_tup (sa_cons se_int sa_nil rfl)) (sa_cons (se_tup (sa_cons se_int sa_nil rfl)) sa_nil rfl) rfl) rfl))))))
  ssl_nil))
structure Wf (w : World) (K : PySem.W.Frag) (mg : Str → Option Value) : Prop where
  f_all : mg "all" = none
  f_bool : mg "bool" = none
  f_dict : mg "dict" = none
  f_enumerate : mg "enumerate" = none
  f_int : mg "int" = none
  f_isinstance : mg "isinstance" = none
  f_len : mg "len" = none
  f_list : mg "list" = none
  f_max : mg "max" = none
  f_min : mg "min" = none
  f_range : mg "range" = none
  f_repr : mg "repr" = none
  f_set : mg "set" = none
  f_sorted : mg "sorted" = none
  f_sum : mg "sum" = none
  f_tuple : mg "tuple" = none
  q_MAX_EDGES : ∃ t, mg "MAX_EDGES" = some (.int 120 t)
  q_MAX_NODES : ∃ t, mg "MAX_NODES" = some (.int 60 t)
  d_is_index : ∃ f fd, FunD K "is_index" "is_index" (defArgs (top 6)) (defBody (top 6)) (defScope (top 6)) [] [] f fd ∧ mg "is_index" = some (.ref f)
  d_graph_fault : ∃ f fd, FunD K "graph_fault" "graph_fault" (defArgs (top 7)) (defBody (top 7)) (defScope (top 7)) [] [] f fd ∧ mg "graph_fault" = some (.ref f)
  d_check_graph : ∃ f fd, FunD K "check_graph" "check_graph" (defArgs (top 8)) (defBody (top 8)) (defScope (top 8)) [] [] f fd ∧ mg "check_graph" = some (.ref f)
  d_dart_count : ∃ f fd, FunD K "dart_count" "dart_count" (defArgs (top 9)) (defBody (top 9)) (defScope (top 9)) [] [] f fd ∧ mg "dart_count" = some (.ref f)
  d_opposite_of : ∃ f fd, FunD K "opposite_of" "opposite_of" (defArgs (top 10)) (defBody (top 10)) (defScope (top 10)) [] [] f fd ∧ mg "opposite_of" = some (.ref f)
  d_dart_tails : ∃ f fd, FunD K "dart_tails" "dart_tails" (defArgs (top 11)) (defBody (top 11)) (defScope (top 11)) [] [] f fd ∧ mg "dart_tails" = some (.ref f)
  d_component_list : ∃ f fd, FunD K "component_list" "component_list" (defArgs (top 12)) (defBody (top 12)) (defScope (top 12)) [] [] f fd ∧ mg "component_list" = some (.ref f)
  d_components : ∃ f fd, FunD K "components" "components" (defArgs (top 13)) (defBody (top 13)) (defScope (top 13)) [] [] f fd ∧ mg "components" = some (.ref f)
  d__law_source : ∃ f fd, FunD K "_law_source" "_law_source" (defArgs (top 15)) (defBody (top 15)) (defScope (top 15)) [] [] f fd ∧ mg "_law_source" = some (.ref f)
  d__law_next : ∃ f fd, FunD K "_law_next" "_law_next" (defArgs (top 16)) (defBody (top 16)) (defScope (top 16)) [] [] f fd ∧ mg "_law_next" = some (.ref f)
  d__law_mixed : ∃ f fd, FunD K "_law_mixed" "_law_mixed" (defArgs (top 17)) (defBody (top 17)) (defScope (top 17)) [] [] f fd ∧ mg "_law_mixed" = some (.ref f)
  d__law_ends : ∃ f fd, FunD K "_law_ends" "_law_ends" (defArgs (top 18)) (defBody (top 18)) (defScope (top 18)) [] [] f fd ∧ mg "_law_ends" = some (.ref f)
  d__law_any_graph : ∃ f fd, FunD K "_law_any_graph" "_law_any_graph" (defArgs (top 19)) (defBody (top 19)) (defScope (top 19)) [] [] f fd ∧ mg "_law_any_graph" = some (.ref f)
  d__law_parts : ∃ f fd, FunD K "_law_parts" "_law_parts" (defArgs (top 20)) (defBody (top 20)) (defScope (top 20)) [] [] f fd ∧ mg "_law_parts" = some (.ref f)
  d__law_moved_right : ∃ f fd, FunD K "_law_moved_right" "_law_moved_right" (defArgs (top 21)) (defBody (top 21)) (defScope (top 21)) [] [] f fd ∧ mg "_law_moved_right" = some (.ref f)
  d__law_beside_right : ∃ f fd, FunD K "_law_beside_right" "_law_beside_right" (defArgs (top 22)) (defBody (top 22)) (defScope (top 22)) [] [] f fd ∧ mg "_law_beside_right" = some (.ref f)
  d_law : ∃ f fd, FunD K "law" "law" (defArgs (top 23)) (defBody (top 23)) (defScope (top 23)) [] [] f fd ∧ mg "law" = some (.ref f)
theorem cal_of {w : World} {K : PySem.W.Frag} {mg : Str → Option Value} {base : Heap} {Z : Wc} {n i t : Nat} {x : Str} {N ps : List Str} {F : Fn} (hF : P.fns i = some F) (hN : N.length = F.ns) (hps : ps.length = F.np) (S : FnScope N ps (defScope (top t)))
    (hd : ∃ f fd, FunD K x x (defArgs (top t)) (defBody (top t)) (defScope (top t)) [] [] f fd ∧ mg x = some (.ref f))
    (hb : ∀ f fd, FunD K x x (defArgs (top t)) (defBody (top t)) (defScope (top t)) [] [] f fd → Binds K fd ps [])
    (body : ∀ (cdv : Value) (A : Around) (outer : List PySem.Env) (s : Shared) (H : Hp) (Ek : XK) (fa : Addr), Room n (A.deeper (envOfC x (defScope (top t)) s.heap.objs.size fa cdv)) → A.guards = some [] →
      PSs (cxOf (L2.CX pw w) pw w K mg base N x (defScope (top t)) fa cdv A outer s H Ek) (defBody (top t)) (iL (P.tbl n) Z (fun cls dx _ H' => Ek cls dx H') F.body)) : Cal pw w K mg base Z P (n + 1) i x ps := by
  obtain ⟨f, fd, D, hm⟩ := hd
  refine ⟨f, fd, ?_, hm, D.kp, hb f fd D⟩
  obtain ⟨oc, od, dV, kV, doc, pm, an, cdv, ct, osl, rfl, lk, hc, _⟩ := D.ex
  rw [hps]
  exact fg_of lk hc S (fun vs H Q E ⟨hl, _⟩ => by rw [hl, hps]) fun A outer s H vs Q E hr hg h => ⟨_, body cdv A outer s H E f hr hg, enter_ok hF hN h⟩
theorem ev_all {w : World} {K : PySem.W.Frag} {mg : Str → Option Value} {base : Heap} {Z : Wc} (hK : K = Z.K) (X : Wf w K mg) : ∀ n, Ev w K mg base Z n
  | 0 => {
    f_all := X.f_all
    f_bool := X.f_bool
    f_dict := X.f_dict
    f_enumerate := X.f_enumerate
    f_int := X.f_int
    f_isinstance := X.f_isinstance
    f_len := X.f_len
    f_list := X.f_list
    f_max := X.f_max
    f_min := X.f_min
    f_range := X.f_range
    f_repr := X.f_repr
    f_set := X.f_set
    f_sorted := X.f_sorted
    f_sum := X.f_sum
    f_tuple := X.f_tuple
    q_MAX_EDGES := X.q_MAX_EDGES
    q_MAX_NODES := X.q_MAX_NODES
    C_is_index := (let ⟨f, fd, D, hm⟩ := X.d_is_index; ⟨f, fd, fg_zero rfl, hm, D.kp, D.bindsN fun _ _ _ _ _ _ us hl => match us, hl with | [_, _], _ => rfl⟩)
    C_graph_fault := (let ⟨f, fd, D, hm⟩ := X.d_graph_fault; ⟨f, fd, fg_zero rfl, hm, D.kp, D.bindsN fun _ _ _ _ _ _ us hl => match us, hl with | [_], _ => rfl⟩)
    C_check_graph := (let ⟨f, fd, D, hm⟩ := X.d_check_graph; ⟨f, fd, fg_zero rfl, hm, D.kp, D.bindsN fun _ _ _ _ _ _ us hl => match us, hl with | [_], _ => rfl⟩)
    C_dart_count := (let ⟨f, fd, D, hm⟩ := X.d_dart_count; ⟨f, fd, fg_zero rfl, hm, D.kp, D.bindsN fun _ _ _ _ _ _ us hl => match us, hl with | [_], _ => rfl⟩)
    C_opposite_of := (let ⟨f, fd, D, hm⟩ := X.d_opposite_of; ⟨f, fd, fg_zero rfl, hm, D.kp, D.bindsN fun _ _ _ _ _ _ us hl => match us, hl with | [_], _ => rfl⟩)
    C_dart_tails := (let ⟨f, fd, D, hm⟩ := X.d_dart_tails; ⟨f, fd, fg_zero rfl, hm, D.kp, D.bindsN fun _ _ _ _ _ _ us hl => match us, hl with | [_], _ => rfl⟩)
    C_component_list := (let ⟨f, fd, D, hm⟩ := X.d_component_list; ⟨f, fd, fg_zero rfl, hm, D.kp, D.bindsN fun _ _ _ _ _ _ us hl => match us, hl with | [_], _ => rfl⟩)
    C_components := (let ⟨f, fd, D, hm⟩ := X.d_components; ⟨f, fd, fg_zero rfl, hm, D.kp, D.bindsN fun _ _ _ _ _ _ us hl => match us, hl with | [_], _ => rfl⟩)
    C__law_source := (let ⟨f, fd, D, hm⟩ := X.d__law_source; ⟨f, fd, fg_zero rfl, hm, D.kp, D.bindsN fun _ _ _ _ _ _ us hl => match us, hl with | [_, _], _ => rfl⟩)
    C__law_next := (let ⟨f, fd, D, hm⟩ := X.d__law_next; ⟨f, fd, fg_zero rfl, hm, D.kp, D.bindsN fun _ _ _ _ _ _ us hl => match us, hl with | [_, _], _ => rfl⟩)
    C__law_mixed := (let ⟨f, fd, D, hm⟩ := X.d__law_mixed; ⟨f, fd, fg_zero rfl, hm, D.kp, D.bindsN fun _ _ _ _ _ _ us hl => match us, hl with | [_, _], _ => rfl⟩)
    C__law_ends := (let ⟨f, fd, D, hm⟩ := X.d__law_ends; ⟨f, fd, fg_zero rfl, hm, D.kp, D.bindsN fun _ _ _ _ _ _ us hl => match us, hl with | [_], _ => rfl⟩)
    C__law_any_graph := (let ⟨f, fd, D, hm⟩ := X.d__law_any_graph; ⟨f, fd, fg_zero rfl, hm, D.kp, D.bindsN fun _ _ _ _ _ _ us hl => match us, hl with | [_, _, _], _ => rfl⟩)
    C__law_parts := (let ⟨f, fd, D, hm⟩ := X.d__law_parts; ⟨f, fd, fg_zero rfl, hm, D.kp, D.bindsN fun _ _ _ _ _ _ us hl => match us, hl with | [_], _ => rfl⟩)
    C__law_moved_right := (let ⟨f, fd, D, hm⟩ := X.d__law_moved_right; ⟨f, fd, fg_zero rfl, hm, D.kp, D.bindsN fun _ _ _ _ _ _ us hl => match us, hl with | [_, _, _], _ => rfl⟩)
    C__law_beside_right := (let ⟨f, fd, D, hm⟩ := X.d__law_beside_right; ⟨f, fd, fg_zero rfl, hm, D.kp, D.bindsN fun _ _ _ _ _ _ us hl => match us, hl with | [_, _, _], _ => rfl⟩)
    C_law := (let ⟨f, fd, D, hm⟩ := X.d_law; ⟨f, fd, fg_zero rfl, hm, D.kp, D.bindsN fun _ _ _ _ _ _ us hl => match us, hl with | [_], _ => rfl⟩) }
  | n + 1 => {
    f_all := X.f_all
    f_bool := X.f_bool
    f_dict := X.f_dict
    f_enumerate := X.f_enumerate
    f_int := X.f_int
    f_isinstance := X.f_isinstance
    f_len := X.f_len
    f_list := X.f_list
    f_max := X.f_max
    f_min := X.f_min
    f_range := X.f_range
    f_repr := X.f_repr
    f_set := X.f_set
    f_sorted := X.f_sorted
    f_sum := X.f_sum
    f_tuple := X.f_tuple
    q_MAX_EDGES := X.q_MAX_EDGES
    q_MAX_NODES := X.q_MAX_NODES
    C_is_index := cal_of (N := [("value" : Str), ("many" : Str)]) (F := c_is_index) rfl rfl rfl ⟨rfl, rfl, rfl, by decide +kernel, rfl, by decide +kernel, by decide +kernel⟩ X.d_is_index (fun f fd D => D.bindsN fun _ _ _ _ _ _ us hl => match us, hl with | [_, _], _ => rfl) (fun _ _ _ _ _ _ _ hr hg => bd_is_index hK (ev_all hK X n) hr hg)
    C_graph_fault := cal_of (N := [("value" : Str), ("rotation" : Str), ("many" : Str), ("missing" : Str), ("dart" : Str)]) (F := c_graph_fault) rfl rfl rfl ⟨rfl, rfl, rfl, by decide +kernel, rfl, by decide +kernel, by decide +kernel⟩ X.d_graph_fault (fun f fd D => D.bindsN fun _ _ _ _ _ _ us hl => match us, hl with | [_], _ => rfl) (fun _ _ _ _ _ _ _ hr hg => bd_graph_fault hK (ev_all hK X n) hr hg)
    C_check_graph := cal_of (N := [("graph" : Str), ("place" : Str)]) (F := c_check_graph) rfl rfl rfl ⟨rfl, rfl, rfl, by decide +kernel, rfl, by decide +kernel, by decide +kernel⟩ X.d_check_graph (fun f fd D => D.bindsN fun _ _ _ _ _ _ us hl => match us, hl with | [_], _ => rfl) (fun _ _ _ _ _ _ _ hr hg => bd_check_graph hK (ev_all hK X n) hr hg)
    C_dart_count := cal_of (N := [("graph" : Str), ("rotation" : Str)]) (F := c_dart_count) rfl rfl rfl ⟨rfl, rfl, rfl, by decide +kernel, rfl, by decide +kernel, by decide +kernel⟩ X.d_dart_count (fun f fd D => D.bindsN fun _ _ _ _ _ _ us hl => match us, hl with | [_], _ => rfl) (fun _ _ _ _ _ _ _ hr hg => bd_dart_count hK (ev_all hK X n) hr hg)
    C_opposite_of := cal_of (N := [("dart" : Str)]) (F := c_opposite_of) rfl rfl rfl ⟨rfl, rfl, rfl, by decide +kernel, rfl, by decide +kernel, by decide +kernel⟩ X.d_opposite_of (fun f fd D => D.bindsN fun _ _ _ _ _ _ us hl => match us, hl with | [_], _ => rfl) (fun _ _ _ _ _ _ _ hr hg => bd_opposite_of hK (ev_all hK X n) hr hg)
    C_dart_tails := cal_of (N := [("graph" : Str), ("tails" : Str), ("node" : Str), ("rotation" : Str), ("dart" : Str)]) (F := c_dart_tails) rfl rfl rfl ⟨rfl, rfl, rfl, by decide +kernel, rfl, by decide +kernel, by decide +kernel⟩ X.d_dart_tails (fun f fd D => D.bindsN fun _ _ _ _ _ _ us hl => match us, hl with | [_], _ => rfl) (fun _ _ _ _ _ _ _ hr hg => bd_dart_tails hK (ev_all hK X n) hr hg)
    C_component_list := cal_of (N := [("graph" : Str), ("tails" : Str), ("found" : Str), ("seen" : Str), ("start" : Str), ("part" : Str), ("waiting" : Str), ("node" : Str), ("dart" : Str), ("far" : Str)]) (F := c_component_list) rfl rfl rfl ⟨rfl, rfl, rfl, by decide +kernel, rfl, by decide +kernel, by decide +kernel⟩ X.d_component_list (fun f fd D => D.bindsN fun _ _ _ _ _ _ us hl => match us, hl with | [_], _ => rfl) (fun _ _ _ _ _ _ _ hr hg => bd_component_list hK (ev_all hK X n) hr hg)
    C_components := cal_of (N := [("graph" : Str)]) (F := c_components) rfl rfl rfl ⟨rfl, rfl, rfl, by decide +kernel, rfl, by decide +kernel, by decide +kernel⟩ X.d_components (fun f fd D => D.bindsN fun _ _ _ _ _ _ us hl => match us, hl with | [_], _ => rfl) (fun _ _ _ _ _ _ _ hr hg => bd_components hK (ev_all hK X n) hr hg)
    C__law_source := cal_of (N := [("_law_script" : Str), ("_law_k" : Str), ("_law_cell" : Str)]) (F := c__law_source) rfl rfl rfl ⟨rfl, rfl, rfl, by decide +kernel, rfl, by decide +kernel, by decide +kernel⟩ X.d__law_source (fun f fd D => D.bindsN fun _ _ _ _ _ _ us hl => match us, hl with | [_, _], _ => rfl) (fun _ _ _ _ _ _ _ hr hg => bd__law_source hK (ev_all hK X n) hr hg)
    C__law_next := cal_of (N := [("_law_source_here" : Str), ("_law_many" : Str), ("_law_found" : Str), ("_law_primes" : Str), ("_law_prime" : Str)]) (F := c__law_next) rfl rfl rfl ⟨rfl, rfl, rfl, by decide +kernel, rfl, by decide +kernel, by decide +kernel⟩ X.d__law_next (fun f fd D => D.bindsN fun _ _ _ _ _ _ us hl => match us, hl with | [_, _], _ => rfl) (fun _ _ _ _ _ _ _ hr hg => bd__law_next hK (ev_all hK X n) hr hg)
    C__law_mixed := cal_of (N := [("_law_source_here" : Str), ("_law_items" : Str), ("_law_rest" : Str), ("_law_found" : Str)]) (F := c__law_mixed) rfl rfl rfl ⟨rfl, rfl, rfl, by decide +kernel, rfl, by decide +kernel, by decide +kernel⟩ X.d__law_mixed (fun f fd D => D.bindsN fun _ _ _ _ _ _ us hl => match us, hl with | [_, _], _ => rfl) (fun _ _ _ _ _ _ _ hr hg => bd__law_mixed hK (ev_all hK X n) hr hg)
    C__law_ends := cal_of (N := [("_law_graph" : Str), ("_law_tails" : Str), ("_law_node" : Str), ("_law_rotation" : Str), ("_law_dart" : Str)]) (F := c__law_ends) rfl rfl rfl ⟨rfl, rfl, rfl, by decide +kernel, rfl, by decide +kernel, by decide +kernel⟩ X.d__law_ends (fun f fd D => D.bindsN fun _ _ _ _ _ _ us hl => match us, hl with | [_], _ => rfl) (fun _ _ _ _ _ _ _ hr hg => bd__law_ends hK (ev_all hK X n) hr hg)
    C__law_any_graph := cal_of (N := [("_law_source_here" : Str), ("_law_nodes" : Str), ("_law_edges" : Str), ("_law_rotations" : Str), ("_law_turn" : Str), ("_law_end" : Str), ("_law_rotation" : Str)]) (F := c__law_any_graph) rfl rfl rfl ⟨rfl, rfl, rfl, by decide +kernel, rfl, by decide +kernel, by decide +kernel⟩ X.d__law_any_graph (fun f fd D => D.bindsN fun _ _ _ _ _ _ us hl => match us, hl with | [_, _, _], _ => rfl) (fun _ _ _ _ _ _ _ hr hg => bd__law_any_graph hK (ev_all hK X n) hr hg)
    C__law_parts := cal_of (N := [("_law_drawing" : Str), ("_law_marks" : Str), ("_law_u" : Str), ("_law_v" : Str), ("_law_low" : Str), ("_law_high" : Str), ("_law_mark" : Str), ("_law_found" : Str), ("_law_spot" : Str)]) (F := c__law_parts) rfl rfl rfl ⟨rfl, rfl, rfl, by decide +kernel, rfl, by decide +kernel, by decide +kernel⟩ X.d__law_parts (fun f fd D => D.bindsN fun _ _ _ _ _ _ us hl => match us, hl with | [_], _ => rfl) (fun _ _ _ _ _ _ _ hr hg => bd__law_parts hK (ev_all hK X n) hr hg)
    C__law_moved_right := cal_of (N := [("_law_source_here" : Str), ("_law_drawing" : Str), ("_law_due" : Str), ("_law_order" : Str), ("_law_moved" : Str), ("_law_spot" : Str), ("_law_places" : Str), ("_law_place" : Str), ("_law_parts_here" : Str), ("_law_part" : Str)]) (F := c__law_moved_right) rfl rfl rfl ⟨rfl, rfl, rfl, by decide +kernel, rfl, by decide +kernel, by decide +kernel⟩ X.d__law_moved_right (fun f fd D => D.bindsN fun _ _ _ _ _ _ us hl => match us, hl with | [_, _, _], _ => rfl) (fun _ _ _ _ _ _ _ hr hg => bd__law_moved_right hK (ev_all hK X n) hr hg)
    C__law_beside_right := cal_of (N := [("_law_drawing" : Str), ("_law_far" : Str), ("_law_due" : Str), ("_law_ends_here" : Str), ("_law_spots" : Str), ("_law_rotation" : Str), ("_law_both" : Str), ("_law_end" : Str), ("_law_more" : Str), ("_law_spot" : Str), ("_law_part" : Str)]) (F := c__law_beside_right) rfl rfl rfl ⟨rfl, rfl, rfl, by decide +kernel, rfl, by decide +kernel, by decide +kernel⟩ X.d__law_beside_right (fun f fd D => D.bindsN fun _ _ _ _ _ _ us hl => match us, hl with | [_, _, _], _ => rfl) (fun _ _ _ _ _ _ _ hr hg => bd__law_beside_right hK (ev_all hK X n) hr hg)
    C_law := cal_of (N := [("_law_script" : Str), ("_law_k" : Str), ("_law_source_here" : Str), ("_law_drawing" : Str), ("_law_kept" : Str), ("_law_due" : Str)]) (F := c_law) rfl rfl rfl ⟨rfl, rfl, rfl, by decide +kernel, rfl, by decide +kernel, by decide +kernel⟩ X.d_law (fun f fd D => D.bindsN fun _ _ _ _ _ _ us hl => match us, hl with | [_], _ => rfl) (fun _ _ _ _ _ _ _ hr hg => bd_law hK (ev_all hK X n) hr hg) }
def dd (n : Str) (i : Nat) : He.DefD := ⟨(n, none), n, n, defArgs (top i), defBody (top i), defScope (top i), [], []⟩
def fnL : List He.DefD := ([dd "is_index" 6, dd "graph_fault" 7, dd "check_graph" 8, dd "dart_count" 9, dd "opposite_of" 10, dd "dart_tails" 11, dd "component_list" 12, dd "components" 13, dd "_law_source" 15, dd "_law_next" 16, dd "_law_mixed" 17, dd "_law_ends" 18, dd "_law_any_graph" 19, dd "_law_parts" 20, dd "_law_moved_right" 21, dd "_law_beside_right" 22, dd "law" 23] : List He.DefD)
def faL : List He.Fa := ([.glo "is_index", .glo "graph_fault", .glo "check_graph", .glo "dart_count", .glo "opposite_of", .glo "dart_tails", .glo "component_list", .glo "components", .glo "_law_source", .glo "_law_next", .glo "_law_mixed", .glo "_law_ends", .glo "_law_any_graph", .glo "_law_parts", .glo "_law_moved_right", .glo "_law_beside_right", .glo "law", .free "all", .free "bool", .free "dict", .free "enumerate", .free "int", .free "isinstance", .free "len", .free "list", .free "max", .free "min", .free "range", .free "repr", .free "set", .free "sorted", .free "sum", .free "tuple", .int "MAX_EDGES" 120, .int "MAX_NODES" 60] : List He.Fa)
theorem wf_of {w : World} {K : PySem.W.Frag} {h : Heap} {mg : Str → Option Value} (X : K.In h) (G : h.Ns mainGlobals mg) (c : He.SaysD faL fnL K) : Wf w K mg := {
  f_all := He.free_ok X G (c.fact 17 (f := .free "all") rfl)
  f_bool := He.free_ok X G (c.fact 18 (f := .free "bool") rfl)
  f_dict := He.free_ok X G (c.fact 19 (f := .free "dict") rfl)
  f_enumerate := He.free_ok X G (c.fact 20 (f := .free "enumerate") rfl)
  f_int := He.free_ok X G (c.fact 21 (f := .free "int") rfl)
  f_isinstance := He.free_ok X G (c.fact 22 (f := .free "isinstance") rfl)
  f_len := He.free_ok X G (c.fact 23 (f := .free "len") rfl)
  f_list := He.free_ok X G (c.fact 24 (f := .free "list") rfl)
  f_max := He.free_ok X G (c.fact 25 (f := .free "max") rfl)
  f_min := He.free_ok X G (c.fact 26 (f := .free "min") rfl)
  f_range := He.free_ok X G (c.fact 27 (f := .free "range") rfl)
  f_repr := He.free_ok X G (c.fact 28 (f := .free "repr") rfl)
  f_set := He.free_ok X G (c.fact 29 (f := .free "set") rfl)
  f_sorted := He.free_ok X G (c.fact 30 (f := .free "sorted") rfl)
  f_sum := He.free_ok X G (c.fact 31 (f := .free "sum") rfl)
  f_tuple := He.free_ok X G (c.fact 32 (f := .free "tuple") rfl)
  q_MAX_EDGES := He.int_ok X G (c.fact 33 (f := .int "MAX_EDGES" 120) rfl)
  q_MAX_NODES := He.int_ok X G (c.fact 34 (f := .int "MAX_NODES" 60) rfl)
  d_is_index := (let ⟨fd, F⟩ := c.def_ 0 (d := dd "is_index" 6) rfl; ⟨_, fd, F, He.glo_ok X G (c.fact 0 (f := .glo "is_index") rfl)⟩)
  d_graph_fault := (let ⟨fd, F⟩ := c.def_ 1 (d := dd "graph_fault" 7) rfl; ⟨_, fd, F, He.glo_ok X G (c.fact 1 (f := .glo "graph_fault") rfl)⟩)
  d_check_graph := (let ⟨fd, F⟩ := c.def_ 2 (d := dd "check_graph" 8) rfl; ⟨_, fd, F, He.glo_ok X G (c.fact 2 (f := .glo "check_graph") rfl)⟩)
  d_dart_count := (let ⟨fd, F⟩ := c.def_ 3 (d := dd "dart_count" 9) rfl; ⟨_, fd, F, He.glo_ok X G (c.fact 3 (f := .glo "dart_count") rfl)⟩)
  d_opposite_of := (let ⟨fd, F⟩ := c.def_ 4 (d := dd "opposite_of" 10) rfl; ⟨_, fd, F, He.glo_ok X G (c.fact 4 (f := .glo "opposite_of") rfl)⟩)
  d_dart_tails := (let ⟨fd, F⟩ := c.def_ 5 (d := dd "dart_tails" 11) rfl; ⟨_, fd, F, He.glo_ok X G (c.fact 5 (f := .glo "dart_tails") rfl)⟩)
  d_component_list := (let ⟨fd, F⟩ := c.def_ 6 (d := dd "component_list" 12) rfl; ⟨_, fd, F, He.glo_ok X G (c.fact 6 (f := .glo "component_list") rfl)⟩)
  d_components := (let ⟨fd, F⟩ := c.def_ 7 (d := dd "components" 13) rfl; ⟨_, fd, F, He.glo_ok X G (c.fact 7 (f := .glo "components") rfl)⟩)
  d__law_source := (let ⟨fd, F⟩ := c.def_ 8 (d := dd "_law_source" 15) rfl; ⟨_, fd, F, He.glo_ok X G (c.fact 8 (f := .glo "_law_source") rfl)⟩)
  d__law_next := (let ⟨fd, F⟩ := c.def_ 9 (d := dd "_law_next" 16) rfl; ⟨_, fd, F, He.glo_ok X G (c.fact 9 (f := .glo "_law_next") rfl)⟩)
  d__law_mixed := (let ⟨fd, F⟩ := c.def_ 10 (d := dd "_law_mixed" 17) rfl; ⟨_, fd, F, He.glo_ok X G (c.fact 10 (f := .glo "_law_mixed") rfl)⟩)
  d__law_ends := (let ⟨fd, F⟩ := c.def_ 11 (d := dd "_law_ends" 18) rfl; ⟨_, fd, F, He.glo_ok X G (c.fact 11 (f := .glo "_law_ends") rfl)⟩)
  d__law_any_graph := (let ⟨fd, F⟩ := c.def_ 12 (d := dd "_law_any_graph" 19) rfl; ⟨_, fd, F, He.glo_ok X G (c.fact 12 (f := .glo "_law_any_graph") rfl)⟩)
  d__law_parts := (let ⟨fd, F⟩ := c.def_ 13 (d := dd "_law_parts" 20) rfl; ⟨_, fd, F, He.glo_ok X G (c.fact 13 (f := .glo "_law_parts") rfl)⟩)
  d__law_moved_right := (let ⟨fd, F⟩ := c.def_ 14 (d := dd "_law_moved_right" 21) rfl; ⟨_, fd, F, He.glo_ok X G (c.fact 14 (f := .glo "_law_moved_right") rfl)⟩)
  d__law_beside_right := (let ⟨fd, F⟩ := c.def_ 15 (d := dd "_law_beside_right" 22) rfl; ⟨_, fd, F, He.glo_ok X G (c.fact 15 (f := .glo "_law_beside_right") rfl)⟩)
  d_law := (let ⟨fd, F⟩ := c.def_ 16 (d := dd "law" 23) rfl; ⟨_, fd, F, He.glo_ok X G (c.fact 16 (f := .glo "law") rfl)⟩) }
end Fs
namespace Fs
open PySem PySem.Spec PyProof.Rows L2
abbrev hdR : PySem.W.OpenRow := PySem.W.OpenLaw.row PySem.Challenge.rw_flatsum_k05_components
abbrev hdH : PySem.W.Hook := He.hookD 4 faL fnL
def hdO (s : PySem.W.SharedT) : He.AlD := He.obsDG 4 faL fnL (HandSHeadRun.getT s)
theorem hdE (s : PySem.W.SharedT) : hdO s = hdH.obs s.abs := He.obsDG_eq (HandSHeadRun.getT_eq s)
def hdL : List Str := ([("__name__" : Str), ("InvalidValue" : Str), ("BadGraph" : Str), ("MAX_NODES" : Str), ("MAX_EDGES" : Str), ("is_index" : Str), ("graph_fault" : Str), ("check_graph" : Str), ("dart_count" : Str), ("opposite_of" : Str), ("dart_tails" : Str), ("component_list" : Str), ("components" : Str), ("_law_source" : Str), ("_law_next" : Str), ("_law_mixed" : Str), ("_law_ends" : Str), ("_law_any_graph" : Str), ("_law_parts" : Str), ("_law_moved_right" : Str), ("_law_beside_right" : Str)] : List Str)
theorem hd_run (w : World) : HandSHeadRun.RunEq hdR (PySem.W.view hdR.prog [23]) hdH hdO 1200 hdL w := by
  intro os
  kernel_rfl
theorem Wf.del {w : World} {K : PySem.W.Frag} {mg : Str → Option Value} {a : Addr} (hL : LstAt K a) (X : Wf w K mg) : Wf w (kdel K a) mg := {
  f_all := X.f_all
  f_bool := X.f_bool
  f_dict := X.f_dict
  f_enumerate := X.f_enumerate
  f_int := X.f_int
  f_isinstance := X.f_isinstance
  f_len := X.f_len
  f_list := X.f_list
  f_max := X.f_max
  f_min := X.f_min
  f_range := X.f_range
  f_repr := X.f_repr
  f_set := X.f_set
  f_sorted := X.f_sorted
  f_sum := X.f_sum
  f_tuple := X.f_tuple
  q_MAX_EDGES := X.q_MAX_EDGES
  q_MAX_NODES := X.q_MAX_NODES
  d_is_index := (let ⟨f, fd, D, hm⟩ := X.d_is_index; ⟨f, fd, FunD.del hL D, hm⟩)
  d_graph_fault := (let ⟨f, fd, D, hm⟩ := X.d_graph_fault; ⟨f, fd, FunD.del hL D, hm⟩)
  d_check_graph := (let ⟨f, fd, D, hm⟩ := X.d_check_graph; ⟨f, fd, FunD.del hL D, hm⟩)
  d_dart_count := (let ⟨f, fd, D, hm⟩ := X.d_dart_count; ⟨f, fd, FunD.del hL D, hm⟩)
  d_opposite_of := (let ⟨f, fd, D, hm⟩ := X.d_opposite_of; ⟨f, fd, FunD.del hL D, hm⟩)
  d_dart_tails := (let ⟨f, fd, D, hm⟩ := X.d_dart_tails; ⟨f, fd, FunD.del hL D, hm⟩)
  d_component_list := (let ⟨f, fd, D, hm⟩ := X.d_component_list; ⟨f, fd, FunD.del hL D, hm⟩)
  d_components := (let ⟨f, fd, D, hm⟩ := X.d_components; ⟨f, fd, FunD.del hL D, hm⟩)
  d__law_source := (let ⟨f, fd, D, hm⟩ := X.d__law_source; ⟨f, fd, FunD.del hL D, hm⟩)
  d__law_next := (let ⟨f, fd, D, hm⟩ := X.d__law_next; ⟨f, fd, FunD.del hL D, hm⟩)
  d__law_mixed := (let ⟨f, fd, D, hm⟩ := X.d__law_mixed; ⟨f, fd, FunD.del hL D, hm⟩)
  d__law_ends := (let ⟨f, fd, D, hm⟩ := X.d__law_ends; ⟨f, fd, FunD.del hL D, hm⟩)
  d__law_any_graph := (let ⟨f, fd, D, hm⟩ := X.d__law_any_graph; ⟨f, fd, FunD.del hL D, hm⟩)
  d__law_parts := (let ⟨f, fd, D, hm⟩ := X.d__law_parts; ⟨f, fd, FunD.del hL D, hm⟩)
  d__law_moved_right := (let ⟨f, fd, D, hm⟩ := X.d__law_moved_right; ⟨f, fd, FunD.del hL D, hm⟩)
  d__law_beside_right := (let ⟨f, fd, D, hm⟩ := X.d__law_beside_right; ⟨f, fd, FunD.del hL D, hm⟩)
  d_law := (let ⟨f, fd, D, hm⟩ := X.d_law; ⟨f, fd, FunD.del hL D, hm⟩) }
theorem law_facts {w : World} {K : PySem.W.Frag} {mg : Str → Option Value} {fa a : Addr} (X : Wf w K mg) (hfa : mg ("law" : Str) = some (.ref fa)) (hL : LstAt K a) :
    ∃ (fd : FuncData) (sp : Sp), (∀ (s : Shared) (u : Value), BindsTo s fd ⟨[u], []⟩ [("_law_script", u)]) ∧
      (∀ (J : Hp) (ns : List Int), ns.length ≤ 63 → Only J → SqL (kdel K a) J a (ns.map V.int) → sp [.ref a] J (fun v _ => v = .bl true) fun _ _ _ => False) ∧
      ∀ base : Heap, (kdel K a).In base → base.Ns mainGlobals mg → FgOk pw w (kdel K a) mg base 6 fa fd ["_law_script"] sp := by
  have X2 := X.del hL
  obtain ⟨f, fd, FD, hm⟩ := X2.d_law
  have hff : f = fa := by
    have e := hfa.symm.trans hm
    cases e; rfl
  subst hff
  have hb := FunD.bindsA (ps := ["_law_script"]) FD fun _ _ _ _ _ _ us hl => match us, hl with | [_], _ => rfl
  refine ⟨fd, spI ⟨kdel K a, fun _ => 0, fun _ => none⟩ (call P 6 F.law) 1, fun s u => hb s [u] rfl, ?_, ?_⟩
  · intro J ns hl hO hS
    refine sp_start hO (by rw [kdel_at, if_pos rfl]) hS ?_
    obtain ⟨d, s', he, rfl, _⟩ := wp_run (k_law hl)
    exact ⟨s', he⟩
  · intro base _ _
    have E := ev_all (base := base) (Z := ⟨kdel K a, fun _ => 0, fun _ => none⟩) rfl X2 5
    obtain ⟨oc, od, dV, kV, doc, pm, an, cdv, ct, osl, e, lk, hc, _⟩ := FD.ex
    subst e
    exact fg_of lk hc (N := [("_law_script" : Str), ("_law_k" : Str), ("_law_source_here" : Str), ("_law_drawing" : Str), ("_law_kept" : Str), ("_law_due" : Str)]) ⟨rfl, rfl, rfl, by decide +kernel, rfl, by decide +kernel, by decide +kernel⟩ (fun vs H Q E ⟨hl, _⟩ => hl) fun A outer s H vs Q E2 hr hg h => ⟨_, bd_law rfl E hr hg, enter_ok (F := c_law) rfl rfl h⟩
end Fs
open PySem PySem.W PySem.Calls PyProof.Rows
theorem PySem.Challenge.cw_flatsum_k05_components_holds : PySem.Challenge.rw_flatsum_k05_components.Holds := by
  w_on; o_law
  refine HandSHeadRun.head_any (r := OpenLaw.row PySem.Challenge.rw_flatsum_k05_components) (q := view (OpenLaw.row PySem.Challenge.rw_flatsum_k05_components).prog [23]) (H := Fs.hdH) (ob := Fs.hdO) (M := 1200) (loose := Fs.hdL) (d := HandSHeadRun.topDef (OpenLaw.row PySem.Challenge.rw_flatsum_k05_components).prog 23) (kwd := []) Fs.hdE
    (by kernel_rfl) (fun s => by kernel_rfl) Fs.hd_run (by kernel_rfl) (by kernel_rfl) (by kernel_rfl) (by rfl) (by first | assumption | decide +kernel) (by decide +kernel) ⟨rfl, rfl, rfl, rfl, rfl, by decide +kernel⟩ ?hw ?hc
  case hw => w_witness2
  case hc =>
    refine Fs.walk_h (l := PySem.Challenge.rw_flatsum_k05_components) (n := 63) (k := 6) (x := "_law_script") rfl (by decide) (by kernel_rfl) ⟨rfl, by decide, by decide⟩ ?F
    intro w mg fa h a vs Y G hmg0 hobj
    obtain ⟨K, KX, c⟩ := Y
    have hmg : mg ("law" : PySem.Str) = some (.ref fa) := by
      have e : (HandSHeadRun.topDef (OpenLaw.row PySem.Challenge.rw_flatsum_k05_components).prog 23).name = ("law" : PySem.Str) := by kernel_rfl
      rw [← e]
      exact hmg0
    have hL : Fs.LstAt K a := fun o e => by
      have e2 := KX a o e
      rw [hobj] at e2
      cases e2
      exact ⟨_, _, rfl⟩
    obtain ⟨fd, sp, h1, h2, h3⟩ := Fs.law_facts (w := w) (Fs.wf_of KX G c) hmg hL
    exact ⟨Fs.kdel K a, fd, sp, Fs.kdel_in KX, h1, h2, h3⟩
