import PyProof.Rows.All
import Wide.All
import OpenK.AllK
import Wide.FinOn
import KE.KStateDown
import Lean
import PySem.Challenge.RW_flatsum_k06_faces
import HandS.HeadHook1
import HandS.HeadHook2
import HandS.ExcField
import HandS.ExcIs
import KE.KIsAll
import HandS.Words
import HandS.Head0
import HandS.Head1
import HandS.Head2
import HandS.HeadEnd
import PyProof.ReprReads
import HandS.Base
import HandS.List
import HandS.Call
import HandS.Lambda
import HandS.Exc
import HandS.Wide
import HandS.TupAny
import HandS.TupMul
import HandS.Style
import HandS.Deep
import HandS.Conv
import HandS.NoneIn
import HandS.Iter
import HandS.Comp
import HandS.Dict
import HandS.Small
import HandS.Flow
import HandS.TupSets
import HandS.SortOrd
import HandS.SetFor
import HandS.Set
import HandS.TupLen
import HandS.SortInts
import HandS.IsInst
import HandS.Text
import HandS.WordsDict
import HandS.More
import PyProof.ReprRoads
import PyProof.Rows.NestShow
import PyProof.FactsAll.list_3
import PyProof.FactsAll.dict_3
import KE.GoesEnum
import HandS.DictComp
import HandS.Defaults
import PyProof.FactsAll.tuple_0
import PyProof.FactsAll.tuple_2
import PyProof.FactsAll.tuple_3
import PyProof.SeqIndex
import HandS.TryMany
import PyProof.ExcBaseAll.RuntimeError
import PyProof.ExcBaseAll.ArithmeticError
import HandS.ExcInit
import HandS.WideBits
import KE.KExcIs
import HandS.EndTab
import HandS.SetKeys
import KE.GoesEnumKw
import PyProof.Rows.CallKw2
import HandS.MakeKw
import PyProof.Rows.Range3
import KE.KTryMore
import HandS.Sort
import KE.KEqDict
import PyProof.NeKinds
import KE.DatumOrd
import KE.DataAny
import HandS.ExcValue
import PyProof.SumAny
import PyProof.StrLaws
import PyProof.Rows.RegStrFacts
set_option Elab.async false
set_option linter.all false
set_option maxRecDepth 100000
set_option maxHeartbeats 0
namespace Fs
open PySem L2 PyProof.Rows PySem.Spec
def aeBase : List Value := [.type "ArithmeticError", .type "Exception", .type "BaseException", .type "object"]
def reBase : List Value := [.type "RuntimeError", .type "Exception", .type "BaseException", .type "object"]
def rfsB (tl : List Value) : List Value -> Bool
  | .ref _ :: r => rfsB tl r
  | l => l == tl
end Fs
namespace Fs
open PySem L2 PyProof.Rows PySem.Spec
end Fs
namespace Fs
open PySem L2 PyProof.Rows PySem.Spec
abbrev pw : Program := PySem.Challenge.pw_flatsum_k06_faces
def top (i : Nat) : Stmt := pw.main.body.getD i (.Pass ⟨0, 0, 0, 0⟩)
def dd (n : Str) (i : Nat) (d : List He.Dv := []) : He.DefD := ⟨(n, none), n, n, defArgs (top i), defBody (top i), defScope (top i), d, []⟩
def fnL : List He.DefD := ([dd "is_index" 7, dd "graph_fault" 8, dd "check_graph" 9, dd "dart_count" 10, dd "need_dart" 11, dd "opposite_of" 12, dd "successors" 14, dd "face_list" 15, dd "face_of_darts" 16, dd "successor" 17, dd "faces" 18, dd "face_index" 19, dd "_law_source" 21, dd "_law_next" 22, dd "_law_mixed" 23, dd "_law_walks" 24, dd "_law_put" 25, dd "_law_add_edge" 26, dd "_law_renumbered" 27, dd "_law_graph" 28, dd "_law_any_graph" 29, dd "_law_behind" 30, dd "_law_cycles" 31, dd "_law_right" 32, dd "law" 33] : List He.DefD)
def faL : List He.Fa := ([.glo "is_index", .glo "graph_fault", .glo "check_graph", .glo "dart_count", .glo "need_dart", .glo "opposite_of", .glo "successors", .glo "face_list", .glo "face_of_darts", .glo "successor", .glo "faces", .glo "face_index", .glo "_law_source", .glo "_law_next", .glo "_law_mixed", .glo "_law_walks", .glo "_law_put", .glo "_law_add_edge", .glo "_law_renumbered", .glo "_law_graph", .glo "_law_any_graph", .glo "_law_behind", .glo "_law_cycles", .glo "_law_right", .glo "law", .free "all", .free "bool", .free "enumerate", .free "int", .free "isinstance", .free "len", .free "list", .free "max", .free "min", .free "range", .free "repr", .free "sorted", .free "sum", .free "tuple", .int "MAX_EDGES" 120] : List He.Fa) ++ ([.int "MAX_NODES" 60] : List He.Fa)
end Fs
namespace Fs
open PySem PySem.Spec PyProof.Rows L2
abbrev hdR : PySem.W.OpenRow := PySem.W.OpenLaw.row PySem.Challenge.rw_flatsum_k06_faces
abbrev hdH : PySem.W.Hook := He.hookD 4 faL fnL
def hdO (s : PySem.W.SharedT) : He.AlD := He.obsDG 4 faL fnL (HandSHeadRun.getT s)
theorem hdE (s : PySem.W.SharedT) : hdO s = hdH.obs s.abs := He.obsDG_eq (HandSHeadRun.getT_eq s)
def hdL : List Str := ([("__name__" : Str), ("InvalidValue" : Str), ("BadGraph" : Str), ("BadDart" : Str), ("MAX_NODES" : Str), ("MAX_EDGES" : Str), ("is_index" : Str), ("graph_fault" : Str), ("check_graph" : Str), ("dart_count" : Str), ("need_dart" : Str), ("opposite_of" : Str), ("successors" : Str), ("face_list" : Str), ("face_of_darts" : Str), ("successor" : Str), ("faces" : Str), ("face_index" : Str), ("_law_source" : Str), ("_law_next" : Str), ("_law_mixed" : Str), ("_law_walks" : Str), ("_law_put" : Str), ("_law_add_edge" : Str), ("_law_renumbered" : Str), ("_law_graph" : Str), ("_law_any_graph" : Str), ("_law_behind" : Str), ("_law_cycles" : Str), ("_law_right" : Str)] : List Str)
theorem hd_run (w : World) : HandSHeadRun.RunEq hdR (PySem.W.view hdR.prog [33]) hdH hdO 3200 hdL w := by
  intro os
  kernel_rfl
end Fs
namespace Fs
open PySem
inductive Ky where
  | k (a : L2.Key) | t (as : List L2.Key)
  deriving DecidableEq
inductive D where
  | non | bl (b : Bool) | int (i : Int) | str (s : Str)
  | tup (xs : List D)
  | ref (l : Nat)
  | lst (xs : List D)
  | frl (xs : List D)
  | dic (kvs : List (Ky × D))
  | set (xs : List Int)
  | exc (c : Nat) (fs : List D)
  | lam (f : Nat) (cs : List D)
  deriving Inhabited
abbrev Env := List (Option D)
abbrev Sto := List D
mutual
def D.eqb : D -> D -> Bool
  | .non, .non => true
  | .bl a, .bl b => a == b
  | .int a, .int b => decide (a = b)
  | .str a, .str b => decide (a = b)
  | .tup xs, .tup ys => D.eqbs xs ys
  | .ref a, .ref b => decide (a = b)
  | .lst xs, .lst ys => D.eqbs xs ys
  | .frl xs, .frl ys => D.eqbs xs ys
  | .dic xs, .dic ys => D.eqbk xs ys
  | .set xs, .set ys => decide (xs = ys)
  | .exc c xs, .exc d ys => decide (c = d) && D.eqbs xs ys
  | .lam a xs, .lam b ys => decide (a = b) && D.eqbs xs ys
  | _, _ => false
def D.eqbs : List D -> List D -> Bool
  | [], [] => true
  | x :: xs, y :: ys => D.eqb x y && D.eqbs xs ys
  | _, _ => false
def D.eqbk : List (Ky × D) -> List (Ky × D) -> Bool
  | [], [] => true
  | (k, x) :: xs, (j, y) :: ys => decide (k = j) && (D.eqb x y && D.eqbk xs ys)
  | _, _ => false
end
mutual
theorem D.eqb_of : ∀ {a b : D}, D.eqb a b = true -> a = b := by
  intro a b h
  cases a <;> cases b <;> simp only [D.eqb, Bool.and_eq_true, decide_eq_true_eq, beq_iff_eq, reduceCtorEq, Bool.false_eq_true] at h <;> first
    | rfl
    | exact congrArg _ h
    | exact congrArg _ (D.eqbs_of h)
    | exact congrArg _ (D.eqbk_of h)
    | (obtain ⟨h1, h2⟩ := h; rw [h1, D.eqbs_of h2])
theorem D.eqbs_of : ∀ {a b : List D}, D.eqbs a b = true -> a = b := by
  intro a b h
  cases a <;> cases b <;> simp only [D.eqbs, Bool.and_eq_true, reduceCtorEq, Bool.false_eq_true] at h
  · rfl
  · rw [D.eqb_of h.1, D.eqbs_of h.2]
theorem D.eqbk_of : ∀ {a b : List (Ky × D)}, D.eqbk a b = true -> a = b := by
  intro a b h
  cases a with
  | nil => cases b with
    | nil => rfl
    | cons q _ => obtain ⟨_, _⟩ := q; simp [D.eqbk] at h
  | cons p r => cases b with
    | nil => obtain ⟨_, _⟩ := p; simp [D.eqbk] at h
    | cons q s =>
      obtain ⟨k, x⟩ := p
      obtain ⟨j, y⟩ := q
      simp only [D.eqbk, Bool.and_eq_true, decide_eq_true_eq] at h
      rw [h.1, D.eqb_of h.2.1, D.eqbk_of h.2.2]
end
mutual
theorem D.eqb_self : ∀ a : D, D.eqb a a = true
  | .non => rfl
  | .bl b => by simp [D.eqb]
  | .int i => by simp [D.eqb]
  | .str s => by simp [D.eqb]
  | .tup xs => by simp only [D.eqb]; exact D.eqbs_self xs
  | .ref l => by simp [D.eqb]
  | .lst xs => by simp only [D.eqb]; exact D.eqbs_self xs
  | .frl xs => by simp only [D.eqb]; exact D.eqbs_self xs
  | .dic xs => by simp only [D.eqb]; exact D.eqbk_self xs
  | .set xs => by simp [D.eqb]
  | .exc c xs => by simp only [D.eqb, decide_true, Bool.true_and]; exact D.eqbs_self xs
  | .lam c xs => by simp only [D.eqb, decide_true, Bool.true_and]; exact D.eqbs_self xs
theorem D.eqbs_self : ∀ a : List D, D.eqbs a a = true
  | [] => rfl
  | x :: xs => by simp only [D.eqbs, D.eqb_self x, D.eqbs_self xs, Bool.and_self]
theorem D.eqbk_self : ∀ a : List (Ky × D), D.eqbk a a = true
  | [] => rfl
  | (k, x) :: xs => by simp only [D.eqbk, decide_true, D.eqb_self x, D.eqbk_self xs, Bool.and_self]
end
instance : DecidableEq D := fun a b => if h : D.eqb a b = true then .isTrue (D.eqb_of h) else .isFalse fun e => h (e ▸ D.eqb_self a)
end Fs
namespace Fs
open PySem
inductive R (α : Type) where
  | ok (a : α) (s : Sto) | exc (e : D) (s : Sto) | bad
abbrev M (α : Type) := Sto -> R α
def bnd {α β : Type} (m : M α) (f : α -> M β) : M β := fun s => match m s with
  | .ok a s' => f a s'
  | .exc e s' => .exc e s'
  | .bad => .bad
def ret {α : Type} (a : α) : M α := fun s => .ok a s
def bad {α : Type} : M α := fun _ => .bad
def opt {α β : Type} (o : Option α) (f : α -> M β) : M β := match o with
  | some a => f a
  | none => bad
def gd {α : Type} (b : Bool) (m : M α) : M α := match b with
  | true => m
  | false => bad
def noX {α : Type} (m : M α) : M α := fun s => match m s with
  | .ok a s' => .ok a s'
  | _ => .bad
mutual
def D.pur : D -> Bool
  | .non | .bl _ | .int _ | .str _ | .ref _ => true
  | .tup xs => D.purs xs
  | .exc _ xs => D.purs xs
  | _ => false
def D.purs : List D -> Bool
  | [] => true
  | x :: xs => D.pur x && D.purs xs
end
mutual
def land : D -> Sto -> D × Sto
  | .tup xs, st => let r := lands xs st; (.tup r.1, r.2)
  | .lst xs, st => let r := lands xs st; (.ref r.2.length, r.2 ++ [.lst r.1])
  | .frl xs, st => let r := lands xs st; (.ref r.2.length, r.2 ++ [.frl r.1])
  | .dic kvs, st => let r := landk kvs st; (.ref r.2.length, r.2 ++ [.dic r.1])
  | .set xs, st => (.ref st.length, st ++ [.set xs])
  | .lam n cs, st => (.ref st.length, st ++ [.lam n cs])
  | d, st => (d, st)
def lands : List D -> Sto -> List D × Sto
  | [], st => ([], st)
  | x :: xs, st => let r := land x st; let q := lands xs r.2; (r.1 :: q.1, q.2)
def landk : List (Ky × D) -> Sto -> List (Ky × D) × Sto
  | [], st => ([], st)
  | (k, x) :: xs, st => let r := land x st; let q := landk xs r.2; ((k, r.1) :: q.1, q.2)
end
def landM (d : D) : M D := fun st => let r := land d st; .ok r.1 r.2
mutual
def D.cls (b : Nat) : D -> Bool
  | .non | .bl _ | .int _ | .str _ => true
  | .ref l => decide (l < b)
  | .tup xs => D.clss b xs
  | .exc _ xs => D.clss b xs
  | _ => false
def D.clss (b : Nat) : List D -> Bool
  | [] => true
  | x :: xs => D.cls b x && D.clss b xs
def D.clsk (b : Nat) : List (Ky × D) -> Bool
  | [] => true
  | (_, x) :: xs => D.cls b x && D.clsk b xs
end
mutual
def D.pln : D -> Bool
  | .non | .bl _ | .int _ | .str _ => true
  | .tup xs => D.plns xs
  | _ => false
def D.plns : List D -> Bool
  | [] => true
  | x :: xs => D.pln x && D.plns xs
end
def cellCl (b : Nat) : D -> Bool
  | .lst xs => D.clss b xs
  | .frl xs => D.clss b xs
  | .dic kvs => D.clsk b kvs
  | .set _ => true
  | .lam _ _ => true
  | _ => false
mutual
def rbD (g : Nat -> List Nat -> Option (D × List Nat)) (b : Nat) : D -> List Nat -> Option (D × List Nat)
  | .ref l, vis => match decide (l < b) with
    | true => some (.ref l, vis)
    | false => g l vis
  | .tup xs, vis => (rbDs g b xs vis).map fun r => (.tup r.1, r.2)
  | .non, vis => some (.non, vis)
  | .bl c, vis => some (.bl c, vis)
  | .int i, vis => some (.int i, vis)
  | .str s, vis => some (.str s, vis)
  | .lst xs, vis => (rbDs g b xs vis).map fun r => (.lst r.1, r.2)
  | .dic xs, vis => (rbDk g b xs vis).map fun r => (.dic r.1, r.2)
  | .set xs, vis => some (.set xs, vis)
  | .exc c xs, vis => match D.clss b xs with
    | true => some (.exc c xs, vis)
    | false => none
  | .frl _, _ => none
  | .lam _ _, _ => none
def rbDs (g : Nat -> List Nat -> Option (D × List Nat)) (b : Nat) : List D -> List Nat -> Option (List D × List Nat)
  | [], vis => some ([], vis)
  | x :: xs, vis => (rbD g b x vis).bind fun r => (rbDs g b xs r.2).map fun q => (r.1 :: q.1, q.2)
def rbDk (g : Nat -> List Nat -> Option (D × List Nat)) (b : Nat) : List (Ky × D) -> List Nat -> Option (List (Ky × D) × List Nat)
  | [], vis => some ([], vis)
  | (k, x) :: xs, vis => (rbD g b x vis).bind fun r => (rbDk g b xs r.2).map fun q => ((k, r.1) :: q.1, q.2)
end
def rbC (st : Sto) (b : Nat) : Nat -> Nat -> List Nat -> Option (D × List Nat)
  | 0, _, _ => none
  | n + 1, l, vis => match vis.contains l with
    | true => none
    | false => match st[l]? with
      | some (.lst xs) => rbD (rbC st b n) b (.lst xs) (l :: vis)
      | some (.dic xs) => rbD (rbC st b n) b (.dic xs) (l :: vis)
      | some (.set xs) => some (.set xs, l :: vis)
      | _ => none
def rback (st : Sto) (b : Nat) (d : D) : Option D := (rbD (rbC st b 8) b d []).map (·.1)
def okPre : Sto -> Sto -> Nat -> Bool
  | [], _, _ => true
  | c :: cs, c' :: cs', b => (decide (c = c') || cellCl b c') && okPre cs cs' b
  | _ :: _, [], _ => false
def leaveD (st0 : Sto) (r : R D) : R D := match r with
  | .ok d st2 => match okPre st0 st2 st0.length, rback st2 st0.length d with
    | true, some d' => .ok d' (st2.take st0.length)
    | _, _ => .ok d st2
  | .exc e st2 => match okPre st0 st2 st0.length && D.cls st0.length e with
    | true => .exc e (st2.take st0.length)
    | false => .exc e st2
  | .bad => .bad
def seqv (st : Sto) : D -> Option (List D)
  | .tup xs => some xs
  | .lst xs => some xs
  | .ref l => match st[l]? with
    | some (.lst xs) => some xs
    | some (.frl xs) => some xs
    | _ => none
  | _ => none
def lstv (st : Sto) : D -> Option (List D)
  | .lst xs => some xs
  | .ref l => match st[l]? with
    | some (.lst xs) => some xs
    | _ => none
  | _ => none
def dicv (st : Sto) : D -> Option (List (Ky × D))
  | .dic xs => some xs
  | .ref l => match st[l]? with
    | some (.dic xs) => some xs
    | _ => none
  | _ => none
def optL {α β : Type} (f : α -> Option β) : List α -> Option (List β)
  | [] => some []
  | x :: xs => match f x with
    | some y => (match optL f xs with
      | some ys => some (y :: ys)
      | none => none)
    | none => none
def toP (dz : Bool) (st : Sto) : Nat -> D -> Option PyData
  | 0, _ => none
  | n + 1, d => match d with
    | .non => some .none
    | .bl b => some (.bool b)
    | .int i => some (.int i)
    | .str s => some (.str s)
    | .tup xs => (optL (toP dz st n) xs).map .tuple
    | .lst xs => (optL (toP dz st n) xs).map .list
    | .frl xs => (optL (toP dz st n) xs).map .list
    | .ref l => (match st[l]? with
      | some (.lst xs) => (optL (toP dz st n) xs).map .list
      | some (.frl xs) => (optL (toP dz st n) xs).map .list
      | some (.dic []) => if dz then some (.dict []) else none
      | _ => none)
    | .dic [] => if dz then some (.dict []) else none
    | _ => none
def flatD : D -> Bool
  | .non | .bl _ | .int _ | .str _ => true
  | _ => false
def eqF : D -> D -> Bool
  | .non, .non => true
  | .bl a, .bl b => a == b
  | .bl a, .int b => (if a then 1 else 0) == b
  | .int a, .bl b => a == (if b then 1 else 0)
  | .int a, .int b => a == b
  | .str a, .str b => a == b
  | _, _ => false
def intv : D -> Option Int
  | .int i => some i
  | _ => none
def blv : D -> Option Bool
  | .bl b => some b
  | _ => none
def keyOf : D -> Option Ky
  | .int i => some (.k (.inl i))
  | .str s => some (.k (.inr s))
  | _ => none
def dget (k : Ky) : List (Ky × D) -> Option D
  | [] => none
  | (j, v) :: r => if j = k then some v else dget k r
def dput (k : Ky) (v : D) : List (Ky × D) -> List (Ky × D)
  | [] => [(k, v)]
  | (j, x) :: r => if j = k then (j, v) :: r else (j, x) :: dput k v r
def ddel (k : Ky) : List (Ky × D) -> List (Ky × D)
  | [] => []
  | (j, x) :: r => if j = k then r else (j, x) :: ddel k r
def kyK : Ky -> Bool
  | .k _ => true
  | .t _ => false
def okKeys (k : Ky) (kvs : List (Ky × D)) : Bool := kvs.all fun p => kyK p.1 == kyK k
def truth (st : Sto) : D -> Option Bool
  | .non => some false
  | .bl b => some b
  | .int i => some (i != 0)
  | .str s => if s.length <= sizeLine then some ((s.length : Int) != 0) else none
  | .tup xs => some (!xs.isEmpty)
  | .lst xs => some (!xs.isEmpty)
  | .ref l => match st[l]? with
    | some (.lst xs) => some (!xs.isEmpty)
    | some (.frl xs) => some (!xs.isEmpty)
    | _ => none
  | _ => none
inductive Bop where
  | add | sub | mul | fdiv | mod | pow | shl | shr | band | bxor
  deriving DecidableEq
inductive Cop where
  | eq | ne | lt | le | gt | ge | isN | ntN | inn | nin
  deriving DecidableEq
def intOp (op : Bop) (i j : Int) : Option Int := match op with
  | .add => some (i + j)
  | .sub => some (i - j)
  | .mul => if i.natAbs.log2 + j.natAbs.log2 < 1000000 then some (i * j) else none
  | .fdiv => if j ≠ 0 /\ j.natAbs.log2 < 9000 then some (i.fdiv j) else none
  | .mod => if j ≠ 0 then some (i.fmod j) else none
  | .pow => if 0 <= j /\ j <= 1000000 /\ i.natAbs < 2 ^ 64 then some (i ^ j.toNat) else none
  | .shl => if 0 <= j /\ j <= 1000000 /\ i.natAbs < 2 ^ 64 then some (i * 2 ^ j.toNat) else none
  | .shr => if 0 <= j then some (i / 2 ^ j.toNat) else none
  | .band => some (Builtin.bitAnd i j)
  | .bxor => some (Builtin.bitXor i j)
def rep (k : Nat) (xs : List D) : List D := (List.replicate k xs).flatten
def binD (op : Bop) (a b : D) : M D := fun st => match a, b with
  | .int i, .int j => (match intOp op i j with
    | some r => .ok (.int r) st
    | none => .bad)
  | .str x, .str y => (match op with
    | .add => if x.length + y.length <= sizeLine then .ok (.str (x ++ y)) st else .bad
    | _ => .bad)
  | .tup xs, .tup ys => (match op with
    | .add => if xs.length + ys.length <= sizeLine then .ok (.tup (xs ++ ys)) st else .bad
    | _ => .bad)
  | .tup xs, .int k => (match op with
    | .mul => if D.purs xs = true /\ xs.isEmpty = false /\ 0 <= k /\ k <= 1000 /\ xs.length <= 1000 then .ok (.tup (rep k.toNat xs)) st else .bad
    | _ => .bad)
  | a, .int k => (match op, lstv st a with
    | .mul, some xs => if D.purs xs /\ k < 2 ^ 63 /\ -(2 ^ 63) <= k /\ xs.length * k.toNat <= sizeLine then .ok (.lst (rep k.toNat xs)) st else .bad
    | _, _ => .bad)
  | a, b => (match op, lstv st a, lstv st b with
    | .add, some xs, some ys => if xs.length + ys.length <= sizeLine then .ok (.lst (xs ++ ys)) st else .bad
    | _, _, _ => .bad)
def eqD (st : Sto) (a b : D) : Option Bool := match toP false st 66 a, toP false st 66 b with
  | some p, some q => if SeqAt.shaped p /\ SeqAt.shaped q then some (PyData.eqv p q) else none
  | _, _ => none
def inD (st : Sto) (x y : D) : Option Bool := match y with
  | .str s => (match x with
    | .str t => some (!(Builtin.Str.occurrences s t 0 s.length 1).isEmpty)
    | _ => none)
  | y => match dicv st y with
    | some kvs => (match keyOf x with
      | some k => if okKeys k kvs then some (dget k kvs).isSome else none
      | none => none)
    | none => match y with
      | .tup ys => if flatD x /\ ys.all flatD then some (ys.any fun z => eqF z x) else none
      | y => match seqv st y with
        | some ys => (match toP false st 66 x, optL (toP false st 65) ys with
          | some p, some qs => if SeqAt.shaped p /\ SeqAt.shaped (.list qs) then some (qs.any fun z => PyData.eqv z p) else none
          | _, _ => none)
        | none => none
def cmpI (op : Cop) (i j : Int) : Option Bool := match op with
  | .lt => some (decide (i < j))
  | .le => some (decide (i <= j))
  | .gt => some (decide (j < i))
  | .ge => some (decide (j <= i))
  | _ => none
def isNon : D -> Bool
  | .non => true
  | _ => false
def isD (a b : D) : Option Bool := match b with
  | .non => some (isNon a)
  | .bl c => (match a with
    | .bl d => some (d == c)
    | _ => none)
  | _ => none
def cmpD (op : Cop) (a b : D) (st : Sto) : Option Bool := match op with
  | .eq => eqD st a b
  | .ne => (eqD st a b).map (!·)
  | .isN => isD a b
  | .ntN => (isD a b).map (!·)
  | .inn => inD st a b
  | .nin => (inD st a b).map (!·)
  | op => match a, b with
    | .int i, .int j => cmpI op i j
    | _, _ => none
inductive Bi where
  | ssort | slen | suml | len | abs | min2 | max2 | min1 | max1 | sum | all | any | tuple | list | sorted | set | int | str | repr | reprE | dict | landB | mulE | anyI
  | isT (t : String) | isC (cs : List Nat) | lrng | trng
  deriving DecidableEq
inductive Me where
  | append | pop | popi | extend | insert | index | count | get | setdefault | update | values | split | join | partition | replace | replace3 | bitlen
  deriving DecidableEq
def insI (i : Int) : List Int -> List Int
  | [] => [i]
  | j :: r => if j <= i then j :: insI i r else i :: j :: r
def sortI : List Int -> List Int
  | [] => []
  | i :: r => insI i (sortI r)
def lexL : List Int -> List Int -> Bool
  | [], [] => false
  | [], _ :: _ => true
  | _ :: _, [] => false
  | x :: xs, y :: ys => if x = y then lexL xs ys else decide (x < y)
def insL (i : List Int) : List (List Int) -> List (List Int)
  | [] => [i]
  | j :: r => if lexL i j then i :: j :: r else j :: insL i r
def sortL : List (List Int) -> List (List Int)
  | [] => []
  | i :: r => insL i (sortL r)
def tupI : D -> Option (List Int)
  | .tup xs => optL intv xs
  | _ => none
def dedI : List Int -> List Int
  | [] => []
  | i :: r => if (dedI r).contains i then dedI r else i :: dedI r
def mn (xs : List Int) : Option Int := match xs with
  | [] => none
  | x :: r => some (r.foldl (fun a b => if b < a then b else a) x)
def mx (xs : List Int) : Option Int := match xs with
  | [] => none
  | x :: r => some (r.foldl (fun a b => if b > a then b else a) x)
def rngN (a c : Int) (n : Nat) : List D := (List.range n).map fun (i : Nat) => D.int (a + (i : Int) * c)
def rngL (ds : List D) : Option (List D) := match ds with
  | [.int b] => if -(2 ^ 62) <= b /\ b < 2 ^ 62 then some (rngN 0 1 b.toNat) else none
  | [.int a, .int b] => if -(2 ^ 62) <= a /\ a < 2 ^ 62 /\ -(2 ^ 62) <= b /\ b < 2 ^ 62 then some (rngN a 1 (b - a).toNat) else none
  | [.int a, .int b, .int c] => if c ≠ 0 /\ c.natAbs < 1073741824 /\ Builtin.Range.small a b c = true then some (rngN a c (Builtin.Range.rangeSize a b c).toNat) else none
  | _ => none
def rgOk (a b : Int) : Bool := decide (-(2 ^ 62) <= a /\ a < 2 ^ 62 /\ -(2 ^ 62) <= b /\ b < 2 ^ 62 /\ (b - a).toNat <= 2 ^ 24)
def isTy (st : Sto) (t : String) : D -> Option Bool
  | .non => some false
  | .bl _ => some (t == "bool" || t == "int")
  | .int _ => some (t == "int")
  | .str _ => some (t == "str")
  | .tup _ => some (t == "tuple")
  | .lst _ => some (t == "list")
  | .dic _ => some (t == "dict")
  | .ref l => match st[l]? with
    | some (.lst _) => some (t == "list")
    | some (.frl _) => some (t == "list")
    | some (.dic _) => some (t == "dict")
    | _ => none
  | _ => none
structure Tbl where
  fn : Nat -> List D -> M D
  fld : Nat -> Option Str
  anc : Nat -> Nat -> Bool
  act : Env -> M D
  tl : Nat -> Nat -> Nat -> Env -> M D
def keyI : Ky × D -> Option Int
  | (.k (.inl i), _) => some i
  | _ => none
def pairv : D -> Option (Ky × D)
  | .tup [k, v] => (keyOf k).map fun q => (q, v)
  | _ => none
def okInt (i : Int) : Bool := decide (i.natAbs.log2 < 1920)
def b1 (f : D -> M D) : List D -> M D
  | [d] => f d
  | _ => bad
def b2 (f : D -> D -> M D) : List D -> M D
  | [d, e] => f d e
  | _ => bad
def fLen (d : D) : M D := fun st => match d with
  | .str s => gd (decide (s.length <= sizeLine)) (ret (.int s.length)) st
  | d => match seqv st d with
    | some xs => .ok (.int xs.length) st
    | none => match dicv st d with
      | some kvs => .ok (.int kvs.length) st
      | none => .bad
def fAbs : D -> M D
  | .int i => ret (.int (if i < 0 then -i else i))
  | _ => bad
def fMin2 : D -> D -> M D
  | .int i, .int j => ret (.int (if j < i then j else i))
  | _, _ => bad
def fMax2 : D -> D -> M D
  | .int i, .int j => ret (.int (if j > i then j else i))
  | _, _ => bad
def lInt (st : Sto) (d : D) : Option (List Int) := match seqv st d with
  | some xs => (match d with
    | .tup _ => none
    | _ => optL intv xs)
  | none => none
def lBl (st : Sto) (d : D) : Option (List Bool) := match seqv st d with
  | some xs => (match d with
    | .tup _ => none
    | _ => optL blv xs)
  | none => none
def sInt (st : Sto) (d : D) : Option (List Int) := (seqv st d).bind (optL intv)
def fMin1 (d : D) : M D := fun st => opt ((sInt st d).bind mn) (fun i => ret (.int i)) st
def fMax1 (d : D) : M D := fun st => opt ((sInt st d).bind mx) (fun i => ret (.int i)) st
def fSum (d : D) : M D := fun st => opt (lInt st d) (fun ns => ret (.int ns.sum)) st
def fAll (d : D) : M D := fun st => opt (lBl st d) (fun bs => ret (.bl (bs.all id))) st
def fAny (d : D) : M D := fun st => opt (lBl st d) (fun bs => ret (.bl (bs.any id))) st
def fAnyI (d : D) : M D := fun st => opt (lInt st d) (fun ns => ret (.bl (ns.any fun i => i != 0))) st
def fTuple (d : D) : M D := fun st => opt (seqv st d) (fun xs => ret (.tup xs)) st
def fList (d : D) : M D := fun st => opt (seqv st d) (fun xs => ret (.lst xs)) st
def dInts (st : Sto) (d : D) : Option (List Int) := match dicv st d with
  | some kvs => optL keyI kvs
  | none => none
def lTups (st : Sto) (d : D) : Option (List (List Int)) := match seqv st d with
  | some xs => (match d with
    | .tup _ => none
    | _ => optL tupI xs)
  | none => none
def fSorted (d : D) : M D := fun st => match lInt st d with
  | some ns => .ok (.lst ((sortI ns).map .int)) st
  | none => match lTups st d with
    | some ls => .ok (.lst ((sortL ls).map fun l => .tup (l.map .int))) st
    | none => match dInts st d with
      | some ns => gd (decide (ns.length < 64)) (ret (.lst ((sortI ns).map .int))) st
      | none => match tupI d with
        | some ns => .ok (.lst ((sortI ns).map .int)) st
        | none => .bad
def fSsort (d : D) : M D := fun st => opt (lInt st d) (fun ns => gd (decide (ns.length < 64)) (ret (.lst ((sortI (dedI ns)).map .int)))) st
def fSlen (d : D) : M D := fun st => opt (lInt st d) (fun ns => gd (decide (ns.length < 64)) (ret (.int (dedI ns).length))) st
def fSuml : D -> D -> M D
  | d, .lst [] => fun st => opt ((lstv st d).bind (optL (lstv st))) (fun xss => gd (decide (xss.flatten.length <= sizeLine)) (ret (.lst xss.flatten))) st
  | _, _ => bad
def fMulE (a b : D) : M D := fun st => match a, b with
  | .tup xs, .int k => if D.purs xs = true /\ 0 <= k /\ k <= 1000 /\ xs.length <= 1000 then .ok (.tup (rep k.toNat xs)) st else .bad
  | _, _ => .bad
def fDict (d : D) : M D := fun st => opt ((lstv st d).bind (optL pairv)) (fun kvs => gd (kvs.all fun p => D.pur p.2) (ret (.dic (kvs.foldl (fun a p => dput p.1 p.2 a) [])))) st
def fInt : D -> M D
  | .bl c => ret (.int (if c then 1 else 0))
  | .int i => ret (.int i)
  | .str s => opt (PySem.intText? s) fun n => gd (decide (s.length <= 640)) (ret (.int n))
  | _ => bad
def fStr : D -> M D
  | .int i => gd (okInt i) (ret (.str (toString i)))
  | .str s => ret (.str s)
  | _ => bad
def fRepr (d : D) : M D := fun st => opt (toP false st 60 d) (fun p => gd (decide (p.showable = true /\ p.shown.length <= sizeLine /\ p.depth <= 60 /\ p.hasDict = false)) (ret (.str p.shown))) st
def fReprE (d : D) : M D := fun st => opt (toP true st 60 d) (fun p => gd (decide (p.showable = true /\ p.shown.length <= sizeLine /\ p.depth <= 60)) (ret (.str p.shown))) st
def fIsT (t : String) (d : D) : M D := fun st => opt (isTy st t d) (fun c => ret (.bl c)) st
def fIsC (T : Tbl) (cs : List Nat) : D -> M D
  | .exc c _ => ret (.bl (cs.any fun k => T.anc c k))
  | _ => bad
def fLrng : List D -> M D
  | [.int b] => gd (rgOk 0 b) (ret (.lst (rngN 0 1 b.toNat)))
  | [.int a, .int b] => gd (rgOk a b) (ret (.lst (rngN a 1 (b - a).toNat)))
  | _ => bad
def fTrng : List D -> M D
  | [.int b] => gd (rgOk 0 b) (ret (.tup (rngN 0 1 b.toNat)))
  | [.int a, .int b] => gd (rgOk a b) (ret (.tup (rngN a 1 (b - a).toNat)))
  | _ => bad
def biD (T : Tbl) (b : Bi) (ds : List D) : M D := match b with
  | .len => b1 fLen ds
  | .abs => b1 fAbs ds
  | .min2 => b2 fMin2 ds
  | .max2 => b2 fMax2 ds
  | .min1 => b1 fMin1 ds
  | .max1 => b1 fMax1 ds
  | .sum => b1 fSum ds
  | .all => b1 fAll ds
  | .any => b1 fAny ds
  | .anyI => b1 fAnyI ds
  | .tuple => b1 fTuple ds
  | .list => b1 fList ds
  | .sorted => b1 fSorted ds
  | .ssort => b1 fSsort ds
  | .slen => b1 fSlen ds
  | .suml => b2 fSuml ds
  | .dict => b1 fDict ds
  | .set => bad
  | .int => b1 fInt ds
  | .str => b1 fStr ds
  | .repr => b1 fRepr ds
  | .reprE => b1 fReprE ds
  | .landB => b1 landM ds
  | .mulE => b2 fMulE ds
  | .isT t => b1 (fIsT t) ds
  | .isC cs => b1 (fIsC T cs) ds
  | .lrng => fLrng ds
  | .trng => fTrng ds
def kndD (st : Sto) : D -> Nat
  | .str _ => 1
  | .int _ => 2
  | .tup _ => 3
  | .lst _ => 4
  | .dic _ => 5
  | .ref l => match st[l]? with
    | some (.lst _) => 4
    | some (.frl _) => 4
    | some (.dic _) => 5
    | _ => 0
  | _ => 0
def kIC (k : Nat) : Bool := k == 4 || k == 3
theorem kIC4 : kIC 4 = true := rfl
theorem kIC3 : kIC 3 = true := rfl
def meK : Me -> Nat -> Bool
  | .append, k | .pop, k | .extend, k | .insert, k => k == 4
  | .index, k | .count, k => kIC k
  | .popi, k => k == 4 || k == 5
  | .get, k | .setdefault, k | .update, k | .values, k => k == 5
  | .bitlen, k => k == 2
  | _, _ => false
def lcell (st : Sto) (f : Nat -> List D -> M D) : D -> M D
  | .ref l => match st[l]? with
    | some (.lst xs) => f l xs
    | _ => bad
  | _ => bad
def dcell (st : Sto) (f : Nat -> List (Ky × D) -> M D) : D -> M D
  | .ref l => match st[l]? with
    | some (.dic xs) => f l xs
    | _ => bad
  | _ => bad
def mAppend (o d : D) : M D := fun st => lcell st (fun l xs => gd (decide (xs.length < sizeLine)) fun st => let r := land d st; .ok .non (r.2.set l (.lst (xs ++ [r.1])))) o st
def mPop (o : D) : M D := fun st => lcell st (fun l xs => opt xs[xs.length - 1]? fun y => fun st => .ok y (st.set l (.lst xs.dropLast))) o st
def mPopi (o k : D) : M D := fun st => lcell st (fun l xs => opt (intv k) fun i => gd (decide (-(2 ^ 63) <= i /\ i < 2 ^ 63)) (opt (PySem.seqIndex? i xs.length) fun j => opt xs[j]? fun y => fun st => .ok y (st.set l (.lst (xs.eraseIdx j))))) o st
def mDpop (o k : D) : M D := fun st => dcell st (fun l kvs => opt (keyOf k) fun q => gd (okKeys q kvs) (opt (dget q kvs) fun y => fun st => .ok y (st.set l (.dic (ddel q kvs))))) o st
def mExtend (o d : D) : M D := fun st => lcell st (fun l xs => opt (lstv st d) fun ys => gd (decide (xs.length + ys.length <= sizeLine)) fun st => let r := lands ys st; .ok .non (r.2.set l (.lst (xs ++ r.1)))) o st
def mInsert (o i d : D) : M D := fun st => lcell st (fun l xs => opt (intv i) fun i => gd (decide (0 <= i /\ i < 2 ^ 62 /\ xs.length < sizeLine)) fun st => let r := land d st; .ok .non (r.2.set l (.lst (xs.take i.toNat ++ r.1 :: xs.drop i.toNat)))) o st
def dats (st : Sto) (o : D) : Option (List PyData) := match seqv st o with
  | some ys => optL (toP false st 65) ys
  | none => none
def mIndex (o d : D) : M D := fun st => opt (dats st o) (fun qs => opt (toP false st 66 d) fun p => gd (decide (SeqAt.shaped p = true /\ SeqAt.shaped (.list qs) = true)) (opt (qs.findIdx? fun z => PyData.eqv z p) fun j => ret (.int (j : Nat)))) st
def mCount (o d : D) : M D := fun st => opt (dats st o) (fun qs => opt (toP false st 66 d) fun p => gd (decide (SeqAt.shaped p = true /\ SeqAt.shaped (.list qs) = true)) (ret (.int (qs.countP fun z => PyData.eqv z p : Nat)))) st
def mGet (o k d : D) : M D := fun st => opt (dicv st o) (fun kvs => opt (keyOf k) fun q => gd (okKeys q kvs) (ret ((dget q kvs).getD d))) st
def mSetd (o k d : D) : M D := fun st => dcell st (fun l kvs => opt (keyOf k) fun q => gd (okKeys q kvs && decide (kvs.length < sizeLine)) (match dget q kvs with
  | some y => ret y
  | none => fun st => let r := land d st; .ok r.1 (r.2.set l (.dic (kvs ++ [(q, r.1)]))))) o st
def frD : D -> Option (List (Ky × D))
  | .dic ys => some ys
  | _ => none
def mUpdate (o d : D) : M D := fun st => dcell st (fun l kvs => opt (frD d) fun ys => gd (!ys.isEmpty && ys.all (fun p => D.pur p.2 && (kyK p.1 && okKeys p.1 kvs)) && decide (kvs.length + ys.length <= sizeLine)) fun st => .ok .non (st.set l (.dic (ys.foldl (fun a p => dput p.1 p.2 a) kvs)))) o st
def mValues (o : D) : M D := fun st => opt (dicv st o) (fun kvs => ret (.lst (kvs.map (·.2)))) st
def mBitlen : D -> M D
  | .int i => gd (decide (0 <= i)) (ret (.int (if i = 0 then 0 else i.natAbs.log2 + 1)))
  | _ => bad
def b0 (f : M D) : List D -> M D
  | [] => f
  | _ => bad
def meD (m : Me) (o : D) (ds : List D) : M D := match m with
  | .append => b1 (mAppend o) ds
  | .pop => b0 (mPop o) ds
  | .popi => fun st => match kndD st o with
    | 5 => b1 (mDpop o) ds st
    | _ => b1 (mPopi o) ds st
  | .extend => b1 (mExtend o) ds
  | .insert => b2 (mInsert o) ds
  | .index => b1 (mIndex o) ds
  | .count => b1 (mCount o) ds
  | .get => b2 (mGet o) ds
  | .setdefault => b2 (mSetd o) ds
  | .update => b1 (mUpdate o) ds
  | .values => b0 (mValues o) ds
  | .bitlen => b0 (mBitlen o) ds
  | _ => bad
def getI (a i : D) : M D := fun st => match i with
  | .int k => (match a with
    | .str z => if z.length <= sizeLine then (match L2.atI z.cps.toList k with
      | some c => .ok (.str ⟨#[c]⟩) st
      | none => .bad) else .bad
    | a => match seqv st a with
      | some xs => (match L2.atI xs k with
        | some y => .ok y st
        | none => .bad)
      | none => match dicv st a with
        | some kvs => if okKeys (.k (.inl k)) kvs then (match dget (.k (.inl k)) kvs with
          | some y => .ok y st
          | none => .bad) else .bad
        | none => .bad)
  | i => match keyOf i, dicv st a with
    | some q, some kvs => if okKeys q kvs then (match dget q kvs with
      | some y => .ok y st
      | none => .bad) else .bad
    | _, _ => .bad
def setI (o i d : D) : M Unit := fun st => match o with
  | .ref l => (match st[l]? with
    | some (.lst xs) => (match i with
      | .int k => (match L2.ixN xs.length k with
        | some j => (let r := land d st; .ok () (r.2.set l (.lst (xs.set j r.1))))
        | none => .bad)
      | _ => .bad)
    | some (.dic kvs) => (match keyOf i with
      | some q => if okKeys q kvs /\ kvs.length < sizeLine then (let r := land d st; .ok () (r.2.set l (.dic (dput q r.1 kvs)))) else .bad
      | none => .bad)
    | _ => .bad)
  | _ => .bad
def cutD (xs : List D) (lo hi : Option Int) : List D := (xs.drop (HT.sIx xs.length 0 lo)).take (HT.sIx xs.length xs.length hi - HT.sIx xs.length 0 lo)
def slcD (a : D) (lo hi : Option Int) : M D := fun st => match a with
  | .tup xs => .ok (.tup (cutD xs lo hi)) st
  | a => match lstv st a with
    | some xs => .ok (.lst (cutD xs lo hi)) st
    | none => .bad
def revD (a : D) : M D := fun st => match lstv st a with
  | some xs => .ok (.lst xs.reverse) st
  | none => .bad
end Fs
namespace Fs
open PySem
mutual
inductive Ex where
  | loc (i : Nat)
  | con (d : D)
  | bin (op : Bop) (a b : Ex)
  | neg (a : Ex)
  | nt (a : Cn)
  | cmp (op : Cop) (a b : Ex)
  | chn (o1 o2 : Cop) (a b c : Ex)
  | and2 (a b : Ex)
  | or2 (a b : Ex)
  | ife (c : Cn) (a b : Ex)
  | tup (es : List Ex)
  | lst (es : List Ex)
  | dct (kvs : List Kv)
  | sub (a i : Ex)
  | slc (a : Ex) (lo hi : Option Ex)
  | rev (a : Ex)
  | call (f : Nat) (es : List Ex)
  | callp (f : Nat) (es : List Ex) (perm : List (Sum Nat D))
  | tell (f q k : Nat)
  | act
  | bi (b : Bi) (es : List Ex)
  | me (m : Me) (o : Ex) (es : List Ex)
  | attr (e : Ex) (f : Str)
  | inP (neg : Bool) (i j k : Nat)
  | sbP (k i j : Nat)
  | mk (c : Nat) (es : List Ex)
  | lc (own : List Nat) (it : Ix) (tg : Tg) (ifs : List Cn) (e : Ex)
  | lc2 (own : List Nat) (it : Ix) (tg : Tg) (own2 : List Nat) (it2 : Ix) (tg2 : Tg) (e : Ex)
  | dc (own : List Nat) (it : Ix) (tg : Tg) (ifs : List Cn) (k v : Ex)
  | lci (own : List Nat) (i : Nat) (tg : Tg) (ifs : List Cn) (e : Ex)
  | dci (own : List Nat) (i : Nat) (tg : Tg) (ifs : List Cn) (k v : Ex)
  | kfl (x i : Nat) (c : Int)
inductive Cn where
  | nt (a : Cn)
  | and2 (a b : Cn)
  | or2 (a b : Cn)
  | ife (c a b : Cn)
  | val (e : Ex)
inductive Kv where
  | mk (k v : Ex)
inductive Ix where
  | val (e : Ex)
  | rng (es : List Ex)
  | enum (s : Ex) (k : Int)
  | zip (strict : Bool) (es : List Ex)
  | keys (e : Ex)
  | vals (e : Ex)
  | items (e : Ex)
inductive Tg where
  | nm (i : Nat)
  | tup (ts : List Tg)
  | sub (o i : Ex)
  | attr (o : Ex) (f : Str)
  | subP (k i j : Nat)
end
inductive Sx where
  | asg (t : Tg) (e : Ex)
  | aug (i : Nat) (op : Bop) (e : Ex)
  | xpr (e : Ex)
  | ret (e : Ex)
  | ret0
  | iff (c : Cn) (a b : List Sx)
  | forr (it : Ix) (t : Tg) (b : List Sx)
  | whl (c : Cn) (b : List Sx)
  | brk | cnt | pas
  | rse (c : Nat) (es : List Ex)
  | tri (b : List Sx) (hs : List (List Nat × Option Nat × List Sx))
inductive Src where
  | items (xs : List D)
  | cell (l : Nat)
inductive It where
  | one (s : Src) | enum (k : Int) (s : Src) | zip (strict : Bool) (ss : List Src)
def Src.at (s : Src) (i : Nat) (st : Sto) : Option (Option D) := match s with
  | .items xs => some xs[i]?
  | .cell l => match st[l]? with
    | some (.lst xs) => some xs[i]?
    | some (.frl xs) => some xs[i]?
    | _ => none
def Src.len (s : Src) (st : Sto) : Nat := match s with
  | .items xs => xs.length
  | .cell l => match st[l]? with
    | some (.lst xs) => xs.length
    | some (.frl xs) => xs.length
    | _ => 0
def allSome : List (Option D) -> Option (List D)
  | [] => some []
  | none :: _ => none
  | some d :: r => match allSome r with
    | some ds => some (d :: ds)
    | none => none
def zShort (strict : Bool) (os : List (Option D)) (ss : List Src) (i : Nat) (st : Sto) : Bool := !strict && (match os, ss with
  | [some _, none], [_, s2] => decide (s2.len st = i)
  | _, _ => false)
def It.next (t : It) (i : Nat) (st : Sto) : Option (Option D) := match t with
  | .one s => s.at i st
  | .enum k s => match s.at i st with
    | some (some d) => some (some (.tup [.int (k + (i : Nat)), d]))
    | some none => if s.len st = i then some none else none
    | none => none
  | .zip strict ss => match optL (fun s => Src.at s i st) ss with
    | some os => (match allSome os with
      | some ds => some (some (.tup ds))
      | none => if (os.all (·.isNone) && ss.all fun s => decide (s.len st = i)) = true then some none else (if zShort strict os ss i st = true then some none else none))
    | none => none
def It.len (t : It) (st : Sto) : Nat := match t with
  | .one s => s.len st
  | .enum _ s => s.len st
  | .zip _ ss => match ss with
    | [] => 0
    | s :: _ => s.len st
def keysD (kvs : List (Ky × D)) : Option (List D) := optL (fun p => match p.1 with
  | .k (.inl i) => some (.int i)
  | .k (.inr s) => some (.str s)
  | .t as => some (.tup (as.map fun a => match a with
    | .inl i => .int i
    | .inr s => .str s))) kvs
def srcOf (d : D) : M Src := fun st => match d with
  | .tup xs => .ok (.items xs) st
  | .lst xs => .ok (.items xs) st
  | .ref l => (match st[l]? with
    | some (.lst _) => .ok (.cell l) st
    | some (.frl _) => .ok (.cell l) st
    | _ => .bad)
  | _ => .bad
def mapM' {α β : Type} (f : α -> M β) : List α -> M (List β)
  | [] => ret []
  | x :: xs => bnd (f x) fun y => bnd (mapM' f xs) fun ys => ret (y :: ys)
def pkey (σ : Env) (i j : Nat) : Option Ky := match σ[i]?, σ[j]? with
  | some (some (.int a)), some (some (.int b)) => some (.t [.inl a, .inl b])
  | _, _ => none
def pdic (σ : Env) (k : Nat) (st : Sto) : Option (Nat × List (Ky × D)) := match σ[k]? with
  | some (some (.ref l)) => (match st[l]? with
    | some (.dic kvs) => if okKeys (.t []) kvs = true then some (l, kvs) else none
    | _ => none)
  | _ => none
def inPD (neg : Bool) (σ : Env) (i j k : Nat) : M D := fun st => opt (pkey σ i j) (fun q => opt (pdic σ k st) fun p => ret (.bl (if neg then !(dget q p.2).isSome else (dget q p.2).isSome))) st
def sbPD (σ : Env) (k i j : Nat) : M D := fun st => opt (pkey σ i j) (fun q => opt (pdic σ k st) fun p => opt (dget q p.2) fun v => ret v) st
def stPD (σ : Env) (k i j : Nat) (d : D) : M Env := fun st => opt (pkey σ i j) (fun q => opt (pdic σ k st) fun p => gd (decide (p.2.length < sizeLine)) fun st => .ok σ ((land d st).2.set p.1 (.dic (dput q (land d st).1 p.2)))) st
def wipe (σ : Env) (own : List Nat) : Env := own.foldr (fun i s => s.set i none) σ
def lcLoop (it : It) (turn : D -> Sto -> R (Option D)) : Nat -> Nat -> List D -> M (List D)
  | 0, _, _ => bad
  | n + 1, i, acc => fun st => match it.next i st with
    | none => .bad
    | some none => .ok acc st
    | some (some d) => match turn d st with
      | .ok (some y) st' => if acc.length < sizeLine then lcLoop it turn n (i + 1) (acc ++ [y]) st' else .bad
      | .ok none st' => lcLoop it turn n (i + 1) acc st'
      | _ => .bad
def vlsD (σ : Env) (i : Nat) (st : Sto) : Option (List (Ky × D)) := match σ[i]? with
  | some (some (.ref l)) => (match st[l]? with
    | some (.dic kvs) => if (okKeys (.k (.inl 0)) kvs && D.plns (kvs.map (·.2))) = true then some kvs else none
    | _ => none)
  | _ => none
def kvI (p : Ky × D) : Option (Int × Int) := match p with
  | (.k (.inl k), .int v) => some (k, v)
  | _ => none
def kflD (σ : Env) (i : Nat) (st : Sto) (c : Int) : Option (List Int) := match σ[i]? with
  | some (some (.ref l)) => (match st[l]? with
    | some (.dic kvs) => (match optL kvI kvs with
      | some ps => if okKeys (.k (.inl 0)) kvs = true /\ (ps.map (·.1)).Nodup then some ((ps.filter fun p => p.2 == c).map (·.1)) else none
      | none => none)
    | _ => none)
  | _ => none
def isoL (r : R (List D)) : M D := fun st => match r with
  | .ok ys [] => if D.plns ys = true then .ok (.lst ys) st else .bad
  | _ => .bad
def isoK (r : R (List (Ky × D))) : M D := fun st => match r with
  | .ok ys [] => if D.plns (ys.map (·.2)) = true then .ok (.dic ys) st else .bad
  | _ => .bad
def lcLoop2 (it : It) (turn : D -> List D -> Sto -> R (List D)) : Nat -> Nat -> List D -> M (List D)
  | 0, _, _ => bad
  | n + 1, i, acc => fun st => match it.next i st with
    | none => .bad
    | some none => .ok acc st
    | some (some d) => match turn d acc st with
      | .ok acc' st' => lcLoop2 it turn n (i + 1) acc' st'
      | _ => .bad
def dcLoop (it : It) (turn : D -> Sto -> R (Option (Ky × D))) : Nat -> Nat -> List (Ky × D) -> M (List (Ky × D))
  | 0, _, _ => bad
  | n + 1, i, acc => fun st => match it.next i st with
    | none => .bad
    | some none => .ok acc st
    | some (some d) => match turn d st with
      | .ok (some (k, y)) st' => if acc.length < sizeLine /\ okKeys k acc = true /\ D.pur y = true then dcLoop it turn n (i + 1) (dput k y acc) st' else .bad
      | .ok none st' => dcLoop it turn n (i + 1) acc st'
      | _ => .bad
def ofTup : D -> Sto -> Option (List D)
  | .tup xs, _ => some xs
  | .lst xs, _ => some xs
  | .ref l, st => match st[l]? with
    | some (.lst xs) => some xs
    | _ => none
  | _, _ => none
mutual
def ev (T : Tbl) : Ex -> Env -> M D
  | .loc i, σ => match σ[i]? with
    | some (some d) => ret d
    | _ => bad
  | .con d, _ => ret d
  | .bin op a b, σ => bnd (ev T a σ) fun x => bnd (ev T b σ) fun y => binD op x y
  | .neg a, σ => bnd (ev T a σ) fun x => opt (intv x) fun i => ret (.int (-i))
  | .nt a, σ => bnd (evT T a σ) fun c => ret (.bl (!c))
  | .cmp op a b, σ => bnd (ev T a σ) fun x => bnd (ev T b σ) fun y => fun st => opt (cmpD op x y st) (fun c => ret (.bl c)) st
  | .chn o1 o2 a b c, σ => bnd (ev T a σ) fun x => opt (intv x) fun i => bnd (ev T b σ) fun y => opt (intv y) fun j => opt (cmpI o1 i j) fun k => match k with
      | true => bnd (ev T c σ) fun z => opt (intv z) fun m => opt (cmpI o2 j m) fun r => ret (.bl r)
      | false => ret (.bl false)
  | .and2 a b, σ => bnd (ev T a σ) fun x => opt (blv x) fun c => match c with
    | true => ev T b σ
    | false => ret (.bl false)
  | .or2 a b, σ => bnd (ev T a σ) fun x => opt (blv x) fun c => match c with
    | true => ret (.bl true)
    | false => ev T b σ
  | .ife c a b, σ => bnd (evT T c σ) fun k => match k with
    | true => ev T a σ
    | false => ev T b σ
  | .tup es, σ => bnd (evs T es σ) fun ds => gd (decide (ds.length <= sizeLine)) (ret (.tup ds))
  | .lst es, σ => bnd (evs T es σ) fun ds => gd (decide (ds.length <= sizeLine)) (ret (.lst ds))
  | .dct kvs, σ => bnd (evkv T kvs σ) fun r => gd (match r with
    | [] => true
    | p :: _ => okKeys p.1 r && decide (r.length <= 15)) (ret (.dic (r.foldl (fun a p => dput p.1 p.2 a) [])))
  | .sub a i, σ => bnd (ev T a σ) fun x => bnd (ev T i σ) fun y => getI x y
  | .slc a lo hi, σ => bnd (ev T a σ) fun x => bnd (evo T lo σ) fun l => bnd (evo T hi σ) fun h => slcD x l h
  | .rev a, σ => bnd (ev T a σ) fun x => revD x
  | .call f es, σ => bnd (evs T es σ) fun ds => T.fn f ds
  | .callp f es perm, σ => bnd (evs T es σ) fun ds => opt (optL (fun p => match p with
      | .inl i => ds[i]?
      | .inr d => some d) perm) fun as => T.fn f as
  | .tell f q k, σ => T.tl f q k σ
  | .act, σ => T.act σ
  | .bi b es, σ => bnd (evs T es σ) fun ds => biD T b ds
  | .me m o es, σ => bnd (ev T o σ) fun x => fun st1 => gd (meK m (kndD st1 x)) (bnd (evs T es σ) fun ds => fun st2 => gd (kndD st1 x == kndD st2 x) (meD m x ds) st2) st1
  | .attr e f, σ => bnd (ev T e σ) fun x => match x with
    | .exc c [y] => gd (decide (T.fld c = some f)) (ret y)
    | _ => bad
  | .inP neg i j k, σ => inPD neg σ i j k
  | .sbP k i j, σ => sbPD σ k i j
  | .mk c es, σ => bnd (evs T es σ) fun ds => match T.fld c with
    | some _ => (match ds with
      | [d] => bnd (landM d) fun d' => ret (.exc c [d'])
      | _ => bad)
    | none => ret (.exc c [])
  | .lc own it tg ifs e, σ => bnd (evI T it σ) fun t => fun st =>
      bnd (lcLoop t (fun d => bnd (asgT T tg d (wipe σ own)) fun σ' => bnd (evTs T ifs σ') fun b => match b with
        | true => bnd (ev T e σ') fun y => ret (some y)
        | false => ret none) (t.len st + 1) 0 []) (fun ys => ret (.lst ys)) st
  | .lc2 own it tg own2 it2 tg2 e, σ => bnd (evI T it σ) fun t => fun st =>
      bnd (lcLoop2 t (fun d acc => bnd (asgT T tg d (wipe σ own)) fun σ' => bnd (evI T it2 σ') fun t2 => fun st2 =>
        lcLoop t2 (fun d2 => bnd (asgT T tg2 d2 (wipe σ' own2)) fun σ2 => bnd (ev T e σ2) fun y => ret (some y)) (t2.len st2 + 1) 0 acc st2) (t.len st + 1) 0 []) (fun ys => ret (.lst ys)) st
  | .dc own it tg ifs k v, σ => bnd (evI T it σ) fun t => fun st =>
      bnd (dcLoop t (fun d => bnd (asgT T tg d (wipe σ own)) fun σ' => bnd (evTs T ifs σ') fun b => match b with
        | true => bnd (ev T k σ') fun x => bnd (ev T v σ') fun y => opt (keyOf x) fun q => ret (some (q, y))
        | false => ret none) (t.len st + 1) 0 []) (fun ys => ret (.dic ys)) st
  | .lci own i tg ifs e, σ => fun st => opt (vlsD σ i st) (fun kvs => isoL (lcLoop (.one (.items (kvs.map (·.2)))) (fun d => bnd (asgT T tg d (wipe (List.replicate σ.length none) own)) fun σ' => bnd (evTs T ifs σ') fun b => match b with
        | true => bnd (ev T e σ') fun y => ret (some y)
        | false => ret none) (kvs.length + 1) 0 [] [])) st
  | .dci own i tg ifs k v, σ => fun st => opt (vlsD σ i st) (fun kvs => isoK (dcLoop (.one (.items (kvs.map (·.2)))) (fun d => bnd (asgT T tg d (wipe (List.replicate σ.length none) own)) fun σ' => bnd (evTs T ifs σ') fun b => match b with
        | true => bnd (ev T k σ') fun x => bnd (ev T v σ') fun y => opt (keyOf x) fun q => ret (some (q, y))
        | false => ret none) (kvs.length + 1) 0 [] [])) st
  | .kfl x i c, σ => fun st => opt (if x < σ.length then kflD σ i st c else none) (fun ks => ret (.lst (ks.map .int))) st
def evT (T : Tbl) : Cn -> Env -> M Bool
  | .nt a, σ => bnd (evT T a σ) fun c => ret (!c)
  | .and2 a b, σ => bnd (evT T a σ) fun c => match c with
    | true => evT T b σ
    | false => ret false
  | .or2 a b, σ => bnd (evT T a σ) fun c => match c with
    | true => ret true
    | false => evT T b σ
  | .ife c a b, σ => bnd (evT T c σ) fun k => match k with
    | true => evT T a σ
    | false => evT T b σ
  | .val e, σ => bnd (ev T e σ) fun x => fun st => opt (truth st x) ret st
def evs (T : Tbl) : List Ex -> Env -> M (List D)
  | [], _ => ret []
  | e :: es, σ => bnd (ev T e σ) fun x => bnd (evs T es σ) fun xs => ret (x :: xs)
def evTs (T : Tbl) : List Cn -> Env -> M Bool
  | [], _ => ret true
  | e :: es, σ => bnd (evT T e σ) fun c => match c with
    | true => evTs T es σ
    | false => ret false
def evo (T : Tbl) : Option Ex -> Env -> M (Option Int)
  | none, _ => ret none
  | some e, σ => bnd (ev T e σ) fun x => opt (intv x) fun i => ret (some i)
def evkv (T : Tbl) : List Kv -> Env -> M (List (Ky × D))
  | [], _ => ret []
  | .mk k v :: r, σ => bnd (ev T k σ) fun x => bnd (ev T v σ) fun y => opt (keyOf x) fun q => bnd (evkv T r σ) fun r => ret ((q, y) :: r)
def evI (T : Tbl) : Ix -> Env -> M It
  | .val e, σ => bnd (ev T e σ) fun x => bnd (srcOf x) fun s => ret (.one s)
  | .rng es, σ => bnd (evs T es σ) fun ds => opt (rngL ds) fun xs => ret (.one (.items xs))
  | .enum e k, σ => bnd (ev T e σ) fun x => bnd (srcOf x) fun s => ret (.enum k s)
  | .zip b es, σ => bnd (evs T es σ) fun ds => bnd (mapM' srcOf ds) fun ss => ret (.zip b ss)
  | .keys e, σ => bnd (ev T e σ) fun x => fun st => opt ((dicv st x).bind keysD) (fun ks => ret (.one (.items ks))) st
  | .vals e, σ => bnd (ev T e σ) fun x => fun st => opt (dicv st x) (fun kvs => ret (.one (.items (kvs.map (·.2))))) st
  | .items e, σ => bnd (ev T e σ) fun x => fun st => opt (dicv st x) (fun kvs => opt (keysD kvs) fun ks => ret (.one (.items ((ks.zip (kvs.map (·.2))).map fun p => .tup [p.1, p.2])))) st
def asgT (T : Tbl) : Tg -> D -> Env -> M Env
  | .nm i, d, σ => bnd (landM d) fun d' => ret (σ.set i (some d'))
  | .tup ts, d, σ => fun st => match ofTup d st with
    | some ds => asgTs T ts ds σ st
    | none => .bad
  | .sub o i, d, σ => bnd (ev T o σ) fun x => bnd (ev T i σ) fun y => bnd (setI x y d) fun _ => ret σ
  | .attr _ _, _, _ => bad
  | .subP k i j, d, σ => stPD σ k i j d
def asgTs (T : Tbl) : List Tg -> List D -> Env -> M Env
  | [], [], σ => ret σ
  | t :: ts, d :: ds, σ => bnd (asgT T t d σ) fun σ' => asgTs T ts ds σ'
  | _, _, _ => bad
end
end Fs
namespace Fs
open PySem
inductive Fl where
  | nx (σ : Env) | br (σ : Env) | ct (σ : Env) | rt (d : D) | ex (σ : Env) (e : D)
def lft {α : Type} (σ : Env) (m : M α) (f : α -> M Fl) : M Fl := fun s => match m s with
  | .ok a s' => f a s'
  | .exc e s' => .ok (.ex σ e) s'
  | .bad => .bad
def seqF (m : M Fl) (k : Env -> M Fl) : M Fl := fun s => match m s with
  | .ok (.nx σ) s' => k σ s'
  | .ok f s' => .ok f s'
  | _ => .bad
def whLoop (c : Env -> M Bool) (b : Env -> M Fl) : Nat -> Env -> M Fl
  | 0, _ => bad
  | n + 1, σ => lft σ (c σ) fun k => match k with
    | false => ret (.nx σ)
    | true => fun s => match b σ s with
      | .ok (.nx σ') s' => whLoop c b n σ' s'
      | .ok (.ct σ') s' => whLoop c b n σ' s'
      | .ok (.br σ') s' => .ok (.nx σ') s'
      | .ok f s' => .ok f s'
      | _ => .bad
def forLoop (it : It) (g : D -> Env -> M Env) (b : Env -> M Fl) : Nat -> Nat -> Env -> M Fl
  | 0, _, _ => bad
  | n + 1, i, σ => fun s => match it.next i s with
    | none => .bad
    | some none => .ok (.nx σ) s
    | some (some d) => match noX (g d σ) s with
      | .ok σ1 s1 => (match b σ1 s1 with
        | .ok (.nx σ') s' => forLoop it g b n (i + 1) σ' s'
        | .ok (.ct σ') s' => forLoop it g b n (i + 1) σ' s'
        | .ok (.br σ') s' => .ok (.nx σ') s'
        | .ok f s' => .ok f s'
        | _ => .bad)
      | _ => .bad
def wfuel : Nat := 1000000
def outS (i : Option Nat) (σ : Env) : Env := match i with
  | some j => σ.set j none
  | none => σ
def inS (i : Option Nat) (e : D) (σ : Env) : Env := match i with
  | some j => σ.set j (some e)
  | none => σ
def outF (i : Option Nat) (m : M Fl) : M Fl := fun s => match m s with
  | .ok (.nx σ) s' => .ok (.nx (outS i σ)) s'
  | .ok (.br σ) s' => .ok (.br (outS i σ)) s'
  | .ok (.ct σ) s' => .ok (.ct (outS i σ)) s'
  | .ok (.rt d) s' => .ok (.rt d) s'
  | _ => .bad
mutual
def exS (T : Tbl) : Sx -> Env -> M Fl
  | .asg t e, σ => lft σ (ev T e σ) fun x => bnd (noX (asgT T t x σ)) fun σ' => ret (.nx σ')
  | .aug i op e, σ => match (σ[i]?).getD none with
    | some x => lft σ (ev T e σ) fun y => lft σ (binD op x y) fun z => bnd (landM z) fun z' => ret (.nx (σ.set i (some z')))
    | none => bad
  | .xpr e, σ => lft σ (ev T e σ) fun _ => ret (.nx σ)
  | .ret e, σ => lft σ (ev T e σ) fun x => ret (.rt x)
  | .ret0, _ => ret (.rt .non)
  | .iff c a b, σ => lft σ (evT T c σ) fun k => match k with
    | true => exL T a σ
    | false => exL T b σ
  | .forr it t b, σ => lft σ (evI T it σ) fun w => fun s => forLoop w (fun d σ => asgT T t d σ) (fun σ => exL T b σ) (w.len s + 1) 0 σ s
  | .whl c b, σ => whLoop (fun σ => evT T c σ) (fun σ => exL T b σ) wfuel σ
  | .brk, σ => ret (.br σ)
  | .cnt, σ => ret (.ct σ)
  | .pas, σ => ret (.nx σ)
  | .rse c es, σ => lft σ (ev T (.mk c es) σ) fun x => ret (.ex σ x)
  | .tri b hs, σ => fun s => match exL T b σ s with
    | .ok (.ex σ' e) s' => exH T hs e σ' s'
    | r => r
def exL (T : Tbl) : List Sx -> Env -> M Fl
  | [], σ => ret (.nx σ)
  | x :: xs, σ => seqF (exS T x σ) fun σ' => exL T xs σ'
def exH (T : Tbl) : List (List Nat × Option Nat × List Sx) -> D -> Env -> M Fl
  | [], e, σ => ret (.ex σ e)
  | (cs, i, b) :: hs, e, σ => match e with
    | .exc c _ => (match cs.any fun k => T.anc c k with
      | true => outF i (exL T b (inS i e σ))
      | false => exH T hs e σ)
    | _ => bad
end
structure Fn where
  np : Nat
  ns : Nat
  body : List Sx
structure Pr where
  fns : Nat -> Option Fn
  fld : Nat -> Option Str
  anc : Nat -> Nat -> Bool
  lams : Nat -> Option (Str × Ex)
def outR (r : R Fl) : R D := match r with
  | .ok (.rt d) s => .ok d s
  | .ok (.nx _) s => .ok .non s
  | .ok (.ex _ e) s => .exc e s
  | _ => .bad
def runF (P : Pr) (T : Tbl) (f : Nat) (ds : List D) : M D := fun st => match P.fns f with
    | some F => (match decide (ds.length = F.np) with
      | true => leaveD st (outR (exL T F.body ((lands ds st).1.map some ++ List.replicate (F.ns - F.np) none) (lands ds st).2))
      | false => .bad)
    | none => .bad
def isTab (st : Sto) (q : Nat) (l : Option (Str × Ex)) : Bool := match st[q]?, l with
  | some (.lam 0 [.str n]), some p => decide (n = p.1)
  | _, _ => false
def actM (T : Tbl) (e : Option (Str × Ex)) (l : Nat) (σ : Env) (σ' : Env) : M D := match (σ'[0]? : Option (Option D)) with
  | some (some (.ref l')) => (match decide (l' = l), e with
    | true, some e => ev T e.2 σ
    | _, _ => bad)
  | _ => bad
def tellM (P : Pr) (T0 T : Tbl) (f q k : Nat) (σ : Env) : M D := fun st => match isTab st q (P.lams k) with
  | true => (match P.fns f with
    | some F => (match decide (F.np = 1) with
      | true => leaveD st (outR (exL { T with act := actM T0 (P.lams k) st.length σ } F.body (some (.ref st.length) :: List.replicate (F.ns - 1) none) (st ++ [.lam 1 []])))
      | false => .bad)
    | none => .bad)
  | false => .bad
def Pr.mk2 (P : Pr) (c : (Nat -> List D -> M D) × (Nat -> Nat -> Nat -> Env -> M D)) : Tbl := ⟨c.1, P.fld, P.anc, fun _ => bad, c.2⟩
def core (P : Pr) : Nat -> (Nat -> List D -> M D) × (Nat -> Nat -> Nat -> Env -> M D)
  | 0 => (fun _ _ => bad, fun _ _ _ _ => bad)
  | 1 => (runF P (P.mk2 (core P 0)), fun _ _ _ _ => bad)
  | n + 2 => (runF P (P.mk2 (core P (n + 1))), tellM P (P.mk2 (core P n)) (P.mk2 (core P (n + 1))))
def call (P : Pr) (n : Nat) : Nat -> List D -> M D := (core P n).1
def Pr.tbl (P : Pr) (n : Nat) : Tbl := ⟨call P n, P.fld, P.anc, fun _ => bad, (core P n).2⟩
theorem call_succ {P : Pr} {n f : Nat} {ds : List D} {st : Sto} : call P (n + 1) f ds st = runF P (P.tbl n) f ds st := by cases n <;> rfl
def hole : Ex := .attr (.con .non) ⟨#[]⟩
end Fs
namespace Fs
open PySem L2
structure Wc where
  K : PySem.W.Frag
  ca : Nat -> Addr
  fl : Nat -> Option Str
  gb : Option (List Addr × Hp)
  tb : Str -> Option Addr
def exoH (a C : Addr) (dx : Option Addr) : HO := .ext fun h => ∃ (oe : Obj) (vs : Array Value), h.get? a = some oe /\ oe.cls = .ref C /\ oe.dict = dx /\ oe.data = .fields vs
def HCell : HO -> Bool
  | .lst _ | .dK _ | .dT _ | .set _ _ => true
  | .frz _ (.lst _) | .frz _ (.ext _) | .tbl _ => true
  | _ => false
def RpL (Z : Wc) (H : Hp) (a : Addr) : Nat -> List D -> Prop
  | 0, [.str q] => Z.tb q = some a /\ LamX.TabS H a q
  | 1, [] => ∃ o φ, H a = some (.frz o (.ext φ))
  | _, _ => False
def Gb (Z : Wc) (ρ : List Addr) (H : Hp) : Prop := ∀ p, Z.gb = some p -> (∃ N, ρ = p.1 ++ N) /\ ∀ a o, p.2 a = some o -> HCell o = false -> H a = some o
def SqX (H : Hp) (a : Addr) (vs : List V) : Prop := ∃ o : Obj, H a = some (.frz o (.tup vs)) /\ o.cls = .type "tuple" /\ o.dict = none
theorem SqX.t {K : PySem.W.Frag} {H : Hp} {a : Addr} {vs : List V} (h : SqX H a vs) : SqT K H a vs := by
  obtain ⟨o, e, _⟩ := h
  exact .inl (.inr ⟨o, e⟩)
def NwT (o : Obj) : Prop := o.cls = .type "tuple" /\ o.dict = none
theorem SqX.of {H : Hp} {a : Addr} {vs : List V} {o : Obj} (e : H a = some (.frz o (.tup vs))) (h : NwT o) : SqX H a vs := ⟨o, e, h⟩
section
variable (Z : Wc) (ρ : List Addr) (H : Hp)
mutual
def Rp : D -> V -> List Addr -> Prop
  | .non, v, F => v = .non /\ F = []
  | .bl b, v, F => v = .bl b /\ F = []
  | .int i, v, F => v = .int i /\ F = []
  | .str s, v, F => v = .str s /\ F = []
  | .tup ds, v, F => ∃ a vs, v = .ref a /\ SqX H a vs /\ Rps ds vs F
  | .ref l, v, F => ∃ a, ρ[l]? = some a /\ v = .ref a /\ F = []
  | .lst ds, v, F => ∃ a vs G, v = .ref a /\ H a = some (.lst vs) /\ Rps ds vs G /\ F = a :: G
  | .frl ds, v, F => ∃ a o vs G, v = .ref a /\ H a = some (.frz o (.lst vs)) /\ Rps ds vs G /\ F = a :: G
  | .dic kvs, v, F => ∃ a G, v = .ref a /\ F = a :: G /\
      ((∃ ws, H a = some (.dK ws) /\ RpK kvs ws G) ∨ ∃ ws, H a = some (.dT ws) /\ RpT kvs ws G)
  | .set xs, v, F => ∃ a S, v = .ref a /\ H a = some (.set S xs.length) /\ xs.Nodup /\ (∀ i, S i = xs.contains i) /\ F = [a]
  | .exc c fs, v, F => ∃ a dx, v = .ref a /\ H a = some (exoH a (Z.ca c) dx) /\ RpX (Z.fl c) dx fs /\ F = []
  | .lam n cs, v, F => ∃ a, v = .ref a /\ F = [a] /\ RpL Z H a n cs
def RpX (f : Option Str) (dx : Option Addr) : List D -> Prop
  | [] => f = none /\ dx = none
  | d :: r => r = [] /\ ∃ n x u, f = some n /\ dx = some x /\ H x = some (.xd [(n, u)]) /\ Rp d u []
def Rps : List D -> List V -> List Addr -> Prop
  | [], vs, F => vs = [] /\ F = []
  | d :: ds, vs, F => ∃ v ws F1 F2, vs = v :: ws /\ Rp d v F1 /\ Rps ds ws F2 /\ F = F1 ++ F2
def RpK : List (Ky × D) -> List (L2.Key × V) -> List Addr -> Prop
  | [], ws, F => ws = [] /\ F = []
  | (k, d) :: r, ws, F => ∃ j v ws' F1 F2, k = .k j /\ ws = (j, v) :: ws' /\ Rp d v F1 /\ RpK r ws' F2 /\ F = F1 ++ F2
def RpT : List (Ky × D) -> List (List L2.Key × V) -> List Addr -> Prop
  | [], ws, F => ws = [] /\ F = []
  | (k, d) :: r, ws, F => ∃ j v ws' F1 F2, k = .t j /\ ws = (j, v) :: ws' /\ Rp d v F1 /\ RpT r ws' F2 /\ F = F1 ++ F2
end
end
def isCell : D -> Bool
  | .lst _ | .frl _ | .dic _ | .set _ | .lam _ _ => true
  | _ => false
structure SR (Z : Wc) (ρ : List Addr) (st : Sto) (H : Hp) : Prop where
  len : ρ.length = st.length
  nd : ρ.Nodup
  kind : ∀ (l : Nat) (c : D), st[l]? = some c -> isCell c = true
  cell : ∀ (l : Nat) (c : D) (a : Addr), st[l]? = some c -> ρ[l]? = some a -> Rp Z ρ H c (.ref a) [a]
  gb : Gb Z ρ H
def ER (Z : Wc) (ρ : List Addr) (H : Hp) (env : Env) (σ : L2.St) : Prop :=
  env.length = σ.length /\ ∀ (i : Nat) (d : D), env[i]? = some (some d) -> ∃ v, σ[i]? = some (some v) /\ Rp Z ρ H d v []
def Stp (ρ : List Addr) (H : Hp) (ρ' : List Addr) (H' : Hp) (F : List Addr) : Prop :=
  ∃ N, ρ' = ρ ++ N /\ (N ++ F).Nodup /\ (∀ a ∈ N ++ F, H a = none) /\ ∀ a o, H a = some o -> a ∉ ρ -> H' a = some o
section
variable {Z : Wc} {ρ ρ' ρ₁ ρ₂ : List Addr} {H H' H₁ H₂ : Hp} {st st' st₁ : Sto} {F F' F₁ F₂ : List Addr}
theorem Rps.length : ∀ {ds : List D} {vs : List V} {F : List Addr}, Rps Z ρ H ds vs F -> ds.length = vs.length
  | [], vs, F, h => by obtain ⟨rfl, _⟩ := h; rfl
  | d :: ds, vs, F, h => by
    obtain ⟨v, ws, F1, F2, rfl, _, h2, _⟩ := h
    simp [Rps.length h2]
theorem RpL.hc {a : Addr} : ∀ {n : Nat} {cs : List D}, RpL Z H a n cs -> ∃ o, H a = some o /\ HCell o = true := by
  intro n cs h
  unfold RpL at h
  split at h
  · obtain ⟨_, ps, e, _⟩ := h; exact ⟨_, e, rfl⟩
  · obtain ⟨o, φ, e⟩ := h; exact ⟨_, e, rfl⟩
  · exact h.elim
theorem RpL.stay {a : Addr} (ht : ∀ a o, H a = some o -> HCell o = false -> H' a = some o) (hk : ∀ o, H a = some o -> H' a = some o) : ∀ {n : Nat} {cs : List D}, RpL Z H a n cs -> RpL Z H' a n cs := by
  intro n cs h
  unfold RpL at h ⊢
  split at h
  · obtain ⟨z, ps, e, t, k⟩ := h
    exact ⟨z, ps, hk _ e, t, fun pos cv z => let ⟨c, e1, e2⟩ := k pos cv z; ⟨c, e1, ht _ _ e2 rfl⟩⟩
  · obtain ⟨o, φ, e⟩ := h; exact ⟨o, φ, hk _ e⟩
  · exact h.elim
mutual
theorem Rp.there : ∀ {d : D} {v : V} {F : List Addr}, Rp Z ρ H d v F -> ∀ a ∈ F, H a ≠ none
  | .non, v, F, h, a, ha => by obtain ⟨_, rfl⟩ := h; cases ha
  | .bl b, v, F, h, a, ha => by obtain ⟨_, rfl⟩ := h; cases ha
  | .int i, v, F, h, a, ha => by obtain ⟨_, rfl⟩ := h; cases ha
  | .str s, v, F, h, a, ha => by obtain ⟨_, rfl⟩ := h; cases ha
  | .tup ds, v, F, h, a, ha => by obtain ⟨_, _, _, _, h3⟩ := h; exact Rps.there h3 a ha
  | .ref l, v, F, h, a, ha => by obtain ⟨_, _, _, rfl⟩ := h; cases ha
  | .lst ds, v, F, h, a, ha => by
    obtain ⟨b, vs, G, _, hb, h3, rfl⟩ := h
    rcases List.mem_cons.mp ha with rfl | ha
    · rw [hb]; exact nofun
    · exact Rps.there h3 a ha
  | .frl ds, v, F, h, a, ha => by
    obtain ⟨b, o, vs, G, _, hb, h3, rfl⟩ := h
    rcases List.mem_cons.mp ha with rfl | ha
    · rw [hb]; exact nofun
    · exact Rps.there h3 a ha
  | .dic kvs, v, F, h, a, ha => by
    obtain ⟨b, G, _, rfl, h3⟩ := h
    rcases h3 with ⟨ws, hb, h4⟩ | ⟨ws, hb, h4⟩
    · rcases List.mem_cons.mp ha with rfl | ha
      · rw [hb]; exact nofun
      · exact RpK.there h4 a ha
    · rcases List.mem_cons.mp ha with rfl | ha
      · rw [hb]; exact nofun
      · exact RpT.there h4 a ha
  | .set xs, v, F, h, a, ha => by
    obtain ⟨b, S, _, hb, _, _, rfl⟩ := h
    rcases List.mem_cons.mp ha with rfl | ha
    · rw [hb]; exact nofun
    · cases ha
  | .exc _ _, v, F, h, a, ha => by obtain ⟨_, _, _, _, _, rfl⟩ := h; cases ha
  | .lam n cs, v, F, h, a, ha => by
    obtain ⟨b, _, rfl, h3⟩ := h
    rcases List.mem_cons.mp ha with rfl | ha
    · obtain ⟨o, e, _⟩ := RpL.hc h3
      rw [e]; exact nofun
    · cases ha
theorem Rps.there : ∀ {ds : List D} {vs : List V} {F : List Addr}, Rps Z ρ H ds vs F -> ∀ a ∈ F, H a ≠ none
  | [], vs, F, h, a, ha => by obtain ⟨_, rfl⟩ := h; cases ha
  | d :: ds, vs, F, h, a, ha => by
    obtain ⟨v, ws, F1, F2, rfl, h1, h2, rfl⟩ := h
    rcases List.mem_append.mp ha with ha | ha
    · exact Rp.there h1 a ha
    · exact Rps.there h2 a ha
theorem RpK.there : ∀ {ds : List (Ky × D)} {vs : List (L2.Key × V)} {F : List Addr}, RpK Z ρ H ds vs F -> ∀ a ∈ F, H a ≠ none
  | [], vs, F, h, a, ha => by obtain ⟨_, rfl⟩ := h; cases ha
  | (k, d) :: ds, vs, F, h, a, ha => by
    obtain ⟨j, v, ws, F1, F2, _, rfl, h1, h2, rfl⟩ := h
    rcases List.mem_append.mp ha with ha | ha
    · exact Rp.there h1 a ha
    · exact RpK.there h2 a ha
theorem RpT.there : ∀ {ds : List (Ky × D)} {vs : List (List L2.Key × V)} {F : List Addr}, RpT Z ρ H ds vs F -> ∀ a ∈ F, H a ≠ none
  | [], vs, F, h, a, ha => by obtain ⟨_, rfl⟩ := h; cases ha
  | (k, d) :: ds, vs, F, h, a, ha => by
    obtain ⟨j, v, ws, F1, F2, _, rfl, h1, h2, rfl⟩ := h
    rcases List.mem_append.mp ha with ha | ha
    · exact Rp.there h1 a ha
    · exact RpT.there h2 a ha
end
theorem SqT.stay {K : PySem.W.Frag} (ht : ∀ a o, H a = some o -> HCell o = false -> H' a = some o) {a : Addr} {xs : List V} (h : SqT K H a xs) : SqT K H' a xs := by
  rcases h with h | h
  · refine .inl ?_
    rcases h with h | ⟨ob, h⟩
    · exact .inl (ht a _ h rfl)
    · exact .inr ⟨ob, ht a _ h rfl⟩
  · exact .inr h
theorem SqX.stay (ht : ∀ a o, H a = some o -> HCell o = false -> H' a = some o) {a : Addr} {xs : List V} (h : SqX H a xs) : SqX H' a xs := by
  obtain ⟨o, e, h⟩ := h
  exact ⟨o, ht a _ e rfl, h⟩
mutual
theorem Rp.stay (hr : ∀ (l : Nat) (a : Addr), ρ[l]? = some a -> ρ'[l]? = some a) (ht : ∀ a o, H a = some o -> HCell o = false -> H' a = some o) : ∀ {d : D} {v : V} {F : List Addr}, (∀ a ∈ F, ∀ o, H a = some o -> H' a = some o) -> Rp Z ρ H d v F -> Rp Z ρ' H' d v F
  | .non, v, F, hk, h => h
  | .bl b, v, F, hk, h => h
  | .int i, v, F, hk, h => h
  | .str s, v, F, hk, h => h
  | .tup ds, v, F, hk, h => by
    obtain ⟨a, vs, e, h2, h3⟩ := h
    exact ⟨a, vs, e, SqX.stay ht h2, Rps.stay hr ht hk h3⟩
  | .ref l, v, F, hk, h => by
    obtain ⟨a, h1, e, f⟩ := h
    exact ⟨a, hr l a h1, e, f⟩
  | .lst ds, v, F, hk, h => by
    obtain ⟨a, vs, G, e, h2, h3, rfl⟩ := h
    exact ⟨a, vs, G, e, hk a List.mem_cons_self _ h2, Rps.stay hr ht (fun b hb => hk b (List.mem_cons_of_mem _ hb)) h3, rfl⟩
  | .frl ds, v, F, hk, h => by
    obtain ⟨a, o, vs, G, e, h2, h3, rfl⟩ := h
    exact ⟨a, o, vs, G, e, hk a List.mem_cons_self _ h2, Rps.stay hr ht (fun b hb => hk b (List.mem_cons_of_mem _ hb)) h3, rfl⟩
  | .dic kvs, v, F, hk, h => by
    obtain ⟨a, G, e, rfl, h3⟩ := h
    refine ⟨a, G, e, rfl, ?_⟩
    rcases h3 with ⟨ws, hb, h4⟩ | ⟨ws, hb, h4⟩
    · exact .inl ⟨ws, hk a List.mem_cons_self _ hb, RpK.stay hr ht (fun b hb => hk b (List.mem_cons_of_mem _ hb)) h4⟩
    · exact .inr ⟨ws, hk a List.mem_cons_self _ hb, RpT.stay hr ht (fun b hb => hk b (List.mem_cons_of_mem _ hb)) h4⟩
  | .set xs, v, F, hk, h => by
    obtain ⟨a, S, e, hb, n, z, rfl⟩ := h
    exact ⟨a, S, e, hk a List.mem_cons_self _ hb, n, z, rfl⟩
  | .exc c fs, v, F, hk, h => by
    obtain ⟨a, dx, e, h2, h3, f⟩ := h
    exact ⟨a, dx, e, ht a _ h2 rfl, RpX.stay hr ht h3, f⟩
  | .lam n cs, v, F, hk, h => by
    obtain ⟨a, e, rfl, h3⟩ := h
    exact ⟨a, e, rfl, RpL.stay ht (hk a List.mem_cons_self) h3⟩
theorem RpX.stay (hr : ∀ (l : Nat) (a : Addr), ρ[l]? = some a -> ρ'[l]? = some a) (ht : ∀ a o, H a = some o -> HCell o = false -> H' a = some o) {f : Option Str} {dx : Option Addr} : ∀ {ds : List D}, RpX Z ρ H f dx ds -> RpX Z ρ' H' f dx ds
  | [], h => h
  | d :: r, h => by
    obtain ⟨e, n, x, u, h1, h2, h3, h4⟩ := h
    exact ⟨e, n, x, u, h1, h2, ht x _ h3 rfl, Rp.stay hr ht (by simp) h4⟩
theorem Rps.stay (hr : ∀ (l : Nat) (a : Addr), ρ[l]? = some a -> ρ'[l]? = some a) (ht : ∀ a o, H a = some o -> HCell o = false -> H' a = some o) : ∀ {ds : List D} {vs : List V} {F : List Addr}, (∀ a ∈ F, ∀ o, H a = some o -> H' a = some o) -> Rps Z ρ H ds vs F -> Rps Z ρ' H' ds vs F
  | [], vs, F, hk, h => h
  | d :: ds, vs, F, hk, h => by
    obtain ⟨v, ws, F1, F2, rfl, h1, h2, rfl⟩ := h
    exact ⟨v, ws, F1, F2, rfl, Rp.stay hr ht (fun b hb => hk b (List.mem_append_left _ hb)) h1, Rps.stay hr ht (fun b hb => hk b (List.mem_append_right _ hb)) h2, rfl⟩
theorem RpK.stay (hr : ∀ (l : Nat) (a : Addr), ρ[l]? = some a -> ρ'[l]? = some a) (ht : ∀ a o, H a = some o -> HCell o = false -> H' a = some o) : ∀ {ds : List (Ky × D)} {vs : List (L2.Key × V)} {F : List Addr}, (∀ a ∈ F, ∀ o, H a = some o -> H' a = some o) -> RpK Z ρ H ds vs F -> RpK Z ρ' H' ds vs F
  | [], vs, F, hk, h => h
  | (k, d) :: ds, vs, F, hk, h => by
    obtain ⟨j, v, ws, F1, F2, e, rfl, h1, h2, rfl⟩ := h
    exact ⟨j, v, ws, F1, F2, e, rfl, Rp.stay hr ht (fun b hb => hk b (List.mem_append_left _ hb)) h1, RpK.stay hr ht (fun b hb => hk b (List.mem_append_right _ hb)) h2, rfl⟩
theorem RpT.stay (hr : ∀ (l : Nat) (a : Addr), ρ[l]? = some a -> ρ'[l]? = some a) (ht : ∀ a o, H a = some o -> HCell o = false -> H' a = some o) : ∀ {ds : List (Ky × D)} {vs : List (List L2.Key × V)} {F : List Addr}, (∀ a ∈ F, ∀ o, H a = some o -> H' a = some o) -> RpT Z ρ H ds vs F -> RpT Z ρ' H' ds vs F
  | [], vs, F, hk, h => h
  | (k, d) :: ds, vs, F, hk, h => by
    obtain ⟨j, v, ws, F1, F2, e, rfl, h1, h2, rfl⟩ := h
    exact ⟨j, v, ws, F1, F2, e, rfl, Rp.stay hr ht (fun b hb => hk b (List.mem_append_left _ hb)) h1, RpT.stay hr ht (fun b hb => hk b (List.mem_append_right _ hb)) h2, rfl⟩
end
theorem SR.at (s : SR Z ρ st H) {l : Nat} {c : D} (h : st[l]? = some c) : ∃ a, ρ[l]? = some a /\ isCell c = true /\ Rp Z ρ H c (.ref a) [a] := by
  have hl : l < ρ.length := by rw [s.len]; exact (List.getElem?_eq_some_iff.mp h).1
  exact ⟨ρ[l], List.getElem?_eq_getElem hl, s.kind l c h, s.cell l c _ h (List.getElem?_eq_getElem hl)⟩
theorem SR.at' (s : SR Z ρ st H) {l : Nat} {a : Addr} (h : ρ[l]? = some a) : ∃ c, st[l]? = some c /\ isCell c = true /\ Rp Z ρ H c (.ref a) [a] := by
  have hl : l < st.length := by rw [<- s.len]; exact (List.getElem?_eq_some_iff.mp h).1
  exact ⟨st[l], List.getElem?_eq_getElem hl, s.kind l _ (List.getElem?_eq_getElem hl), s.cell l _ a (List.getElem?_eq_getElem hl) h⟩
theorem Rp.hcell {c : D} {a : Addr} {F : List Addr} (h : Rp Z ρ H c (.ref a) F) (k : isCell c = true) : ∃ o, H a = some o /\ HCell o = true := by
  cases c with
  | lst ds => obtain ⟨b, vs, G, z, h2, _, _⟩ := h; cases z; exact ⟨_, h2, rfl⟩
  | frl ds => obtain ⟨b, o, vs, G, z, h2, _, _⟩ := h; cases z; exact ⟨_, h2, rfl⟩
  | dic kvs => obtain ⟨b, G, z, _, h3⟩ := h; cases z; rcases h3 with ⟨ws, h2, _⟩ | ⟨ws, h2, _⟩ <;> exact ⟨_, h2, rfl⟩
  | set xs => obtain ⟨b, S, z, h2, _⟩ := h; cases z; exact ⟨_, h2, rfl⟩
  | lam n cs => obtain ⟨b, z, _, h2⟩ := h; cases z; exact h2.hc
  | _ => cases k
theorem SR.hcell (s : SR Z ρ st H) {a : Addr} (h : a ∈ ρ) : ∃ o, H a = some o /\ HCell o = true := by
  obtain ⟨l, e⟩ := List.mem_iff_getElem?.mp h
  obtain ⟨c, _, k, r⟩ := s.at' e
  exact r.hcell k
theorem SR.has (s : SR Z ρ st H) {a : Addr} (h : a ∈ ρ) : H a ≠ none := by
  obtain ⟨o, e, _⟩ := s.hcell h
  rw [e]; exact nofun
theorem SR.fresh (s : SR Z ρ st H) {a : Addr} (h : H a = none) : a ∉ ρ := fun z => s.has z h
theorem SR.not_cell (s : SR Z ρ st H) {a : Addr} {o : HO} (h : H a = some o) (k : HCell o = false) : a ∉ ρ := fun z => by
  obtain ⟨u, e, q⟩ := s.hcell z
  rw [h] at e; cases e; rw [k] at q; cases q
theorem Stp.refl {F : List Addr} (n : F.Nodup) (h : ∀ a ∈ F, H a = none) : Stp ρ H ρ H F := ⟨[], by simp, by simpa using n, by simpa using h, fun _ _ e _ => e⟩
theorem Stp.id : Stp ρ H ρ H [] := Stp.refl List.nodup_nil (by simp)
theorem Stp.pre (s : Stp ρ H ρ' H' F) : ∀ (l : Nat) (a : Addr), ρ[l]? = some a -> ρ'[l]? = some a := by
  obtain ⟨N, rfl, _⟩ := s
  intro l a h
  rw [List.getElem?_append_left (List.getElem?_eq_some_iff.mp h).1]
  exact h
theorem Stp.tup (s : Stp ρ H ρ' H' F) (r : SR Z ρ st H) : ∀ a o, H a = some o -> HCell o = false -> H' a = some o := by
  obtain ⟨N, _, _, _, k⟩ := s
  exact fun a o h q => k a o h (r.not_cell h q)
theorem Stp.keep (s : Stp ρ H ρ' H' F) {a : Addr} (h : a ∉ ρ) : ∀ o, H a = some o -> H' a = some o := by
  obtain ⟨N, _, _, _, k⟩ := s
  exact fun o e => k a o e h
theorem Stp.val {d : D} {v : V} {G : List Addr} (s : Stp ρ H ρ' H' F) (r : SR Z ρ st H) (hG : ∀ a ∈ G, a ∉ ρ) (h : Rp Z ρ H d v G) : Rp Z ρ' H' d v G :=
  Rp.stay s.pre (s.tup r) (fun a ha => s.keep (hG a ha)) h
theorem Stp.env {env : Env} {σ : L2.St} (s : Stp ρ H ρ' H' F) (r : SR Z ρ st H) (h : ER Z ρ H env σ) : ER Z ρ' H' env σ :=
  ⟨h.1, fun i d e => let ⟨v, h1, h2⟩ := h.2 i d e; ⟨v, h1, s.val r (by simp) h2⟩⟩
theorem Stp.out (s : Stp ρ H ρ' H' F) (r : SR Z ρ st H) : ∀ a ∈ F, a ∉ ρ' := by
  obtain ⟨N, rfl, n, f, _⟩ := s
  intro a ha z
  rcases List.mem_append.mp z with z | z
  · exact r.has z (f a (List.mem_append_right _ ha))
  · exact (List.nodup_append.mp n).2.2 a z a ha rfl
theorem Stp.trans {G : List Addr} (s : Stp ρ H ρ₁ H₁ F) (t : Stp ρ₁ H₁ ρ₂ H₂ G) (r : SR Z ρ st H) (r₁ : SR Z ρ₁ st₁ H₁) (hF : ∀ a ∈ F, H₁ a ≠ none) : Stp ρ H ρ₂ H₂ (F ++ G) := by
  have out := s.out r
  obtain ⟨N, rfl, n, f, k⟩ := s
  obtain ⟨N', rfl, n', f', k'⟩ := t
  have old : ∀ a ∈ N' ++ G, H a = none := fun a ha => by
    cases e : H a with
    | none => rfl
    | some o =>
      have z : a ∉ ρ := fun z => r₁.has (List.mem_append_left _ z) (f' a ha)
      have q := k a o e z
      rw [f' a ha] at q; cases q
  refine ⟨N ++ N', by simp [List.append_assoc], ?_, ?_, fun a o e z => ?_⟩
  · have nF := (List.nodup_append.mp n)
    have nG := (List.nodup_append.mp n')
    rw [List.append_assoc]
    refine List.nodup_append.mpr ⟨nF.1, ?_, ?_⟩
    · rw [<- List.append_assoc]
      refine List.nodup_append.mpr ⟨List.nodup_append.mpr ⟨nG.1, nF.2.1, ?_⟩, nG.2.1, ?_⟩
      · intro a ha b hb e
        subst e
        exact hF a hb (f' a (List.mem_append_left _ ha))
      · intro a ha b hb e
        subst e
        rcases List.mem_append.mp ha with ha | ha
        · exact nG.2.2 a ha a hb rfl
        · exact hF a ha (f' a (List.mem_append_right _ hb))
    · intro a ha b hb e
      subst e
      rcases List.mem_append.mp hb with hb | hb
      · exact r₁.has (List.mem_append_right _ ha) (f' a (List.mem_append_left _ hb))
      · rcases List.mem_append.mp hb with hb | hb
        · exact nF.2.2 a ha a hb rfl
        · exact r₁.has (List.mem_append_right _ ha) (f' a (List.mem_append_right _ hb))
  · intro a ha
    rw [List.append_assoc] at ha
    rcases List.mem_append.mp ha with ha | ha
    · exact f a (List.mem_append_left _ ha)
    · rw [<- List.append_assoc] at ha
      rcases List.mem_append.mp ha with ha | ha
      · rcases List.mem_append.mp ha with ha | ha
        · exact old a (List.mem_append_left _ ha)
        · exact f a (List.mem_append_right _ ha)
      · exact old a (List.mem_append_right _ ha)
  · have q := k a o e z
    refine k' a o q fun y => ?_
    rcases List.mem_append.mp y with y | y
    · exact z y
    · rw [f a (List.mem_append_left _ y)] at e; cases e
theorem Stp.less {G : List Addr} (s : Stp ρ H ρ' H' F) (h : G.Sublist F) : Stp ρ H ρ' H' G := by
  obtain ⟨N, rfl, n, f, k⟩ := s
  refine ⟨N, rfl, n.sublist (List.Sublist.append (List.Sublist.refl _) h), fun a ha => f a ?_, k⟩
  exact (List.Sublist.append (List.Sublist.refl _) h).subset ha
theorem Stp.none (s : Stp ρ H ρ' H' F) : Stp ρ H ρ' H' [] := s.less (List.nil_sublist _)
theorem Stp.nodup (s : Stp ρ H ρ' H' F) : F.Nodup := by
  obtain ⟨N, rfl, n, f, k⟩ := s
  exact (List.nodup_append.mp n).2.1
theorem Gb.step {N : List Addr} (g : Gb Z ρ H) (k : ∀ a o, H a = some o -> HCell o = false -> H' a = some o) : Gb Z (ρ ++ N) H' := fun p hp =>
  ⟨let ⟨M, e⟩ := (g p hp).1; ⟨M ++ N, by rw [e, List.append_assoc]⟩, fun a o ha hn => k a o ((g p hp).2 a o ha hn) hn⟩
theorem Gb.up (g : Gb Z ρ H) (k : ∀ a o, H a = some o -> HCell o = false -> H' a = some o) : Gb Z ρ H' := fun p hp => ⟨(g p hp).1, fun a o e n => k a o ((g p hp).2 a o e n) n⟩
end
end Fs
namespace Fs
open PySem L2
def XcR (Z : Wc) (ρ : List Addr) (H : Hp) (e : D) (cls : Value) (dx : Option Addr) : Prop :=
  ∃ c fs, e = .exc c fs /\ cls = .ref (Z.ca c) /\ RpX Z ρ H (Z.fl c) dx fs
abbrev Rel (α β : Type) := List Addr -> Hp -> α -> β -> List Addr -> Prop
def Post {α β : Type} (rel : Rel α β) (Z : Wc) (W : WX) (r : R α) (ρ : List Addr) (σ : L2.St) (H : Hp) (Q : β -> Hp -> Prop) : Prop := match r with
  | .ok d st' => ∀ ρ' H' v F, Stp ρ H ρ' H' F -> SR Z ρ' st' H' -> rel ρ' H' d v F -> Q v H'
  | .exc e st' => ∀ ρ' H' cls dx, Stp ρ H ρ' H' [] -> SR Z ρ' st' H' -> XcR Z ρ' H' e cls dx -> W cls dx σ H'
  | .bad => False
structure Now (Z : Wc) (ρ : List Addr) (H : Hp) (ρ' : List Addr) (st' : Sto) (H' : Hp) (F : List Addr) : Prop where
  stp : Stp ρ H ρ' H' F
  sr : SR Z ρ' st' H'
  th : ∀ a ∈ F, H' a ≠ none
  out : ∀ a ∈ F, a ∉ ρ'
  nd : F.Nodup
section
variable {Z : Wc} {W : WX} {ρ ρ' ρ₁ ρ₂ : List Addr} {H H' H₁ H₂ : Hp} {st st' st₁ : Sto} {F F' F₁ F₂ G : List Addr} {σ : L2.St} {α β γ δ : Type} {rel : Rel α β} {rel₁ : Rel γ δ}
structure RelOk (Z : Wc) (rel : Rel α β) : Prop where
  there : ∀ {ρ H d v F}, rel ρ H d v F -> ∀ a ∈ F, H a ≠ none
  stay : ∀ {ρ H ρ' H' d v F}, (∀ (l : Nat) (a : Addr), ρ[l]? = some a -> ρ'[l]? = some a) -> (∀ a o, H a = some o -> HCell o = false -> H' a = some o) -> (∀ a ∈ F, ∀ o, H a = some o -> H' a = some o) -> rel ρ H d v F -> rel ρ' H' d v F
theorem rpOk : RelOk Z (Rp Z) := ⟨fun h => h.there, fun hr ht hk h => h.stay hr ht hk⟩
theorem rpsOk : RelOk Z (Rps Z) := ⟨fun h => h.there, fun hr ht hk h => h.stay hr ht hk⟩
def RelEq (α : Type) : Rel α α := fun _ _ a b F => a = b /\ F = []
theorem reqOk : RelOk Z (RelEq α) := ⟨fun h a ha => (by rw [h.2] at ha; cases ha), fun _ _ _ h => h⟩
theorem Now.start (s : SR Z ρ st H) : Now Z ρ H ρ st H [] := ⟨Stp.id, s, by simp, by simp, List.nodup_nil⟩
theorem Now.more (n : Now Z ρ H ρ₁ st₁ H₁ F) (s : SR Z ρ st H) (t : Stp ρ₁ H₁ ρ₂ H₂ G) (sr : SR Z ρ₂ st' H₂) (g : ∀ a ∈ G, H₂ a ≠ none) : Now Z ρ H ρ₂ st' H₂ (F ++ G) := by
  have tr := n.stp.trans t s n.sr n.th
  refine ⟨tr, sr, fun a ha => ?_, fun a ha => ?_, tr.nodup⟩
  · rcases List.mem_append.mp ha with ha | ha
    · have := n.th a ha
      intro z
      cases e : H₁ a with
      | none => exact this e
      | some o => have q := t.keep (n.out a ha) o e; rw [z] at q; cases q
    · exact g a ha
  · rcases List.mem_append.mp ha with ha | ha
    · obtain ⟨N, e, _, f, _⟩ := t
      intro z
      rw [e] at z
      rcases List.mem_append.mp z with z | z
      · exact n.out a ha z
      · exact n.th a ha (f a (List.mem_append_left _ z))
    · exact t.out n.sr a ha
theorem Now.less (n : Now Z ρ H ρ₁ st₁ H₁ F) (h : G.Sublist F) : Now Z ρ H ρ₁ st₁ H₁ G :=
  ⟨n.stp.less h, n.sr, fun a ha => n.th a (h.subset ha), fun a ha => n.out a (h.subset ha), n.nd.sublist h⟩
theorem Post.mono {r : R α} {Q Q' : β -> Hp -> Prop} (h : Post rel Z W r ρ σ H Q) (q : ∀ v H', Q v H' -> Q' v H') : Post rel Z W r ρ σ H Q' := by
  cases r with
  | ok d s => exact fun ρ' H' v F a b c => q v H' (h ρ' H' v F a b c)
  | exc e s => exact h
  | bad => exact h
theorem Post.seq (ok : RelOk Z rel₁) {m : M γ} {f : γ -> M α} {Q : β -> Hp -> Prop} (n : Now Z ρ H ρ₁ st₁ H₁ F) (s : SR Z ρ st H) (h : Post rel Z W (bnd m f st₁) ρ σ H Q) :
    Post rel₁ Z W (m st₁) ρ₁ σ H₁ (fun v H' => ∃ ρ' d st' G, Now Z ρ H ρ' st' H' (F ++ G) /\ Stp ρ₁ H₁ ρ' H' G /\ rel₁ ρ' H' d v G /\ Post rel Z W (f d st') ρ σ H Q) := by
  unfold bnd at h
  cases e : m st₁ with
  | ok d s' =>
    rw [e] at h
    exact fun ρ' H' v G t sr r => ⟨ρ', d, s', G, n.more s t sr (ok.there r), t, r, h⟩
  | exc x s' =>
    rw [e] at h
    exact fun ρ' H' cls dx t sr r => h ρ' H' cls dx (n.more s t sr (by simp)).stp.none sr r
  | bad => rw [e] at h; exact h
theorem Post.tail (ok : RelOk Z rel) {r : R α} {Q : β -> Hp -> Prop} (n : Now Z ρ H ρ₁ st₁ H₁ F) (s : SR Z ρ st H) (h : Post rel Z W r ρ σ H Q) : Post rel Z W r ρ₁ σ H₁ Q := by
  cases r with
  | ok d s' => exact fun ρ' H' v G t sr q => h ρ' H' v G ((n.more s t sr (ok.there q)).stp.less (List.sublist_append_right _ _)) sr q
  | exc x s' => exact fun ρ' H' cls dx t sr q => h ρ' H' cls dx (n.more s t sr (by simp)).stp.none sr q
  | bad => exact h
theorem Post.ret {d : α} {v : β} {Q : β -> Hp -> Prop} (h : Post rel Z W (ret d st') ρ σ H Q) (n : Now Z ρ H ρ' st' H' F) (r : rel ρ' H' d v F) : Q v H' := h ρ' H' v F n.stp n.sr r
theorem Post.ok {d : α} {v : β} {Q : β -> Hp -> Prop} (h : Post rel Z W (.ok d st') ρ σ H Q) (n : Now Z ρ H ρ' st' H' F) (r : rel ρ' H' d v F) : Q v H' := h ρ' H' v F n.stp n.sr r
theorem Now.new (n : Now Z ρ H ρ' st' H' F) (s : SR Z ρ st H) {p : Addr} {o : HO} (hp : H' p = none) : Now Z ρ H ρ' st' (upd H' p o) (p :: F) := by
  have hpr : p ∉ ρ' := n.sr.fresh hp
  have hpF : p ∉ F := fun z => n.th p z hp
  have up : ∀ a u, H' a = some u -> upd H' p o a = some u := fun a u e => by rw [upd_ne (fun z => by rw [z, hp] at e; cases e)]; exact e
  obtain ⟨N, rfl, nd, f, k⟩ := n.stp
  have h0 : H p = none := by
    cases e : H p with
    | none => rfl
    | some u =>
      have := k p u e (fun z => hpr (List.mem_append_left _ z))
      rw [hp] at this; cases this
  refine ⟨⟨N, rfl, ?_, ?_, fun a u e z => up a u (k a u e z)⟩, ?_, ?_, ?_, List.nodup_cons.mpr ⟨hpF, n.nd⟩⟩
  · have q := List.nodup_append.mp nd
    refine List.nodup_append.mpr ⟨q.1, List.nodup_cons.mpr ⟨hpF, n.nd⟩, ?_⟩
    intro a ha b hb e
    subst e
    rcases List.mem_cons.mp hb with rfl | hb
    · exact hpr (List.mem_append_right _ ha)
    · exact q.2.2 a ha a hb rfl
  · intro a ha
    rcases List.mem_append.mp ha with ha | ha
    · exact f a (List.mem_append_left _ ha)
    · rcases List.mem_cons.mp ha with rfl | ha
      · exact h0
      · exact f a (List.mem_append_right _ ha)
  · refine ⟨n.sr.len, n.sr.nd, n.sr.kind, fun l c a h1 h2 => ?_, n.sr.gb.up fun a u e _ => up a u e⟩
    exact Rp.stay (fun _ _ e => e) (fun a u e _ => up a u e) (fun b _ u e => up b u e) (n.sr.cell l c a h1 h2)
  · intro a ha
    rcases List.mem_cons.mp ha with rfl | ha
    · rw [upd_same]; exact nofun
    · intro z
      cases e : H' a with
      | none => exact n.th a ha e
      | some u => rw [up a u e] at z; cases z
  · intro a ha
    rcases List.mem_cons.mp ha with rfl | ha
    · exact hpr
    · exact n.out a ha
theorem rp_up {p : Addr} {o : HO} (hp : H' p = none) {d : D} {v : V} (h : Rp Z ρ' H' d v F) : Rp Z ρ' (upd H' p o) d v F := by
  have up : ∀ a u, H' a = some u -> upd H' p o a = some u := fun a u e => by rw [upd_ne (fun z => by rw [z, hp] at e; cases e)]; exact e
  exact Rp.stay (fun _ _ e => e) (fun a u e _ => up a u e) (fun b _ u e => up b u e) h
theorem rps_up {p : Addr} {o : HO} (hp : H' p = none) {d : List D} {v : List V} (h : Rps Z ρ' H' d v F) : Rps Z ρ' (upd H' p o) d v F := by
  have up : ∀ a u, H' a = some u -> upd H' p o a = some u := fun a u e => by rw [upd_ne (fun z => by rw [z, hp] at e; cases e)]; exact e
  exact Rps.stay (fun _ _ e => e) (fun a u e _ => up a u e) (fun b _ u e => up b u e) h
theorem Rps.append : ∀ {xs ys : List D} {vs ws : List V} {F G : List Addr}, Rps Z ρ H xs vs F -> Rps Z ρ H ys ws G -> Rps Z ρ H (xs ++ ys) (vs ++ ws) (F ++ G)
  | [], ys, vs, ws, F, G, h, k => by obtain ⟨rfl, rfl⟩ := h; exact k
  | x :: xs, ys, vs, ws, F, G, h, k => by
    obtain ⟨v, ws', F1, F2, rfl, h1, h2, rfl⟩ := h
    exact ⟨v, ws' ++ ws, F1, F2 ++ G, rfl, h1, Rps.append h2 k, by simp [List.append_assoc]⟩
theorem lstv_ok {d : D} {x : V} {xs : List D} (s : SR Z ρ st H) (r : Rp Z ρ H d x F) (e : lstv st d = some xs) :
    ∃ a vs G, x = .ref a /\ H a = some (.lst vs) /\ Rps Z ρ H xs vs G /\ G.Sublist F := by
  cases d with
  | lst ds =>
    cases e
    obtain ⟨a, vs, G, rfl, h, r', rfl⟩ := r
    exact ⟨a, vs, G, rfl, h, r', List.sublist_cons_self _ _⟩
  | ref l =>
    obtain ⟨a, hl, rfl, rfl⟩ := r
    cases hc : st[l]? with
    | none => simp [lstv, hc] at e
    | some c =>
      have rc := s.cell l c a hc hl
      cases c with
      | lst ds =>
        simp only [lstv, hc, Option.some.injEq] at e
        subst e
        obtain ⟨a', vs, G, z, h, r', f⟩ := rc
        cases z
        obtain rfl : G = [] := by injection f with _ f; exact f.symm
        exact ⟨a, vs, [], rfl, h, r', List.Sublist.refl _⟩
      | _ => simp [lstv, hc] at e
  | _ => simp [lstv] at e
theorem seqx_ok {d : D} {x : V} {xs : List D} (s : SR Z ρ st H) (r : Rp Z ρ H d x F) (e : seqv st d = some xs) :
    ∃ a vs G, x = .ref a /\ (SqL Z.K H a vs ∨ SqX H a vs) /\ Rps Z ρ H xs vs G /\ G.Sublist F := by
  by_cases ht : ∃ ys, d = .tup ys
  · obtain ⟨ys, rfl⟩ := ht
    cases e
    obtain ⟨a, vs, rfl, h, r'⟩ := r
    exact ⟨a, vs, F, rfl, .inr h, r', List.Sublist.refl _⟩
  · by_cases hf : ∃ l ys, d = .ref l /\ st[l]? = some (.frl ys)
    · obtain ⟨l, ys, rfl, hc⟩ := hf
      obtain ⟨a, hl, rfl, rfl⟩ := r
      have rc := s.cell l _ a hc hl
      simp only [seqv, hc, Option.some.injEq] at e
      subst e
      obtain ⟨a', o, vs, G, z, h, r', f⟩ := rc
      cases z
      obtain rfl : G = [] := by injection f with _ f; exact f.symm
      exact ⟨a, vs, [], rfl, .inl (.inl (.inr ⟨o, h⟩)), r', List.Sublist.refl _⟩
    · have e' : lstv st d = some xs := by
        cases d with
        | tup ys => exact (ht ⟨ys, rfl⟩).elim
        | ref l =>
          cases hc : st[l]? with
          | none => simp [seqv, hc] at e
          | some c => cases c with
            | frl ys => exact (hf ⟨l, ys, rfl, hc⟩).elim
            | lst ys => simpa [seqv, lstv, hc] using e
            | _ => simp [seqv, hc] at e
        | _ => simpa [seqv, lstv] using e
      obtain ⟨a, vs, G, rfl, h, r', f⟩ := lstv_ok s r e'
      exact ⟨a, vs, G, rfl, .inl (SqL.of h), r', f⟩
theorem seqv_ok {d : D} {x : V} {xs : List D} (s : SR Z ρ st H) (r : Rp Z ρ H d x F) (e : seqv st d = some xs) :
    ∃ a vs G, x = .ref a /\ (SqL Z.K H a vs ∨ SqT Z.K H a vs) /\ Rps Z ρ H xs vs G /\ G.Sublist F :=
  let ⟨a, vs, G, h1, h2, h3⟩ := seqx_ok s r e
  ⟨a, vs, G, h1, h2.imp id SqX.t, h3⟩
theorem Rps.get : ∀ {xs : List D} {vs : List V} {F : List Addr} {i : Nat} {y : D}, Rps Z ρ H xs vs F -> xs[i]? = some y -> ∃ v G, vs[i]? = some v /\ Rp Z ρ H y v G /\ G.Sublist F
  | [], vs, F, i, y, h, e => by simp at e
  | x :: xs, vs, F, 0, y, h, e => by
    obtain ⟨v, ws, F1, F2, rfl, h1, h2, rfl⟩ := h
    cases e
    exact ⟨v, F1, rfl, h1, List.sublist_append_left _ _⟩
  | x :: xs, vs, F, i + 1, y, h, e => by
    obtain ⟨v, ws, F1, F2, rfl, h1, h2, rfl⟩ := h
    obtain ⟨u, G, a, b, c⟩ := Rps.get (i := i) h2 (by simpa using e)
    exact ⟨u, G, by simpa using a, b, c.trans (List.sublist_append_right _ _)⟩
theorem Rps.take : ∀ {xs : List D} {vs : List V} {F : List Addr} (n : Nat), Rps Z ρ H xs vs F -> ∃ G, Rps Z ρ H (xs.take n) (vs.take n) G /\ G.Sublist F
  | xs, vs, F, 0, h => ⟨[], by simp [Rps], List.nil_sublist _⟩
  | [], vs, F, n + 1, h => by obtain ⟨rfl, rfl⟩ := h; exact ⟨[], by simp [Rps], List.nil_sublist _⟩
  | x :: xs, vs, F, n + 1, h => by
    obtain ⟨v, ws, F1, F2, rfl, h1, h2, rfl⟩ := h
    obtain ⟨G, a, b⟩ := Rps.take n h2
    exact ⟨F1 ++ G, ⟨v, ws.take n, F1, G, rfl, h1, a, rfl⟩, List.Sublist.append (List.Sublist.refl _) b⟩
theorem Rps.drop : ∀ {xs : List D} {vs : List V} {F : List Addr} (n : Nat), Rps Z ρ H xs vs F -> ∃ G, Rps Z ρ H (xs.drop n) (vs.drop n) G /\ G.Sublist F
  | xs, vs, F, 0, h => ⟨F, h, List.Sublist.refl _⟩
  | [], vs, F, n + 1, h => by obtain ⟨rfl, rfl⟩ := h; exact ⟨[], by simp [Rps], List.nil_sublist _⟩
  | x :: xs, vs, F, n + 1, h => by
    obtain ⟨v, ws, F1, F2, rfl, h1, h2, rfl⟩ := h
    obtain ⟨G, a, b⟩ := Rps.drop n h2
    exact ⟨G, a, b.trans (List.sublist_append_right _ _)⟩
mutual
theorem Rp.pure : ∀ {d : D} {v : V} {F : List Addr}, D.pur d = true -> Rp Z ρ H d v F -> F = []
  | .non, v, F, p, h => h.2
  | .bl b, v, F, p, h => h.2
  | .int i, v, F, p, h => h.2
  | .str s, v, F, p, h => h.2
  | .ref l, v, F, p, h => by obtain ⟨_, _, _, f⟩ := h; exact f
  | .tup ds, v, F, p, h => by obtain ⟨a, vs, _, _, r⟩ := h; exact Rps.pure (by simpa [D.pur] using p) r
  | .exc c fs, v, F, p, h => by obtain ⟨_, _, _, _, _, f⟩ := h; exact f
  | .lst _, v, F, p, h => by simp [D.pur] at p
  | .frl _, v, F, p, h => by simp [D.pur] at p
  | .dic _, v, F, p, h => by simp [D.pur] at p
  | .set _, v, F, p, h => by simp [D.pur] at p
  | .lam _ _, v, F, p, h => by simp [D.pur] at p
theorem Rps.pure : ∀ {ds : List D} {vs : List V} {F : List Addr}, D.purs ds = true -> Rps Z ρ H ds vs F -> F = []
  | [], vs, F, p, h => h.2
  | d :: ds, vs, F, p, h => by
    obtain ⟨v, ws, F1, F2, rfl, h1, h2, rfl⟩ := h
    simp only [D.purs, Bool.and_eq_true] at p
    rw [Rp.pure p.1 h1, Rps.pure p.2 h2]
    rfl
end
theorem Rps.rep {xs : List D} {vs : List V} (h : Rps Z ρ H xs vs []) : ∀ k : Nat, Rps Z ρ H (rep k xs) (List.replicate k vs).flatten []
  | 0 => by simp [Fs.rep, Rps]
  | k + 1 => by
    have := Rps.append h (Rps.rep h k)
    simpa [Fs.rep, List.replicate_succ] using this
end
end Fs
namespace Fs
open PySem L2
def rB (Z : Wc) (W : WX) (σ : L2.St) (f : D -> D -> M D) : R2 := fun x y H2 Q => ∃ ρ st H ρ2 st2 d1 d2 F1 F2, SR Z ρ st H /\ Now Z ρ H ρ2 st2 H2 (F1 ++ F2) /\ Rp Z ρ2 H2 d1 x F1 /\ Rp Z ρ2 H2 d2 y F2 /\ Post (Rp Z) Z W (f d1 d2 st2) ρ σ H Q
def pyB : Bop -> Operator
  | .add => .Add | .sub => .Sub | .mul => .Mult | .fdiv => .FloorDiv | .mod => .Mod | .pow => .Pow | .shl => .LShift | .shr => .RShift | .band => .BitAnd | .bxor => .BitXor
section
variable {X : Cx} {Z : Wc} {W : WX} {σ0 : L2.St}
theorem op_fdivX : OpR X (binaryOp .FloorDiv) (rI (fun _ j => j ≠ 0 /\ j.natAbs.log2 < 9000) fun i j => .int (i.fdiv j)) := opI fun i j _ _ _ _ _ hc q => PyProof.Rows.floordiv_int hc.1 q (.inl (PyProof.noPylong_of_log2 hc.2))
theorem int_ok {op : Bop} {i j r : Int} (e : intOp op i j = some r) {pins : List (Addr × Obj)} {s : Shared} {σ : L2.St} {H : Hp} {Q : VK} {v u : Value} (I : Inv X pins σ H s) (rx : RelV (.int i) v) (ry : RelV (.int j) u) (q : Q (.int r) H) :
    wpAny (model X.prog X.w) X.A (binaryOp (pyB op) v u) (EP X pins σ Q) X.xe s := by
  cases op with
  | add => cases e; exact op_add pins s σ H _ _ v u Q I rx ry ⟨i, j, rfl, rfl, q⟩
  | sub => cases e; exact op_sub pins s σ H _ _ v u Q I rx ry ⟨i, j, rfl, rfl, q⟩
  | mul =>
    simp only [intOp] at e
    split at e
    · cases e; rename_i c; exact op_mulW pins s σ H _ _ v u Q I rx ry ⟨i, j, rfl, rfl, c, q⟩
    · cases e
  | fdiv =>
    simp only [intOp] at e
    split at e
    · cases e; rename_i c; exact op_fdivX pins s σ H _ _ v u Q I rx ry ⟨i, j, rfl, rfl, c, q⟩
    · cases e
  | mod =>
    simp only [intOp] at e
    split at e
    · cases e; rename_i c; exact op_modN pins s σ H _ _ v u Q I rx ry ⟨i, j, rfl, rfl, c, q⟩
    · cases e
  | pow =>
    simp only [intOp] at e
    split at e
    · cases e; rename_i c; exact op_pow pins s σ H _ _ v u Q I rx ry ⟨i, j, rfl, rfl, c, q⟩
    · cases e
  | shl =>
    simp only [intOp] at e
    split at e
    · cases e; rename_i c; exact op_shl pins s σ H _ _ v u Q I rx ry ⟨i, j, rfl, rfl, c, q⟩
    · cases e
  | shr =>
    simp only [intOp] at e
    split at e
    · cases e; rename_i c; exact op_shr pins s σ H _ _ v u Q I rx ry ⟨i, j, rfl, rfl, c, q⟩
    · cases e
  | band => cases e; exact op_and pins s σ H _ _ v u Q I rx ry ⟨i, j, rfl, rfl, q⟩
  | bxor => cases e; exact op_xor pins s σ H _ _ v u Q I rx ry ⟨i, j, rfl, rfl, q⟩
end
end Fs
namespace Fs
open PySem L2 PyProof.Rows PySem.Spec
section
variable {X : L2.Cx} {pins : List (Addr × Obj)} {σ : L2.St} {H : Hp} {s : Shared} {es : List Expr} {t : TA} {pos : Pos}
theorem new_tup {xs : List V} {us : List Value} {tk : Nat} {Q : VK} (I : Inv X pins σ H s) (r : Vals xs us) (z : xs.length <= sizeLine)
    (q : ∀ p o, NwT o -> H p = none -> Q (.ref p) (upd H p (.frz o (.tup xs)))) :
    EP X pins σ Q (.ref s.heap.objs.size) { s with heap := s.heap.push { cls := .type "tuple", data := .seq us.toArray }, toks := tk } :=
  ⟨.ref s.heap.objs.size, upd H s.heap.objs.size (.frz { cls := .type "tuple", data := .seq us.toArray } (.tup xs)),
    I.laid (t' := tk) (fun _ _ e => Heap.get?_push_of_some _ e) (Nat.le_refl _) ⟨Heap.get?_push_size _ rfl, z, us, r, IsTup.new _ _⟩, rfl, q _ _ ⟨rfl, rfl⟩ (I.hok.fresh (Nat.le_refl _))⟩
def tTupX (t : TA) : TE := fun σ H Q => t σ H fun xs H1 => xs.length <= sizeLine /\ ∀ p o, NwT o -> H1 p = none -> Q (.ref p) (upd H1 p (.frz o (.tup xs)))
theorem pe_tupX {k : Nat} (h : PA X es t) : PE X (.Tuple es k pos) (tTupX t) :=
  ⟨fun pins s σ H Q I hq => wpAny_Tuple_spliced (thn (h.run pos pins s σ H _ I hq) fun us s1 ⟨xs, H1, J, r, z, q⟩ => ⟨by rw [<- r.length]; exact z, new_tup (tk := s1.toks) J r z q⟩)⟩
def rCatX (K : PySem.W.Frag) : R2 := fun x y H Q => ∃ a b xs ys, x = .ref a /\ y = .ref b /\ SqT K H a xs /\ SqT K H b ys /\ xs.length + ys.length <= sizeLine /\
  (xs = [] -> Q (.ref b) H) /\ (xs ≠ [] -> ys = [] -> Q (.ref a) H) /\ (xs ≠ [] -> ys ≠ [] -> ∀ p o, NwT o -> H p = none -> Q (.ref p) (upd H p (.frz o (.tup (xs ++ ys)))))
theorem op_catX : OpR X (binaryOp .Add) (rCatX X.K) := by
  intro pins s σ H x y v u Q I rx ry ⟨a, b, xs, ys, e1, e2, ha, hb, hz, q0, q1, q2⟩
  by_cases hx : xs = []
  · exact op_catA pins s σ H x y v u Q I rx ry ⟨a, b, xs, ys, e1, e2, ha, hb, hz, q0, q1, fun n => absurd hx n⟩
  subst e1 e2
  cases rx
  cases ry
  obtain ⟨i1, r1, p1, _⟩ := I.tuple ha
  obtain ⟨i2, r2, p2, _⟩ := I.tuple hb
  refine HT.cat_tup p1 p2 (fun z => hx (r1.nil_iff.mp z)) (fun z => ⟨.ref a, H, I, rfl, q1 hx (r2.nil_iff.mp z)⟩) (fun z => ?_) (by rw [<- r1.length, <- r2.length]; exact hz)
  have key := new_tup (tk := s.toks) (Q := Q) I (r1.append r2) (by rw [List.length_append]; exact hz) (q2 hx fun w => z (r2.nil_iff.mpr w))
  exact key
def rSlX (K : PySem.W.Frag) : V -> Option Int -> Option Int -> Hp -> VK -> Prop := fun x lo hi H Q => ∃ a xs, x = .ref a /\ SqT K H a xs /\
  (HT.sIx xs.length 0 lo = 0 /\ HT.sIx xs.length xs.length hi = xs.length -> Q (.ref a) H) /\
  (¬ (HT.sIx xs.length 0 lo = 0 /\ HT.sIx xs.length xs.length hi = xs.length) -> ∀ p o, NwT o -> H p = none -> Q (.ref p) (upd H p (.frz o (.tup (cutV xs lo hi)))))
theorem sl_tupX : SlR X (rSlX X.K) := by
  intro pins s σ H x v vl vu lo hi sl Q I rx hs pl pu ⟨a, xs, e1, hx, q1, q2⟩
  by_cases hw : HT.sIx xs.length 0 lo = 0 /\ HT.sIx xs.length xs.length hi = xs.length
  · exact sl_tupA pins s σ H x v vl vu lo hi sl Q I rx hs pl pu ⟨a, xs, e1, hx, q1, fun n => absurd hw n⟩
  subst e1
  cases rx
  obtain ⟨is, r, ht, hz⟩ := I.tuple hx
  have hlen : is.toArray.size = xs.length := by rw [List.size_toArray, r.length]
  refine ⟨"tuple", _, PyProof.Rows.slot_tuple_getitem.lookup, ht.typeIs, HT.getItem_tuple_cut ht hs pl pu (by rw [hlen]; exact hw) ?_ (by rw [hlen]; exact hz)⟩
  rw [hlen]
  have key := new_tup (tk := s.toks) (Q := Q) I ((r.drop (HT.sIx xs.length 0 lo)).take (HT.sIx xs.length xs.length hi - HT.sIx xs.length 0 lo)) (Nat.le_trans (cutV_length xs lo hi) hz) (q2 hw)
  exact key
theorem call_tupleX : CallR X (.type "tuple") (fun xs H Q => ∃ p ys, xs = [.ref p] /\ SqL X.K H p ys /\ ∀ l o, NwT o -> H l = none -> Q (.ref l) (upd H l (.frz o (.tup ys)))) := by
  intro pins s σ H xs us Q I r ⟨p, ys, e1, hq, q⟩
  subst e1
  obtain ⟨u, e2, rx⟩ := vals1 r
  subst e2
  cases rx
  obtain ⟨is, rv, pl, hz⟩ := I.list hq
  refine call_tuple_list pl.isList (fun h' kp => ?_) (by have := rv.length; simp only [List.size_toArray]; omega)
  have J : Inv X pins σ H { s with heap := h' } := I.kept (t' := s.toks) kp
  have key := new_tup (tk := s.toks) (Q := Q) J rv hz q
  exact key
end
end Fs
namespace Fs
open PySem L2
section
variable (T : Tbl) (Z : Wc) (W : WX)
def iE (e : Ex) : TE := fun σ H Q => ∃ ρ env st, ER Z ρ H env σ /\ SR Z ρ st H /\ Post (Rp Z) Z W (ev T e env st) ρ σ H Q
def iEs (es : List Ex) : TA := fun σ H Q => ∃ ρ env st, ER Z ρ H env σ /\ SR Z ρ st H /\ Post (Rps Z) Z W (evs T es env st) ρ σ H Q
def iT (c : Cn) : TT := fun σ H Q => ∃ ρ env st, ER Z ρ H env σ /\ SR Z ρ st H /\ Post (RelEq Bool) Z W (evT T c env st) ρ σ H Q
end
section
variable {X : Cx} {T : Tbl} {Z : Wc} {W : WX} {a b c e : Expr} {A B C : Ex} {pos : Pos}
theorem pe_weak {t t' : TE} (h : PE X e t) (w : ∀ σ H Q, t' σ H Q -> t σ H Q) : PE X e t' := ⟨fun pins s σ H Q I q => h.run pins s σ H Q I (w σ H Q q)⟩
theorem pt_weak {t t' : TT} (h : PT X e t) (w : ∀ σ H Q, t' σ H Q -> t σ H Q) : PT X e t' := ⟨fun pins s σ H Q I q => h.run pins s σ H Q I (w σ H Q q)⟩
theorem pa_weak {es : List Expr} {t t' : TA} (h : PA X es t) (w : ∀ σ H Q, t' σ H Q -> t σ H Q) : PA X es t' := ⟨fun p pins s σ H Q I q => h.run p pins s σ H Q I (w σ H Q q)⟩
theorem se_loc {i : Nat} {x : Str} (hN : X.N[i]? = some x) (hv : Vis X.env.scope x) (hd : (x == ("__debug__" : Str)) = false) (hcd : (x == ("__classdict__" : Str)) = false) : PE X (.Name x pos) (iE T Z W (.loc i)) := by
  refine pe_weak (pe_var hN hv hd hcd) fun σ H Q ⟨ρ, env, st, er, sr, h⟩ => ?_
  simp only [ev] at h
  cases ei : env[i]? with
  | none => rw [ei] at h; exact h.elim
  | some o => cases o with
    | none => rw [ei] at h; exact h.elim
    | some d =>
      rw [ei] at h
      obtain ⟨v, hv, rv⟩ := er.2 i d ei
      exact ⟨v, hv, h.ret (Now.start sr) rv⟩
theorem con_ok {d : D} {v : V} (hr : ∀ ρ H, Rp Z ρ H d v []) {σ : L2.St} {H : Hp} {Q : VK} (h : iE T Z W (.con d) σ H Q) : tC v σ H Q := by
  obtain ⟨ρ, env, st, er, sr, h⟩ := h
  exact Post.ret (d := d) (by simpa only [ev] using h) (Now.start sr) (hr ρ H)
theorem se_int {i : Int} {j : Nat} : PE X (.Constant (.int i) j pos) (iE T Z W (.con (.int i))) := pe_weak pe_int fun _ _ _ => con_ok (d := .int i) fun _ _ => by exact ⟨rfl, rfl⟩
theorem se_bl {i : Bool} {j : Nat} : PE X (.Constant (.bool i) j pos) (iE T Z W (.con (.bl i))) := pe_weak pe_bl fun _ _ _ => con_ok (d := .bl i) fun _ _ => by exact ⟨rfl, rfl⟩
theorem se_str {i : Str} {j : Nat} : PE X (.Constant (.str i) j pos) (iE T Z W (.con (.str i))) := pe_weak pe_str fun _ _ _ => con_ok (d := .str i) fun _ _ => by exact ⟨rfl, rfl⟩
theorem se_non {j : Nat} : PE X (.Constant .none j pos) (iE T Z W (.con .non)) := pe_weak pe_non fun _ _ _ => con_ok (d := .non) fun _ _ => by exact ⟨rfl, rfl⟩
theorem se_glob {x : Str} {d : D} {v : V} {u : Value} (hg : Gl X x) (hm : X.mg x = some u) (r : RelV v u) (hr : ∀ ρ H, Rp Z ρ H d v []) (hd : (x == ("__debug__" : Str)) = false) : PE X (.Name x pos) (iE T Z W (.con d)) :=
  pe_weak (pe_glob hg hm r hd) fun _ _ _ => con_ok hr
theorem two_ok {f : D -> D -> M D} {σ : L2.St} {H : Hp} {Q : VK} (h : ∃ ρ env st, ER Z ρ H env σ /\ SR Z ρ st H /\ Post (Rp Z) Z W (bnd (ev T A env) (fun x => bnd (ev T B env) fun y => f x y) st) ρ σ H Q) :
    tOp (rB Z W σ f) (iE T Z W A) (iE T Z W B) σ H Q := by
  obtain ⟨ρ, env, st, er, sr, h⟩ := h
  refine ⟨ρ, env, st, er, sr, (Post.seq rpOk (Now.start sr) sr h).mono ?_⟩
  rintro x H1 ⟨ρ1, d1, st1, F1, n1, t1, r1, h1⟩
  refine ⟨ρ1, env, st1, t1.env sr er, n1.sr, (Post.seq rpOk n1 sr h1).mono ?_⟩
  rintro y H2 ⟨ρ2, d2, st2, F2, n2, t2, r2, h2⟩
  exact ⟨ρ, st, H, ρ2, st2, d1, d2, F1, F2, sr, n2, t2.val n1.sr (fun a ha => n1.out a (List.mem_append_right _ ha)) r1, r2, h2⟩
theorem se_op {op : Operator} {f : D -> D -> M D} {E : Ex} (ho : ∀ σ, OpR X (binaryOp op) (rB Z W σ f)) (ha : PE X a (iE T Z W A)) (hb : PE X b (iE T Z W B))
    (he : ∀ env, ev T E env = bnd (ev T A env) (fun x => bnd (ev T B env) fun y => f x y)) : PE X (.BinOp a op b pos) (iE T Z W E) :=
  ⟨fun pins s σ H Q I q => by
    refine (pe_op (ho σ) ha hb).run pins s σ H Q I ?_
    obtain ⟨ρ, env, st, er, sr, h⟩ := q
    rw [he env] at h
    exact two_ok ⟨ρ, env, st, er, sr, h⟩⟩
theorem se_cmp {op : CmpOp} {f : D -> D -> M D} {E : Ex} (ho : ∀ σ, OpR X (compareOp op) (rB Z W σ f)) (ha : PE X a (iE T Z W A)) (hb : PE X b (iE T Z W B)) (hm : behindInMarks op b = false)
    (he : ∀ env, ev T E env = bnd (ev T A env) (fun x => bnd (ev T B env) fun y => f x y)) : PE X (.Compare a [op] [b] pos) (iE T Z W E) :=
  ⟨fun pins s σ H Q I q => by
    refine (pe_cmpR (ho σ) ha hb hm).run pins s σ H Q I ?_
    obtain ⟨ρ, env, st, er, sr, h⟩ := q
    rw [he env] at h
    exact two_ok ⟨ρ, env, st, er, sr, h⟩⟩
def rU1 (Z : Wc) (W : WX) (σ : L2.St) (f : D -> M D) : V -> Hp -> VK -> Prop := fun x H2 Q => ∃ ρ st H ρ2 st2 d F, SR Z ρ st H /\ Now Z ρ H ρ2 st2 H2 F /\ Rp Z ρ2 H2 d x F /\ Post (Rp Z) Z W (f d st2) ρ σ H Q
theorem one_ok {f : D -> M D} {σ : L2.St} {H : Hp} {Q : VK} (h : ∃ ρ env st, ER Z ρ H env σ /\ SR Z ρ st H /\ Post (Rp Z) Z W (bnd (ev T A env) (fun x => f x) st) ρ σ H Q) :
    tUn (rU1 Z W σ f) (iE T Z W A) σ H Q := by
  obtain ⟨ρ, env, st, er, sr, h⟩ := h
  refine ⟨ρ, env, st, er, sr, (Post.seq rpOk (Now.start sr) sr h).mono ?_⟩
  rintro x H1 ⟨ρ1, d1, st1, F1, n1, t1, r1, h1⟩
  exact ⟨ρ, st, H, ρ1, st1, d1, F1, sr, n1, r1, h1⟩
theorem se_neg (ha : PE X a (iE T Z W A)) : PE X (.UnaryOp .USub a pos) (iE T Z W (.neg A)) :=
  ⟨fun pins s σ H Q I q => by
    have h := one_ok (f := fun x => opt (intv x) fun i => ret (.int (-i))) (A := A) (by simpa only [iE, ev] using q)
    refine (pe_un un_neg ha).run pins s σ H Q I ?_
    obtain ⟨ρ, env, st, er, sr, q⟩ := q
    simp only [ev] at q
    refine ⟨ρ, env, st, er, sr, (Post.seq rpOk (Now.start sr) sr q).mono ?_⟩
    rintro x H1 ⟨ρ1, d1, st1, F1, n1, t1, r1, h1⟩
    cases d1 with
    | int i =>
      obtain ⟨rfl, rfl⟩ := r1
      exact ⟨i, rfl, Post.ret h1 n1 ⟨rfl, rfl⟩⟩
    | _ => exact h1.elim⟩
theorem sa_nil : PA X [] (iEs T Z W []) := pa_weak pa_nil fun σ H Q ⟨ρ, env, st, er, sr, h⟩ => by
  simp only [evs] at h
  exact Post.ret h (Now.start sr) ⟨rfl, rfl⟩
theorem sa_cons {es : List Expr} {As : List Ex} (ha : PE X e (iE T Z W A)) (hr : PA X es (iEs T Z W As)) (hs : starEach (e :: es) X.env = (false, eval e X.env) :: starEach es X.env) : PA X (e :: es) (iEs T Z W (A :: As)) := by
  refine pa_weak (pa_cons ha hr hs) fun σ H Q ⟨ρ, env, st, er, sr, h⟩ => ?_
  simp only [evs] at h
  refine ⟨ρ, env, st, er, sr, (Post.seq rpOk (Now.start sr) sr h).mono ?_⟩
  rintro x H1 ⟨ρ1, d1, st1, F1, n1, t1, r1, h1⟩
  refine ⟨ρ1, env, st1, t1.env sr er, n1.sr, (Post.seq rpsOk n1 sr h1).mono ?_⟩
  rintro xs H2 ⟨ρ2, d2, st2, F2, n2, t2, r2, h2⟩
  exact Post.ret h2 n2 ⟨x, xs, F1, F2, rfl, t2.val n1.sr (fun a ha => n1.out a (List.mem_append_right _ ha)) r1, r2, rfl⟩
theorem se_tup {es : List Expr} {As : List Ex} {k : Nat} (ha : PA X es (iEs T Z W As)) : PE X (.Tuple es k pos) (iE T Z W (.tup As)) := by
  refine pe_weak (pe_tupX ha) fun σ H Q ⟨ρ, env, st, er, sr, h⟩ => ?_
  simp only [ev] at h
  refine ⟨ρ, env, st, er, sr, (Post.seq rpsOk (Now.start sr) sr h).mono ?_⟩
  rintro xs H1 ⟨ρ1, d1, st1, F1, n1, t1, r1, h1⟩
  cases hz : decide (d1.length <= sizeLine) with
  | false => rw [hz] at h1; exact h1.elim
  | true =>
    rw [hz] at h1
    refine ⟨by rw [<- r1.length]; exact of_decide_eq_true hz, fun p o ho hp => ?_⟩
    exact Post.ret h1 ((n1.new sr hp).less (List.sublist_cons_self p _)) ⟨p, xs, rfl, SqX.of upd_same ho, rps_up hp r1⟩
theorem se_lst {es : List Expr} {As : List Ex} (ha : PA X es (iEs T Z W As)) : PE X (.List es pos) (iE T Z W (.lst As)) := by
  refine pe_weak (pe_lst ha) fun σ H Q ⟨ρ, env, st, er, sr, h⟩ => ?_
  simp only [ev] at h
  refine ⟨ρ, env, st, er, sr, (Post.seq rpsOk (Now.start sr) sr h).mono ?_⟩
  rintro xs H1 ⟨ρ1, d1, st1, F1, n1, t1, r1, h1⟩
  cases hz : decide (d1.length <= sizeLine) with
  | false => rw [hz] at h1; exact h1.elim
  | true =>
    rw [hz] at h1
    refine ⟨by rw [<- r1.length]; exact of_decide_eq_true hz, fun p hp => ?_⟩
    exact Post.ret h1 (n1.new sr hp) ⟨p, xs, F1, rfl, upd_same, rps_up hp r1, rfl⟩
theorem st_not {C1 : Cn} (ha : PT X a (iT T Z W C1)) : PT X (.UnaryOp .Not a pos) (iT T Z W (.nt C1)) := by
  refine pt_weak (pt_not ha) fun σ H Q ⟨ρ, env, st, er, sr, h⟩ => ?_
  simp only [evT] at h
  refine ⟨ρ, env, st, er, sr, (Post.seq reqOk (Now.start sr) sr h).mono ?_⟩
  rintro c H1 ⟨ρ1, d1, st1, F1, n1, t1, ⟨rfl, rfl⟩, h1⟩
  exact Post.ret h1 n1 ⟨rfl, rfl⟩
theorem sw_and1 {C1 : Cn} (ha : PT X a (iT T Z W C1)) : PW X (.BoolOp .And [a] pos) (iT T Z W C1) := pw_and1 ha
theorem sw_or1 {C1 : Cn} (ha : PT X a (iT T Z W C1)) : PW X (.BoolOp .Or [a] pos) (iT T Z W C1) := pw_or1 ha
theorem sw_and {C1 C2 : Cn} {rest : List Expr} (ha : PT X a (iT T Z W C1)) (hb : PW X (.BoolOp .And (b :: rest) pos) (iT T Z W C2)) : PW X (.BoolOp .And (a :: b :: rest) pos) (iT T Z W (.and2 C1 C2)) := by
  have w := pw_and ha hb
  refine ⟨fun whole pins s σ H Q I h => w.run whole pins s σ H Q I ?_⟩
  obtain ⟨ρ, env, st, er, sr, h⟩ := h
  simp only [evT] at h
  refine ⟨ρ, env, st, er, sr, (Post.seq reqOk (Now.start sr) sr h).mono ?_⟩
  rintro c H1 ⟨ρ1, d1, st1, F1, n1, t1, ⟨rfl, rfl⟩, h1⟩
  cases d1 with
  | true => exact ⟨ρ1, env, st1, t1.env sr er, n1.sr, h1.tail reqOk n1 sr⟩
  | false => exact Post.ret h1 n1 ⟨rfl, rfl⟩
theorem sw_or {C1 C2 : Cn} {rest : List Expr} (ha : PT X a (iT T Z W C1)) (hb : PW X (.BoolOp .Or (b :: rest) pos) (iT T Z W C2)) : PW X (.BoolOp .Or (a :: b :: rest) pos) (iT T Z W (.or2 C1 C2)) := by
  have w := pw_or ha hb
  refine ⟨fun whole pins s σ H Q I h => w.run whole pins s σ H Q I ?_⟩
  obtain ⟨ρ, env, st, er, sr, h⟩ := h
  simp only [evT] at h
  refine ⟨ρ, env, st, er, sr, (Post.seq reqOk (Now.start sr) sr h).mono ?_⟩
  rintro c H1 ⟨ρ1, d1, st1, F1, n1, t1, ⟨rfl, rfl⟩, h1⟩
  cases d1 with
  | false => exact ⟨ρ1, env, st1, t1.env sr er, n1.sr, h1.tail reqOk n1 sr⟩
  | true => exact Post.ret h1 n1 ⟨rfl, rfl⟩
theorem se_ife {C1 : Cn} (hc : PT X c (iT T Z W C1)) (ha : PE X a (iE T Z W A)) (hb : PE X b (iE T Z W B)) : PE X (.IfExp c a b pos) (iE T Z W (.ife C1 A B)) := by
  refine pe_weak (pe_ifExp hc ha hb) fun σ H Q ⟨ρ, env, st, er, sr, h⟩ => ?_
  simp only [ev] at h
  refine ⟨ρ, env, st, er, sr, (Post.seq reqOk (Now.start sr) sr h).mono ?_⟩
  rintro k H1 ⟨ρ1, d1, st1, F1, n1, t1, ⟨rfl, rfl⟩, h1⟩
  cases d1 with
  | true => exact ⟨ρ1, env, st1, t1.env sr er, n1.sr, h1.tail rpOk n1 sr⟩
  | false => exact ⟨ρ1, env, st1, t1.env sr er, n1.sr, h1.tail rpOk n1 sr⟩
theorem st_val (ha : PE X a (iE T Z W A)) (he : ∀ whole, isTrue a X.env whole = (do let v <- whole; standAt a.pos; holding [v] (truthy v))) (hK : X.K = Z.K) : PT X a (iT T Z W (.val A)) := by
  refine pt_weak (pt_truth ha he) fun σ H Q ⟨ρ, env, st, er, sr, h⟩ => ?_
  simp only [evT] at h
  refine ⟨ρ, env, st, er, sr, (Post.seq rpOk (Now.start sr) sr h).mono ?_⟩
  rintro x H1 ⟨ρ1, d1, st1, F1, n1, t1, r1, h1⟩
  cases e : truth st1 d1 with
  | none => simp only [e] at h1; exact h1.elim
  | some k =>
    simp only [e] at h1
    have fin : Q k H1 := Post.ret h1 (n1.less (List.nil_sublist _)) ⟨rfl, rfl⟩
    refine ⟨k, ?_, fin⟩
    rw [hK]
    cases d1 with
    | non => obtain ⟨rfl, _⟩ := r1; simp only [truth, Option.some.injEq] at e; exact e.symm
    | bl b => obtain ⟨rfl, _⟩ := r1; simp only [truth, Option.some.injEq] at e; exact e.symm
    | int i => obtain ⟨rfl, _⟩ := r1; simp only [truth, Option.some.injEq] at e; exact e.symm
    | str z =>
      obtain ⟨rfl, _⟩ := r1
      simp only [truth] at e
      split at e
      · rename_i hz; cases e; exact ⟨hz, rfl⟩
      · cases e
    | tup ds =>
      obtain ⟨p, vs, rfl, hp, r⟩ := r1
      simp only [truth, Option.some.injEq] at e
      exact .inr (.inl ⟨vs, hp.t, by rw [<- e]; cases ds <;> cases vs <;> simp_all [Rps]⟩)
    | lst ds =>
      obtain ⟨p, vs, G, rfl, hp, r, _⟩ := r1
      simp only [truth, Option.some.injEq] at e
      exact .inl ⟨vs, SqL.of hp, by rw [<- e]; cases ds <;> cases vs <;> simp_all [Rps]⟩
    | ref l =>
      obtain ⟨p, hl, rfl, _⟩ := r1
      cases hc : st1[l]? with
      | none => simp [truth, hc] at e
      | some cc =>
        have rc := n1.sr.cell l cc p hc hl
        cases cc with
        | lst ds =>
          simp only [truth, hc, Option.some.injEq] at e
          obtain ⟨p', vs, G, z, hp, r, _⟩ := rc
          cases z
          exact .inl ⟨vs, SqL.of hp, by rw [<- e]; cases ds <;> cases vs <;> simp_all [Rps]⟩
        | frl ds =>
          simp only [truth, hc, Option.some.injEq] at e
          obtain ⟨p', o, vs, G, z, hp, r, _⟩ := rc
          cases z
          exact .inl ⟨vs, .inl (.inr ⟨o, hp⟩), by rw [<- e]; cases ds <;> cases vs <;> simp_all [Rps]⟩
        | _ => simp [truth, hc] at e
    | _ => simp [truth] at e
end
end Fs
namespace Fs
open PySem L2
section
variable {Z : Wc} {H : Hp}
theorem get_append {ρ N : List Addr} : ∀ (l : Nat) (a : Addr), ρ[l]? = some a -> (ρ ++ N)[l]? = some a := fun l a h => by
  rw [List.getElem?_append_left (List.getElem?_eq_some_iff.mp h).1]; exact h
theorem Rp.wide {ρ N : List Addr} {d : D} {v : V} {F : List Addr} (h : Rp Z ρ H d v F) : Rp Z (ρ ++ N) H d v F := Rp.stay get_append (fun _ _ e _ => e) (fun _ _ _ e => e) h
theorem Rps.wide {ρ N : List Addr} {d : List D} {v : List V} {F : List Addr} (h : Rps Z ρ H d v F) : Rps Z (ρ ++ N) H d v F := Rps.stay get_append (fun _ _ e _ => e) (fun _ _ _ e => e) h
theorem RpK.wide {ρ N : List Addr} {d : List (Ky × D)} {v : List (L2.Key × V)} {F : List Addr} (h : RpK Z ρ H d v F) : RpK Z (ρ ++ N) H d v F := RpK.stay get_append (fun _ _ e _ => e) (fun _ _ _ e => e) h
theorem RpT.wide {ρ N : List Addr} {d : List (Ky × D)} {v : List (List L2.Key × V)} {F : List Addr} (h : RpT Z ρ H d v F) : RpT Z (ρ ++ N) H d v F := RpT.stay get_append (fun _ _ e _ => e) (fun _ _ _ e => e) h
theorem SR.push {ρ : List Addr} {st : Sto} {a : Addr} {c : D} (s : SR Z ρ st H) (ha : a ∉ ρ) (k : isCell c = true) (r : Rp Z ρ H c (.ref a) [a]) : SR Z (ρ ++ [a]) (st ++ [c]) H := by
  refine ⟨by simp [s.len], ?_, ?_, ?_, s.gb.step fun _ _ e _ => e⟩
  · refine List.nodup_append.mpr ⟨s.nd, by simp, ?_⟩
    intro x hx y hy e
    subst e
    cases List.mem_singleton.mp hy
    exact ha hx
  · intro l d h
    by_cases hl : l < st.length
    · rw [List.getElem?_append_left hl] at h; exact s.kind l d h
    · rw [List.getElem?_append_right (Nat.le_of_not_lt hl)] at h
      rcases hh : l - st.length with _ | n
      · rw [hh] at h; cases h; exact k
      · rw [hh] at h; simp at h
  · intro l d b h1 h2
    by_cases hl : l < st.length
    · rw [List.getElem?_append_left hl] at h1
      rw [List.getElem?_append_left (by rw [s.len]; exact hl)] at h2
      exact (s.cell l d b h1 h2).wide
    · have hl' := Nat.le_of_not_lt hl
      rw [List.getElem?_append_right hl'] at h1
      rw [List.getElem?_append_right (by rw [s.len]; exact hl'), s.len] at h2
      rcases hh : l - st.length with _ | n
      · rw [hh] at h1 h2; cases h1; cases h2; exact r.wide
      · rw [hh] at h1; simp at h1
theorem disj_step {ρ N F1 F2 : List Addr} (nd : (F1 ++ F2).Nodup) (fo : ∀ a ∈ F1 ++ F2, a ∉ ρ) (p : N.Perm F1) : ∀ a ∈ F2, a ∉ ρ ++ N := fun a ha z => by
  rcases List.mem_append.mp z with z | z
  · exact fo a (List.mem_append_right _ ha) z
  · exact (List.nodup_append.mp nd).2.2 a (p.mem_iff.mp z) a ha rfl
mutual
theorem land_ok : ∀ (d : D) {st : Sto} {ρ : List Addr} {v : V} {F : List Addr}, SR Z ρ st H -> Rp Z ρ H d v F -> (∀ a ∈ F, a ∉ ρ) -> F.Nodup ->
    ∃ N, N.Perm F /\ SR Z (ρ ++ N) (land d st).2 H /\ Rp Z (ρ ++ N) H (land d st).1 v []
  | .non, st, ρ, v, F, s, r, fo, nd => by obtain ⟨rfl, rfl⟩ := r; exact ⟨[], .refl _, by simpa [land] using s, by simp [land, Rp]⟩
  | .bl b, st, ρ, v, F, s, r, fo, nd => by obtain ⟨rfl, rfl⟩ := r; exact ⟨[], .refl _, by simpa [land] using s, by simp [land, Rp]⟩
  | .int b, st, ρ, v, F, s, r, fo, nd => by obtain ⟨rfl, rfl⟩ := r; exact ⟨[], .refl _, by simpa [land] using s, by simp [land, Rp]⟩
  | .str b, st, ρ, v, F, s, r, fo, nd => by obtain ⟨rfl, rfl⟩ := r; exact ⟨[], .refl _, by simpa [land] using s, by simp [land, Rp]⟩
  | .ref l, st, ρ, v, F, s, r, fo, nd => by
    obtain ⟨a, h1, rfl, rfl⟩ := r
    exact ⟨[], .refl _, by simpa [land] using s, ⟨a, by simpa using h1, rfl, rfl⟩⟩
  | .exc c fs, st, ρ, v, F, s, r, fo, nd => by
    have e : F = [] := by obtain ⟨_, _, _, _, _, f⟩ := r; exact f
    subst e
    exact ⟨[], .refl _, by simpa [land] using s, by simpa [land] using r⟩
  | .lam n cs, st, ρ, v, F, s, r, fo, nd => by
    obtain ⟨a, rfl, rfl, h⟩ := r
    have na : a ∉ ρ := fo a List.mem_cons_self
    have s2 := s.push (c := .lam n cs) na rfl ⟨a, rfl, rfl, h⟩
    refine ⟨[a], .refl _, s2, ⟨a, ?_, rfl, rfl⟩⟩
    rw [List.getElem?_append_right (by rw [s.len]; exact Nat.le_refl _), s.len]
    simp
  | .tup ds, st, ρ, v, F, s, r, fo, nd => by
    obtain ⟨a, vs, rfl, h, r'⟩ := r
    obtain ⟨N, p, s', q⟩ := lands_ok ds s r' fo nd
    exact ⟨N, p, by simpa [land] using s', ⟨a, vs, rfl, h, q⟩⟩
  | .lst ds, st, ρ, v, F, s, r, fo, nd => by
    obtain ⟨a, vs, G, rfl, h, r', rfl⟩ := r
    obtain ⟨N, p, s', q⟩ := lands_ok ds s r' (fun b hb => fo b (List.mem_cons_of_mem _ hb)) (List.nodup_cons.mp nd).2
    have na : a ∉ ρ ++ N := fun z => by
      rcases List.mem_append.mp z with z | z
      · exact fo a List.mem_cons_self z
      · exact (List.nodup_cons.mp nd).1 (p.mem_iff.mp z)
    have s2 := s'.push (c := .lst (lands ds st).1) na rfl ⟨a, vs, [], rfl, h, q, rfl⟩
    refine ⟨N ++ [a], (p.append_right [a]).trans List.perm_append_comm, by rw [<- List.append_assoc]; exact s2, ⟨a, ?_, rfl, rfl⟩⟩
    rw [<- List.append_assoc, List.getElem?_append_right (by rw [s'.len]; exact Nat.le_refl _), s'.len]
    simp
  | .frl ds, st, ρ, v, F, s, r, fo, nd => by
    obtain ⟨a, o, vs, G, rfl, h, r', rfl⟩ := r
    obtain ⟨N, p, s', q⟩ := lands_ok ds s r' (fun b hb => fo b (List.mem_cons_of_mem _ hb)) (List.nodup_cons.mp nd).2
    have na : a ∉ ρ ++ N := fun z => by
      rcases List.mem_append.mp z with z | z
      · exact fo a List.mem_cons_self z
      · exact (List.nodup_cons.mp nd).1 (p.mem_iff.mp z)
    have s2 := s'.push (c := .frl (lands ds st).1) na rfl ⟨a, o, vs, [], rfl, h, q, rfl⟩
    refine ⟨N ++ [a], (p.append_right [a]).trans List.perm_append_comm, by rw [<- List.append_assoc]; exact s2, ⟨a, ?_, rfl, rfl⟩⟩
    rw [<- List.append_assoc, List.getElem?_append_right (by rw [s'.len]; exact Nat.le_refl _), s'.len]
    simp
  | .dic kvs, st, ρ, v, F, s, r, fo, nd => by
    obtain ⟨a, G, rfl, rfl, hh⟩ := r
    rcases hh with ⟨ws, h, r'⟩ | ⟨ws, h, r'⟩
    · obtain ⟨N, p, s', q⟩ := landK_ok kvs s r' (fun b hb => fo b (List.mem_cons_of_mem _ hb)) (List.nodup_cons.mp nd).2
      have na : a ∉ ρ ++ N := fun z => by
        rcases List.mem_append.mp z with z | z
        · exact fo a List.mem_cons_self z
        · exact (List.nodup_cons.mp nd).1 (p.mem_iff.mp z)
      have s2 := s'.push (c := .dic (landk kvs st).1) na rfl ⟨a, [], rfl, rfl, .inl ⟨ws, h, q⟩⟩
      refine ⟨N ++ [a], (p.append_right [a]).trans List.perm_append_comm, by rw [<- List.append_assoc]; exact s2, ⟨a, ?_, rfl, rfl⟩⟩
      rw [<- List.append_assoc, List.getElem?_append_right (by rw [s'.len]; exact Nat.le_refl _), s'.len]
      simp
    · obtain ⟨N, p, s', q⟩ := landT_ok kvs s r' (fun b hb => fo b (List.mem_cons_of_mem _ hb)) (List.nodup_cons.mp nd).2
      have na : a ∉ ρ ++ N := fun z => by
        rcases List.mem_append.mp z with z | z
        · exact fo a List.mem_cons_self z
        · exact (List.nodup_cons.mp nd).1 (p.mem_iff.mp z)
      have s2 := s'.push (c := .dic (landk kvs st).1) na rfl ⟨a, [], rfl, rfl, .inr ⟨ws, h, q⟩⟩
      refine ⟨N ++ [a], (p.append_right [a]).trans List.perm_append_comm, by rw [<- List.append_assoc]; exact s2, ⟨a, ?_, rfl, rfl⟩⟩
      rw [<- List.append_assoc, List.getElem?_append_right (by rw [s'.len]; exact Nat.le_refl _), s'.len]
      simp
  | .set xs, st, ρ, v, F, s, r, fo, nd => by
    obtain ⟨a, S, rfl, h, n, z, rfl⟩ := r
    have na : a ∉ ρ := fo a List.mem_cons_self
    have s2 := s.push (c := .set xs) na rfl ⟨a, S, rfl, h, n, z, rfl⟩
    refine ⟨[a], .refl _, s2, ⟨a, ?_, rfl, rfl⟩⟩
    rw [List.getElem?_append_right (by rw [s.len]; exact Nat.le_refl _), s.len]
    simp
theorem lands_ok : ∀ (ds : List D) {st : Sto} {ρ : List Addr} {vs : List V} {F : List Addr}, SR Z ρ st H -> Rps Z ρ H ds vs F -> (∀ a ∈ F, a ∉ ρ) -> F.Nodup ->
    ∃ N, N.Perm F /\ SR Z (ρ ++ N) (lands ds st).2 H /\ Rps Z (ρ ++ N) H (lands ds st).1 vs []
  | [], st, ρ, v, F, s, r, fo, nd => by obtain ⟨rfl, rfl⟩ := r; exact ⟨[], .refl _, by simpa [lands] using s, by simp [lands, Rps]⟩
  | d :: ds, st, ρ, v, F, s, r, fo, nd => by
    obtain ⟨u, ws, F1, F2, rfl, r1, r2, rfl⟩ := r
    obtain ⟨N1, p1, s1, q1⟩ := land_ok d s r1 (fun a ha => fo a (List.mem_append_left _ ha)) (List.nodup_append.mp nd).1
    obtain ⟨N2, p2, s2, q2⟩ := lands_ok ds s1 r2.wide (disj_step nd fo p1) (List.nodup_append.mp nd).2.1
    refine ⟨N1 ++ N2, p1.append p2, by rw [<- List.append_assoc]; exact s2, ?_⟩
    rw [<- List.append_assoc]
    exact ⟨u, ws, [], [], rfl, q1.wide, q2, rfl⟩
theorem landK_ok : ∀ (ds : List (Ky × D)) {st : Sto} {ρ : List Addr} {vs : List (L2.Key × V)} {F : List Addr}, SR Z ρ st H -> RpK Z ρ H ds vs F -> (∀ a ∈ F, a ∉ ρ) -> F.Nodup ->
    ∃ N, N.Perm F /\ SR Z (ρ ++ N) (landk ds st).2 H /\ RpK Z (ρ ++ N) H (landk ds st).1 vs []
  | [], st, ρ, v, F, s, r, fo, nd => by obtain ⟨rfl, rfl⟩ := r; exact ⟨[], .refl _, by simpa [landk] using s, by simp [landk, RpK]⟩
  | (k, d) :: ds, st, ρ, v, F, s, r, fo, nd => by
    obtain ⟨j, u, ws, F1, F2, rfl, rfl, r1, r2, rfl⟩ := r
    obtain ⟨N1, p1, s1, q1⟩ := land_ok d s r1 (fun a ha => fo a (List.mem_append_left _ ha)) (List.nodup_append.mp nd).1
    obtain ⟨N2, p2, s2, q2⟩ := landK_ok ds s1 r2.wide (disj_step nd fo p1) (List.nodup_append.mp nd).2.1
    refine ⟨N1 ++ N2, p1.append p2, by rw [<- List.append_assoc]; exact s2, ?_⟩
    rw [<- List.append_assoc]
    exact ⟨j, u, ws, [], [], rfl, rfl, q1.wide, q2, rfl⟩
theorem landT_ok : ∀ (ds : List (Ky × D)) {st : Sto} {ρ : List Addr} {vs : List (List L2.Key × V)} {F : List Addr}, SR Z ρ st H -> RpT Z ρ H ds vs F -> (∀ a ∈ F, a ∉ ρ) -> F.Nodup ->
    ∃ N, N.Perm F /\ SR Z (ρ ++ N) (landk ds st).2 H /\ RpT Z (ρ ++ N) H (landk ds st).1 vs []
  | [], st, ρ, v, F, s, r, fo, nd => by obtain ⟨rfl, rfl⟩ := r; exact ⟨[], .refl _, by simpa [landk] using s, by simp [landk, RpT]⟩
  | (k, d) :: ds, st, ρ, v, F, s, r, fo, nd => by
    obtain ⟨j, u, ws, F1, F2, rfl, rfl, r1, r2, rfl⟩ := r
    obtain ⟨N1, p1, s1, q1⟩ := land_ok d s r1 (fun a ha => fo a (List.mem_append_left _ ha)) (List.nodup_append.mp nd).1
    obtain ⟨N2, p2, s2, q2⟩ := landT_ok ds s1 r2.wide (disj_step nd fo p1) (List.nodup_append.mp nd).2.1
    refine ⟨N1 ++ N2, p1.append p2, by rw [<- List.append_assoc]; exact s2, ?_⟩
    rw [<- List.append_assoc]
    exact ⟨j, u, ws, [], [], rfl, rfl, q1.wide, q2, rfl⟩
end
theorem Now.landed {ρ ρ' N : List Addr} {H0 : Hp} {st st' : Sto} {F G : List Addr} (n : Now Z ρ H0 ρ' st H (F ++ G)) (p : N.Perm G) (s : SR Z (ρ' ++ N) st' H) : Now Z ρ H0 (ρ' ++ N) st' H F := by
  obtain ⟨M, rfl, nd, f, k⟩ := n.stp
  have pm : (M ++ N ++ F).Perm (M ++ (F ++ G)) := by
    rw [List.append_assoc]
    exact List.Perm.append_left M ((List.perm_append_comm (l₁ := N)).trans (List.Perm.append_left F p))
  have st1 : Stp ρ H0 (ρ ++ M ++ N) H F := ⟨M ++ N, by simp [List.append_assoc], pm.nodup_iff.mpr nd, fun a ha => f a (pm.mem_iff.mp ha), k⟩
  refine ⟨st1, s, fun a ha => n.th a (List.mem_append_left _ ha), fun a ha z => ?_, (List.nodup_append.mp n.nd).1⟩
  rcases List.mem_append.mp z with z | z
  · exact n.out a (List.mem_append_left _ ha) z
  · exact (List.nodup_append.mp n.nd).2.2 a ha a (p.mem_iff.mp z) rfl
end
end Fs
namespace Fs
open PySem L2
theorem perm4 {α : Type} (A B C E : List α) : ((A ++ B) ++ (C ++ E)).Perm ((A ++ C) ++ (E ++ B)) := by
  rw [List.append_assoc, List.append_assoc]
  refine List.Perm.append_left A ?_
  rw [<- List.append_assoc, <- List.append_assoc]
  have h1 : (B ++ C ++ E).Perm (C ++ B ++ E) := List.Perm.append_right E List.perm_append_comm
  refine h1.trans ?_
  rw [List.append_assoc, List.append_assoc]
  exact List.Perm.append_left C List.perm_append_comm
section
variable {Z : Wc} {H : Hp} {ρ : List Addr} {st : Sto} {b : Nat}
def locs (ρ : List Addr) (L : List Nat) : List Addr := L.filterMap fun m => ρ[m]?
theorem nodup_locs (n : ρ.Nodup) : ∀ {L : List Nat}, L.Nodup -> (locs ρ L).Nodup
  | [], _ => List.nodup_nil
  | l :: L, h => by
    have ih := nodup_locs n (List.nodup_cons.mp h).2
    unfold locs at ih ⊢
    cases e : ρ[l]? with
    | none => simpa [List.filterMap_cons, e] using ih
    | some a =>
      simp only [List.filterMap_cons, e]
      refine List.nodup_cons.mpr ⟨fun z => ?_, ih⟩
      obtain ⟨m, hm, em⟩ := List.mem_filterMap.mp z
      have := (List.getElem?_inj (List.getElem?_eq_some_iff.mp e).1 n).mp (e.trans em.symm)
      subst this
      exact (List.nodup_cons.mp h).1 hm
theorem locs_append (L M : List Nat) : locs ρ (L ++ M) = locs ρ L ++ locs ρ M := List.filterMap_append
def RbG (Z : Wc) (ρ : List Addr) (H : Hp) (b : Nat) (g : Nat -> List Nat -> Option (D × List Nat)) : Prop := ∀ (l : Nat) (vis : List Nat) (d' : D) (vis' : List Nat), g l vis = some (d', vis') -> b <= l ->
  ∃ (L : List Nat) (G : List Addr), vis'.Perm (L ++ vis) /\ L.Nodup /\ (∀ m ∈ L, b <= m /\ m ∉ vis) /\ G.Perm (locs ρ L) /\ ∀ a, ρ[l]? = some a -> Rp Z (ρ.take b) H d' (.ref a) G
theorem vis_step {vis vis1 vis2 L1 L2 : List Nat} (p1 : vis1.Perm (L1 ++ vis)) (n1 : L1.Nodup) (o1 : ∀ m ∈ L1, b <= m /\ m ∉ vis) (p2 : vis2.Perm (L2 ++ vis1)) (n2 : L2.Nodup) (o2 : ∀ m ∈ L2, b <= m /\ m ∉ vis1) :
    vis2.Perm ((L2 ++ L1) ++ vis) /\ (L2 ++ L1).Nodup /\ ∀ m ∈ L2 ++ L1, b <= m /\ m ∉ vis := by
  refine ⟨p2.trans (by rw [List.append_assoc]; exact List.Perm.append_left L2 p1), List.nodup_append.mpr ⟨n2, n1, ?_⟩, ?_⟩
  · intro x hx y hy e
    subst e
    exact (o2 x hx).2 (p1.mem_iff.mpr (List.mem_append_left _ hy))
  · intro m hm
    rcases List.mem_append.mp hm with hm | hm
    · exact ⟨(o2 m hm).1, fun z => (o2 m hm).2 (p1.mem_iff.mpr (List.mem_append_right _ z))⟩
    · exact o1 m hm
mutual
theorem clsRp : ∀ (d : D) {v : V} {F : List Addr}, D.cls b d = true -> Rp Z ρ H d v F -> Rp Z (ρ.take b) H d v F
  | .non, v, F, c, r => r
  | .bl _, v, F, c, r => r
  | .int _, v, F, c, r => r
  | .str _, v, F, c, r => r
  | .ref l, v, F, c, r => by
    obtain ⟨a, h, e, f⟩ := r
    simp only [D.cls, decide_eq_true_eq] at c
    exact ⟨a, by rw [List.getElem?_take_of_lt c]; exact h, e, f⟩
  | .tup ds, v, F, c, r => by
    obtain ⟨a, vs, e, h, r⟩ := r
    exact ⟨a, vs, e, h, clsRps ds (by simpa [D.cls] using c) r⟩
  | .exc k fs, v, F, c, r => by
    obtain ⟨a, dx, e, h, r, f⟩ := r
    exact ⟨a, dx, e, h, clsRpX fs (by simpa [D.cls] using c) r, f⟩
  | .lst _, v, F, c, r => by simp [D.cls] at c
  | .frl _, v, F, c, r => by simp [D.cls] at c
  | .dic _, v, F, c, r => by simp [D.cls] at c
  | .set _, v, F, c, r => by simp [D.cls] at c
  | .lam _ _, v, F, c, r => by simp [D.cls] at c
theorem clsRpX : ∀ (ds : List D) {f : Option Str} {dx : Option Addr}, D.clss b ds = true -> RpX Z ρ H f dx ds -> RpX Z (ρ.take b) H f dx ds
  | [], f, dx, c, r => r
  | d :: ds, f, dx, c, r => by
    obtain ⟨e, n, x, u, h1, h2, h3, r⟩ := r
    simp only [D.clss, Bool.and_eq_true] at c
    exact ⟨e, n, x, u, h1, h2, h3, clsRp d c.1 r⟩
theorem clsRps : ∀ (ds : List D) {v : List V} {F : List Addr}, D.clss b ds = true -> Rps Z ρ H ds v F -> Rps Z (ρ.take b) H ds v F
  | [], v, F, c, r => r
  | d :: ds, v, F, c, r => by
    obtain ⟨u, ws, F1, F2, e, r1, r2, f⟩ := r
    simp only [D.clss, Bool.and_eq_true] at c
    exact ⟨u, ws, F1, F2, e, clsRp d c.1 r1, clsRps ds c.2 r2, f⟩
theorem clsRpK : ∀ (ds : List (Ky × D)) {v : List (L2.Key × V)} {F : List Addr}, D.clsk b ds = true -> RpK Z ρ H ds v F -> RpK Z (ρ.take b) H ds v F
  | [], v, F, c, r => r
  | (k, d) :: ds, v, F, c, r => by
    obtain ⟨j, u, ws, F1, F2, z, e, r1, r2, f⟩ := r
    simp only [D.clsk, Bool.and_eq_true] at c
    exact ⟨j, u, ws, F1, F2, z, e, clsRp d c.1 r1, clsRpK ds c.2 r2, f⟩
theorem clsRpT : ∀ (ds : List (Ky × D)) {v : List (List L2.Key × V)} {F : List Addr}, D.clsk b ds = true -> RpT Z ρ H ds v F -> RpT Z (ρ.take b) H ds v F
  | [], v, F, c, r => r
  | (k, d) :: ds, v, F, c, r => by
    obtain ⟨j, u, ws, F1, F2, z, e, r1, r2, f⟩ := r
    simp only [D.clsk, Bool.and_eq_true] at c
    exact ⟨j, u, ws, F1, F2, z, e, clsRp d c.1 r1, clsRpT ds c.2 r2, f⟩
end
mutual
theorem cls_of : ∀ (d : D) {v : V}, Rp Z ρ H d v [] -> D.cls ρ.length d = true
  | .non, v, r => rfl
  | .bl _, v, r => rfl
  | .int _, v, r => rfl
  | .str _, v, r => rfl
  | .ref l, v, r => by
    obtain ⟨a, h, _, _⟩ := r
    simpa [D.cls] using (List.getElem?_eq_some_iff.mp h).1
  | .tup ds, v, r => by obtain ⟨_, _, _, _, r⟩ := r; simpa [D.cls] using clss_of ds r
  | .exc c fs, v, r => by obtain ⟨_, _, _, _, r, _⟩ := r; simpa [D.cls] using clsX_of fs r
  | .lst ds, v, r => by obtain ⟨_, _, _, _, _, _, z⟩ := r; cases z
  | .frl ds, v, r => by obtain ⟨_, _, _, _, _, _, _, z⟩ := r; cases z
  | .dic ds, v, r => by obtain ⟨_, _, _, z, _⟩ := r; cases z
  | .set ds, v, r => by obtain ⟨_, _, _, _, _, _, z⟩ := r; cases z
  | .lam _ _, v, r => by obtain ⟨_, _, z, _⟩ := r; cases z
theorem clsX_of : ∀ (ds : List D) {f : Option Str} {dx : Option Addr}, RpX Z ρ H f dx ds -> D.clss ρ.length ds = true
  | [], f, dx, r => rfl
  | d :: ds, f, dx, r => by
    obtain ⟨rfl, n, x, u, _, _, _, r⟩ := r
    simp [D.clss, cls_of d r]
theorem clss_of : ∀ (ds : List D) {vs : List V}, Rps Z ρ H ds vs [] -> D.clss ρ.length ds = true
  | [], vs, r => rfl
  | d :: ds, vs, r => by
    obtain ⟨u, ws, F1, F2, _, r1, r2, f⟩ := r
    obtain ⟨rfl, rfl⟩ := List.append_eq_nil_iff.mp f.symm
    simp [D.clss, cls_of d r1, clss_of ds r2]
theorem clsK_of : ∀ (ds : List (Ky × D)) {vs : List (L2.Key × V)}, RpK Z ρ H ds vs [] -> D.clsk ρ.length ds = true
  | [], vs, r => rfl
  | (k, d) :: ds, vs, r => by
    obtain ⟨j, u, ws, F1, F2, _, _, r1, r2, f⟩ := r
    obtain ⟨rfl, rfl⟩ := List.append_eq_nil_iff.mp f.symm
    simp [D.clsk, cls_of d r1, clsK_of ds r2]
theorem clsT_of : ∀ (ds : List (Ky × D)) {vs : List (List L2.Key × V)}, RpT Z ρ H ds vs [] -> D.clsk ρ.length ds = true
  | [], vs, r => rfl
  | (k, d) :: ds, vs, r => by
    obtain ⟨j, u, ws, F1, F2, _, _, r1, r2, f⟩ := r
    obtain ⟨rfl, rfl⟩ := List.append_eq_nil_iff.mp f.symm
    simp [D.clsk, cls_of d r1, clsT_of ds r2]
end
theorem cellCl_of {c : D} {a : Addr} (k : isCell c = true) (r : Rp Z ρ H c (.ref a) [a]) : cellCl ρ.length c = true := by
  cases c with
  | lst ds =>
    obtain ⟨b, vs, G, e, h1, r, f⟩ := r
    obtain rfl : G = [] := by injection f with _ f; exact f.symm
    simpa [cellCl] using clss_of ds r
  | frl ds =>
    obtain ⟨b, o, vs, G, e, h1, r, f⟩ := r
    obtain rfl : G = [] := by injection f with _ f; exact f.symm
    simpa [cellCl] using clss_of ds r
  | dic kvs =>
    obtain ⟨b, G, e, f, hh⟩ := r
    obtain rfl : G = [] := by injection f with _ f; exact f.symm
    rcases hh with ⟨ws, h1, r⟩ | ⟨ws, h1, r⟩
    · simpa [cellCl] using clsK_of kvs r
    · simpa [cellCl] using clsT_of kvs r
  | set xs => rfl
  | lam n cs => rfl
  | _ => cases k
theorem clsCell {c : D} {v : V} {F : List Addr} (h : cellCl b c = true) (r : Rp Z ρ H c v F) : Rp Z (ρ.take b) H c v F := by
  cases c with
  | lst ds =>
    obtain ⟨a, vs, G, e, h1, r, f⟩ := r
    exact ⟨a, vs, G, e, h1, clsRps ds (by simpa [cellCl] using h) r, f⟩
  | frl ds =>
    obtain ⟨a, o, vs, G, e, h1, r, f⟩ := r
    exact ⟨a, o, vs, G, e, h1, clsRps ds (by simpa [cellCl] using h) r, f⟩
  | dic kvs =>
    obtain ⟨a, G, e, f, hh⟩ := r
    have h' : D.clsk b kvs = true := by simpa [cellCl] using h
    refine ⟨a, G, e, f, ?_⟩
    rcases hh with ⟨ws, h1, r⟩ | ⟨ws, h1, r⟩
    · exact .inl ⟨ws, h1, clsRpK kvs h' r⟩
    · exact .inr ⟨ws, h1, clsRpT kvs h' r⟩
  | set xs => exact r
  | lam n cs => exact r
  | _ => simp [cellCl] at h
mutual
theorem rb_ok {g : Nat -> List Nat -> Option (D × List Nat)} (hg : RbG Z ρ H b g) : ∀ (d : D) {vis vis' : List Nat} {d' : D} {v : V} {F : List Addr}, rbD g b d vis = some (d', vis') -> Rp Z ρ H d v F ->
    ∃ (L : List Nat) (G : List Addr), vis'.Perm (L ++ vis) /\ L.Nodup /\ (∀ m ∈ L, b <= m /\ m ∉ vis) /\ G.Perm (F ++ locs ρ L) /\ Rp Z (ρ.take b) H d' v G
  | .non, vis, vis', d', v, F, e, r => by
    simp only [rbD, Option.some.injEq, Prod.mk.injEq] at e
    obtain ⟨rfl, rfl⟩ := e
    exact ⟨[], F, .refl _, .nil, by simp, by simp [locs], r⟩
  | .bl _, vis, vis', d', v, F, e, r => by
    simp only [rbD, Option.some.injEq, Prod.mk.injEq] at e
    obtain ⟨rfl, rfl⟩ := e
    exact ⟨[], F, .refl _, .nil, by simp, by simp [locs], r⟩
  | .int _, vis, vis', d', v, F, e, r => by
    simp only [rbD, Option.some.injEq, Prod.mk.injEq] at e
    obtain ⟨rfl, rfl⟩ := e
    exact ⟨[], F, .refl _, .nil, by simp, by simp [locs], r⟩
  | .str _, vis, vis', d', v, F, e, r => by
    simp only [rbD, Option.some.injEq, Prod.mk.injEq] at e
    obtain ⟨rfl, rfl⟩ := e
    exact ⟨[], F, .refl _, .nil, by simp, by simp [locs], r⟩
  | .set _, vis, vis', d', v, F, e, r => by
    simp only [rbD, Option.some.injEq, Prod.mk.injEq] at e
    obtain ⟨rfl, rfl⟩ := e
    exact ⟨[], F, .refl _, .nil, by simp, by simp [locs], r⟩
  | .ref l, vis, vis', d', v, F, e, r => by
    simp only [rbD] at e
    cases hl : decide (l < b) with
    | true =>
      rw [hl] at e
      simp only [Option.some.injEq, Prod.mk.injEq] at e
      obtain ⟨rfl, rfl⟩ := e
      exact ⟨[], F, .refl _, .nil, by simp, by simp [locs], clsRp (b := b) (.ref l) (by simpa [D.cls] using hl) r⟩
    | false =>
      rw [hl] at e
      obtain ⟨a, h1, rfl, rfl⟩ := r
      obtain ⟨L, G, p, n, o, q, k⟩ := hg l vis d' vis' e (by simpa using hl)
      exact ⟨L, G, p, n, o, by simpa using q, k a h1⟩
  | .tup ds, vis, vis', d', v, F, e, r => by
    obtain ⟨a, vs, rfl, h, r⟩ := r
    simp only [rbD, Option.map_eq_some_iff] at e
    obtain ⟨⟨x, y⟩, e1, e2⟩ := e
    cases e2
    obtain ⟨L, G, p, n, o, q, k⟩ := rbs_ok hg ds e1 r
    exact ⟨L, G, p, n, o, q, ⟨a, vs, rfl, h, k⟩⟩
  | .lst ds, vis, vis', d', v, F, e, r => by
    obtain ⟨a, vs, G0, rfl, h, r, rfl⟩ := r
    simp only [rbD, Option.map_eq_some_iff] at e
    obtain ⟨⟨x, y⟩, e1, e2⟩ := e
    cases e2
    obtain ⟨L, G, p, n, o, q, k⟩ := rbs_ok hg ds e1 r
    exact ⟨L, a :: G, p, n, o, List.Perm.cons a q, ⟨a, vs, G, rfl, h, k, rfl⟩⟩
  | .dic kvs, vis, vis', d', v, F, e, r => by
    obtain ⟨a, G0, rfl, rfl, hh⟩ := r
    simp only [rbD, Option.map_eq_some_iff] at e
    obtain ⟨⟨x, y⟩, e1, e2⟩ := e
    cases e2
    rcases hh with ⟨ws, h, r⟩ | ⟨ws, h, r⟩
    · obtain ⟨L, G, p, n, o, q, k⟩ := rbK_ok hg kvs e1 r
      exact ⟨L, a :: G, p, n, o, List.Perm.cons a q, ⟨a, G, rfl, rfl, .inl ⟨ws, h, k⟩⟩⟩
    · obtain ⟨L, G, p, n, o, q, k⟩ := rbT_ok hg kvs e1 r
      exact ⟨L, a :: G, p, n, o, List.Perm.cons a q, ⟨a, G, rfl, rfl, .inr ⟨ws, h, k⟩⟩⟩
  | .exc c fs, vis, vis', d', v, F, e, r => by
    simp only [rbD] at e
    cases hc : D.clss b fs with
    | false => rw [hc] at e; cases e
    | true =>
      rw [hc] at e
      simp only [Option.some.injEq, Prod.mk.injEq] at e
      obtain ⟨rfl, rfl⟩ := e
      exact ⟨[], F, .refl _, .nil, by simp, by simp [locs], clsRp (b := b) (.exc c fs) (by simpa [D.cls] using hc) r⟩
  | .lam c fs, vis, vis', d', v, F, e, r => by simp [rbD] at e
  | .frl ds, vis, vis', d', v, F, e, r => by simp [rbD] at e
theorem rbs_ok {g : Nat -> List Nat -> Option (D × List Nat)} (hg : RbG Z ρ H b g) : ∀ (ds : List D) {vis vis' : List Nat} {ds' : List D} {vs : List V} {F : List Addr}, rbDs g b ds vis = some (ds', vis') -> Rps Z ρ H ds vs F ->
    ∃ (L : List Nat) (G : List Addr), vis'.Perm (L ++ vis) /\ L.Nodup /\ (∀ m ∈ L, b <= m /\ m ∉ vis) /\ G.Perm (F ++ locs ρ L) /\ Rps Z (ρ.take b) H ds' vs G
  | [], vis, vis', d', v, F, e, r => by
    simp only [rbDs, Option.some.injEq, Prod.mk.injEq] at e
    obtain ⟨rfl, rfl⟩ := e
    exact ⟨[], F, .refl _, .nil, by simp, by simp [locs], r⟩
  | d :: ds, vis, vis', d', v, F, e, r => by
    obtain ⟨u, ws, F1, F2, rfl, r1, r2, rfl⟩ := r
    simp only [rbDs, Option.bind_eq_some_iff, Option.map_eq_some_iff] at e
    obtain ⟨⟨x, y⟩, e1, ⟨x2, y2⟩, e2, e3⟩ := e
    cases e3
    obtain ⟨L1, G1, p1, n1, o1, q1, k1⟩ := rb_ok hg d e1 r1
    obtain ⟨L2, G2, p2, n2, o2, q2, k2⟩ := rbs_ok hg ds e2 r2
    obtain ⟨p, n, o⟩ := vis_step p1 n1 o1 p2 n2 o2
    refine ⟨L2 ++ L1, G1 ++ G2, p, n, o, ?_, ⟨u, ws, G1, G2, rfl, k1, k2, rfl⟩⟩
    rw [locs_append]
    exact (q1.append q2).trans (perm4 _ _ _ _)
theorem rbK_ok {g : Nat -> List Nat -> Option (D × List Nat)} (hg : RbG Z ρ H b g) : ∀ (ds : List (Ky × D)) {vis vis' : List Nat} {ds' : List (Ky × D)} {vs : List (L2.Key × V)} {F : List Addr}, rbDk g b ds vis = some (ds', vis') -> RpK Z ρ H ds vs F ->
    ∃ (L : List Nat) (G : List Addr), vis'.Perm (L ++ vis) /\ L.Nodup /\ (∀ m ∈ L, b <= m /\ m ∉ vis) /\ G.Perm (F ++ locs ρ L) /\ RpK Z (ρ.take b) H ds' vs G
  | [], vis, vis', d', v, F, e, r => by
    simp only [rbDk, Option.some.injEq, Prod.mk.injEq] at e
    obtain ⟨rfl, rfl⟩ := e
    exact ⟨[], F, .refl _, .nil, by simp, by simp [locs], r⟩
  | (k, d) :: ds, vis, vis', d', v, F, e, r => by
    obtain ⟨j, u, ws, F1, F2, rfl, rfl, r1, r2, rfl⟩ := r
    simp only [rbDk, Option.bind_eq_some_iff, Option.map_eq_some_iff] at e
    obtain ⟨⟨x, y⟩, e1, ⟨x2, y2⟩, e2, e3⟩ := e
    cases e3
    obtain ⟨L1, G1, p1, n1, o1, q1, k1⟩ := rb_ok hg d e1 r1
    obtain ⟨L2, G2, p2, n2, o2, q2, k2⟩ := rbK_ok hg ds e2 r2
    obtain ⟨p, n, o⟩ := vis_step p1 n1 o1 p2 n2 o2
    refine ⟨L2 ++ L1, G1 ++ G2, p, n, o, ?_, ⟨j, u, ws, G1, G2, rfl, rfl, k1, k2, rfl⟩⟩
    rw [locs_append]
    exact (q1.append q2).trans (perm4 _ _ _ _)
theorem rbT_ok {g : Nat -> List Nat -> Option (D × List Nat)} (hg : RbG Z ρ H b g) : ∀ (ds : List (Ky × D)) {vis vis' : List Nat} {ds' : List (Ky × D)} {vs : List (List L2.Key × V)} {F : List Addr}, rbDk g b ds vis = some (ds', vis') -> RpT Z ρ H ds vs F ->
    ∃ (L : List Nat) (G : List Addr), vis'.Perm (L ++ vis) /\ L.Nodup /\ (∀ m ∈ L, b <= m /\ m ∉ vis) /\ G.Perm (F ++ locs ρ L) /\ RpT Z (ρ.take b) H ds' vs G
  | [], vis, vis', d', v, F, e, r => by
    simp only [rbDk, Option.some.injEq, Prod.mk.injEq] at e
    obtain ⟨rfl, rfl⟩ := e
    exact ⟨[], F, .refl _, .nil, by simp, by simp [locs], r⟩
  | (k, d) :: ds, vis, vis', d', v, F, e, r => by
    obtain ⟨j, u, ws, F1, F2, rfl, rfl, r1, r2, rfl⟩ := r
    simp only [rbDk, Option.bind_eq_some_iff, Option.map_eq_some_iff] at e
    obtain ⟨⟨x, y⟩, e1, ⟨x2, y2⟩, e2, e3⟩ := e
    cases e3
    obtain ⟨L1, G1, p1, n1, o1, q1, k1⟩ := rb_ok hg d e1 r1
    obtain ⟨L2, G2, p2, n2, o2, q2, k2⟩ := rbT_ok hg ds e2 r2
    obtain ⟨p, n, o⟩ := vis_step p1 n1 o1 p2 n2 o2
    refine ⟨L2 ++ L1, G1 ++ G2, p, n, o, ?_, ⟨j, u, ws, G1, G2, rfl, rfl, k1, k2, rfl⟩⟩
    rw [locs_append]
    exact (q1.append q2).trans (perm4 _ _ _ _)
end
theorem rbC_ok (s : SR Z ρ st H) : ∀ n, RbG Z ρ H b (rbC st b n)
  | 0 => fun l vis d' vis' e _ => by simp [rbC] at e
  | n + 1 => fun l vis d' vis' e hb => by
    simp only [rbC] at e
    cases hv : vis.contains l with
    | true => rw [hv] at e; cases e
    | false =>
      rw [hv] at e
      have nv : l ∉ vis := by simpa using hv
      cases hc : st[l]? with
      | none => rw [hc] at e; cases e
      | some c =>
        rw [hc] at e
        obtain ⟨a, ha, k, r⟩ := s.at hc
        have go : ∀ (d : D), c = d -> rbD (rbC st b n) b d (l :: vis) = some (d', vis') -> ∃ (L : List Nat) (G : List Addr), vis'.Perm (L ++ vis) /\ L.Nodup /\ (∀ m ∈ L, b <= m /\ m ∉ vis) /\ G.Perm (locs ρ L) /\ ∀ a, ρ[l]? = some a -> Rp Z (ρ.take b) H d' (.ref a) G := by
          intro d hd e
          rw [hd] at r
          obtain ⟨L, G, p, nd, o, q, kk⟩ := rb_ok (rbC_ok s n) d e r
          refine ⟨L ++ [l], G, ?_, ?_, ?_, ?_, ?_⟩
          · rw [List.append_assoc]; exact p
          · refine List.nodup_append.mpr ⟨nd, by simp, ?_⟩
            intro x hx y hy z
            subst z
            have ey := List.mem_singleton.mp hy
            exact (o _ hx).2 (by rw [ey]; exact List.mem_cons_self)
          · intro m hm
            rcases List.mem_append.mp hm with hm | hm
            · exact ⟨(o m hm).1, fun z => (o m hm).2 (List.mem_cons_of_mem _ z)⟩
            · cases List.mem_singleton.mp hm; exact ⟨hb, nv⟩
          · rw [locs_append]
            refine q.trans ?_
            have el : locs ρ [l] = [a] := by simp [locs, ha]
            rw [el]
            exact List.perm_append_comm
          · intro a' ha'
            rw [ha] at ha'
            cases ha'
            exact kk
        cases c with
        | lst ds => exact go _ rfl e
        | dic kvs => exact go _ rfl e
        | set xs =>
          have e' : rbD (rbC st b n) b (.set xs) (l :: vis) = some (d', vis') := by simpa [rbD] using e
          exact go _ rfl e'
        | _ => cases e
theorem cut_ok {st0 : Sto} {ρ0 : List Addr} {H0 : Hp} (s0 : SR Z ρ0 st0 H0) (s : SR Z ρ st H) (hp : ρ.take st0.length = ρ0) (ok : okPre st0 st st0.length = true) : SR Z ρ0 (st.take st0.length) H := by
  have hl : st0.length <= st.length := by
    have : ρ0.length = st0.length := s0.len
    rw [<- hp, List.length_take, s.len] at this
    omega
  have pre : ∀ (cs cs' : Sto) (l : Nat) (c c' : D), okPre cs cs' st0.length = true -> cs[l]? = some c -> cs'[l]? = some c' -> c = c' ∨ cellCl st0.length c' = true := by
    intro cs
    induction cs with
    | nil => intro cs' l c c' _ h; simp at h
    | cons x xs ih =>
      intro cs' l c c' h h1 h2
      cases cs' with
      | nil => simp [okPre] at h
      | cons y ys =>
        simp only [okPre, Bool.and_eq_true, Bool.or_eq_true, decide_eq_true_eq] at h
        cases l with
        | zero => cases h1; cases h2; exact h.1
        | succ l => exact ih ys l c c' h.2 (by simpa using h1) (by simpa using h2)
  refine ⟨by rw [List.length_take, s0.len, Nat.min_eq_left hl], s0.nd, fun l c h => ?_, fun l c a h1 h2 => ?_, fun p hp => ⟨(s0.gb p hp).1, (s.gb p hp).2⟩⟩
  · rw [List.getElem?_take] at h
    split at h
    · exact s.kind l c h
    · cases h
  · rw [List.getElem?_take] at h1
    split at h1
    · rename_i hlt
      have h2' : ρ[l]? = some a := by
        rw [<- hp, List.getElem?_take_of_lt hlt] at h2; exact h2
      have r := s.cell l c a h1 h2'
      have h0 : st0[l]? = some st0[l] := List.getElem?_eq_getElem hlt
      rcases pre st0 st l _ c ok h0 h1 with e | e
      · have r0 := s0.cell l _ a h0 h2
        rw [e] at r0
        have cl := cellCl_of (s.kind l c h1) r0
        rw [s0.len] at cl
        have := clsCell (b := st0.length) cl r
        rw [hp] at this; exact this
      · have := clsCell (b := st0.length) e r
        rw [hp] at this; exact this
    · cases h1
def spI (Z : Wc) (g : List D -> M D) (np : Nat) : Sp := fun vs H Q E => vs.length = np /\ ∃ ρ0 st0 H0 ρ st ds F, SR Z ρ0 st0 H0 /\ Now Z ρ0 H0 ρ st H F /\ Rps Z ρ H ds vs F /\ Post (Rp Z) Z (fun cls dx _ H' => E cls dx H') (g ds st) ρ0 [] H0 Q
theorem leave_ok {ρ0 ρ ρ1 : List Addr} {st0 stc st1 st2 : Sto} {H0 Hc H2 : Hp} {W : WX} {d : D} {v : V} {F G N : List Addr} {σ : L2.St} {Q : VK} (s0 : SR Z ρ0 st0 H0) (n : Now Z ρ0 H0 ρ stc Hc F)
    (n2 : Now Z ρ0 H0 ρ1 st2 H2 G) (hp : ρ1.take stc.length = ρ) (r : Rp Z ρ1 H2 d v G)
    (h : Post (Rp Z) Z W (leaveD stc (.ok d st2)) ρ0 σ H0 Q) : Q v H2 := by
  unfold leaveD at h
  cases e1 : okPre stc st2 stc.length with
  | false =>
    simp only [e1] at h
    exact h ρ1 H2 v G n2.stp n2.sr r
  | true =>
    cases e2 : rback st2 stc.length d with
    | none =>
      simp only [e1, e2] at h
      exact h ρ1 H2 v G n2.stp n2.sr r
    | some d' =>
      simp only [e1, e2] at h
      unfold rback at e2
      simp only [Option.map_eq_some_iff] at e2
      obtain ⟨⟨x, vis'⟩, e3, rfl⟩ := e2
      obtain ⟨L, G', p, nd, o, q, k⟩ := rb_ok (rbC_ok (b := stc.length) n2.sr 8) d e3 r
      rw [hp] at k
      refine h ρ H2 v G' ?_ (cut_ok n.sr n2.sr hp e1) k
      obtain ⟨M, eM, ndM, fM, kM⟩ := n2.stp
      obtain ⟨M0, eM0, _, _, _⟩ := n.stp
      have sub : ∀ a ∈ locs ρ1 L, a ∈ M /\ a ∉ M0 := by
        intro a ha
        obtain ⟨l, hl, el⟩ := List.mem_filterMap.mp ha
        have hge := (o l hl).1
        have lenρ : ρ.length = stc.length := n.sr.len
        have len0 : ρ0.length <= ρ.length := by rw [eM0]; simp
        constructor
        · rw [eM, List.getElem?_append_right (by omega)] at el
          exact List.mem_of_getElem? el
        · intro z
          have z1 : a ∈ ρ := by rw [eM0]; exact List.mem_append_right _ z
          obtain ⟨i, hi⟩ := List.mem_iff_getElem?.mp z1
          have hil : i < stc.length := by rw [<- lenρ]; exact (List.getElem?_eq_some_iff.mp hi).1
          have hi' : ρ1[i]? = some a := by
            rw [<- hp, List.getElem?_take_of_lt hil] at hi; exact hi
          have nd1 := n2.sr.nd
          have := (List.getElem?_inj (by exact (List.getElem?_eq_some_iff.mp hi').1) nd1).mp (hi'.trans el.symm)
          omega
      have m0 : ∀ a ∈ M0, a ∈ M := by
        intro a ha
        have z1 : a ∈ ρ := by rw [eM0]; exact List.mem_append_right _ ha
        have z2 : a ∈ ρ1 := by rw [<- hp] at z1; exact List.mem_of_mem_take z1
        rw [eM] at z2
        rcases List.mem_append.mp z2 with z2 | z2
        · have nd0 := n.sr.nd
          rw [eM0] at nd0
          exact ((List.nodup_append.mp nd0).2.2 a z2 a ha rfl).elim
        · exact z2
      refine ⟨M0, eM0, ?_, ?_, kM⟩
      · have nd0 := n.sr.nd
        rw [eM0] at nd0
        have ndG := List.nodup_append.mp ndM
        refine List.nodup_append.mpr ⟨(List.nodup_append.mp nd0).2.1, ?_, ?_⟩
        · refine q.nodup_iff.mpr (List.nodup_append.mpr ⟨n2.nd, ?_, ?_⟩)
          · exact nodup_locs n2.sr.nd nd
          · intro a ha b hb z
            subst z
            exact ndG.2.2 a (sub a hb).1 a ha rfl
        · intro a ha b hb z
          subst z
          rcases List.mem_append.mp (q.mem_iff.mp hb) with hb | hb
          · exact ndG.2.2 a (m0 a ha) a hb rfl
          · exact (sub a hb).2 ha
      · intro a ha
        rcases List.mem_append.mp ha with ha | ha
        · exact fM a (List.mem_append_left _ (m0 a ha))
        · rcases List.mem_append.mp (q.mem_iff.mp ha) with ha | ha
          · exact fM a (List.mem_append_right _ ha)
          · exact fM a (List.mem_append_left _ (sub a ha).1)
theorem leaveX_ok {ρ0 ρ ρ1 : List Addr} {st0 stc st1 st2 : Sto} {H0 Hc H2 : Hp} {W : WX} {e : D} {cls : Value} {dx : Option Addr} {F : List Addr} {σ : L2.St} {Q : VK} (n : Now Z ρ0 H0 ρ stc Hc F)
    (n2 : Now Z ρ0 H0 ρ1 st2 H2 []) (hp : ρ1.take stc.length = ρ) (r : XcR Z ρ1 H2 e cls dx)
    (h : Post (Rp Z) Z W (leaveD stc (.exc e st2)) ρ0 σ H0 Q) : W cls dx σ H2 := by
  unfold leaveD at h
  cases e1 : okPre stc st2 stc.length with
  | false =>
    simp only [e1, Bool.false_and] at h
    exact h ρ1 H2 cls dx n2.stp n2.sr r
  | true =>
    cases e2 : D.cls stc.length e with
    | false =>
      simp only [e1, e2, Bool.and_false] at h
      exact h ρ1 H2 cls dx n2.stp n2.sr r
    | true =>
      simp only [e1, e2, Bool.and_self] at h
      obtain ⟨c, fs, rfl, hc, rx⟩ := r
      have rx' := clsRpX (b := stc.length) fs (by simpa [D.cls] using e2) rx
      rw [hp] at rx'
      refine h ρ H2 cls dx ?_ (cut_ok n.sr n2.sr hp e1) ⟨c, fs, rfl, hc, rx'⟩
      obtain ⟨M, eM, ndM, fM, kM⟩ := n2.stp
      obtain ⟨M0, eM0, nd0, f0, _⟩ := n.stp
      exact ⟨M0, eM0, by simpa using (List.nodup_append.mp nd0).1, fun a ha => f0 a (List.mem_append_left _ (by simpa using ha)), kM⟩
end
end Fs
namespace Fs
open PySem L2 PyProof.Rows PySem.Spec
structure FgOk (P : Program) (w : World) (K : PySem.W.Frag) (mg : Str -> Option Value) (base : Heap) (k : Nat) (f : Addr) (fd : FuncData) (ps : List Str) (sp : Sp) : Prop where
  len : ∀ vs H Q E, sp vs H Q E -> vs.length = ps.length
  run : ∀ (A : Around) (outer : List PySem.Env) (s : Shared) (H : Hp) (args : Args) (us : List Value) (vs : List V) (Q : VK) (E : XK), Room k A -> A.guards = some [] -> Env0 P w K mg base A outer s H -> BindsTo s fd args (ps.zip us) -> Vals vs us -> sp vs H Q E ->
    codeAny (model P w) A (.call (.ref f) args) (CR (L2.CX P w) outer P w H s Q E) s
section
variable {P : Program} {w : World} {K : PySem.W.Frag} {mg : Str -> Option Value} {base : Heap}
theorem fg_of {k : Nat} {f : Addr} {name qual : Str} {params : Arguments} {body : List Stmt} {scope : Scope} {dV kV doc pm cdv ct oc : Value} {an od : Option Addr}
    {osl : Array (Option Value)} {N ps : List Str} {sp : Sp} (lk : K.lookup f = some ⟨oc, od, .func (PySem.W.fnOf name qual params body scope dV kV doc pm an cdv ct), osl⟩) (hcd : PySem.W.codeIn K cdv qual = true) (S : FnScope N ps scope)
    (len : ∀ vs H Q E, sp vs H Q E -> vs.length = ps.length)
    (hbody : ∀ (A : Around) (outer : List PySem.Env) (s : Shared) (H : Hp) (vs : List V) (Q : VK) (E : XK), Room k (A.deeper (envOfC qual scope s.heap.objs.size f cdv)) -> A.guards = some [] -> sp vs H Q E ->
      ∃ t, PSs (cxOf (L2.CX P w) P w K mg base N qual scope f cdv A outer s H E) body t /\ t { nx := fun _ H' => Q .non H', rt := Q } (start N vs) H) :
    FgOk P w K mg base (k + 1) f (PySem.W.fnOf name qual params body scope dV kV doc pm an cdv ct) ps sp := by
  refine ⟨len, fun A outer s H args us vs Q E hr hgd e0 hb r hsp => ?_⟩
  have KX : K.In s.heap := e0.mod.kin.keeps fun b o e => (e0.bs b o e).1
  have lim : s.heap.NoLimit := e0.mod.nolimit.keeps fun b o e => (e0.bs b o e).1
  have hkind : ∀ y ∈ ps.zip us, scope.names.lookup y.1 = some .local ∨ (scope.names.lookup y.1 = some .cell /\ ((cellsFrom (s.heap.objs.size + 1) scope.names []).lookup y.1).isSome = true) := fun y hy => by
    rcases S.par y.1 (List.of_mem_zip hy).1 with q | q
    · exact Or.inl q
    · exact Or.inr ⟨q, PySem.W.cellsFrom_some _ _ _ (Or.inl q)⟩
  have hl := len _ _ _ _ hsp
  refine codeAny_call_function hr.depth (KX _ _ lk) rfl S.co S.gen rfl (PySem.W.codeRec_of KX hcd) (hb _ _ _ _ (wpAny_newFunctionEnv_cells S.kind hkind fun env he s1 x => ?_))
  cases he
  refine ⟨lim.keeps x.toInCall.keep, codeAny_func ?_⟩
  obtain ⟨t, ht, hq⟩ := hbody A outer s H vs Q E (hr.deeper _) hgd hsp
  have I := inv_start (CX := L2.CX P w) (E := E) S hr.hd e0 hl r x
  refine wpAny_mono (ht.run [] s1 (start N vs) H _ I hq) (fun fl s' hs => ?_) fun e s' hs => hs
  cases fl with
  | ret u => exact let ⟨v, σ', H', J, rv, q⟩ := hs; ⟨v, H', J.os, J.bare, J.base, J.hok, rv, q⟩
  | next => exact let ⟨σ', H', J, q⟩ := hs; ⟨V.non, H', J.os, J.bare, J.base, J.hok, rfl, q⟩
  | brk => exact let ⟨_, _, _, q⟩ := hs; q.elim
  | cont => exact let ⟨_, _, _, q⟩ := hs; q.elim
end
section
variable {X : L2.Cx} {Z : Wc} {T : Tbl} {W : WX} {k : Nat} {f : Addr} {fd : FuncData} {ps : List Str} {x : Str} {p pos : Pos} {e : Expr} {es : List Expr} {As : List Ex} {A : Ex}
theorem run_fg {sp : Sp} {E : XK} {pins : List (Addr × Obj)} {σ : L2.St} {H : Hp} {s : Shared} {Q : VK} {us : List Value} {vs : List V} {args : Args} (F : FgOk X.prog X.w X.K X.mg X.base k f fd ps sp) (hr : Room k X.A) (hgd : X.A.guards = some [])
    (hx : ∀ e s', L2.CX X.prog X.w X.stack H s E e s' -> X.xe e s') (I : Inv X pins σ H s) (hb : BindsTo s fd args (ps.zip us)) (r : Vals vs us) (h : sp vs H Q E) :
    codeAny (model X.prog X.w) X.A (.call (.ref f) args) (fun r s' => match r with
      | .ok (.ret u) => EP X pins σ Q u s'
      | .ok _ => False
      | .error e => X.xe e s') s := by
  refine codeAny_mono (F.run X.A X.stack s H args us vs Q E hr hgd I.env0 hb r h) fun r s' hq => ?_
  cases r with
  | error e => exact hx e s' hq
  | ok fl => cases fl with
    | ret u => exact I.after hq
    | next => exact hq.elim
    | brk => exact hq.elim
    | cont => exact hq.elim
theorem give_ok {g : List D -> M D} {np : Nat} {σ : L2.St} {H : Hp} {Q : VK} {As : List Ex} (h : ∃ ρ env st, ER Z ρ H env σ /\ SR Z ρ st H /\ Post (Rp Z) Z W (bnd (evs T As env) (fun ds => g ds) st) ρ σ H Q)
    (hlen : As.length = np) : iEs T Z W As σ H (fun vs H1 => spI Z g np vs H1 Q (fun cls dx H' => W cls dx σ H')) := by
  obtain ⟨ρ, env, st, er, sr, h⟩ := h
  refine ⟨ρ, env, st, er, sr, ?_⟩
  have hl : ∀ {ds st'}, evs T As env st = .ok ds st' -> ds.length = As.length := by
    intro ds st'
    clear h hlen sr
    induction As generalizing st ds st' with
    | nil => intro e; simp only [evs, ret] at e; cases e; rfl
    | cons a as ih =>
      intro e
      simp only [evs, bnd] at e
      cases e1 : ev T a env st with
      | ok d s1 =>
        rw [e1] at e
        simp only at e
        cases e2 : evs T as env s1 with
        | ok ds2 s2 =>
          rw [e2] at e
          simp only [ret] at e
          cases e
          simp [ih _ e2]
        | exc _ _ => rw [e2] at e; cases e
        | bad => rw [e2] at e; cases e
      | exc _ _ => rw [e1] at e; cases e
      | bad => rw [e1] at e; cases e
  have sq := Post.seq rpsOk (Now.start sr) sr h
  cases e1 : evs T As env st with
  | ok ds st1 =>
    rw [e1] at sq
    intro ρ' H' v F a b c
    obtain ⟨ρ1, d1, st2, F1, n1, t1, r1, h1⟩ := sq ρ' H' v F a b c
    have e0 := sq ρ' H' v F a b c
    refine ⟨?_, ρ, st, H, ρ', st1, ds, F, sr, ⟨a, b, fun z hz => c.there z hz, fun z hz => a.out sr z hz, a.nodup⟩, c, ?_⟩
    · rw [<- c.length, hl e1, hlen]
    · unfold bnd at h
      rw [e1] at h
      exact h
  | exc x st1 => rw [e1] at sq; exact sq
  | bad => rw [e1] at sq; exact sq
theorem se_call {i : Nat} (F : FgOk X.prog X.w X.K X.mg X.base k f fd ps (spI Z (T.fn i) ps.length)) (hr : Room k X.A) (hgd : X.A.guards = some []) (tk : Takes X W) (hg : Gl X x) (hm : X.mg x = some (.ref f)) (hk : PySem.W.keepIn X.K (.ref f) = true) (hb : Binds X.K fd ps [])
    (ha : PA X (e :: es) (iEs T Z W As)) (hlen : As.length = ps.length) (hdb : (x == ("__debug__" : Str)) = false) (he : starEach (e :: es) X.env = (false, eval e X.env) :: starEach es X.env) (hpl : (backTo pos (starEach es X.env)).any (·.1) = false) :
    PE X (.Call (.Name x p) (e :: es) [] pos) (iE T Z W (.call i As)) := by
  refine ⟨fun pins s σ H Q I h => ?_⟩
  have h' := give_ok (g := T.fn i) (np := ps.length) (As := As) (by simpa only [iE, ev] using h) hlen
  refine wpAny_Call_Name_kw (ld_glob I hg hm ?_ hdb)
  refine PySem.W.callWith_K (h₀ := X.base) I.ok.mod.kin hk (thn (ha.run pos pins s σ H _ I h') fun us s1 ⟨vs, H1, I1, r, q⟩ => ⟨I1.kIn, ?_⟩) he hpl
  have hl : us.length = ps.length := by rw [<- r.length]; exact q.1
  refine wpAny_call (codeAny_mono (run_fg (us := us) F hr hgd (fun e s' c => tk e s' (XE.of_call I1 (fun _ _ _ z => z) c)) I1 (by have := hb s1 us I1.kIn (by simpa using hl); simpa using this) r q) fun rr s' hq => ?_)
  cases rr with
  | error e => exact hq
  | ok fl => cases fl with
    | ret u => exact hq
    | next => exact hq
    | brk => exact hq
    | cont => exact hq
end
end Fs
namespace Fs
open PySem L2 PyProof.Rows PySem.Spec
def PostS (Z : Wc) (W : WX) (r : R Fl) (ρ : List Addr) (H : Hp) (Dn : Ends) : Prop := match r with
  | .ok (.nx env') st' => ∀ ρ' H' σ', Stp ρ H ρ' H' [] -> SR Z ρ' st' H' -> ER Z ρ' H' env' σ' -> Dn.nx σ' H'
  | .ok (.br env') st' => ∀ ρ' H' σ', Stp ρ H ρ' H' [] -> SR Z ρ' st' H' -> ER Z ρ' H' env' σ' -> Dn.bk σ' H'
  | .ok (.ct env') st' => ∀ ρ' H' σ', Stp ρ H ρ' H' [] -> SR Z ρ' st' H' -> ER Z ρ' H' env' σ' -> Dn.ct σ' H'
  | .ok (.rt d) st' => ∀ ρ' H' v F, Stp ρ H ρ' H' F -> SR Z ρ' st' H' -> Rp Z ρ' H' d v F -> Dn.rt v H'
  | .ok (.ex env' e) st' => ∀ ρ' H' σ' cls dx, Stp ρ H ρ' H' [] -> SR Z ρ' st' H' -> ER Z ρ' H' env' σ' -> XcR Z ρ' H' e cls dx -> W cls dx σ' H'
  | _ => False
def StpF (ρ : List Addr) (H : Hp) (F ρ' : List Addr) (H' : Hp) : Prop := ∃ N, ρ' = ρ ++ N /\ N.Nodup /\ (∀ a ∈ N, a ∈ F ∨ H a = none) /\ ∀ a o, H a = some o -> a ∉ ρ -> a ∉ F -> H' a = some o
mutual
def tgN : Tg -> List Nat
  | .nm i => [i]
  | .tup ts => tgNs ts
  | .sub _ _ => []
  | .attr _ _ => []
  | .subP _ _ _ => []
def tgNs : List Tg -> List Nat
  | [] => []
  | t :: ts => tgN t ++ tgNs ts
end
def Sm (L : List Nat) (σ σ' : L2.St) : Prop := σ'.length = σ.length /\ ∀ i, i ∉ L -> σ'[i]? = σ[i]?
theorem Sm.id {L : List Nat} {σ : L2.St} : Sm L σ σ := ⟨rfl, fun _ _ => rfl⟩
theorem Sm.trans {L M : List Nat} {σ σ1 σ2 : L2.St} (a : Sm L σ σ1) (b : Sm M σ1 σ2) : Sm (L ++ M) σ σ2 := ⟨b.1.trans a.1, fun i h => (b.2 i fun z => h (List.mem_append_right _ z)).trans (a.2 i fun z => h (List.mem_append_left _ z))⟩
theorem Sm.set {i : Nat} {σ : L2.St} {v : Option V} : Sm [i] σ (σ.set i v) := ⟨by simp, fun j h => List.getElem?_set_ne (fun e => h (by simp [e]))⟩
def PostA (Z : Wc) (r : R Env) (ρ : List Addr) (H : Hp) (F : List Addr) (L : List Nat) (σ : L2.St) (Q : L2.St -> Hp -> Prop) : Prop := match r with
  | .ok env' st' => ∀ ρ' H' σ', StpF ρ H F ρ' H' -> SR Z ρ' st' H' -> ER Z ρ' H' env' σ' -> Sm L σ σ' -> Q σ' H'
  | _ => False
structure Hand (Z : Wc) (ρ : List Addr) (st : Sto) (H : Hp) (F : List Addr) : Prop where
  sr : SR Z ρ st H
  nd : F.Nodup
  out : ∀ a ∈ F, a ∉ ρ
  th : ∀ a ∈ F, H a ≠ none
section
variable (T : Tbl) (Z : Wc) (W : WX)
def iS (s : Sx) : TS := fun Dn σ H => ∃ ρ env st, ER Z ρ H env σ /\ SR Z ρ st H /\ PostS Z W (exS T s env st) ρ H Dn
def iL (s : List Sx) : TS := fun Dn σ H => ∃ ρ env st, ER Z ρ H env σ /\ SR Z ρ st H /\ PostS Z W (exL T s env st) ρ H Dn
def iG (t : Tg) : TG := fun v σ H Q => ∃ ρ env st d F, Hand Z ρ st H F /\ ER Z ρ H env σ /\ Rp Z ρ H d v F /\ PostA Z (asgT T t d env st) ρ H F (tgN t) σ Q
def iGs (ts : List Tg) : TGs := fun vs σ H Q => ∃ ρ env st ds F, Hand Z ρ st H F /\ ER Z ρ H env σ /\ Rps Z ρ H ds vs F /\ PostA Z (asgTs T ts ds env st) ρ H F (tgNs ts) σ Q
end
section
variable {Z : Wc} {W : WX} {ρ ρ' ρ₁ ρ₂ : List Addr} {H H' H₁ H₂ : Hp} {st st' st₁ : Sto} {F F' F₁ F₂ G : List Addr} {σ : L2.St} {α β γ δ : Type} {rel : Rel α β} {rel₁ : Rel γ δ} {env : Env} {Dn Dn' : Ends}
theorem PostS.tail {r : R Fl} (n : Now Z ρ H ρ₁ st₁ H₁ F) (s : SR Z ρ st H) (h : PostS Z W r ρ H Dn) : PostS Z W r ρ₁ H₁ Dn := by
  cases r with
  | exc x s' => exact h
  | bad => exact h
  | ok f s' => cases f with
    | nx e' => exact fun ρ' H' σ' t sr er => h ρ' H' σ' (n.more s t sr (by simp)).stp.none sr er
    | br e' => exact fun ρ' H' σ' t sr er => h ρ' H' σ' (n.more s t sr (by simp)).stp.none sr er
    | ct e' => exact fun ρ' H' σ' t sr er => h ρ' H' σ' (n.more s t sr (by simp)).stp.none sr er
    | rt d => exact fun ρ' H' v G t sr q => h ρ' H' v G ((n.more s t sr (fun a ha => q.there a ha)).stp.less (List.sublist_append_right _ _)) sr q
    | ex e' e => exact fun ρ' H' σ' cls dx t sr er q => h ρ' H' σ' cls dx (n.more s t sr (by simp)).stp.none sr er q
theorem PostS.lft (ok : RelOk Z rel₁) {m : M γ} {f : γ -> M Fl} (n : Now Z ρ H ρ₁ st₁ H₁ F) (s : SR Z ρ st H) (er : ER Z ρ₁ H₁ env σ) (h : PostS Z W (lft env m f st₁) ρ H Dn) :
    Post rel₁ Z W (m st₁) ρ₁ σ H₁ (fun v H' => ∃ ρ' d st' G, Now Z ρ H ρ' st' H' (F ++ G) /\ Stp ρ₁ H₁ ρ' H' G /\ ER Z ρ' H' env σ /\ rel₁ ρ' H' d v G /\ PostS Z W (f d st') ρ H Dn) := by
  unfold Fs.lft at h
  cases e : m st₁ with
  | ok d s' =>
    rw [e] at h
    exact fun ρ' H' v G t sr r => ⟨ρ', d, s', G, n.more s t sr (ok.there r), t, t.env n.sr er, r, h⟩
  | exc x s' =>
    rw [e] at h
    exact fun ρ' H' cls dx t sr r => h ρ' H' σ cls dx (n.more s t sr (by simp)).stp.none sr (t.env n.sr er) r
  | bad => rw [e] at h; exact h
theorem ER.set {i : Nat} {d : D} {v : V} (er : ER Z ρ H env σ) (r : Rp Z ρ H d v []) : ER Z ρ H (env.set i (some d)) (σ.set i (some v)) := by
  refine ⟨by simp [er.1], fun j x hx => ?_⟩
  by_cases hj : i = j
  · subst hj
    have hl : i < env.length := by
      have := (List.getElem?_eq_some_iff.mp hx).1
      simpa using this
    rw [List.getElem?_set_self hl] at hx
    cases hx
    exact ⟨v, by rw [List.getElem?_set_self (by rw [<- er.1]; exact hl)], r⟩
  · rw [List.getElem?_set_ne hj] at hx
    obtain ⟨u, h1, h2⟩ := er.2 j x hx
    exact ⟨u, by rw [List.getElem?_set_ne hj]; exact h1, h2⟩
theorem ER.gone {i : Nat} (er : ER Z ρ H env σ) : ER Z ρ H (env.set i none) (σ.set i none) := by
  refine ⟨by simp [er.1], fun j x hx => ?_⟩
  by_cases hj : i = j
  · subst hj
    rw [List.getElem?_set] at hx
    simp only [if_true] at hx
    split at hx <;> cases hx
  · rw [List.getElem?_set_ne hj] at hx
    obtain ⟨u, h1, h2⟩ := er.2 j x hx
    exact ⟨u, by rw [List.getElem?_set_ne hj]; exact h1, h2⟩
theorem Now.hand (n : Now Z ρ H ρ₁ st₁ H₁ F) : Hand Z ρ₁ st₁ H₁ F := ⟨n.sr, n.nd, n.out, n.th⟩
theorem Hand.less (n : Hand Z ρ st H F) (h : G.Sublist F) : Hand Z ρ st H G := ⟨n.sr, n.nd.sublist h, fun a ha => n.out a (h.subset ha), fun a ha => n.th a (h.subset ha)⟩
theorem Now.land (n : Now Z ρ H ρ₁ st₁ H₁ F) (s : SR Z ρ st H) (t : StpF ρ₁ H₁ F ρ₂ H₂) : Stp ρ H ρ₂ H₂ [] := by
  obtain ⟨M, rfl, nd, f, k⟩ := n.stp
  obtain ⟨N, rfl, nn, fn, kn⟩ := t
  have old : ∀ a ∈ N, H a = none := fun a ha => by
    rcases fn a ha with z | z
    · exact f a (List.mem_append_right _ z)
    · cases e : H a with
      | none => rfl
      | some o =>
        have nr : a ∉ ρ := fun y => n.sr.has (List.mem_append_left _ y) z
        have := k a o e nr
        rw [z] at this; cases this
  refine ⟨M ++ N, by simp [List.append_assoc], ?_, ?_, fun a o e z => ?_⟩
  · rw [List.append_nil]
    refine List.nodup_append.mpr ⟨(List.nodup_append.mp nd).1, nn, ?_⟩
    intro a ha b hb e
    subst e
    rcases fn a hb with z | z
    · exact (List.nodup_append.mp nd).2.2 a ha a z rfl
    · exact n.sr.has (List.mem_append_right _ ha) z
  · intro a ha
    rw [List.append_nil] at ha
    rcases List.mem_append.mp ha with ha | ha
    · exact f a (List.mem_append_left _ ha)
    · exact old a ha
  · have h1 := k a o e z
    refine kn a o h1 (fun y => ?_) fun y => ?_
    · rcases List.mem_append.mp y with y | y
      · exact z y
      · rw [f a (List.mem_append_left _ y)] at e; cases e
    · rw [f a (List.mem_append_right _ y)] at e; cases e
theorem StpF.pre (s : StpF ρ H F ρ' H') : ∀ (l : Nat) (a : Addr), ρ[l]? = some a -> ρ'[l]? = some a := by
  obtain ⟨N, rfl, _⟩ := s
  exact fun l a h => get_append l a h
theorem StpF.vals {ds : List D} {vs : List V} (s : StpF ρ H F ρ' H') (h : Hand Z ρ st H (F ++ G)) (hF : ∀ a ∈ F, ∃ o, H a = some o /\ HCell o = true) (r : Rps Z ρ H ds vs G) : Rps Z ρ' H' ds vs G := by
  obtain ⟨N, rfl, nn, fn, kn⟩ := s
  refine Rps.stay get_append (fun a o e k => kn a o e (h.sr.not_cell e k) fun z => ?_) (fun a ha o e => kn a o e (h.out a (List.mem_append_right _ ha)) fun z => (List.nodup_append.mp h.nd).2.2 a z a ha rfl) r
  obtain ⟨u, e', k'⟩ := hF a z
  rw [e] at e'; cases e'; rw [k] at k'; cases k'
theorem Hand.step (h : Hand Z ρ st H (F ++ G)) (s : StpF ρ H F ρ' H') (sr : SR Z ρ' st' H') : Hand Z ρ' st' H' G := by
  obtain ⟨N, rfl, nn, fn, kn⟩ := s
  refine ⟨sr, (List.nodup_append.mp h.nd).2.1, fun a ha z => ?_, fun a ha => ?_⟩
  · rcases List.mem_append.mp z with z | z
    · exact h.out a (List.mem_append_right _ ha) z
    · rcases fn a z with y | y
      · exact (List.nodup_append.mp h.nd).2.2 a y a ha rfl
      · exact h.th a (List.mem_append_right _ ha) y
  · cases e : H a with
    | none => exact (h.th a (List.mem_append_right _ ha) e).elim
    | some o =>
      rw [kn a o e (h.out a (List.mem_append_right _ ha)) fun z => (List.nodup_append.mp h.nd).2.2 a z a ha rfl]
      exact nofun
theorem StpF.trans (h : Hand Z ρ st H (F ++ G)) (s : StpF ρ H F ρ₁ H₁) (sr : SR Z ρ₁ st₁ H₁) (t : StpF ρ₁ H₁ G ρ₂ H₂) : StpF ρ H (F ++ G) ρ₂ H₂ := by
  have h1 := h.step s sr
  obtain ⟨N, rfl, nn, fn, kn⟩ := s
  obtain ⟨M, rfl, nm, fm, km⟩ := t
  have kk : ∀ a o, H a = some o -> a ∉ ρ -> a ∉ F -> a ∉ ρ ++ N := fun a o e z y w => by
    rcases List.mem_append.mp w with w | w
    · exact z w
    · rcases fn a w with q | q
      · exact y q
      · rw [q] at e; cases e
  refine ⟨N ++ M, by simp [List.append_assoc], List.nodup_append.mpr ⟨nn, nm, ?_⟩, ?_, fun a o e z y => ?_⟩
  · intro a ha b hb e
    subst e
    rcases fm a hb with q | q
    · exact h1.out a q (List.mem_append_right _ ha)
    · exact sr.has (List.mem_append_right _ ha) q
  · intro a ha
    rcases List.mem_append.mp ha with ha | ha
    · rcases fn a ha with q | q
      · exact .inl (List.mem_append_left _ q)
      · exact .inr q
    · rcases fm a ha with q | q
      · exact .inl (List.mem_append_right _ q)
      · cases e : H a with
        | none => exact .inr rfl
        | some o =>
          by_cases hF : a ∈ F
          · exact .inl (List.mem_append_left _ hF)
          · have nr : a ∉ ρ := fun y => sr.has (List.mem_append_left _ y) q
            rw [kn a o e nr hF] at q; cases q
  · have yF : a ∉ F := fun q => y (List.mem_append_left _ q)
    have yG : a ∉ G := fun q => y (List.mem_append_right _ q)
    exact km a o (kn a o e z yF) (kk a o e z yF) yG
mutual
theorem Rp.hcells : ∀ {d : D} {v : V} {F : List Addr}, Rp Z ρ H d v F -> ∀ a ∈ F, ∃ o, H a = some o /\ HCell o = true
  | .non, v, F, h, a, ha => by obtain ⟨_, rfl⟩ := h; cases ha
  | .bl b, v, F, h, a, ha => by obtain ⟨_, rfl⟩ := h; cases ha
  | .int i, v, F, h, a, ha => by obtain ⟨_, rfl⟩ := h; cases ha
  | .str s, v, F, h, a, ha => by obtain ⟨_, rfl⟩ := h; cases ha
  | .tup ds, v, F, h, a, ha => by obtain ⟨_, _, _, _, h3⟩ := h; exact Rps.hcells h3 a ha
  | .ref l, v, F, h, a, ha => by obtain ⟨_, _, _, rfl⟩ := h; cases ha
  | .lst ds, v, F, h, a, ha => by
    obtain ⟨b, vs, G, _, hb, h3, rfl⟩ := h
    rcases List.mem_cons.mp ha with rfl | ha
    · exact ⟨_, hb, rfl⟩
    · exact Rps.hcells h3 a ha
  | .frl ds, v, F, h, a, ha => by
    obtain ⟨b, o, vs, G, _, hb, h3, rfl⟩ := h
    rcases List.mem_cons.mp ha with rfl | ha
    · exact ⟨_, hb, rfl⟩
    · exact Rps.hcells h3 a ha
  | .dic kvs, v, F, h, a, ha => by
    obtain ⟨b, G, _, rfl, h3⟩ := h
    rcases h3 with ⟨ws, hb, h4⟩ | ⟨ws, hb, h4⟩
    · rcases List.mem_cons.mp ha with rfl | ha
      · exact ⟨_, hb, rfl⟩
      · exact RpK.hcells h4 a ha
    · rcases List.mem_cons.mp ha with rfl | ha
      · exact ⟨_, hb, rfl⟩
      · exact RpT.hcells h4 a ha
  | .set xs, v, F, h, a, ha => by
    obtain ⟨b, S, _, hb, _, _, rfl⟩ := h
    rcases List.mem_cons.mp ha with rfl | ha
    · exact ⟨_, hb, rfl⟩
    · cases ha
  | .exc _ _, v, F, h, a, ha => by obtain ⟨_, _, _, _, _, rfl⟩ := h; cases ha
  | .lam _ _, v, F, h, a, ha => by
    obtain ⟨b, _, rfl, h3⟩ := h
    cases List.mem_singleton.mp ha
    exact h3.hc
theorem Rps.hcells : ∀ {ds : List D} {vs : List V} {F : List Addr}, Rps Z ρ H ds vs F -> ∀ a ∈ F, ∃ o, H a = some o /\ HCell o = true
  | [], vs, F, h, a, ha => by obtain ⟨_, rfl⟩ := h; cases ha
  | d :: ds, vs, F, h, a, ha => by
    obtain ⟨v, ws, F1, F2, rfl, h1, h2, rfl⟩ := h
    rcases List.mem_append.mp ha with ha | ha
    · exact Rp.hcells h1 a ha
    · exact Rps.hcells h2 a ha
theorem RpK.hcells : ∀ {ds : List (Ky × D)} {vs : List (L2.Key × V)} {F : List Addr}, RpK Z ρ H ds vs F -> ∀ a ∈ F, ∃ o, H a = some o /\ HCell o = true
  | [], vs, F, h, a, ha => by obtain ⟨_, rfl⟩ := h; cases ha
  | (k, d) :: ds, vs, F, h, a, ha => by
    obtain ⟨j, v, ws, F1, F2, _, rfl, h1, h2, rfl⟩ := h
    rcases List.mem_append.mp ha with ha | ha
    · exact Rp.hcells h1 a ha
    · exact RpK.hcells h2 a ha
theorem RpT.hcells : ∀ {ds : List (Ky × D)} {vs : List (List L2.Key × V)} {F : List Addr}, RpT Z ρ H ds vs F -> ∀ a ∈ F, ∃ o, H a = some o /\ HCell o = true
  | [], vs, F, h, a, ha => by obtain ⟨_, rfl⟩ := h; cases ha
  | (k, d) :: ds, vs, F, h, a, ha => by
    obtain ⟨j, v, ws, F1, F2, _, rfl, h1, h2, rfl⟩ := h
    rcases List.mem_append.mp ha with ha | ha
    · exact Rp.hcells h1 a ha
    · exact RpT.hcells h2 a ha
end
end
section
variable {X : L2.Cx} {T : Tbl} {Z : Wc} {W : WX} {a b c e o : Expr} {A B C : Ex} {pos p : Pos}
theorem sg_nm {i : Nat} {x : Str} (hN : X.N.Nodup) (hi : X.N[i]? = some x) (hx : Loc X.env.scope x) (hf : X.fn x = true ∨ X.env.scope.names.lookup x = some .local) : PG X (.Name x pos) (iG T Z (.nm i)) := by
  have g := pg_name (pos := pos) hN hi hx hf
  refine ⟨fun pins s σ H v u Q I r h => g.run pins s σ H v u Q I r ?_⟩
  obtain ⟨ρ, env, st, d, F, n, er, rd, h⟩ := h
  obtain ⟨N, p, s', q⟩ := land_ok d n.sr rd n.out n.nd
  simp only [asgT, bnd, landM, ret] at h
  refine h _ H _ ⟨N, rfl, p.nodup_iff.mpr n.nd, fun a ha => .inl (p.mem_iff.mp ha), fun _ _ e _ _ => e⟩ s' (ER.set ?_ q) Sm.set
  exact ⟨er.1, fun j x hx => let ⟨u, h1, h2⟩ := er.2 j x hx; ⟨u, h1, h2.wide⟩⟩
theorem sgs_nil : PGs X [] (iGs T Z []) := by
  refine ⟨fun pins s σ H vs us Q I r h => pgs_nil.run pins s σ H vs us Q I r ?_⟩
  obtain ⟨ρ, env, st, ds, F, n, er, rd, h⟩ := h
  cases ds with
  | nil =>
    obtain ⟨rfl, rfl⟩ := rd
    exact ⟨rfl, by simp only [asgTs, ret] at h; exact h _ _ _ ⟨[], by simp, .nil, by simp, fun _ _ e _ _ => e⟩ n.sr er Sm.id⟩
  | cons d ds => simp only [asgTs, bad] at h; exact h.elim
theorem sgs_cons {es : List Expr} {t : Tg} {ts : List Tg} (h1 : PG X e (iG T Z t)) (h2 : PGs X es (iGs T Z ts)) (hs : (assignEach (e :: es) X.env).map (·.2) = assign e X.env :: (assignEach es X.env).map (·.2)) : PGs X (e :: es) (iGs T Z (t :: ts)) := by
  have g := pgs_cons h1 h2 hs
  refine ⟨fun pins s σ H vs us Q I r h => g.run pins s σ H vs us Q I r ?_⟩
  obtain ⟨ρ, env, st, ds, F, n, er, rd, h⟩ := h
  cases ds with
  | nil => simp only [asgTs, bad] at h; exact h.elim
  | cons d ds =>
    obtain ⟨v, ws, F1, F2, rfl, r1, r2, rfl⟩ := rd
    simp only [asgTs] at h
    refine ⟨v, ws, rfl, ρ, env, st, d, F1, n.less (List.sublist_append_left _ _), er, r1, ?_⟩
    unfold bnd at h
    cases e1 : asgT T t d env st with
    | ok env' st' =>
      rw [e1] at h
      intro ρ' H' σ' t1 sr1 er1 m1
      refine ⟨ρ', env', st', ds, F2, n.step t1 sr1, er1, t1.vals n r1.hcells r2, ?_⟩
      show PostA Z (asgTs T ts ds env' st') ρ' H' F2 (tgNs ts) σ' Q
      have h' : PostA Z (asgTs T ts ds env' st') ρ H (F1 ++ F2) (tgN t ++ tgNs ts) σ Q := h
      cases e2 : asgTs T ts ds env' st' with
      | ok env2 st2 =>
        rw [e2] at h'
        exact fun ρ2 H2 σ2 t2 sr2 er2 m2 => h' ρ2 H2 σ2 (StpF.trans n t1 sr1 t2) sr2 er2 (m1.trans m2)
      | exc _ _ => rw [e2] at h'; exact h'.elim
      | bad => rw [e2] at h'; exact h'.elim
    | exc x s' => rw [e1] at h; exact h.elim
    | bad => rw [e1] at h; exact h.elim
theorem sg_tup {es : List Expr} {ts : List Tg} {k : Nat} (hK : X.K = Z.K) (hc : X.calm = true) (h : PGs X es (iGs T Z ts)) (hl : es.length = ts.length) (hn : (assignEach es X.env).length = es.length) (hst : (assignEach es X.env).findIdx? (·.1) = none) : PG X (.Tuple es k pos) (iG T Z (.tup ts)) := by
  have g := pg_tup (k := k) (pos := pos) hc h hn hst
  have g2 := pg_unl (k := k) (pos := pos) hc h rfl hst
  have len : ∀ {ρ : List Addr} {H : Hp} {F : List Addr} {Q : L2.St -> Hp -> Prop} (ts : List Tg) (ds : List D) (env : Env) (st : Sto) {L : List Nat} {σ : L2.St}, PostA Z (asgTs T ts ds env st) ρ H F L σ Q -> ds.length = ts.length := by
    intro ρ H F Q ts
    induction ts with
    | nil => intro ds env st L σ h; cases ds with
      | nil => rfl
      | cons d ds => simp only [asgTs, bad] at h; exact h.elim
    | cons t ts ih =>
      intro ds env st L σ h
      cases ds with
      | nil => simp only [asgTs, bad] at h; exact h.elim
      | cons d ds =>
        simp only [asgTs, bnd] at h
        cases e1 : asgT T t d env st with
        | ok env' st' => rw [e1] at h; simp [ih ds env' st' h]
        | exc x s' => rw [e1] at h; exact h.elim
        | bad => rw [e1] at h; exact h.elim
  refine ⟨fun pins s σ H v u Q I r q => ?_⟩
  obtain ⟨ρ, env, st, d, F, n, er, rd, q⟩ := q
  simp only [asgT] at q
  have less : ∀ {ds : List D} {G : List Addr}, (∀ a ∈ G, a ∈ F) -> PostA Z (asgTs T ts ds env st) ρ H F (tgNs ts) σ Q -> PostA Z (asgTs T ts ds env st) ρ H G (tgNs ts) σ Q := by
    intro ds G hG h
    cases e : asgTs T ts ds env st with
    | ok env' st' =>
      rw [e] at h
      rintro ρ' H' σ' ⟨N, e1, e2, e3, e4⟩
      exact h ρ' H' σ' ⟨N, e1, e2, fun a ha => (e3 a ha).imp (hG a) id, fun a o q1 q2 q3 => e4 a o q1 q2 fun z => q3 (hG a z)⟩
    | exc _ _ => rw [e] at h; exact h.elim
    | bad => rw [e] at h; exact h.elim
  cases d with
  | tup ds =>
    obtain ⟨a, vs, rfl, hv, rs⟩ := rd
    simp only [ofTup] at q
    exact g.run pins s σ H _ u Q I r ⟨a, vs, rfl, by rw [hK]; exact hv.t, by rw [<- rs.length, len ts ds env st q, hl], ρ, env, st, ds, F, n, er, rs, q⟩
  | lst ds =>
    obtain ⟨a, vs, G, rfl, hv, rs, rfl⟩ := rd
    simp only [ofTup] at q
    have q2 := less (fun x hx => List.mem_cons_of_mem _ hx) q
    exact g2.run pins s σ H _ u Q I r ⟨a, vs, rfl, by rw [hK]; exact SqL.of hv, by rw [<- rs.length, len ts ds env st q, <- hl, hn], ρ, env, st, ds, G, ⟨n.sr, (List.nodup_cons.1 n.nd).2, fun x hx => n.out x (List.mem_cons_of_mem _ hx), fun x hx => n.th x (List.mem_cons_of_mem _ hx)⟩, er, rs, q2⟩
  | ref l =>
    obtain ⟨a, ha, rfl, rfl⟩ := rd
    simp only [ofTup] at q
    cases e : st[l]? with
    | none => rw [e] at q; exact q.elim
    | some c =>
      rw [e] at q
      cases c with
      | lst ds =>
        obtain ⟨b, vs, G, z, hv, rs, hG⟩ := n.sr.cell l _ a e ha
        cases z
        have hG2 : G = [] := by
          have := congrArg List.length hG
          simp only [List.length_cons, List.length_nil] at this
          exact List.eq_nil_of_length_eq_zero (by omega)
        subst hG2
        exact g2.run pins s σ H _ u Q I r ⟨a, vs, rfl, by rw [hK]; exact SqL.of hv, by rw [<- rs.length, len ts ds env st q, <- hl, hn], ρ, env, st, ds, [], n, er, rs, q⟩
      | _ => exact q.elim
  | _ => simp only [ofTup] at q; exact q.elim
end
end Fs
namespace Fs
open PySem L2 PyProof.Rows PySem.Spec
section
variable {X : L2.Cx} {T : Tbl} {Z : Wc} {W : WX} {a b c e : Expr} {A B C : Ex} {pos p : Pos} {s1 s2 : Stmt} {q1 q2 : Sx}
theorem ps_weak {s : Stmt} {t t' : TS} (h : PS X s t) (w : ∀ D σ H, t' D σ H -> t D σ H) : PS X s t' := ⟨fun pins s σ H D I q => h.run pins s σ H D I (w D σ H q)⟩
theorem pss_weak {s : List Stmt} {t t' : TS} (h : PSs X s t) (w : ∀ D σ H, t' D σ H -> t D σ H) : PSs X s t' := ⟨fun pins s σ H D I q => h.run pins s σ H D I (w D σ H q)⟩
theorem ss_ret (ha : PE X a (iE T Z W A)) : PS X (.Return (some a) pos) (iS T Z W (.ret A)) := ps_weak (ps_ret ha) fun D σ H ⟨ρ, env, st, er, sr, h⟩ => by
  simp only [exS] at h
  refine ⟨ρ, env, st, er, sr, (PostS.lft rpOk (Now.start sr) sr er h).mono ?_⟩
  rintro v H1 ⟨ρ1, d, st1, G, n, t, er1, r, h1⟩
  simp only [ret] at h1
  exact h1 _ _ _ _ n.stp n.sr r
theorem ss_xpr (ha : PE X a (iE T Z W A)) (hs : swapsWith a none pos.line X.env = pure false) : PS X (.Expr a pos) (iS T Z W (.xpr A)) := ps_weak (ps_expr ha hs) fun D σ H ⟨ρ, env, st, er, sr, h⟩ => by
  simp only [exS] at h
  refine ⟨ρ, env, st, er, sr, (PostS.lft rpOk (Now.start sr) sr er h).mono ?_⟩
  rintro v H1 ⟨ρ1, d, st1, G, n, t, er1, r, h1⟩
  simp only [ret] at h1
  exact h1 _ _ _ n.stp.none n.sr er1
theorem asg_ok {t : Tg} {D : Ends} {σ : L2.St} {H : Hp} (h : iS T Z W (.asg t A) D σ H) : iE T Z W A σ H (fun x H1 => iG T Z t x σ H1 D.nx) := by
  obtain ⟨ρ, env, st, er, sr, h⟩ := h
  simp only [exS] at h
  refine ⟨ρ, env, st, er, sr, (PostS.lft rpOk (Now.start sr) sr er h).mono ?_⟩
  rintro v H1 ⟨ρ1, d, st1, G, n, t1, er1, r, h1⟩
  have n' : Now Z ρ H ρ1 st1 H1 G := n
  refine ⟨ρ1, env, st1, d, G, n'.hand, er1, r, ?_⟩
  unfold bnd noX at h1
  cases e1 : asgT T t d env st1 with
  | ok env' st' =>
    rw [e1] at h1
    exact fun ρ' H' σ' t2 sr2 er2 _ => h1 ρ' H' σ' (n'.land sr t2) sr2 er2
  | exc _ _ => rw [e1] at h1; exact h1.elim
  | bad => rw [e1] at h1; exact h1.elim
theorem ss_asg {tg : Expr} {t : Tg} (ha : PE X e (iE T Z W A)) (hg : PG X tg (iG T Z t)) (hs : swapsWithSole [tg] e pos.line X.env = pure false) (hw : swappedStores [tg] e X.env = pure none) (h1 : (assignEach [tg] X.env).map (·.2) = [assign tg X.env]) :
    PS X (.Assign [tg] e pos) (iS T Z W (.asg t A)) := ps_weak (ps_asg ha hg hs hw h1) fun D σ H h => asg_ok h
theorem ss_if {as bs : List Stmt} {As Bs : List Sx} {C1 : Cn} (hc : PT X c (iT T Z W C1)) (ha : PSs X as (iL T Z W As)) (hb : PSs X bs (iL T Z W Bs)) : PS X (.If c as bs pos) (iS T Z W (.iff C1 As Bs)) := ps_weak (ps_if hc ha hb) fun D σ H ⟨ρ, env, st, er, sr, h⟩ => by
  simp only [exS] at h
  refine ⟨ρ, env, st, er, sr, (PostS.lft reqOk (Now.start sr) sr er h).mono ?_⟩
  rintro k H1 ⟨ρ1, d, st1, G, n, t, er1, ⟨rfl, rfl⟩, h1⟩
  cases d with
  | true => exact ⟨ρ1, env, st1, er1, n.sr, h1.tail n sr⟩
  | false => exact ⟨ρ1, env, st1, er1, n.sr, h1.tail n sr⟩
theorem ssl_nil : PSs X [] (iL T Z W []) := pss_weak pss_nil fun D σ H ⟨ρ, env, st, er, sr, h⟩ => by
  simp only [exL, ret] at h
  exact h _ _ _ Stp.id sr er
theorem ssl_cons {ss : List Stmt} {qs : List Sx} (h1 : PS X s1 (iS T Z W q1)) (h2 : PSs X ss (iL T Z W qs)) : PSs X (s1 :: ss) (iL T Z W (q1 :: qs)) := pss_weak (pss_cons h1 h2) fun D σ H ⟨ρ, env, st, er, sr, h⟩ => by
  simp only [exL] at h
  refine ⟨ρ, env, st, er, sr, ?_⟩
  unfold seqF at h
  cases e1 : exS T q1 env st with
  | exc _ _ => rw [e1] at h; exact h.elim
  | bad => rw [e1] at h; exact h.elim
  | ok f s' =>
    rw [e1] at h
    cases f with
    | nx e' => exact fun ρ' H' σ' t sr' er' => ⟨ρ', e', s', er', sr', PostS.tail (F := []) (⟨t, sr', by simp, by simp, .nil⟩ : Now Z ρ H ρ' s' H' []) sr h⟩
    | br e' => exact h
    | ct e' => exact h
    | rt d => exact h
    | ex e' x => exact h
theorem ss_whl {bs : List Stmt} {Bs : List Sx} {C1 : Cn} (hp : PassesOwn (model X.prog X.w) X.A X.env X.xe) (hc : PT X c (iT T Z W C1)) (hb : PSs X bs (iL T Z W Bs)) : PS X (.While c bs [] pos) (iS T Z W (.whl C1 Bs)) := ps_weak (ps_while hp hc hb) fun D σ H ⟨ρ, env, st, er, sr, h⟩ => by
  simp only [exS] at h
  refine ⟨fun m σ H => ∃ ρ env st, ER Z ρ H env σ /\ SR Z ρ st H /\ PostS Z W (whLoop (fun σ => evT T C1 σ) (fun σ => exL T Bs σ) m env st) ρ H D, ⟨wfuel, ρ, env, st, er, sr, h⟩, ?_⟩
  rintro m σ H ⟨ρ, env, st, er, sr, h⟩
  cases m with
  | zero => exact h.elim
  | succ m =>
    simp only [whLoop] at h
    refine ⟨ρ, env, st, er, sr, (PostS.lft reqOk (Now.start sr) sr er h).mono ?_⟩
    rintro k H1 ⟨ρ1, d, st1, G, n, t, er1, ⟨rfl, rfl⟩, h1⟩
    cases d with
    | false => simp only [ret] at h1; exact h1 _ _ _ n.stp n.sr er1
    | true =>
      refine ⟨fun σ' H' => ∃ ρ env st, ER Z ρ H' env σ' /\ SR Z ρ st H' /\ PostS Z W (whLoop (fun σ => evT T C1 σ) (fun σ => exL T Bs σ) m env st) ρ H' D, fun σ' H' hN => ⟨m, Nat.lt_succ_self m, hN⟩, ρ1, env, st1, er1, n.sr, ?_⟩
      have h2 := PostS.tail n sr h1
      simp only at h2
      cases e1 : exL T Bs env st1 with
      | exc _ _ => rw [e1] at h2; exact h2.elim
      | bad => rw [e1] at h2; exact h2.elim
      | ok f s' =>
        rw [e1] at h2
        cases f with
        | nx e' => exact fun ρ' H' σ' t sr' er' => ⟨ρ', e', s', er', sr', PostS.tail (F := []) (⟨t, sr', by simp, by simp, .nil⟩ : Now Z ρ1 H1 ρ' s' H' []) n.sr h2⟩
        | ct e' => exact fun ρ' H' σ' t sr' er' => ⟨ρ', e', s', er', sr', PostS.tail (F := []) (⟨t, sr', by simp, by simp, .nil⟩ : Now Z ρ1 H1 ρ' s' H' []) n.sr h2⟩
        | br e' => exact h2
        | rt d => exact h2
        | ex e' x => exact h2
end
end Fs
namespace Fs
open PySem L2 PyProof.Rows PySem.Spec
structure Fol (Z : Wc) (t : Fs.It) (J : L2.It) (I : Nat -> List Addr -> Hp -> List Addr -> Prop) : Prop where
  there : ∀ {i ρ H F}, I i ρ H F -> ∀ a ∈ F, H a ≠ none
  stay : ∀ {i ρ H F ρ' H'}, (∀ (l : Nat) (a : Addr), ρ[l]? = some a -> ρ'[l]? = some a) -> (∀ a o, H a = some o -> HCell o = false -> H' a = some o) -> (∀ a ∈ F, ∀ o, H a = some o -> H' a = some o) -> I i ρ H F -> I i ρ' H' F
  stop : ∀ {i ρ st H F}, SR Z ρ st H -> I i ρ H F -> t.next i st = some none -> J.stop i H
  item : ∀ {i ρ st H F d}, SR Z ρ st H -> I i ρ H F -> t.next i st = some (some d) -> J.go i H /\ ∀ x H', J.yld i H x H' -> (H' = H ∨ ∃ T o vs, H T = none /\ NwT o /\ H' = upd H T (.frz o (.tup vs))) /\ ∃ F1 F2, (F1 ++ F2).Perm F /\ Rp Z ρ H' d x F1 /\ I (i + 1) ρ H' F2
def relI (Z : Wc) : Rel Fs.It L2.It := fun ρ H t J F => ∃ I, Fol Z t J I /\ I 0 ρ H F
theorem relI_ok {Z : Wc} : RelOk Z (relI Z) := ⟨fun ⟨I, f, h⟩ => f.there h, fun hr ht hk ⟨I, f, h⟩ => ⟨I, f, f.stay hr ht hk h⟩⟩
def iI (T : Tbl) (Z : Wc) (W : WX) (it : Ix) : TI := fun σ H R => ∃ ρ env st, ER Z ρ H env σ /\ SR Z ρ st H /\ Post (relI Z) Z W (evI T it env st) ρ σ H R
section
variable {Z : Wc} {W : WX} {ρ ρ' ρ₁ ρ₂ : List Addr} {H H' H₁ H₂ : Hp} {st st' st₁ : Sto} {F F' F₁ F₂ G : List Addr} {σ : L2.St} {env : Env}
theorem Stp.perm (s : Stp ρ H ρ' H' F) (p : G.Perm F) : Stp ρ H ρ' H' G := by
  obtain ⟨N, rfl, n, f, k⟩ := s
  have q : (N ++ G).Perm (N ++ F) := List.Perm.append_left N p
  exact ⟨N, rfl, q.nodup_iff.mpr n, fun a ha => f a (q.mem_iff.mp ha), k⟩
theorem Now.perm (n : Now Z ρ H ρ₁ st₁ H₁ F) (p : G.Perm F) : Now Z ρ H ρ₁ st₁ H₁ G :=
  ⟨n.stp.perm p, n.sr, fun a ha => n.th a (p.mem_iff.mp ha), fun a ha => n.out a (p.mem_iff.mp ha), p.nodup_iff.mpr n.nd⟩
theorem Now.landR (n : Now Z ρ H ρ₁ st₁ H₁ (F ++ G)) (s : SR Z ρ st H) (t : StpF ρ₁ H₁ F ρ₂ H₂) (sr : SR Z ρ₂ st' H₂) : Now Z ρ H ρ₂ st' H₂ G := by
  have hd := n.hand.step t sr
  have h0 := (n.less (List.sublist_append_left F G)).land s t
  refine ⟨?_, sr, hd.th, hd.out, hd.nd⟩
  obtain ⟨M, eM, nd, f, k⟩ := h0
  obtain ⟨M1, e1, nd1, f1, k1⟩ := n.stp
  refine ⟨M, eM, ?_, fun a ha => ?_, k⟩
  · refine List.nodup_append.mpr ⟨by simpa using nd, hd.nd, fun a ha b hb e => ?_⟩
    subst e
    exact hd.out a hb (by rw [eM]; exact List.mem_append_right _ ha)
  · rcases List.mem_append.mp ha with ha | ha
    · exact f a (by simpa using ha)
    · exact f1 a (List.mem_append_right _ (List.mem_append_right _ ha))
theorem StpF.kept (s : StpF ρ H F ρ' H') (h : Hand Z ρ st H (F ++ G)) (hF : ∀ a ∈ F, ∃ o, H a = some o /\ HCell o = true) :
    (∀ (l : Nat) (a : Addr), ρ[l]? = some a -> ρ'[l]? = some a) /\ (∀ a o, H a = some o -> HCell o = false -> H' a = some o) /\ ∀ a ∈ G, ∀ o, H a = some o -> H' a = some o := by
  have pre := s.pre
  obtain ⟨N, rfl, nn, fn, kn⟩ := s
  refine ⟨pre, fun a o e k => kn a o e (h.sr.not_cell e k) fun z => ?_, fun a ha o e => kn a o e (h.out a (List.mem_append_right _ ha)) fun z => (List.nodup_append.mp h.nd).2.2 a z a ha rfl⟩
  obtain ⟨u, e', k'⟩ := hF a z
  rw [e] at e'; cases e'; rw [k] at k'; cases k'
theorem Stp.kept (s : Stp ρ H ρ' H' F) (r : SR Z ρ st H) (hG : ∀ a ∈ G, a ∉ ρ) : (∀ (l : Nat) (a : Addr), ρ[l]? = some a -> ρ'[l]? = some a) /\ (∀ a o, H a = some o -> HCell o = false -> H' a = some o) /\ ∀ a ∈ G, ∀ o, H a = some o -> H' a = some o :=
  ⟨s.pre, s.tup r, fun a ha => s.keep (hG a ha)⟩
theorem Now.tupd (n : Now Z ρ H ρ₁ st₁ H₁ F) (s : SR Z ρ st H) (h : H' = H₁ ∨ ∃ T o vs, H₁ T = none /\ NwT o /\ H' = upd H₁ T (.frz o (.tup vs))) : Now Z ρ H ρ₁ st₁ H' F /\ ∀ {e : Env} {σ : L2.St}, ER Z ρ₁ H₁ e σ -> ER Z ρ₁ H' e σ := by
  rcases h with rfl | ⟨T, o, vs, hT, _, rfl⟩
  · exact ⟨n, fun e => e⟩
  · refine ⟨(n.new s hT).less (List.sublist_cons_self T F), fun {e σ} er => ⟨er.1, fun i d z => ?_⟩⟩
    obtain ⟨v, a, b⟩ := er.2 i d z
    exact ⟨v, a, rp_up hT b⟩
end
section
variable {X : L2.Cx} {T : Tbl} {Z : Wc} {W : WX} {pos : Pos}
theorem ss_for {tg iter : Expr} {bs : List Stmt} {Bs : List Sx} {it : Ix} {t : Tg} (hp : PassesOwn (model X.prog X.w) X.A X.env X.xe) (hc : X.calm = true) (hi : PI X tg iter (iI T Z W it)) (hg : PG X tg (iG T Z t)) (hb : PSs X bs (iL T Z W Bs))
    (hs : ∀ x, foldedSetIterable iter X.env x = pure x) : PS X (.For tg iter bs [] pos) (iS T Z W (.forr it t Bs)) := ps_weak (ps_for hp hc hi hg hb hs) fun Dn σ H ⟨ρ, env, st, er, sr, h⟩ => by
  simp only [exS] at h
  refine ⟨ρ, env, st, er, sr, (PostS.lft relI_ok (Now.start sr) sr er h).mono ?_⟩
  rintro J H1 ⟨ρ1, w, st1, G, n1, t1, er1, ⟨I, fol, hI⟩, h1⟩
  refine ⟨fun i m σ' H' => ∃ ρ' env' st' F, Now Z ρ H ρ' st' H' F /\ ER Z ρ' H' env' σ' /\ I i ρ' H' F /\ PostS Z W (forLoop w (fun d σ => asgT T t d σ) (fun σ => exL T Bs σ) m i env' st') ρ H Dn, ⟨w.len st1 + 1, ρ1, env, st1, G, n1, er1, hI, h1⟩, ?_⟩
  rintro i m σ' H' ⟨ρ', env', st', F, n, er', hI', h'⟩
  cases m with
  | zero => exact h'.elim
  | succ m =>
    simp only [forLoop] at h'
    cases e1 : w.next i st' with
    | none => rw [e1] at h'; exact h'.elim
    | some o => cases o with
      | none =>
        rw [e1] at h'
        exact .inl ⟨fol.stop n.sr hI' e1, h' _ _ _ n.stp.none n.sr er'⟩
      | some d =>
        rw [e1] at h'
        obtain ⟨hgo, hy⟩ := fol.item n.sr hI' e1
        refine .inr ⟨hgo, fun σ2 H2 => ∃ ρ2 env2 st2 F2, Now Z ρ H ρ2 st2 H2 F2 /\ ER Z ρ2 H2 env2 σ2 /\ I (i + 1) ρ2 H2 F2 /\ PostS Z W (forLoop w (fun d σ => asgT T t d σ) (fun σ => exL T Bs σ) m (i + 1) env2 st2) ρ H Dn, fun σ2 H2 hN => ⟨m, Nat.lt_succ_self m, hN⟩, fun x Hx hyl => ?_⟩
        obtain ⟨hH, F1, F2, hperm, rx, hI2⟩ := hy x Hx hyl
        obtain ⟨nx, erx⟩ := (n.perm hperm).tupd sr hH
        refine ⟨ρ', env', st', d, F1, (nx.less (List.sublist_append_left _ _)).hand, erx er', rx, ?_⟩
        unfold noX at h'
        cases e2 : asgT T t d env' st' with
        | exc _ _ => simp only [e2] at h'; exact h'.elim
        | bad => simp only [e2] at h'; exact h'.elim
        | ok env3 st3 =>
          simp only [e2] at h'
          intro ρ3 H3 σ3 t3 sr3 er3 _
          have n3 := nx.landR sr t3 sr3
          obtain ⟨k1, k2, k3⟩ := t3.kept nx.hand rx.hcells
          have hI3 : I (i + 1) ρ3 H3 F2 := fol.stay k1 k2 k3 hI2
          refine ⟨ρ3, env3, st3, er3, sr3, ?_⟩
          cases e3 : exL T Bs env3 st3 with
          | exc _ _ => rw [e3] at h'; exact h'.elim
          | bad => rw [e3] at h'; exact h'.elim
          | ok f st4 =>
            rw [e3] at h'
            have go : ∀ e4, PostS Z W (forLoop w (fun d σ => asgT T t d σ) (fun σ => exL T Bs σ) m (i + 1) e4 st4) ρ H Dn -> ∀ ρ4 H4 σ4, Stp ρ3 H3 ρ4 H4 [] -> SR Z ρ4 st4 H4 -> ER Z ρ4 H4 e4 σ4 ->
                ∃ ρ2 env2 st2 F2, Now Z ρ H ρ2 st2 H4 F2 /\ ER Z ρ2 H4 env2 σ4 /\ I (i + 1) ρ2 H4 F2 /\ PostS Z W (forLoop w (fun d σ => asgT T t d σ) (fun σ => exL T Bs σ) m (i + 1) env2 st2) ρ H Dn := by
              intro e4 h4 ρ4 H4 σ4 t4 sr4 er4
              obtain ⟨q1, q2, q3⟩ := t4.kept sr3 n3.out
              have n4 := n3.more sr t4 sr4 (by simp)
              exact ⟨ρ4, e4, st4, F2, by simpa using n4, er4, fol.stay q1 q2 q3 hI3, h4⟩
            cases f with
            | nx e4 => exact fun ρ4 H4 σ4 t4 sr4 er4 => go e4 h' ρ4 H4 σ4 t4 sr4 er4
            | ct e4 => exact fun ρ4 H4 σ4 t4 sr4 er4 => go e4 h' ρ4 H4 σ4 t4 sr4 er4
            | br e4 => exact fun ρ4 H4 σ4 t4 sr4 er4 => h' ρ4 H4 σ4 (n3.more sr t4 sr4 (by simp)).stp.none sr4 er4
            | rt d4 => exact fun ρ4 H4 v G4 t4 sr4 r4 => h' ρ4 H4 v G4 ((n3.more sr t4 sr4 (fun a ha => r4.there a ha)).stp.less (List.sublist_append_right _ _)) sr4 r4
            | ex e4 x4 => exact fun ρ4 H4 σ4 cls dx t4 sr4 er4 r4 => h' ρ4 H4 σ4 cls dx (n3.more sr t4 sr4 (by simp)).stp.none sr4 er4 r4
end
end Fs
namespace Fs
open PySem L2 PyProof.Rows PySem.Spec
section
variable {Z : Wc}
theorem drop_cons {α : Type} {xs : List α} {i : Nat} {d : α} (h : xs[i]? = some d) : xs.drop i = d :: xs.drop (i + 1) := by
  obtain ⟨hl, e⟩ := List.getElem?_eq_some_iff.mp h
  rw [<- e]; exact List.drop_eq_getElem_cons hl
theorem rps_turn {ρ : List Addr} {H : Hp} {xs : List D} {vs : List V} {i : Nat} {d : D} {F : List Addr} (h : xs[i]? = some d) (r : Rps Z ρ H (xs.drop i) (vs.drop i) F) :
    ∃ x F1 F2, vs[i]? = some x /\ F = F1 ++ F2 /\ Rp Z ρ H d x F1 /\ Rps Z ρ H (xs.drop (i + 1)) (vs.drop (i + 1)) F2 := by
  rw [drop_cons h] at r
  obtain ⟨v, ws, F1, F2, e, r1, r2, rfl⟩ := r
  have hv : vs[i]? = some v := by
    have : (vs.drop i)[0]? = some v := by rw [e]; rfl
    simpa using this
  have hw : ws = vs.drop (i + 1) := by
    have := drop_cons hv
    rw [e] at this
    injection this
  rw [hw] at r2
  exact ⟨v, F1, F2, hv, rfl, r1, r2⟩
theorem fol_tup {xs : List D} (a : Addr) : Fol Z (.one (.items xs)) (Itt Z.K a) (fun i ρ H F => ∃ vs, SqT Z.K H a vs /\ vs.length = xs.length /\ Rps Z ρ H (xs.drop i) (vs.drop i) F) where
  there := fun ⟨vs, _, _, r⟩ => r.there
  stay := fun hr ht hk ⟨vs, h, l, r⟩ => ⟨vs, SqT.stay ht h, l, r.stay hr ht hk⟩
  stop := fun {i ρ st H F} s ⟨vs, h, l, r⟩ e => by
    simp only [It.next, Src.at, Option.some.injEq] at e
    exact ⟨vs, h, by rw [l]; exact List.getElem?_eq_none_iff.mp e⟩
  item := fun {i ρ st H F d} s ⟨vs, h, l, r⟩ e => by
    simp only [It.next, Src.at, Option.some.injEq] at e
    obtain ⟨x, F1, F2, hx, rfl, r1, r2⟩ := rps_turn e r
    refine ⟨⟨vs, x, h, hx⟩, fun y H' hy => ?_⟩
    obtain ⟨rfl, hy⟩ := hy
    have := hy vs h
    rw [hx] at this
    cases this
    exact ⟨.inl rfl, F1, F2, .refl _, r1, vs, h, l, r2⟩
theorem fol_lst {xs : List D} (a : Addr) : Fol Z (.one (.items xs)) (Itl Z.K a) (fun i ρ H F => ∃ vs G, H a = some (.lst vs) /\ vs.length = xs.length /\ Rps Z ρ H (xs.drop i) (vs.drop i) G /\ F = a :: G) where
  there := fun ⟨vs, G, h, _, r, f⟩ b hb => by
    subst f
    rcases List.mem_cons.mp hb with rfl | hb
    · rw [h]; exact nofun
    · exact r.there b hb
  stay := fun hr ht hk ⟨vs, G, h, l, r, f⟩ => by
    subst f
    exact ⟨vs, G, hk a List.mem_cons_self _ h, l, r.stay hr ht (fun b hb => hk b (List.mem_cons_of_mem _ hb)), rfl⟩
  stop := fun {i ρ st H F} s ⟨vs, G, h, l, r, f⟩ e => by
    simp only [It.next, Src.at, Option.some.injEq] at e
    exact ⟨vs, SqL.of h, by rw [l]; exact List.getElem?_eq_none_iff.mp e⟩
  item := fun {i ρ st H F d} s ⟨vs, G, h, l, r, f⟩ e => by
    simp only [It.next, Src.at, Option.some.injEq] at e
    obtain ⟨x, F1, F2, hx, rfl, r1, r2⟩ := rps_turn e r
    refine ⟨⟨vs, x, SqL.of h, hx⟩, fun y H' hy => ?_⟩
    obtain ⟨rfl, hy⟩ := hy
    have := hy vs (SqL.of h)
    rw [hx] at this
    cases this
    subst f
    exact ⟨.inl rfl, F1, a :: F2, List.perm_middle, r1, vs, F2, h, l, r2, rfl⟩
theorem SR.list {ρ : List Addr} {st : Sto} {H : Hp} {l : Nat} {a : Addr} {xs : List D} (s : SR Z ρ st H) (ha : ρ[l]? = some a) (h : st[l]? = some (.lst xs) ∨ st[l]? = some (.frl xs)) : ∃ vs, SqL Z.K H a vs /\ Rps Z ρ H xs vs [] := by
  rcases h with h | h
  · obtain ⟨b, vs, G, z, h1, r, f⟩ := s.cell l _ a h ha
    cases z
    obtain rfl : G = [] := by injection f with _ f; exact f.symm
    exact ⟨vs, SqL.of h1, r⟩
  · obtain ⟨b, o, vs, G, z, h1, r, f⟩ := s.cell l _ a h ha
    cases z
    obtain rfl : G = [] := by injection f with _ f; exact f.symm
    exact ⟨vs, .inl (.inr ⟨o, h1⟩), r⟩
theorem src_cell {l i : Nat} {st : Sto} {o : Option D} (e : Src.at (.cell l) i st = some o) : ∃ xs, (st[l]? = some (.lst xs) ∨ st[l]? = some (.frl xs)) /\ xs[i]? = o := by
  simp only [Src.at] at e
  split at e
  · rename_i xs h; cases e; exact ⟨xs, .inl h, rfl⟩
  · rename_i xs h; cases e; exact ⟨xs, .inr h, rfl⟩
  · cases e
theorem fol_cell {l : Nat} (a : Addr) : Fol Z (.one (.cell l)) (Itl Z.K a) (fun i ρ H F => ρ[l]? = some a /\ F = []) where
  there := fun ⟨_, f⟩ b hb => by rw [f] at hb; cases hb
  stay := fun hr _ _ ⟨h, f⟩ => ⟨hr l a h, f⟩
  stop := fun {i ρ st H F} s ⟨h, f⟩ e => by
    obtain ⟨xs, hc, hx⟩ := src_cell e
    obtain ⟨vs, hv, r⟩ := s.list h hc
    exact ⟨vs, hv, by rw [<- r.length]; exact List.getElem?_eq_none_iff.mp hx⟩
  item := fun {i ρ st H F d} s ⟨h, f⟩ e => by
    obtain ⟨xs, hc, hx⟩ := src_cell e
    obtain ⟨vs, hv, r⟩ := s.list h hc
    obtain ⟨x, G, ex, rx, hG⟩ := r.get hx
    obtain rfl : G = [] := List.sublist_nil.mp hG
    refine ⟨⟨vs, x, hv, ex⟩, fun y H' hy => ?_⟩
    obtain ⟨rfl, hy⟩ := hy
    have := hy vs hv
    rw [ex] at this
    cases this
    exact ⟨.inl rfl, [], [], by rw [f]; exact .refl _, rx, h, rfl⟩
theorem rng_at {a c : Int} {n i : Nat} {o : Option D} (e : (rngN a c n)[i]? = o) : (o = none -> n <= i) /\ ∀ d, o = some d -> i < n /\ d = .int (a + (i : Int) * c) := by
  unfold rngN at e
  rw [List.getElem?_map] at e
  by_cases h : i < n
  · rw [List.getElem?_range h] at e
    subst e
    exact ⟨fun z => (by cases z), fun d z => (by cases z; exact ⟨h, rfl⟩)⟩
  · rw [List.getElem?_eq_none (by simpa using h)] at e
    subst e
    exact ⟨fun _ => Nat.le_of_not_lt h, fun d z => (by cases z)⟩
theorem fol_rng1 (lo : Int) (n : Nat) : Fol Z (.one (.items (rngN lo 1 n))) (Itr lo n) (fun _ _ _ F => F = []) where
  there := fun f b hb => by rw [f] at hb; cases hb
  stay := fun _ _ _ h => h
  stop := fun {i ρ st H F} s f e => by
    simp only [It.next, Src.at, Option.some.injEq] at e
    exact (rng_at e).1 rfl
  item := fun {i ρ st H F d} s f e => by
    simp only [It.next, Src.at, Option.some.injEq] at e
    obtain ⟨hl, rfl⟩ := (rng_at e).2 d rfl
    refine ⟨hl, fun y H' hy => ?_⟩
    obtain ⟨rfl, rfl⟩ := hy
    exact ⟨.inl rfl, [], [], by rw [f]; exact .refl _, ⟨by simp, rfl⟩, rfl⟩
end
section
variable {X : L2.Cx} {T : Tbl} {Z : Wc} {W : WX} {pos p : Pos} {tg e : Expr} {A : Ex}
theorem si_val (hK : X.K = Z.K) (ha : PE X e (iE T Z W A)) : PI X tg e (iI T Z W (.val A)) := by
  refine ⟨fun pins s σ H R I h => ?_⟩
  obtain ⟨ρ, env, st, er, sr, h⟩ := h
  simp only [evI] at h
  have bad : (∀ d s1, ev T A env st ≠ .ok d s1) -> Post (Rp Z) Z W (ev T A env st) ρ σ H (fun _ _ => False) := by
    intro hn
    unfold bnd at h
    cases e1 : ev T A env st with
    | ok d s1 => exact (hn d s1 e1).elim
    | exc x s1 => rw [e1] at h; exact h
    | bad => rw [e1] at h; exact h
  cases e1 : ev T A env st with
  | exc x s1 => exact (pi_tup (tg := tg) ha).run pins s σ H R I ⟨ρ, env, st, er, sr, (bad (by rw [e1]; exact nofun)).mono fun _ _ z => z.elim⟩
  | bad => exact (pi_tup (tg := tg) ha).run pins s σ H R I ⟨ρ, env, st, er, sr, (bad (by rw [e1]; exact nofun)).mono fun _ _ z => z.elim⟩
  | ok d s1 =>
    unfold bnd at h
    rw [e1] at h
    cases d with
    | tup xs =>
      refine (pi_tup (tg := tg) ha).run pins s σ H R I ⟨ρ, env, st, er, sr, ?_⟩
      rw [e1]
      rintro ρ' H' v F t sr' ⟨a, vs, rfl, hv, rs⟩
      refine ⟨a, rfl, ⟨vs, by rw [hK]; exact hv.t⟩, ?_⟩
      rw [hK]
      exact h ρ' H' (Itt Z.K a) F t sr' ⟨_, fol_tup a, vs, hv.t, rs.length.symm, by simpa using rs⟩
    | lst xs =>
      refine (pi_list (tg := tg) ha).run pins s σ H R I ⟨ρ, env, st, er, sr, ?_⟩
      rw [e1]
      rintro ρ' H' v F t sr' ⟨a, vs, G, rfl, hv, rs, rfl⟩
      refine ⟨a, rfl, ⟨vs, SqL.of hv⟩, ?_⟩
      rw [hK]
      exact h ρ' H' (Itl Z.K a) _ t sr' ⟨_, fol_lst a, vs, G, hv, rs.length.symm, by simpa using rs, rfl⟩
    | ref l =>
      simp only [srcOf] at h
      have go : ∀ xs, (s1[l]? = some (.lst xs) ∨ s1[l]? = some (.frl xs)) -> Post (relI Z) Z W (.ok (Fs.It.one (.cell l)) s1) ρ σ H R -> wpAny (model X.prog X.w) X.A (eval e X.env) (fun v s1 => wpAny (model X.prog X.w) X.A (pyIter v) (PIE X pins σ tg R) X.xe s1) X.xe s := by
        intro xs hx h
        refine (pi_list (tg := tg) ha).run pins s σ H R I ⟨ρ, env, st, er, sr, ?_⟩
        rw [e1]
        rintro ρ' H' v F t sr' ⟨a, hl, rfl, rfl⟩
        obtain ⟨vs, hv, rs⟩ := sr'.list hl hx
        refine ⟨a, rfl, ⟨vs, by rw [hK]; exact hv⟩, ?_⟩
        rw [hK]
        exact h ρ' H' (Itl Z.K a) _ t sr' ⟨_, fol_cell a, hl, rfl⟩
      cases hc : s1[l]? with
      | none => rw [hc] at h; exact h.elim
      | some c =>
        rw [hc] at h
        cases c with
        | lst xs => exact go xs (.inl hc) h
        | frl xs => exact go xs (.inr hc) h
        | _ => exact h.elim
    | _ => exact h.elim
theorem evs_one {env : Env} {A : Ex} {σ : L2.St} {ρ : List Addr} {st : Sto} {H : Hp} {α β : Type} {rel : Rel α β} {f : List D -> M α} {Q : β -> Hp -> Prop} (h : Post rel Z W (bnd (evs T [A] env) f st) ρ σ H Q) : Post rel Z W (bnd (ev T A env) (fun x => f [x]) st) ρ σ H Q := by
  simp only [evs, bnd, ret] at h ⊢
  cases e : ev T A env st with
  | ok d s => simpa only [e] using h
  | exc x s => simpa only [e] using h
  | bad => simpa only [e] using h
theorem rng_post {ds : List D} {st : Sto} {ρ : List Addr} {σ : L2.St} {H : Hp} {R : L2.It -> Hp -> Prop} (h : Post (relI Z) Z W (opt (rngL ds) (fun xs => ret (Fs.It.one (.items xs))) st) ρ σ H R) : ∃ xs, rngL ds = some xs /\ Post (relI Z) Z W (.ok (Fs.It.one (.items xs)) st) ρ σ H R := by
  cases e : rngL ds with
  | none => rw [e] at h; exact h.elim
  | some xs => rw [e] at h; exact ⟨xs, rfl, h⟩
theorem si_rng1 {a : Expr} {A : Ex} (hg : Gl X "range") (hm : X.mg "range" = none) (ha : PE X a (iE T Z W A)) (hs : starEach [a] X.env = [(false, eval a X.env)]) : PI X tg (.Call (.Name "range" p) [a] [] pos) (iI T Z W (.rng [A])) := by
  have w := pi_range1 (tg := tg) (p := p) (pos := pos) hg hm (pa_cons ha pa_nil hs) hs
  refine ⟨fun pins s σ H R I h => w.run pins s σ H R I ?_⟩
  obtain ⟨ρ, env, st, er, sr, h⟩ := h
  simp only [evI] at h
  refine ⟨ρ, env, st, er, sr, (Post.seq rpOk (Now.start sr) sr (evs_one h)).mono ?_⟩
  rintro v H1 ⟨ρ1, d, st1, F1, n1, t1, r1, h1⟩
  obtain ⟨xs, e, h2⟩ := rng_post h1
  cases d with
  | int b =>
    obtain ⟨rfl, rfl⟩ := r1
    simp only [rngL] at e
    split at e
    · rename_i hb
      cases e
      exact ⟨b, rfl, hb.1, hb.2, h2 ρ1 H1 _ [] n1.stp n1.sr ⟨_, fol_rng1 0 b.toNat, rfl⟩⟩
    · cases e
  | _ => simp [rngL] at e
end
end Fs
namespace Fs
open PySem L2 PyProof.Rows PySem.Spec
abbrev WF : WX := fun _ _ _ _ => False
section
variable {Z : Wc} {W : WX} {ρ ρ' ρ₁ ρ₂ : List Addr} {H H' H₁ H₂ : Hp} {st st' st₁ : Sto} {F F' F₁ F₂ G : List Addr} {σ : L2.St} {env : Env} {D : Addr} {o o' : HO}
theorem upd_keep (h : H D = some o) (hc : HCell o = true) : ∀ a u, H a = some u -> HCell u = false -> upd H D o' a = some u := fun a u e k => by
  rw [upd_ne (fun z => by rw [z, h] at e; cases e; rw [hc] at k; cases k)]; exact e
theorem upd_off (hF : D ∉ F) : ∀ a ∈ F, ∀ u, H a = some u -> upd H D o' a = some u := fun a ha u e => by
  rw [upd_ne (fun z => hF (by rw [<- z]; exact ha))]; exact e
theorem Rp.updF {d : Fs.D} {v : V} (h : H D = some o) (hc : HCell o = true) (hF : D ∉ F) (r : Rp Z ρ H d v F) : Rp Z ρ (upd H D o') d v F := r.stay (fun _ _ e => e) (upd_keep h hc) (upd_off hF)
theorem Rps.updF {d : List Fs.D} {v : List V} (h : H D = some o) (hc : HCell o = true) (hF : D ∉ F) (r : Rps Z ρ H d v F) : Rps Z ρ (upd H D o') d v F := r.stay (fun _ _ e => e) (upd_keep h hc) (upd_off hF)
theorem SR.updF (s : SR Z ρ st H) (h : H D = some o) (hc : HCell o = true) (hD : D ∉ ρ) : SR Z ρ st (upd H D o') :=
  ⟨s.len, s.nd, s.kind, fun l c a h1 h2 => (s.cell l c a h1 h2).updF h hc (fun z => hD (by rw [List.mem_singleton.mp z]; exact List.mem_of_getElem? h2)), s.gb.up (upd_keep h hc)⟩
theorem Now.updF (n : Now Z ρ H ρ' st' H' F) (s : SR Z ρ st H) (hD : D ∈ F) (h : H' D = some o) (hc : HCell o = true) : Now Z ρ H ρ' st' (upd H' D o') F := by
  have hf : H D = none := by obtain ⟨N, _, _, f, _⟩ := n.stp; exact f D (List.mem_append_right _ hD)
  refine ⟨?_, n.sr.updF h hc (n.out D hD), fun a ha => ?_, n.out, n.nd⟩
  · obtain ⟨N, e, nd, f, k⟩ := n.stp
    exact ⟨N, e, nd, f, fun a u q z => by rw [upd_ne (fun y => by rw [y, hf] at q; cases q)]; exact k a u q z⟩
  · by_cases e : a = D
    · rw [e, upd_same]; exact nofun
    · rw [upd_ne e]; exact n.th a ha
theorem wipe_get {σ : L2.St} {i : Nat} : ∀ {vs : List Nat}, (L2.wipe σ vs)[i]? = if i ∈ vs then (σ[i]?).map (fun _ => none) else σ[i]?
  | [] => by simp [L2.wipe]
  | v :: vs => by
    unfold L2.wipe
    by_cases h : v = i
    · subst h
      rw [List.getElem?_set]
      by_cases hl : v < σ.length
      · simp [hl, wipe_length]
      · simp [hl, wipe_length]
    · rw [List.getElem?_set_ne h, wipe_get]
      have : (i ∈ v :: vs) ↔ i ∈ vs := by simp [Ne.symm h]
      simp only [this]
theorem wipe_sm {σ σ' : L2.St} {L vs : List Nat} (m : Sm L (L2.wipe σ vs) σ') (h : ∀ i ∈ L, i ∈ vs) : L2.wipe σ' vs = L2.wipe σ vs := by
  apply List.ext_getElem?
  intro i
  rw [wipe_get, wipe_get]
  by_cases hi : i ∈ vs
  · simp only [hi, if_true]
    have l : σ'.length = σ.length := by rw [m.1, wipe_length]
    by_cases hl : i < σ.length
    · rw [List.getElem?_eq_getElem hl, List.getElem?_eq_getElem (by rw [l]; exact hl)]; rfl
    · rw [List.getElem?_eq_none (by omega), List.getElem?_eq_none (by omega)]
  · simp only [hi, if_false]
    rw [m.2 i (fun z => hi (h i z)), wipe_get, if_neg hi]
theorem ER.wipe (er : ER Z ρ H env σ) : ∀ vs : List Nat, ER Z ρ H (Fs.wipe env vs) (L2.wipe σ vs)
  | [] => er
  | v :: vs => (ER.wipe er vs).gone
end
section
variable (T : Tbl) (Z : Wc) (W : WX)
def iTs (cs : List Cn) : TT := fun σ H Q => ∃ ρ env st, ER Z ρ H env σ /\ SR Z ρ st H /\ Post (RelEq Bool) Z W (evTs T cs env st) ρ σ H Q
end
section
variable {X : L2.Cx} {T : Tbl} {Z : Wc} {W : WX} {pos p : Pos} {tg e c : Expr} {A : Ex}
theorem sts_nil : PTs X [] (iTs T Z W []) := ⟨fun pins s σ H Q I h => pts_nil.run pins s σ H Q I (by
  obtain ⟨ρ, env, st, er, sr, h⟩ := h
  simp only [evTs] at h
  exact Post.ret h (Now.start sr) ⟨rfl, rfl⟩)⟩
theorem sts_one {C : Cn} (h : PT X c (iT T Z W C)) : PTs X [c] (iTs T Z W [C]) := ⟨fun pins s σ H Q I q => (pts_one h).run pins s σ H Q I (by
  obtain ⟨ρ, env, st, er, sr, h⟩ := q
  simp only [evTs] at h
  refine ⟨ρ, env, st, er, sr, ?_⟩
  unfold bnd at h
  cases e1 : evT T C env st with
  | ok b s1 => rw [e1] at h; cases b <;> exact h
  | exc x s1 => rw [e1] at h; exact h
  | bad => rw [e1] at h; exact h)⟩
theorem post_ok {α β : Type} {rel : Rel α β} {r : R α} {ρ : List Addr} {σ : L2.St} {H : Hp} {Q : β -> Hp -> Prop} {d : α} {s : Sto} (e : r = .ok d s) (h : ∀ ρ' H' v F, Stp ρ H ρ' H' F -> SR Z ρ' s H' -> rel ρ' H' d v F -> Q v H') : Post rel Z W r ρ σ H Q := by rw [e]; exact h
theorem lc_ok {own : List Nat} {it : Ix} {t : Tg} {ifs : List Cn} (hsub : ∀ i ∈ tgN t, i ∈ own) {σ : L2.St} {H : Hp} {Q : VK} (h : iE T Z W (.lc own it t ifs A) σ H Q) :
    tLc (iI T Z W it) (iG T Z t) (iTs T Z WF ifs) (iE T Z WF A) own σ H Q := by
  obtain ⟨ρ, env, st, er, sr, h⟩ := h
  simp only [ev] at h
  refine ⟨ρ, env, st, er, sr, (Post.seq relI_ok (Now.start sr) sr h).mono ?_⟩
  rintro J H1 ⟨ρ1, w, st1, G, n1, t1, ⟨I, fol, hI⟩, h1⟩ D hD
  have up : ∀ a u, H1 a = some u -> upd H1 D (.lst []) a = some u := fun a u e => by rw [upd_ne (fun z => by rw [z, hD] at e; cases e)]; exact e
  generalize hturn : (fun d => bnd (asgT T t d (Fs.wipe env own)) fun σ' => bnd (evTs T ifs σ') fun b => match b with
        | true => bnd (ev T A σ') fun y => ret (some y)
        | false => ret none : Fs.D -> Sto -> R (Option Fs.D)) = turn at h1
  refine ⟨fun i m H' => ∃ ρ' st' Fi ys vs Fy, Now Z ρ H ρ' st' H' (D :: (Fy ++ Fi)) /\ H' D = some (.lst vs) /\ Rps Z ρ' H' ys vs Fy /\ I i ρ' H' Fi /\ Post (Rp Z) Z W (bnd (lcLoop w turn m i ys) (fun ys => ret (.lst ys)) st') ρ σ H Q,
    ⟨w.len st1 + 1, ρ1, st1, G, [], [], [], n1.new sr hD, upd_same, ⟨rfl, rfl⟩, fol.stay (fun _ _ e => e) (fun a u e _ => up a u e) (fun a _ u e => up a u e) hI, h1⟩, ?_⟩
  rintro i m H' ⟨ρ', st', Fi, ys, vs, Fy, n, hDv, rys, hI', h'⟩
  cases m with
  | zero => exact h'.elim
  | succ m =>
    unfold bnd at h'
    simp only [lcLoop] at h'
    cases e1 : w.next i st' with
    | none => rw [e1] at h'; exact h'.elim
    | some o => cases o with
      | none =>
        rw [e1] at h'
        refine .inl ⟨fol.stop n.sr hI' e1, ?_⟩
        exact Post.ok h' (n.less (List.cons_sublist_cons.mpr (List.sublist_append_left _ _))) ⟨D, vs, Fy, rfl, hDv, rys, rfl⟩
      | some d =>
        rw [e1] at h'
        simp only at h'
        obtain ⟨hgo, hy⟩ := fol.item n.sr hI' e1
        refine .inr ⟨hgo, fun H2 => ∃ ρ' st' Fi ys vs Fy, Now Z ρ H ρ' st' H2 (D :: (Fy ++ Fi)) /\ H2 D = some (.lst vs) /\ Rps Z ρ' H2 ys vs Fy /\ I (i + 1) ρ' H2 Fi /\ Post (Rp Z) Z W (bnd (lcLoop w turn m (i + 1) ys) (fun ys => ret (.lst ys)) st') ρ σ H Q,
          fun H2 hN => ⟨m, Nat.lt_succ_self m, hN⟩, fun x Hx hyl => ?_⟩
        obtain ⟨hH, F1, F2, hperm, rx, hI2⟩ := hy x Hx hyl
        have perm : (F1 ++ (D :: (Fy ++ F2))).Perm (D :: (Fy ++ Fi)) := by
          refine (List.perm_middle).trans (List.Perm.cons D ?_)
          refine List.Perm.trans ?_ (List.Perm.append_left Fy hperm)
          rw [<- List.append_assoc, <- List.append_assoc]
          exact List.Perm.append_right F2 List.perm_append_comm
        obtain ⟨nx, erx⟩ := (n.perm perm).tupd sr hH
        have stx : (∀ a u, H' a = some u -> Hx a = some u) := by
          rcases hH with rfl | ⟨T0, o0, vs0, hT, _, rfl⟩
          · exact fun a u e => e
          · exact fun a u e => by rw [upd_ne (fun z => by rw [z, hT] at e; cases e)]; exact e
        have rysx : Rps Z ρ' Hx ys vs Fy := rys.stay (fun _ _ e => e) (fun a u e _ => stx a u e) (fun a _ u e => stx a u e)
        refine ⟨ρ', Fs.wipe env own, st', d, F1, (nx.less (List.sublist_append_left _ _)).hand, (erx (n.stp.env sr er)).wipe own, rx, ?_⟩
        have et : turn d st' = bnd (asgT T t d (Fs.wipe env own)) (fun σ' => bnd (evTs T ifs σ') fun b => match b with
            | true => bnd (ev T A σ') fun y => ret (some y)
            | false => ret none) st' := by rw [<- hturn]
        rw [et] at h'
        simp only [bnd] at h'
        cases e2 : asgT T t d (Fs.wipe env own) st' with
        | exc _ _ => simp only [e2] at h'; exact h'.elim
        | bad => simp only [e2] at h'; exact h'.elim
        | ok env3 st3 =>
          simp only [e2] at h'
          intro ρ3 H3 σ3 t3 sr3 er3 m3
          have n3 := nx.landR sr t3 sr3
          obtain ⟨k1, k2, k3⟩ := t3.kept nx.hand rx.hcells
          refine ⟨wipe_sm m3 hsub, ρ3, env3, st3, er3, sr3, ?_⟩
          cases e3 : evTs T ifs env3 st3 with
          | exc _ _ => simp only [e3] at h'; exact h'.elim
          | bad => simp only [e3] at h'; exact h'.elim
          | ok b st4 =>
            simp only [e3] at h'
            rintro ρ4 H4 bb F t4 sr4 ⟨rfl, rfl⟩
            have n4 := n3.more sr t4 sr4 (by simp)
            rw [List.append_nil] at n4
            obtain ⟨q1, q2, q3⟩ := t4.kept sr3 n3.out
            have hD4 : H4 D = some (.lst vs) := q3 D List.mem_cons_self _ (k3 D List.mem_cons_self _ (stx _ _ hDv))
            have rys4 : Rps Z ρ4 H4 ys vs Fy := (rysx.stay k1 k2 (fun a ha => k3 a (List.mem_cons_of_mem _ (List.mem_append_left _ ha)))).stay q1 q2 (fun a ha => q3 a (List.mem_cons_of_mem _ (List.mem_append_left _ ha)))
            have hI4 : I (i + 1) ρ4 H4 F2 := fol.stay q1 q2 (fun a ha => q3 a (List.mem_cons_of_mem _ (List.mem_append_right _ ha))) (fol.stay k1 k2 (fun a ha => k3 a (List.mem_cons_of_mem _ (List.mem_append_right _ ha))) hI2)
            cases b with
            | false =>
              simp only [ret] at h'
              exact ⟨ρ4, st4, F2, ys, vs, Fy, n4, hD4, rys4, hI4, h'⟩
            | true =>
              refine ⟨ρ4, env3, st4, t4.env sr3 er3, sr4, ?_⟩
              cases e4 : ev T A env3 st4 with
              | exc _ _ => simp only [bnd, e4, ret] at h'; exact h'.elim
              | bad => simp only [bnd, e4, ret] at h'; exact h'.elim
              | ok y st5 =>
                simp only [bnd, e4, ret] at h'
                intro ρ5 H5 v G5 t5 sr5 r5
                by_cases hz : ys.length < sizeLine
                · rw [if_pos hz] at h'
                  have n5 := n4.more sr t5 sr5 r5.there
                  obtain ⟨u1, u2, u3⟩ := t5.kept sr4 n4.out
                  have hD5 := u3 D List.mem_cons_self _ hD4
                  refine ⟨vs, hD5, by rw [<- rys4.length]; exact hz, ρ5, st5, F2, ys ++ [y], vs ++ [v], Fy ++ G5, ?_, upd_same, ?_, ?_, h'⟩
                  · refine (n5.perm ?_).updF sr List.mem_cons_self hD5 rfl
                    refine List.Perm.cons D ?_
                    show (Fy ++ G5 ++ F2).Perm (Fy ++ F2 ++ G5)
                    rw [List.append_assoc, List.append_assoc]
                    exact List.Perm.append_left Fy List.perm_append_comm
                  · have nd5 := n5.nd
                    simp only [List.cons_append, List.nodup_cons, List.mem_append, not_or] at nd5
                    exact Rps.append (Rps.updF hD5 rfl nd5.1.1.1 (rys4.stay u1 u2 (fun a ha => u3 a (List.mem_cons_of_mem _ (List.mem_append_left _ ha))))) ⟨v, [], G5, [], rfl, r5.updF hD5 rfl nd5.1.2, ⟨rfl, rfl⟩, by simp⟩
                  · have nd5 := n5.nd
                    simp only [List.cons_append, List.nodup_cons, List.mem_append, not_or] at nd5
                    exact fol.stay (fun _ _ e => e) (upd_keep hD5 rfl) (upd_off nd5.1.1.2) (fol.stay u1 u2 (fun a ha => u3 a (List.mem_cons_of_mem _ (List.mem_append_right _ ha))) hI4)
                · rw [if_neg hz] at h'; exact h'.elim
theorem ig_nm {i : Nat} {v : V} {σ : L2.St} {H : Hp} {Q : L2.St -> Hp -> Prop} (h : iG T Z (.nm i) v σ H Q) : gName i v σ H Q := by
  obtain ⟨ρ, env, st, d, F, n, er, rd, h⟩ := h
  obtain ⟨N, p, s', q⟩ := land_ok d n.sr rd n.out n.nd
  simp only [asgT, bnd, landM, ret] at h
  refine h _ H _ ⟨N, rfl, p.nodup_iff.mpr n.nd, fun a ha => .inl (p.mem_iff.mp ha), fun _ _ e _ _ => e⟩ s' (ER.set ?_ q) Sm.set
  exact ⟨er.1, fun j x hx => let ⟨u, h1, h2⟩ := er.2 j x hx; ⟨u, h1, h2.wide⟩⟩
theorem subN {t : Tg} {own : List Nat} (h : (tgN t).all (own.contains ·) = true) : ∀ i ∈ tgN t, i ∈ own := fun i hi => by simpa using List.all_eq_true.mp h i hi
theorem se_lc {elt iter : Expr} {ifs : List Expr} {scope : Scope} {own : List (Str × Nat)} {it : Ix} {t : Tg} {Cs : List Cn} (hc : X.calm = true) (hN : X.N.Nodup) (ok : blkC X.N X.env.scope scope own = true) (hsub : (tgN t).all ((own.map (·.2)).contains ·) = true)
    (hi : PI X tg iter (iI T Z W it)) (hg : ∀ (s : Shared) (H : Hp) (C : Addr) (cl : List (Str × Addr)) (fp : List Addr), PG (X.blk s H scope (compEnvC scope cl C X.env) fp) tg (iG T Z t))
    (ht : ∀ (s : Shared) (H : Hp) (C : Addr) (cl : List (Str × Addr)) (fp : List Addr), PTs (X.blk s H scope (compEnvC scope cl C X.env) fp) ifs (iTs T Z WF Cs))
    (he : ∀ (s : Shared) (H : Hp) (C : Addr) (cl : List (Str × Addr)) (fp : List Addr), PE (X.blk s H scope (compEnvC scope cl C X.env) fp) elt (iE T Z WF A)) (hs : ∀ x, foldedSetIterable iter X.env x = pure x := by intro _; rfl) :
    PE X (.ListComp elt [⟨tg, iter, ifs, 0⟩] scope pos) (iE T Z W (.lc (own.map (·.2)) it t Cs A)) :=
  pe_weak (pe_lc hc hN hi (blkOk_by ok) hg ht he hs) fun σ H Q h => lc_ok (subN hsub) h
theorem ss_setLc {i : Nat} {y : Str} {py spos : Pos} {elt iter : Expr} {ifs : List Expr} {scope : Scope} {own : List (Str × Nat)} {it : Ix} {t : Tg} {Cs : List Cn} (hc : X.calm = true) (hN : X.N.Nodup) (hy : X.N[i]? = some y) (hyl : X.env.scope.names.lookup y = some .local)
    (hsw : swapsWith (.ListComp elt [⟨tg, iter, ifs, 0⟩] scope pos) (some (.Name y py)) spos.line X.env = pure true) (ok : blkC X.N X.env.scope scope own = true) (hsub : (tgN t).all ((own.map (·.2)).contains ·) = true)
    (hi : PI X tg iter (iI T Z W it)) (hg : ∀ (s : Shared) (H : Hp) (C : Addr) (cl : List (Str × Addr)) (fp : List Addr), PG (X.blk s H scope (compEnvC scope cl C X.env) fp) tg (iG T Z t))
    (ht : ∀ (s : Shared) (H : Hp) (C : Addr) (cl : List (Str × Addr)) (fp : List Addr), PTs (X.blk s H scope (compEnvC scope cl C X.env) fp) ifs (iTs T Z WF Cs))
    (he : ∀ (s : Shared) (H : Hp) (C : Addr) (cl : List (Str × Addr)) (fp : List Addr), PE (X.blk s H scope (compEnvC scope cl C X.env) fp) elt (iE T Z WF A)) (hs : ∀ x, foldedSetIterable iter X.env x = pure x := by intro _; rfl) :
    PS X (.Assign [.Name y py] (.ListComp elt [⟨tg, iter, ifs, 0⟩] scope pos) spos) (iS T Z W (.asg (.nm i) (.lc (own.map (·.2)) it t Cs A))) :=
  ps_weak (ps_setLc hc hN hy hyl hsw hi (blkOk_by ok) hg ht he hs) fun Dn σ H h => by
    obtain ⟨ρ, env, st, er, sr, h2⟩ := asg_ok h
    exact lc_ok (subN hsub) ⟨ρ, env, st, er, sr, h2.mono fun v H1 q => ig_nm q⟩
end
end Fs
namespace Fs
open PySem L2 PySem.Spec PyProof.Rows
theorem tuple_mul1 (l : Addr) (items : Array Value) (n : Nat) (dd : Option Addr) (sl : Array (Option Value)) (u : Tok) (hi : items.isEmpty = false) :
    Meets (Builtin.«tuple.__mul__» ⟨[.ref l, .int 1 u], []⟩) (fun _ R s => s.heap.get? l = some { cls := .type "tuple", dict := dd, data := .seq items n, slots := sl } /\ R (.ok (.ret (Value.ref l))) s) :=
  .of_wp fun prog w A R s h => by
    obtain ⟨hp, g, d, tk, os⟩ := s
    obtain ⟨hl, h⟩ := h
    have f1 := AutoSeq1.idx_int
    have c0 : (decide ((1 : Int) < -(2 ^ 63)) || decide ((1 : Int) ≥ 2 ^ 63)) = false := by decide
    have c1 : (items.isEmpty || (1 : Int) == 1) = true := by rw [hi]; rfl
    wp_walk using wpAny_loadPart' hl
    repeat (first
      | (refine wpAny_ite_false (decide_eq_false (by rw [c0]; exact Bool.false_ne_true)) ?_; wp_walk using wpAny_loadPart' hl)
      | (refine wpAny_ite_true (decide_eq_true (by rw [c1])) ?_; wp_walk using wpAny_loadPart' hl))
    exact ⟨_, rfl, h⟩
theorem tuple_mul0 (l : Addr) (items : Array Value) (n : Nat) (dd : Option Addr) (sl : Array (Option Value)) (u : Tok) (hi : items.isEmpty = false) :
    Meets (Builtin.«tuple.__mul__» ⟨[.ref l, .int 0 u], []⟩) (fun _ R s => s.heap.get? l = some { cls := .type "tuple", dict := dd, data := .seq items n, slots := sl } /\
      R (.ok (.ret (Value.ref s.heap.objs.size))) { s with heap := s.heap.push { cls := Value.type "tuple", data := Data.seq #[] }, toks := s.toks }) :=
  .of_wp fun prog w A R s h => by
    obtain ⟨hp, g, d, tk, os⟩ := s
    obtain ⟨hl, h⟩ := h
    have f1 := AutoSeq1.idx_int
    have c0 : (decide ((0 : Int) < -(2 ^ 63)) || decide ((0 : Int) ≥ 2 ^ 63)) = false := by decide
    have c1 : (items.isEmpty || (0 : Int) == 1) = false := by rw [hi]; rfl
    have c2 : (decide ((0 : Int) <= 0) || items.isEmpty) = true := by rw [hi]; rfl
    wp_walk using wpAny_loadPart' hl
    repeat (first
      | (refine wpAny_ite_false (decide_eq_false (by rw [c0]; exact Bool.false_ne_true)) ?_; wp_walk using wpAny_loadPart' hl)
      | (refine wpAny_ite_false (decide_eq_false (by rw [c1]; exact Bool.false_ne_true)) ?_; wp_walk using wpAny_loadPart' hl)
      | (refine wpAny_ite_true (decide_eq_true (by rw [c2])) ?_; wp_walk using wpAny_loadPart' hl))
    exact ⟨_, rfl, h⟩
def rRepT0 (K : PySem.W.Frag) : R2 := fun x y H Q => ∃ l k xs, x = .ref l /\ y = .int k /\ SqT K H l xs /\ xs ≠ [] /\ 0 <= k /\ k <= 1000 /\ xs.length <= 1000 /\ (k = 1 -> Q (.ref l) H) /\
  (k ≠ 1 -> ∀ p o, NwT o -> H p = none -> Q (.ref p) (upd H p (.frz o (.tup (List.replicate k.toNat xs).flatten))))
section
variable {X : L2.Cx}
theorem op_repT0 : OpR X (binaryOp .Mult) (rRepT0 X.K) := by
  intro pins s σ H x y v u Q I rx ry ⟨l, k, xs, e1, e2, hT, hne, h1, h2, hz, q1, q2⟩
  subst e1 e2
  cases rx
  obtain ⟨t, et⟩ := ry
  subst et
  obtain ⟨its, r, ⟨⟨cls, dd, data, sl⟩, ho, hc, n, hd⟩, hs⟩ := I.tuple hT
  have hle : its.length = xs.length := r.length.symm
  have hn : its ≠ [] := fun e => hne (List.eq_nil_of_length_eq_zero (hle.symm.trans (by rw [e]; rfl)))
  have hi : its.toArray.isEmpty = false := by
    cases its with
    | nil => exact (hn rfl).elim
    | cons a b => rfl
  cases (show cls = Value.type "tuple" from hc)
  cases (show data = Data.seq its.toArray n from hd)
  rcases (show k = 0 ∨ k = 1 ∨ 2 <= k by omega) with k0 | k1 | k2
  · subst k0
    refine wpAny_binaryOp_repeat_ref (T := "tuple") (U := "int") (by decide) ⟨_, ho, rfl⟩ (fun s' => typeIs_int s' 0 t) noFill_tuple_mul F.fills_int_mul F.slot_int_rmul repeat_tuple F.slot_int_index.lookup
      (call_meets F.slot_int_rmul (typeIs_int s 0 t) F.entry_int_rmul (F.args_int_rmul_2 _ _) (int_rmul_tuple 0 t l its.toArray n dd sl)
        ⟨ho, rfl, ⟨_, ho, rfl⟩, call_meets F.slot_tuple_mul ⟨_, ho, rfl⟩ F.entry_tuple_mul (F.args_tuple_mul_2 _ _) (tuple_mul0 l its.toArray n dd sl t hi) ⟨ho, ?_⟩⟩)
    exact new_tup (tk := s.toks) (Q := Q) (xs := []) I .nil (Nat.zero_le _) (q2 (by omega))
  · subst k1
    refine wpAny_binaryOp_repeat_ref (T := "tuple") (U := "int") (by decide) ⟨_, ho, rfl⟩ (fun s' => typeIs_int s' 1 t) noFill_tuple_mul F.fills_int_mul F.slot_int_rmul repeat_tuple F.slot_int_index.lookup
      (call_meets F.slot_int_rmul (typeIs_int s 1 t) F.entry_int_rmul (F.args_int_rmul_2 _ _) (int_rmul_tuple 1 t l its.toArray n dd sl)
        ⟨ho, rfl, ⟨_, ho, rfl⟩, call_meets F.slot_tuple_mul ⟨_, ho, rfl⟩ F.entry_tuple_mul (F.args_tuple_mul_2 _ _) (tuple_mul1 l its.toArray n dd sl t hi) ⟨ho, ?_⟩⟩)
    exact ⟨.ref l, H, I, rfl, q1 rfl⟩
  · have hb : k.toNat * xs.length <= 1000 * 1000 := Nat.mul_le_mul (by omega) hz
    have fl : ∀ (α : Type) (L : List α), L.length = xs.length -> (List.replicate k.toNat L).flatten.length <= sizeLine := fun α L e => by
      rw [PyProof.Rows.lm_len_rep_flat, e, sizeLine_eq]; omega
    have hm : ((its.toArray.size : Nat) : Int) * k <= 1000000 := by
      rw [List.size_toArray, hle]
      have : ((xs.length : Nat) : Int) * k <= 1000 * k := Int.mul_le_mul_of_nonneg_right (by omega) (by omega)
      omega
    have c0 : (decide (k < -(2 ^ 63)) || decide (k ≥ 2 ^ 63)) = false := by
      rw [Bool.or_eq_false_iff]; exact ⟨decide_eq_false (by omega), decide_eq_false (by omega)⟩
    have c1 : (its.toArray.isEmpty || k == 1) = false := by
      rw [hi]; exact beq_eq_false_iff_ne.mpr (by omega)
    have c2 : (decide (k <= 0) || its.toArray.isEmpty) = false := by
      rw [hi, Bool.or_eq_false_iff]; exact ⟨decide_eq_false (by omega), rfl⟩
    have c4 : Builtin.Tuple.tupleTooMany (((its.toArray.size : Nat) : Int) * k) = false := by
      unfold Builtin.Tuple.tupleTooMany; rw [sizeLine_eq]; exact decide_eq_false (by omega)
    refine wpAny_binaryOp_repeat_ref (T := "tuple") (U := "int") (by decide) ⟨_, ho, rfl⟩ (fun s' => typeIs_int s' k t) noFill_tuple_mul F.fills_int_mul F.slot_int_rmul repeat_tuple F.slot_int_index.lookup
      (call_meets F.slot_int_rmul (typeIs_int s k t) F.entry_int_rmul (F.args_int_rmul_2 _ _) (int_rmul_tuple k t l its.toArray n dd sl)
        ⟨ho, rfl, ⟨_, ho, rfl⟩, call_meets F.slot_tuple_mul ⟨_, ho, rfl⟩ F.entry_tuple_mul (F.args_tuple_mul_2 _ _) (tuple_mulW l its.toArray n dd sl k t c0 c1 c2 (by omega) c4 (by rw [size_rep, List.size_toArray]; exact fl _ its hle)) ⟨ho, ?_⟩⟩)
    rw [size_rep]
    exact new_tup (tk := s.toks) (Q := Q) I (r.rep k.toNat) (fl _ xs rfl) (q2 (by omega))
end
end Fs
namespace Fs
open PySem L2 PyProof.Rows PySem.Spec
section
variable {X : L2.Cx} {Z : Wc} {W : WX} {σ0 : L2.St}
theorem Now.newS {ρ ρ' : List Addr} {H H' : Hp} {st st' : Sto} {F : List Addr} (n : Now Z ρ H ρ' st' H' F) (s : SR Z ρ st H) {p : Addr} {o : HO} (hp : H' p = none) : Now Z ρ H ρ' st' (upd H' p o) F := (n.new s hp).less (List.sublist_cons_self p F)
theorem bin_ok (hK : X.K = Z.K) {op : Bop} : OpR X (binaryOp (pyB op)) (rB Z W σ0 (binD op)) := by
  intro pins s σ H x y v u Q I rx ry h
  obtain ⟨ρ, st, H0, ρ2, st2, d1, d2, F1, F2, sr, n, r1, r2, h⟩ := h
  unfold binD at h
  split at h
  · rename_i i j
    obtain ⟨rfl, rfl⟩ := r1
    obtain ⟨rfl, rfl⟩ := r2
    cases e : intOp op i j with
    | none => rw [e] at h; exact h.elim
    | some r =>
      rw [e] at h
      exact int_ok e I rx ry (Post.ok h n ⟨rfl, rfl⟩)
  · rename_i a b
    obtain ⟨rfl, rfl⟩ := r1
    obtain ⟨rfl, rfl⟩ := r2
    cases op with
    | add =>
      simp only at h
      split at h
      · rename_i hz
        exact op_add_str pins s σ H _ _ v u Q I rx ry ⟨a, b, rfl, rfl, hz, Post.ok h n ⟨rfl, rfl⟩⟩
      · exact h.elim
    | _ => exact h.elim
  · rename_i xs ys
    obtain ⟨a, vs, rfl, ha, rx'⟩ := r1
    obtain ⟨b, ws, rfl, hb, ry'⟩ := r2
    cases op with
    | add =>
      simp only at h
      split at h
      · rename_i hz
        refine op_catX pins s σ H _ _ v u Q I rx ry ⟨a, b, vs, ws, rfl, rfl, by rw [hK]; exact ha.t, by rw [hK]; exact hb.t, by rw [<- rx'.length, <- ry'.length]; exact hz, fun e => ?_, fun _ e => ?_, fun _ _ p o ho hp => ?_⟩
        · subst e
          exact Post.ok h n ⟨b, ws, rfl, hb, by have := rx'.append ry'; simpa using this⟩
        · subst e
          exact Post.ok h n ⟨a, vs, rfl, ha, by have := rx'.append ry'; simpa using this⟩
        · exact Post.ok h (n.newS sr hp) ⟨p, vs ++ ws, rfl, SqX.of upd_same ho, rps_up hp (rx'.append ry')⟩
      · exact h.elim
    | _ => exact h.elim
  · rename_i xs k
    obtain ⟨a, vs, rfl, ha, rx'⟩ := r1
    obtain ⟨rfl, rfl⟩ := r2
    cases op with
    | mul =>
      simp only at h
      split at h
      · rename_i hz
        obtain rfl := rx'.pure hz.1
        have ne : vs ≠ [] := fun q => by
          have hl := rx'.length
          rw [q] at hl
          have h2 : xs = [] := List.length_eq_zero_iff.1 hl
          have h3 := hz.2.1
          rw [h2] at h3
          cases h3
        refine op_repT0 pins s σ H _ _ v u Q I rx ry ⟨a, k, vs, rfl, rfl, by rw [hK]; exact ha.t, ne, hz.2.2.1, hz.2.2.2.1, by rw [<- rx'.length]; exact hz.2.2.2.2, fun e => ?_, fun _ p o ho hp => ?_⟩
        · have e1 : rep k.toNat xs = xs := by rw [e]; simp [rep]
          rw [e1] at h
          exact Post.ok h n ⟨a, vs, rfl, ha, rx'⟩
        · exact Post.ok h (n.newS sr hp) ⟨p, _, rfl, SqX.of upd_same ho, rps_up hp (rx'.rep k.toNat)⟩
      · exact h.elim
    | _ => exact h.elim
  · rename_i k _ _
    obtain ⟨rfl, rfl⟩ := r2
    split at h
    · rename_i xs hx
      split at h
      · rename_i hz
        obtain ⟨a, vs, G, rfl, ha, rs, sub⟩ := lstv_ok n.sr r1 hx
        obtain rfl := rs.pure hz.1
        refine op_rep pins s σ H _ _ v u Q I rx ry ⟨a, k, vs, rfl, rfl, ha, hz.2.2.1, hz.2.1, by rw [<- rs.length]; exact hz.2.2.2, fun p hp => ?_⟩
        exact Post.ok h ((n.new sr hp).less (List.cons_sublist_cons.mpr (List.nil_sublist _))) ⟨p, _, [], rfl, upd_same, rps_up hp (rs.rep k.toNat), rfl⟩
      · exact h.elim
    · exact h.elim
  · split at h
    · rename_i xs ys hx hy
      split at h
      · rename_i hz
        obtain ⟨a, vs, G, rfl, ha, rs, sub⟩ := lstv_ok n.sr r1 hx
        obtain ⟨b, ws, G2, rfl, hb, rt, sub2⟩ := lstv_ok n.sr r2 hy
        refine op_cat pins s σ H _ _ v u Q I rx ry ⟨a, b, vs, ws, rfl, rfl, ha, hb, by rw [<- rs.length, <- rt.length]; exact hz, fun p hp => ?_⟩
        exact Post.ok h ((n.new sr hp).less (List.cons_sublist_cons.mpr (List.Sublist.append sub sub2))) ⟨p, _, G ++ G2, rfl, upd_same, rps_up hp (rs.append rt), rfl⟩
      · exact h.elim
    · exact h.elim
end
end Fs
namespace Fs
open PySem L2 PyProof.Rows PySem.Spec
section
variable {Z : Wc} {W : WX} {ρ : List Addr} {H : Hp} {st : Sto}
theorem dpAll_ok {f : D -> Option PyData} (hf : ∀ d v F p, Rp Z ρ H d v F -> f d = some p -> Dp Z.K H v p) : ∀ {ds : List D} {vs : List V} {F : List Addr} {ps : List PyData}, Rps Z ρ H ds vs F -> optL f ds = some ps -> DpAll Z.K H vs ps
  | [], vs, F, ps, r, e => by
    obtain ⟨rfl, _⟩ := r
    cases e
    exact .nil
  | d :: ds, vs, F, ps, r, e => by
    obtain ⟨v, ws, F1, F2, rfl, r1, r2, _⟩ := r
    simp only [optL] at e
    cases e1 : f d with
    | none => rw [e1] at e; cases e
    | some p =>
      rw [e1] at e
      cases e2 : optL f ds with
      | none => rw [e2] at e; cases e
      | some qs =>
        rw [e2] at e
        cases e
        exact .cons (hf d v F1 p r1 e1) (dpAll_ok hf r2 e2)
theorem toP_ok (s : SR Z ρ st H) : ∀ (n : Nat) (d : D) (v : V) (F : List Addr) (p : PyData), Rp Z ρ H d v F -> toP false st n d = some p -> Dp Z.K H v p
  | 0, d, v, F, p, r, e => by simp [toP] at e
  | n + 1, d, v, F, p, r, e => by
    have ih := toP_ok s n
    cases d with
    | non => obtain ⟨rfl, _⟩ := r; simp only [toP, Option.some.injEq] at e; subst e; exact .non
    | bl b => obtain ⟨rfl, _⟩ := r; simp only [toP, Option.some.injEq] at e; subst e; exact .bl b
    | int i => obtain ⟨rfl, _⟩ := r; simp only [toP, Option.some.injEq] at e; subst e; exact .int i
    | str z => obtain ⟨rfl, _⟩ := r; simp only [toP, Option.some.injEq] at e; subst e; exact .str z
    | tup ds =>
      obtain ⟨a, vs, rfl, h, r⟩ := r
      simp only [toP, Option.map_eq_some_iff] at e
      obtain ⟨ps, e, rfl⟩ := e
      exact .tup h.t (dpAll_ok ih r e)
    | lst ds =>
      obtain ⟨a, vs, G, rfl, h, r, _⟩ := r
      simp only [toP, Option.map_eq_some_iff] at e
      obtain ⟨ps, e, rfl⟩ := e
      exact .lst (SqL.of h) (dpAll_ok ih r e)
    | frl ds =>
      obtain ⟨a, o, vs, G, rfl, h, r, _⟩ := r
      simp only [toP, Option.map_eq_some_iff] at e
      obtain ⟨ps, e, rfl⟩ := e
      exact .lst (.inl (.inr ⟨o, h⟩)) (dpAll_ok ih r e)
    | ref l =>
      obtain ⟨a, hl, rfl, _⟩ := r
      simp only [toP] at e
      split at e
      · rename_i xs hc
        simp only [Option.map_eq_some_iff] at e
        obtain ⟨ps, e, rfl⟩ := e
        obtain ⟨vs, hv, rs⟩ := s.list hl (.inl hc)
        exact .lst hv (dpAll_ok ih rs e)
      · rename_i xs hc
        simp only [Option.map_eq_some_iff] at e
        obtain ⟨ps, e, rfl⟩ := e
        obtain ⟨vs, hv, rs⟩ := s.list hl (.inr hc)
        exact .lst hv (dpAll_ok ih rs e)
      · cases e
      · cases e
    | dic kvs => cases kvs <;> simp [toP] at e
    | _ => simp [toP] at e
theorem flat_ok : ∀ {d : D} {v : V} {F : List Addr}, flatD d = true -> Rp Z ρ H d v F -> flatV v = true
  | .non, v, F, f, r => by obtain ⟨rfl, _⟩ := r; rfl
  | .bl _, v, F, f, r => by obtain ⟨rfl, _⟩ := r; rfl
  | .int _, v, F, f, r => by obtain ⟨rfl, _⟩ := r; rfl
  | .str _, v, F, f, r => by obtain ⟨rfl, _⟩ := r; rfl
  | .tup _, v, F, f, r => by simp [flatD] at f
  | .ref _, v, F, f, r => by simp [flatD] at f
  | .lst _, v, F, f, r => by simp [flatD] at f
  | .frl _, v, F, f, r => by simp [flatD] at f
  | .dic _, v, F, f, r => by simp [flatD] at f
  | .set _, v, F, f, r => by simp [flatD] at f
  | .exc _ _, v, F, f, r => by simp [flatD] at f
  | .lam _ _, v, F, f, r => by simp [flatD] at f
theorem eqF_ok {d e : D} {v u : V} {F G : List Addr} (fd : flatD d = true) (fe : flatD e = true) (r : Rp Z ρ H d v F) (q : Rp Z ρ H e u G) : eqV v u = eqF d e := by
  cases d <;> first | (exfalso; simp [flatD] at fd; done) | skip
  all_goals cases e <;> first | (exfalso; simp [flatD] at fe; done) | skip
  all_goals (obtain ⟨rfl, _⟩ := r; obtain ⟨rfl, _⟩ := q; rfl)
theorem flats_ok : ∀ {ds : List D} {vs : List V} {F : List Addr}, ds.all flatD = true -> Rps Z ρ H ds vs F -> vs.all flatV = true
  | [], vs, F, f, r => by obtain ⟨rfl, _⟩ := r; rfl
  | d :: ds, vs, F, f, r => by
    obtain ⟨v, ws, F1, F2, rfl, r1, r2, _⟩ := r
    rw [List.all_cons, Bool.and_eq_true] at f ⊢
    exact ⟨flat_ok f.1 r1, flats_ok f.2 r2⟩
theorem inV_ok {x : D} {u : V} {G : List Addr} (fx : flatD x = true) (q : Rp Z ρ H x u G) : ∀ {ds : List D} {vs : List V} {F : List Addr}, ds.all flatD = true -> Rps Z ρ H ds vs F -> inV u vs = ds.any fun z => eqF z x
  | [], vs, F, f, r => by obtain ⟨rfl, _⟩ := r; rfl
  | d :: ds, vs, F, f, r => by
    obtain ⟨v, ws, F1, F2, rfl, r1, r2, _⟩ := r
    rw [List.all_cons, Bool.and_eq_true] at f
    have ih := inV_ok fx q f.2 r2
    unfold inV at ih ⊢
    rw [List.any_cons, List.any_cons, eqF_ok f.1 fx r1 q, ih]
theorem dget_ok : ∀ {kvs : List (Ky × D)} {ws : List (L2.Key × V)} {F : List Addr} {k : L2.Key}, RpK Z ρ H kvs ws F -> match dget (.k k) kvs with
    | some d => ∃ v G, valV ws k = some v /\ Rp Z ρ H d v G /\ G.Sublist F
    | none => valV ws k = none
  | [], ws, F, k, r => by obtain ⟨rfl, _⟩ := r; rfl
  | (q, d) :: kvs, ws, F, k, r => by
    obtain ⟨j, v, ws', F1, F2, rfl, rfl, r1, r2, rfl⟩ := r
    simp only [dget]
    by_cases h : j = k
    · subst h
      rw [if_pos rfl]
      exact ⟨v, F1, valV_pos rfl, r1, List.sublist_append_left _ _⟩
    · rw [if_neg (by simpa using h)]
      have ih := dget_ok (k := k) r2
      rw [valV_neg h]
      split
      · rename_i d' e
        rw [e] at ih
        obtain ⟨v', G, a, b, c⟩ := ih
        exact ⟨v', G, a, b, c.trans (List.sublist_append_right _ _)⟩
      · rename_i e
        rw [e] at ih
        exact ih
theorem RpT.keys : ∀ {kvs : List (Ky × D)} {ws : List (List L2.Key × V)} {F : List Addr} {k : L2.Key}, RpT Z ρ H kvs ws F -> okKeys (.k k) kvs = true -> kvs = []
  | [], _, _, _, _, _ => rfl
  | (q, d) :: kvs, ws, F, k, r, h => by
    obtain ⟨j, v, ws', F1, F2, rfl, rfl, r1, r2, rfl⟩ := r
    simp [okKeys, kyK] at h
theorem dicv_ok {d : D} {x : V} {kvs : List (Ky × D)} {F : List Addr} (s : SR Z ρ st H) (r : Rp Z ρ H d x F) (e : dicv st d = some kvs) :
    ∃ a G, x = .ref a /\ ((∃ ws, H a = some (.dK ws) /\ RpK Z ρ H kvs ws G) ∨ ∃ ws, H a = some (.dT ws) /\ RpT Z ρ H kvs ws G) /\ G.Sublist F := by
  cases d with
  | dic ds =>
    cases e
    obtain ⟨a, G, rfl, rfl, h⟩ := r
    exact ⟨a, G, rfl, h, List.sublist_cons_self _ _⟩
  | ref l =>
    obtain ⟨a, hl, rfl, rfl⟩ := r
    cases hc : st[l]? with
    | none => simp [dicv, hc] at e
    | some c =>
      have rc := s.cell l c a hc hl
      cases c with
      | dic ds =>
        simp only [dicv, hc, Option.some.injEq] at e
        subst e
        obtain ⟨a', G, z, f, h⟩ := rc
        cases z
        obtain rfl : G = [] := by injection f with _ f; exact f.symm
        exact ⟨a, [], rfl, h, List.Sublist.refl _⟩
      | _ => simp [dicv, hc] at e
  | _ => simp [dicv] at e
theorem key_ok {d : D} {v : V} {q : Ky} {F : List Addr} (r : Rp Z ρ H d v F) (e : keyOf d = some q) : ∃ k, q = .k k /\ v = kV k /\ F = [] := by
  cases d with
  | int i => obtain ⟨rfl, rfl⟩ := r; cases e; exact ⟨_, rfl, rfl, rfl⟩
  | str i => obtain ⟨rfl, rfl⟩ := r; cases e; exact ⟨_, rfl, rfl, rfl⟩
  | _ => simp [keyOf] at e
theorem dK_of {a : Addr} {kvs : List (Ky × D)} {G : List Addr} {k : L2.Key} (h : (∃ ws, H a = some (.dK ws) /\ RpK Z ρ H kvs ws G) ∨ ∃ ws, H a = some (.dT ws) /\ RpT Z ρ H kvs ws G) (ok : okKeys (.k k) kvs = true) :
    (∃ ws, H a = some (.dK ws) /\ RpK Z ρ H kvs ws G) ∨ (H a = some (.dT []) /\ kvs = [] /\ G = []) := by
  rcases h with h | ⟨ws, h, r⟩
  · exact .inl h
  · obtain rfl := r.keys ok
    obtain ⟨rfl, rfl⟩ := r
    exact .inr ⟨h, rfl, rfl⟩
end
end Fs
namespace Fs
open PySem L2 PyProof.Rows PySem.Spec
section
variable {Z : Wc} {ρ ρ' : List Addr} {H H' : Hp} {st st' : Sto} {F : List Addr} {l : Nat} {a : Addr} {c' : D} {o' : HO}
theorem nd_inj {α : Type} {a : α} : ∀ {l : List α} {i j : Nat}, l.Nodup -> l[i]? = some a -> l[j]? = some a -> i = j
  | [], i, j, n, h, k => by simp at h
  | x :: r, 0, 0, n, h, k => rfl
  | x :: r, 0, j + 1, n, h, k => by
    have e : x = a := by simpa using h
    have m : a ∈ r := List.mem_of_getElem? (by simpa using k)
    exact absurd (e ▸ m) (List.nodup_cons.mp n).1
  | x :: r, i + 1, 0, n, h, k => by
    have e : x = a := by simpa using k
    have m : a ∈ r := List.mem_of_getElem? (by simpa using h)
    exact absurd (e ▸ m) (List.nodup_cons.mp n).1
  | x :: r, i + 1, j + 1, n, h, k => congrArg (· + 1) (nd_inj (List.nodup_cons.mp n).2 (by simpa using h) (by simpa using k))
theorem SR.wr (s : SR Z ρ st H) (ha : ρ[l]? = some a) (hc : isCell c' = true) (r : Rp Z ρ (upd H a o') c' (.ref a) [a]) : SR Z ρ (st.set l c') (upd H a o') := by
  obtain ⟨o, ho, hk⟩ := s.hcell (List.mem_of_getElem? ha)
  refine ⟨by rw [List.length_set]; exact s.len, s.nd, fun m c h => ?_, fun m c b h1 h2 => ?_, s.gb.up (upd_keep ho hk)⟩
  · by_cases e : l = m
    · subst e
      have hl : l < st.length := by simpa using (List.getElem?_eq_some_iff.mp h).1
      rw [List.getElem?_set_self hl] at h
      cases h
      exact hc
    · rw [List.getElem?_set_ne e] at h; exact s.kind m c h
  · by_cases e : l = m
    · subst e
      have hl : l < st.length := by simpa using (List.getElem?_eq_some_iff.mp h1).1
      rw [List.getElem?_set_self hl] at h1
      cases h1
      rw [ha] at h2
      cases h2
      exact r
    · rw [List.getElem?_set_ne e] at h1
      refine (s.cell m c b h1 h2).updF ho hk fun z => ?_
      rw [List.mem_singleton] at z
      subst z
      exact e (nd_inj s.nd ha h2)
theorem Now.wr (n : Now Z ρ H ρ' st' H' F) (s : SR Z ρ st H) (ha : ρ'[l]? = some a) (hc : isCell c' = true) (r : Rp Z ρ' (upd H' a o') c' (.ref a) [a]) : Now Z ρ H ρ' (st'.set l c') (upd H' a o') F := by
  have hm : a ∈ ρ' := List.mem_of_getElem? ha
  refine ⟨?_, n.sr.wr ha hc r, fun b hb => ?_, n.out, n.nd⟩
  · obtain ⟨N, e, nd, f, k⟩ := n.stp
    refine ⟨N, e, nd, f, fun b u q z => ?_⟩
    rw [upd_ne (fun y => ?_)]
    · exact k b u q z
    · subst y
      rw [e] at hm
      rcases List.mem_append.mp hm with w | w
      · exact z w
      · rw [f b (List.mem_append_left _ w)] at q; cases q
  · by_cases e : b = a
    · rw [e, upd_same]; exact nofun
    · rw [upd_ne e]; exact n.th b hb
theorem set_same {st : Sto} {l : Nat} {c : D} (h : st[l]? = some c) : st.set l c = st := by
  obtain ⟨hl, e⟩ := List.getElem?_eq_some_iff.mp h
  rw [<- e]
  exact List.set_getElem_self hl
end
section
variable {X : L2.Cx} {Z : Wc} {pins : List (Addr × Obj)} {σ : L2.St} {H : Hp} {s : Shared} {a : Addr}
theorem retag (I : Inv X pins σ H s) (h : H a = some (.dT [])) : Inv X pins σ (upd H a (.dK [])) s := by
  obtain ⟨h1, h2, xs, h3, o, es, ep, h4, h5, h6, h7, h8⟩ := I.hok a _ h
  cases h3
  obtain rfl : es = #[] := by cases es; simp_all
  exact Inv.write (t' := s.toks) (h' := s.heap) I (by rw [h]; trivial) (.inl rfl) (fun _ _ _ e => e) ⟨_, h4⟩ ⟨h1, h2, [], .nil, o, #[], ep, h4, h5, h6, fun e he => by simp at he, .nil, List.nodup_nil⟩
theorem dK_now {ρ0 ρ : List Addr} {st0 st : Sto} {H0 : Hp} {F F1 : List Addr} {d : D} {x : V} {kvs : List (Ky × D)} {k : L2.Key} (I : Inv X pins σ H s) (s0 : SR Z ρ0 st0 H0) (n : Now Z ρ0 H0 ρ st H F) (sub : ∀ b ∈ F1, b ∈ F) (r : Rp Z ρ H d x F1)
    (e : dicv st d = some kvs) (ok : okKeys (.k k) kvs = true) :
    ∃ H' a ws G, x = .ref a /\ Inv X pins σ H' s /\ Now Z ρ0 H0 ρ st H' F /\ H' a = some (.dK ws) /\ RpK Z ρ H' kvs ws G /\ G.Sublist F1 /\ Rp Z ρ H' d x F1 /\ ∀ d v G', Rp Z ρ H d v G' -> a ∉ G' -> Rp Z ρ H' d v G' := by
  obtain ⟨a, G, rfl, h, hs⟩ := dicv_ok n.sr r e
  rcases dK_of h ok with ⟨ws, h1, h2⟩ | ⟨h1, rfl, rfl⟩
  · exact ⟨H, a, ws, G, rfl, I, n, h1, h2, hs, r, fun _ _ _ h _ => h⟩
  · have I' := retag I h1
    refine ⟨upd H a (.dK []), a, [], [], rfl, I', ?_, upd_same, ⟨rfl, rfl⟩, List.nil_sublist _, ?_, fun d v G' h hg => h.updF h1 rfl hg⟩
    · cases d with
      | dic kvs =>
        obtain ⟨b, G2, z, f, _⟩ := r
        cases z
        exact n.updF s0 (sub a (by rw [f]; exact List.mem_cons_self)) h1 rfl
      | ref l =>
        obtain ⟨b, hl, z, f⟩ := r
        cases z
        have hc : st[l]? = some (.dic []) := by
          simp only [dicv] at e
          split at e
          · rename_i q; cases e; exact q
          · cases e
        have := n.wr (l := l) (c' := .dic []) (o' := .dK []) s0 hl rfl ⟨a, [], rfl, rfl, .inl ⟨[], upd_same, ⟨rfl, rfl⟩⟩⟩
        rwa [set_same hc] at this
      | _ => simp [dicv] at e
    · cases d with
      | dic kvs =>
        obtain ⟨b, G2, z, f, h⟩ := r
        cases z
        cases e
        have hg : G2 = [] := by
          rcases h with ⟨_, _, q⟩ | ⟨_, _, q⟩ <;> exact q.2
        subst hg
        exact ⟨a, [], rfl, f, .inl ⟨[], upd_same, ⟨rfl, rfl⟩⟩⟩
      | ref l => exact r
      | _ => simp [dicv] at e
end
end Fs
namespace Fs
open PySem L2 PyProof.Rows PySem.Spec
def pyC : Cop -> CmpOp
  | .eq => .Eq | .ne => .NotEq | .lt => .Lt | .le => .LtE | .gt => .Gt | .ge => .GtE | .isN => .Is | .ntN => .IsNot | .inn => .In | .nin => .NotIn
section
variable {X : L2.Cx} {Z : Wc} {W : WX} {σ0 : L2.St}
abbrev fC (op : Cop) : D -> D -> M D := fun x y st => opt (cmpD op x y st) (fun c => ret (.bl c)) st
theorem eq_is {st : Sto} {a b : D} {c : Bool} (e : eqD st a b = some c) : ∃ p q, toP false st 66 a = some p /\ toP false st 66 b = some q /\ SeqAt.shaped p = true /\ SeqAt.shaped q = true /\ c = PyData.eqv p q := by
  unfold eqD at e
  split at e
  · rename_i p q hp hq
    split at e
    · rename_i hs
      cases e
      exact ⟨p, q, hp, hq, hs.1, hs.2, rfl⟩
    · cases e
  · cases e
theorem rp_non {ρ : List Addr} {H : Hp} {d : D} {v : V} {F : List Addr} (r : Rp Z ρ H d v F) : decide (v = .non) = isNon d := by
  cases d with
  | non => obtain ⟨rfl, _⟩ := r; rfl
  | bl b => obtain ⟨rfl, _⟩ := r; rfl
  | int i => obtain ⟨rfl, _⟩ := r; rfl
  | str z => obtain ⟨rfl, _⟩ := r; rfl
  | tup ds => obtain ⟨a, vs, rfl, _⟩ := r; rfl
  | ref l => obtain ⟨a, _, rfl, _⟩ := r; rfl
  | lst ds => obtain ⟨a, vs, G, rfl, _⟩ := r; rfl
  | frl ds => obtain ⟨a, o, vs, G, rfl, _⟩ := r; rfl
  | dic ds => obtain ⟨a, G, rfl, _⟩ := r; rfl
  | set ds => obtain ⟨a, S, rfl, _⟩ := r; rfl
  | exc c ds => obtain ⟨a, dx, rfl, _⟩ := r; rfl
  | lam c ds => obtain ⟨a, rfl, _⟩ := r; rfl
theorem opt_ok {α β : Type} {rel : Rel α β} {γ : Type} {o : Option γ} {f : γ -> M α} {st : Sto} {ρ : List Addr} {H : Hp} {Q : β -> Hp -> Prop} (h : Post rel Z W (opt o f st) ρ σ0 H Q) : ∃ c, o = some c /\ Post rel Z W (f c st) ρ σ0 H Q := by
  cases o with
  | none => exact h.elim
  | some c => exact ⟨c, rfl, h⟩
theorem in_ok (hK : X.K = Z.K) (hu : X.A.units + 65 < cLine) (neg : Bool) : OpR X (compareOp (if neg then .NotIn else .In)) (rB Z W σ0 fun x y st => opt (inD st x y) (fun c => ret (.bl (if neg then !c else c))) st) := by
  intro pins s σ H x y v u Q I rx ry h
  obtain ⟨ρ, st, H0, ρ2, st2, d1, d2, F1, F2, sr, n, r1, r2, h⟩ := h
  obtain ⟨c, e, h⟩ := opt_ok h
  have fin : Q (.bl (if neg then !c else c)) H := Post.ret h (n.less (List.nil_sublist _)) ⟨rfl, rfl⟩
  have dict : ∀ kvs k, dicv st2 d2 = some kvs -> keyOf d1 = some k -> okKeys k kvs = true -> (dget k kvs).isSome = c -> wpAny (model X.prog X.w) X.A (compareOp (if neg then .NotIn else .In) v u) (EP X pins σ Q) X.xe s := by
    intro kvs k hd hk ok hc
    obtain ⟨j, rfl, rfl, rfl⟩ := key_ok r1 hk
    obtain ⟨H', a, ws, G, rfl, I', n', ha, rk, hs, _, _⟩ := dK_now I sr n (fun b hb => by simpa using hb) r2 hd ok
    obtain rfl : u = Value.ref a := ry
    have fin' : Q (.bl (if neg then !c else c)) H' := Post.ret h (n'.less (List.nil_sublist _)) ⟨rfl, rfl⟩
    have hv := dget_ok (k := j) rk
    have hsome : (valV ws j).isSome = c := by
      rw [<- hc]
      cases hg : dget (.k j) kvs with
      | none => rw [hg] at hv; rw [hv]; rfl
      | some d => rw [hg] at hv; obtain ⟨v', G', e1, _⟩ := hv; rw [e1]; rfl
    cases neg with
    | true => exact d_notIn (A := X.A) (by omega) I' (DGet.k ha) rx fun s' I2 => ⟨.bl (!(valV ws j).isSome), H', I2, rfl, by rw [hsome]; exact fin'⟩
    | false => exact d_in (A := X.A) (by omega) I' (DGet.k ha) rx fun s' I2 => ⟨.bl (valV ws j).isSome, H', I2, rfl, by rw [hsome]; exact fin'⟩
  unfold inD at e
  split at e
  · rename_i z
    split at e
    · rename_i t
      cases e
      obtain ⟨rfl, rfl⟩ := r1
      obtain ⟨rfl, rfl⟩ := r2
      cases neg with
      | true => exact op_notin_str pins s σ H _ _ v u Q I rx ry ⟨t, z, rfl, rfl, fin⟩
      | false => exact op_in_str pins s σ H _ _ v u Q I rx ry ⟨t, z, rfl, rfl, fin⟩
    · cases e
  · split at e
    · rename_i kvs hd
      split at e
      · rename_i k hk
        split at e
        · rename_i ok
          cases e
          exact dict kvs k hd hk ok rfl
        · cases e
      · cases e
    · split at e
      · rename_i ys _ _ _
        split at e
        · rename_i hf
          cases e
          obtain ⟨a, vs, rfl, ha, rs⟩ := r2
          have iv := inV_ok hf.1 r1 hf.2 rs
          have fx := flat_ok hf.1 r1
          have fs := flats_ok hf.2 rs
          cases neg with
          | true => exact op_notIn_seq pins s σ H _ _ v u Q I rx ry ⟨a, vs, rfl, .inr (by rw [hK]; exact ha.t), fx, fs, by rw [iv]; exact fin⟩
          | false => exact op_in_seq pins s σ H _ _ v u Q I rx ry ⟨a, vs, rfl, .inr (by rw [hK]; exact ha.t), fx, fs, by rw [iv]; exact fin⟩
        · cases e
      · split at e
        · rename_i hnt _ ys' hy'
          split at e
          · rename_i p qs hp hq
            split at e
            · rename_i hz
              cases e
              have dp := toP_ok n.sr _ _ _ _ _ r1 hp
              have dl : Dp Z.K H y (.list qs) := by
                cases d2 with
                | tup xs => exact absurd rfl (hnt xs)
                | lst xs =>
                  obtain ⟨a, vs, G, rfl, ha, rs, _⟩ := r2
                  cases hy'
                  exact .lst (SqL.of ha) (dpAll_ok (toP_ok n.sr 65) rs hq)
                | ref l =>
                  obtain ⟨a, hl, rfl, _⟩ := r2
                  simp only [seqv] at hy'
                  split at hy'
                  · rename_i xs hc
                    cases hy'
                    obtain ⟨vs, hv, rs⟩ := n.sr.list hl (.inl hc)
                    exact .lst hv (dpAll_ok (toP_ok n.sr 65) rs hq)
                  · rename_i xs hc
                    cases hy'
                    obtain ⟨vs, hv, rs⟩ := n.sr.list hl (.inr hc)
                    exact .lst hv (dpAll_ok (toP_ok n.sr 65) rs hq)
                  · cases hy'
                | _ => simp [seqv] at hy'
              cases neg with
              | true => exact op_notInD hu pins s σ H _ _ v u Q I rx ry ⟨p, qs, by rw [hK]; exact dp, by rw [hK]; exact dl, hz.1, hz.2, fin⟩
              | false => exact op_inD hu pins s σ H _ _ v u Q I rx ry ⟨p, qs, by rw [hK]; exact dp, by rw [hK]; exact dl, hz.1, hz.2, fin⟩
            · cases e
          · cases e
        · cases e
theorem cmp_ok (hK : X.K = Z.K) (hu : X.A.units + 65 < cLine) {op : Cop} : OpR X (compareOp (pyC op)) (rB Z W σ0 (fC op)) := by
  cases op with
  | inn =>
    have h := in_ok (W := W) (σ0 := σ0) hK hu false
    intro pins s σ H x y v u Q I rx ry q
    exact h pins s σ H x y v u Q I rx ry q
  | nin =>
    have h := in_ok (W := W) (σ0 := σ0) hK hu true
    intro pins s σ H x y v u Q I rx ry q
    obtain ⟨ρ, st, H0, ρ2, st2, d1, d2, F1, F2, sr, n, r1, r2, q⟩ := q
    refine h pins s σ H x y v u Q I rx ry ⟨ρ, st, H0, ρ2, st2, d1, d2, F1, F2, sr, n, r1, r2, ?_⟩
    simp only [fC, cmpD] at q
    cases e : inD st2 d1 d2 with
    | none => rw [e] at q; exact q.elim
    | some c => rw [e] at q; simpa only [opt, Option.map_some, e, if_true] using q
  | eq =>
    intro pins s σ H x y v u Q I rx ry q
    obtain ⟨ρ, st, H0, ρ2, st2, d1, d2, F1, F2, sr, n, r1, r2, q⟩ := q
    obtain ⟨c, e, q⟩ := opt_ok q
    obtain ⟨p1, p2, e1, e2, z1, z2, rfl⟩ := eq_is e
    exact op_eqD (by omega) pins s σ H x y v u Q I rx ry ⟨p1, p2, by rw [hK]; exact toP_ok n.sr _ _ _ _ _ r1 e1, by rw [hK]; exact toP_ok n.sr _ _ _ _ _ r2 e2, z1, z2, Post.ret q (n.less (List.nil_sublist _)) ⟨rfl, rfl⟩⟩
  | ne =>
    intro pins s σ H x y v u Q I rx ry q
    obtain ⟨ρ, st, H0, ρ2, st2, d1, d2, F1, F2, sr, n, r1, r2, q⟩ := q
    obtain ⟨c, e, q⟩ := opt_ok q
    simp only [cmpD, Option.map_eq_some_iff] at e
    obtain ⟨b, e, rfl⟩ := e
    obtain ⟨p1, p2, e1, e2, z1, z2, rfl⟩ := eq_is e
    exact op_neD (by omega) pins s σ H x y v u Q I rx ry ⟨p1, p2, by rw [hK]; exact toP_ok n.sr _ _ _ _ _ r1 e1, by rw [hK]; exact toP_ok n.sr _ _ _ _ _ r2 e2, z1, z2, Post.ret q (n.less (List.nil_sublist _)) ⟨rfl, rfl⟩⟩
  | isN =>
    intro pins s σ H x y v u Q I rx ry q
    obtain ⟨ρ, st, H0, ρ2, st2, d1, d2, F1, F2, sr, n, r1, r2, q⟩ := q
    obtain ⟨c, e, q⟩ := opt_ok q
    have fin : Q (.bl c) H := Post.ret q (n.less (List.nil_sublist _)) ⟨rfl, rfl⟩
    simp only [cmpD, isD] at e
    split at e
    · cases e
      obtain ⟨rfl, _⟩ := r2
      exact op_isN pins s σ H _ _ v u Q I rx ry ⟨rfl, by rw [rp_non r1]; exact fin⟩
    · split at e
      · rename_i b _ d
        cases e
        obtain ⟨rfl, _⟩ := r1
        obtain ⟨rfl, _⟩ := r2
        refine op_isBl pins s σ H _ _ v u Q I rx ry ⟨d, b, rfl, rfl, ?_⟩
        have : decide (d = b) = (d == b) := by cases d <;> cases b <;> rfl
        rw [this]; exact fin
      · cases e
    · cases e
  | ntN =>
    intro pins s σ H x y v u Q I rx ry q
    obtain ⟨ρ, st, H0, ρ2, st2, d1, d2, F1, F2, sr, n, r1, r2, q⟩ := q
    obtain ⟨c, e, q⟩ := opt_ok q
    have fin : Q (.bl c) H := Post.ret q (n.less (List.nil_sublist _)) ⟨rfl, rfl⟩
    simp only [cmpD, isD, Option.map_eq_some_iff] at e
    obtain ⟨c', e, rfl⟩ := e
    split at e
    · cases e
      obtain ⟨rfl, _⟩ := r2
      exact op_notN pins s σ H _ _ v u Q I rx ry ⟨rfl, by rw [rp_non r1]; exact fin⟩
    · split at e
      · rename_i b _ d
        cases e
        obtain ⟨rfl, _⟩ := r1
        obtain ⟨rfl, _⟩ := r2
        refine op_notBl pins s σ H _ _ v u Q I rx ry ⟨d, b, rfl, rfl, ?_⟩
        have : decide (d = b) = (d == b) := by cases d <;> cases b <;> rfl
        rw [this]; exact fin
      · cases e
    · cases e
  | lt =>
    intro pins s σ H x y v u Q I rx ry q
    obtain ⟨ρ, st, H0, ρ2, st2, d1, d2, F1, F2, sr, n, r1, r2, q⟩ := q
    obtain ⟨c, e, q⟩ := opt_ok q
    have fin : Q (.bl c) H := Post.ret q (n.less (List.nil_sublist _)) ⟨rfl, rfl⟩
    simp only [cmpD] at e
    split at e
    · rename_i i j
      obtain ⟨rfl, _⟩ := r1
      obtain ⟨rfl, _⟩ := r2
      cases e
      exact op_lt pins s σ H _ _ v u Q I rx ry ⟨i, j, rfl, rfl, fin⟩
    · cases e
  | le =>
    intro pins s σ H x y v u Q I rx ry q
    obtain ⟨ρ, st, H0, ρ2, st2, d1, d2, F1, F2, sr, n, r1, r2, q⟩ := q
    obtain ⟨c, e, q⟩ := opt_ok q
    have fin : Q (.bl c) H := Post.ret q (n.less (List.nil_sublist _)) ⟨rfl, rfl⟩
    simp only [cmpD] at e
    split at e
    · rename_i i j
      obtain ⟨rfl, _⟩ := r1
      obtain ⟨rfl, _⟩ := r2
      cases e
      exact op_le pins s σ H _ _ v u Q I rx ry ⟨i, j, rfl, rfl, fin⟩
    · cases e
  | gt =>
    intro pins s σ H x y v u Q I rx ry q
    obtain ⟨ρ, st, H0, ρ2, st2, d1, d2, F1, F2, sr, n, r1, r2, q⟩ := q
    obtain ⟨c, e, q⟩ := opt_ok q
    have fin : Q (.bl c) H := Post.ret q (n.less (List.nil_sublist _)) ⟨rfl, rfl⟩
    simp only [cmpD] at e
    split at e
    · rename_i i j
      obtain ⟨rfl, _⟩ := r1
      obtain ⟨rfl, _⟩ := r2
      cases e
      exact op_gt pins s σ H _ _ v u Q I rx ry ⟨i, j, rfl, rfl, fin⟩
    · cases e
  | ge =>
    intro pins s σ H x y v u Q I rx ry q
    obtain ⟨ρ, st, H0, ρ2, st2, d1, d2, F1, F2, sr, n, r1, r2, q⟩ := q
    obtain ⟨c, e, q⟩ := opt_ok q
    have fin : Q (.bl c) H := Post.ret q (n.less (List.nil_sublist _)) ⟨rfl, rfl⟩
    simp only [cmpD] at e
    split at e
    · rename_i i j
      obtain ⟨rfl, _⟩ := r1
      obtain ⟨rfl, _⟩ := r2
      cases e
      exact op_ge pins s σ H _ _ v u Q I rx ry ⟨i, j, rfl, rfl, fin⟩
    · cases e
end
end Fs
namespace Fs
open PySem L2 PyProof.Rows PySem.Spec
section
variable {X : L2.Cx} {T : Tbl} {Z : Wc} {W : WX} {σ0 : L2.St} {a b c e o i : Expr} {A B C : Ex} {pos p2 : Pos}
theorem ix_ok (hK : X.K = Z.K) (hu : X.A.units + 1 < cLine) : IxR X (rB Z W σ0 getI) := by
  intro value slice pins s σ H x y v u Q I rx ry h hs
  obtain ⟨ρ, st, H0, ρ2, st2, d1, d2, F1, F2, sr, n, r1, r2, h⟩ := h
  have dict : ∀ kvs k y', dicv st2 d1 = some kvs -> keyOf d2 = some k -> okKeys k kvs = true -> dget k kvs = some y' -> Post (Rp Z) Z W (.ok y' st2) ρ σ0 H0 Q -> wpAny (model X.prog X.w) X.A (subscriptTail value slice v u) (EP X pins σ Q) X.xe s := by
    intro kvs k y' hd hk ok hg h
    obtain ⟨j, rfl, rfl, rfl⟩ := key_ok r2 hk
    obtain ⟨H', a, ws, G, rfl, I', n', ha, rk, hs', _, _⟩ := dK_now I sr n (fun b hb => by simpa using hb) r1 hd ok
    obtain rfl : v = Value.ref a := rx
    have hv := dget_ok (k := j) rk
    rw [hg] at hv
    obtain ⟨v', G', e1, r', hs2⟩ := hv
    have g : DGet H' a (kV j) (some v') := by rw [<- e1]; exact DGet.k ha
    refine tail_any (dict_typeIs I' g) PySem.F.slot_dict_getitem.lookup (d_getItem hu I' g ry fun w' s' I2 rw' => ⟨v', H', I2, rw', ?_⟩) hs
    exact Post.ok h (n'.less (by rw [List.append_nil]; exact hs2.trans hs')) r'
  unfold getI at h
  split at h
  · rename_i k
    obtain ⟨rfl, rfl⟩ := r2
    split at h
    · rename_i z
      obtain ⟨rfl, rfl⟩ := r1
      split at h
      · rename_i hz
        split at h
        · rename_i c hc
          exact ix_seq value slice pins s σ H _ _ v u Q I rx ry (.inr (.inr ⟨z, k, c, rfl, rfl, hz, hc, Post.ok h n ⟨rfl, rfl⟩⟩)) hs
        · exact h.elim
      · exact h.elim
    · split at h
      · rename_i xs hx
        split at h
        · rename_i y' hy
          obtain ⟨a, vs, G, rfl, ha, rs, sub⟩ := seqv_ok n.sr r1 hx
          have hat : ∃ v' G', atI vs k = some v' /\ Rp Z ρ2 H y' v' G' /\ G'.Sublist G := by
            unfold atI at hy ⊢
            rw [<- rs.length]
            cases hj : ixN xs.length k with
            | none => simp [hj] at hy
            | some j =>
              simp only [hj, Option.bind_some] at hy ⊢
              exact rs.get hy
          obtain ⟨v', G', hv, r', sub'⟩ := hat
          have fin : Q v' H := Post.ok h (n.less (by rw [List.append_nil]; exact sub'.trans sub)) r'
          rcases ha with ha | ha
          · exact ix_seq value slice pins s σ H _ _ v u Q I rx ry (.inl ⟨a, vs, k, v', rfl, rfl, by rw [hK]; exact ha, hv, fin⟩) hs
          · exact ix_seq value slice pins s σ H _ _ v u Q I rx ry (.inr (.inl ⟨a, vs, k, v', rfl, rfl, by rw [hK]; exact ha, hv, fin⟩)) hs
        · exact h.elim
      · split at h
        · rename_i kvs hd
          split at h
          · rename_i ok
            split at h
            · rename_i y' hg
              exact dict kvs _ y' hd rfl ok hg h
            · exact h.elim
          · exact h.elim
        · exact h.elim
  · split at h
    · rename_i q kvs hk hd
      split at h
      · rename_i ok
        split at h
        · rename_i y' hg
          exact dict kvs q y' hd hk ok hg h
        · exact h.elim
      · exact h.elim
    · exact h.elim
theorem se_sub (hK : X.K = Z.K) (hu : X.A.units + 1 < cLine) (ha : PE X a (iE T Z W A)) (hb : PE X b (iE T Z W B)) (hs : PlainIx b) : PE X (.Subscript a b pos) (iE T Z W (.sub A B)) :=
  ⟨fun pins s σ H Q I q => by
    refine (pe_ix (ix_ok (W := W) (σ0 := σ) hK hu) ha hb hs).run pins s σ H Q I ?_
    obtain ⟨ρ, env, st, er, sr, h⟩ := q
    simp only [ev] at h
    exact two_ok ⟨ρ, env, st, er, sr, h⟩⟩
def iO (T : Tbl) (Z : Wc) (W : WX) (o : Option Ex) : TO := fun σ H Q => ∃ ρ env st, ER Z ρ H env σ /\ SR Z ρ st H /\ Post (RelEq (Option Int)) Z W (evo T o env st) ρ σ H Q
theorem so_none : PO X none (iO T Z W none) := ⟨fun pins s σ H Q I h => po_none.run pins s σ H Q I (by
  obtain ⟨ρ, env, st, er, sr, h⟩ := h
  simp only [evo] at h
  exact Post.ret h (Now.start sr) ⟨rfl, rfl⟩)⟩
theorem so_some (ha : PE X a (iE T Z W A)) : PO X (some a) (iO T Z W (some A)) := ⟨fun pins s σ H Q I h => (po_some ha).run pins s σ H Q I (by
  obtain ⟨ρ, env, st, er, sr, h⟩ := h
  simp only [evo] at h
  refine ⟨ρ, env, st, er, sr, (Post.seq rpOk (Now.start sr) sr h).mono ?_⟩
  rintro x H1 ⟨ρ1, d1, st1, F1, n1, t1, r1, h1⟩
  cases d1 with
  | int i =>
    obtain ⟨rfl, rfl⟩ := r1
    exact ⟨i, rfl, Post.ret h1 n1 ⟨rfl, rfl⟩⟩
  | _ => exact h1.elim)⟩
def rSlc (Z : Wc) (W : WX) (σ : L2.St) : V -> Option Int -> Option Int -> Hp -> VK -> Prop := fun x lo hi H2 Q => ∃ ρ st H ρ2 st2 d F, SR Z ρ st H /\ Now Z ρ H ρ2 st2 H2 F /\ Rp Z ρ2 H2 d x F /\ Post (Rp Z) Z W (slcD d lo hi st2) ρ σ H Q
theorem rps_cut {ρ : List Addr} {H : Hp} {xs : List D} {vs : List V} {F : List Addr} (r : Rps Z ρ H xs vs F) (lo hi : Option Int) : ∃ G, Rps Z ρ H (cutD xs lo hi) (cutV vs lo hi) G /\ G.Sublist F := by
  unfold cutD cutV
  rw [<- r.length]
  obtain ⟨G1, r1, s1⟩ := r.drop (HT.sIx xs.length 0 lo)
  obtain ⟨G2, r2, s2⟩ := r1.take (HT.sIx xs.length xs.length hi - HT.sIx xs.length 0 lo)
  exact ⟨G2, r2, s2.trans s1⟩
theorem slc_ok (hK : X.K = Z.K) : SlR X (rSlc Z W σ0) := by
  intro pins s σ H x v vl vu lo hi sl Q I rx hs pl pu h
  obtain ⟨ρ, st, H0, ρ2, st2, d, F, sr, n, r, h⟩ := h
  unfold slcD at h
  split at h
  · rename_i xs
    obtain ⟨a, vs, rfl, ha, rs⟩ := r
    obtain ⟨G, rc, sub⟩ := rps_cut rs lo hi
    refine sl_tupX pins s σ H _ v vl vu lo hi sl Q I rx hs pl pu ⟨a, vs, rfl, by rw [hK]; exact ha.t, fun e => ?_, fun _ p o ho hp => ?_⟩
    · refine Post.ok h (n.less sub) ⟨a, _, rfl, ?_, rc⟩
      have : cutV vs lo hi = vs := by
        unfold cutV
        rw [e.1, e.2]
        simp
      rw [this]; exact ha
    · exact Post.ok h ((n.newS sr hp).less sub) ⟨p, _, rfl, SqX.of upd_same ho, rps_up hp rc⟩
  · split at h
    · rename_i xs hx
      obtain ⟨a, vs, G, rfl, ha, rs, sub⟩ := lstv_ok n.sr r hx
      obtain ⟨G2, rc, sub2⟩ := rps_cut rs lo hi
      refine sl_list pins s σ H _ v vl vu lo hi sl Q I rx hs pl pu ⟨a, vs, rfl, SqL.of ha, fun p hp => ?_⟩
      exact Post.ok h ((n.new sr hp).less (List.cons_sublist_cons.mpr (sub2.trans sub))) ⟨p, _, G2, rfl, upd_same, rps_up hp rc, rfl⟩
    · exact h.elim
theorem se_slc {lo hi : Option Expr} {L U : Option Ex} (hK : X.K = Z.K) (ha : PE X a (iE T Z W A)) (hl : PO X lo (iO T Z W L)) (hu : PO X hi (iO T Z W U)) : PE X (.Subscript a (.Slice lo hi none p2) pos) (iE T Z W (.slc A L U)) :=
  ⟨fun pins s σ H Q I q => by
    refine (pe_slice (slc_ok (W := W) (σ0 := σ) hK) ha hl hu).run pins s σ H Q I ?_
    obtain ⟨ρ, env, st, er, sr, h⟩ := q
    simp only [ev] at h
    refine ⟨ρ, env, st, er, sr, (Post.seq rpOk (Now.start sr) sr h).mono ?_⟩
    rintro x H1 ⟨ρ1, d1, st1, F1, n1, t1, r1, h1⟩
    refine ⟨ρ1, env, st1, t1.env sr er, n1.sr, (Post.seq reqOk n1 sr h1).mono ?_⟩
    rintro l H2 ⟨ρ2, d2, st2, F2, n2, t2, ⟨rfl, rfl⟩, h2⟩
    refine ⟨ρ2, env, st2, t2.env n1.sr (t1.env sr er), n2.sr, (Post.seq reqOk n2 sr h2).mono ?_⟩
    rintro u H3 ⟨ρ3, d3, st3, F3, n3, t3, ⟨rfl, rfl⟩, h3⟩
    refine ⟨ρ, st, H, ρ3, st3, d1, F1, sr, by simpa using n3, ?_, h3⟩
    exact t3.val n2.sr (fun a ha => n2.out a (List.mem_append_left _ (List.mem_append_right _ ha))) (t2.val n1.sr (fun a ha => n1.out a (List.mem_append_right _ ha)) r1)⟩
theorem tru_is {ρ : List Addr} {H : Hp} {st : Sto} {d : D} {x : V} {F : List Addr} {k : Bool} (s : SR Z ρ st H) (r : Rp Z ρ H d x F) (e : truth st d = some k) : TruV Z.K x H k := by
  cases d with
  | non => obtain ⟨rfl, _⟩ := r; simp only [truth, Option.some.injEq] at e; exact e.symm
  | bl b => obtain ⟨rfl, _⟩ := r; simp only [truth, Option.some.injEq] at e; exact e.symm
  | int i => obtain ⟨rfl, _⟩ := r; simp only [truth, Option.some.injEq] at e; exact e.symm
  | str z =>
    obtain ⟨rfl, _⟩ := r
    simp only [truth] at e
    split at e
    · rename_i hz; cases e; exact ⟨hz, rfl⟩
    · cases e
  | tup ds =>
    obtain ⟨p, vs, rfl, hp, r⟩ := r
    simp only [truth, Option.some.injEq] at e
    exact .inr (.inl ⟨vs, hp.t, by rw [<- e]; cases ds <;> cases vs <;> simp_all [Rps]⟩)
  | lst ds =>
    obtain ⟨p, vs, G, rfl, hp, r, _⟩ := r
    simp only [truth, Option.some.injEq] at e
    exact .inl ⟨vs, SqL.of hp, by rw [<- e]; cases ds <;> cases vs <;> simp_all [Rps]⟩
  | ref l =>
    obtain ⟨p, hl, rfl, _⟩ := r
    cases hc : st[l]? with
    | none => simp [truth, hc] at e
    | some cc =>
      have rc := s.cell l cc p hc hl
      cases cc with
      | lst ds =>
        simp only [truth, hc, Option.some.injEq] at e
        obtain ⟨p', vs, G, z, hp, r, _⟩ := rc
        cases z
        exact .inl ⟨vs, SqL.of hp, by rw [<- e]; cases ds <;> cases vs <;> simp_all [Rps]⟩
      | frl ds =>
        simp only [truth, hc, Option.some.injEq] at e
        obtain ⟨p', o, vs, G, z, hp, r, _⟩ := rc
        cases z
        exact .inl ⟨vs, .inl (.inr ⟨o, hp⟩), by rw [<- e]; cases ds <;> cases vs <;> simp_all [Rps]⟩
      | _ => simp [truth, hc] at e
  | _ => simp [truth] at e
theorem se_nt {C1 : Ex} (hK : X.K = Z.K) (ha : PE X a (iE T Z W C1)) : PE X (.UnaryOp .Not a pos) (iE T Z W (.nt (.val C1))) :=
  ⟨fun pins s σ H Q I q => by
    refine (pe_notT ha).run pins s σ H Q I ?_
    obtain ⟨ρ, env, st, er, sr, h⟩ := q
    simp only [ev, evT] at h
    refine ⟨ρ, env, st, er, sr, ?_⟩
    have h' : Post (Rp Z) Z W (bnd (ev T C1 env) (fun x st => bnd (fun st => opt (truth st x) ret st) (fun c => ret (.bl (!c))) st) st) ρ σ H Q := by
      unfold bnd at h ⊢
      cases e : ev T C1 env st <;> simpa only [e] using h
    refine (Post.seq rpOk (Now.start sr) sr h').mono ?_
    rintro x H1 ⟨ρ1, d1, st1, F1, n1, t1, r1, h1⟩
    unfold bnd at h1
    cases e : truth st1 d1 with
    | none => simp only [e, opt, bad] at h1; exact h1.elim
    | some k =>
      simp only [e, opt, ret] at h1
      exact ⟨k, by rw [hK]; exact tru_is n1.sr r1 e, Post.ok h1 (n1.less (List.nil_sublist _)) ⟨rfl, rfl⟩⟩⟩
theorem se_one {op : BoolOp} (ha : PE X a (iE T Z W A)) : PE X (.BoolOp op [a] pos) (iE T Z W A) := pe_one ha
theorem se_and {rest : List Expr} (ha : PE X a (iE T Z W A)) (hb : PE X (.BoolOp .And (b :: rest) pos) (iE T Z W B)) : PE X (.BoolOp .And (a :: b :: rest) pos) (iE T Z W (.and2 A B)) :=
  ⟨fun pins s σ H Q I q => by
    refine (pe_and ha hb).run pins s σ H Q I ?_
    obtain ⟨ρ, env, st, er, sr, h⟩ := q
    simp only [ev] at h
    refine ⟨ρ, env, st, er, sr, (Post.seq rpOk (Now.start sr) sr h).mono ?_⟩
    rintro x H1 ⟨ρ1, d1, st1, F1, n1, t1, r1, h1⟩
    cases d1 with
    | bl c =>
      obtain ⟨rfl, rfl⟩ := r1
      refine ⟨c, rfl, ?_⟩
      cases c with
      | true => exact ⟨ρ1, env, st1, t1.env sr er, n1.sr, h1.tail rpOk n1 sr⟩
      | false => exact Post.ok h1 n1 ⟨rfl, rfl⟩
    | _ => exact h1.elim⟩
theorem cmpI_op {op : Cop} : OpR X (compareOp (pyC op)) (fun x y H Q => ∃ i j b, x = .int i /\ y = .int j /\ cmpI op i j = some b /\ Q (.bl b) H) := by
  intro pins s σ H x y v u Q I rx ry ⟨i, j, b, ex, ey, e, q⟩
  subst ex ey
  cases op with
  | lt => cases e; exact op_lt pins s σ H _ _ v u Q I rx ry ⟨i, j, rfl, rfl, q⟩
  | le => cases e; exact op_le pins s σ H _ _ v u Q I rx ry ⟨i, j, rfl, rfl, q⟩
  | gt => cases e; exact op_gt pins s σ H _ _ v u Q I rx ry ⟨i, j, rfl, rfl, q⟩
  | ge => cases e; exact op_ge pins s σ H _ _ v u Q I rx ry ⟨i, j, rfl, rfl, q⟩
  | _ => cases e
theorem se_chn {o1 o2 : Cop} (ha : PE X a (iE T Z W A)) (hb : PE X b (iE T Z W B)) (hc : PE X c (iE T Z W C)) (hm : lastMarks [pyC o1, pyC o2] [b, c] = false) : PE X (.Compare a [pyC o1, pyC o2] [b, c] pos) (iE T Z W (.chn o1 o2 A B C)) :=
  ⟨fun pins s σ H Q I q => by
    refine (pe_chain cmpI_op cmpI_op ha hb hc hm).run pins s σ H Q I ?_
    obtain ⟨ρ, env, st, er, sr, h⟩ := q
    simp only [ev] at h
    refine ⟨ρ, env, st, er, sr, (Post.seq rpOk (Now.start sr) sr h).mono ?_⟩
    rintro x H1 ⟨ρ1, d1, st1, F1, n1, t1, r1, h1⟩
    cases d1 with
    | int i =>
      obtain ⟨rfl, rfl⟩ := r1
      refine ⟨ρ1, env, st1, t1.env sr er, n1.sr, (Post.seq rpOk n1 sr (by simpa only [intv, opt] using h1)).mono ?_⟩
      rintro y H2 ⟨ρ2, d2, st2, F2, n2, t2, r2, h2⟩
      cases d2 with
      | int j =>
        obtain ⟨rfl, rfl⟩ := r2
        simp only [intv, opt] at h2
        cases e : cmpI o1 i j with
        | none => rw [e] at h2; exact h2.elim
        | some k =>
          rw [e] at h2
          refine ⟨i, j, k, rfl, rfl, e, k, rfl, ?_⟩
          cases k with
          | false => exact Post.ok h2 n2 ⟨rfl, rfl⟩
          | true =>
            rw [if_pos rfl]
            refine ⟨ρ2, env, st2, t2.env n1.sr (t1.env sr er), n2.sr, (Post.seq rpOk n2 sr h2).mono ?_⟩
            rintro z H3 ⟨ρ3, d3, st3, F3, n3, t3, r3, h3⟩
            cases d3 with
            | int m =>
              obtain ⟨rfl, rfl⟩ := r3
              simp only [intv, opt] at h3
              cases e2 : cmpI o2 j m with
              | none => rw [e2] at h3; exact h3.elim
              | some k2 => rw [e2] at h3; exact ⟨j, m, k2, rfl, rfl, e2, Post.ok h3 n3 ⟨rfl, rfl⟩⟩
            | _ => exact h3.elim
      | _ => exact h2.elim
    | _ => exact h1.elim⟩
theorem postA_seq {m : M D} {f : D -> M Env} {st : Sto} {ρ : List Addr} {H : Hp} {F : List Addr} {L : List Nat} {σ : L2.St} {Q : L2.St -> Hp -> Prop} (h : PostA Z (bnd m f st) ρ H F L σ Q) : ∃ d st', m st = .ok d st' /\ PostA Z (f d st') ρ H F L σ Q := by
  unfold bnd at h
  cases e : m st with
  | ok d s' => rw [e] at h; exact ⟨d, s', rfl, h⟩
  | exc x s' => rw [e] at h; exact h.elim
  | bad => rw [e] at h; exact h.elim
end
end Fs
namespace Fs
open PySem L2 PyProof.Rows PySem.Spec
section
variable {Z : Wc} {ρ : List Addr} {H : Hp}
theorem putK_cons {j k : L2.Key} {u v : V} {r : List (L2.Key × V)} (nd : j = k -> valV r k = none) : putK ((j, u) :: r) k v = if j = k then (j, v) :: r else (j, u) :: putK r k v := by
  unfold putK
  rw [List.any_cons, valV_any]
  by_cases h : j = k
  · subst h
    have : r.map (fun kv => if kv.1 = j then (kv.1, v) else kv) = r := by
      have nn := nd rfl
      have : ∀ kv ∈ r, kv.1 ≠ j := fun kv hm e => by
        have h2 : (r.any fun kv => decide (kv.1 = j)) = true := List.any_eq_true.mpr ⟨kv, hm, by simpa using e⟩
        rw [valV_any, nn] at h2
        cases h2
      conv => rhs; rw [<- List.map_id r]
      exact List.map_congr_left fun kv hm => by simp [this kv hm]
    simp [this]
  · simp only [h, decide_false, Bool.false_or, if_false]
    split
    · simp [h]
    · rfl
theorem dput_ok {k : L2.Key} {d : D} {v : V} (r0 : Rp Z ρ H d v []) : ∀ {kvs : List (Ky × D)} {ws : List (L2.Key × V)} {F : List Addr}, (kvs.map (·.1)).Nodup -> RpK Z ρ H kvs ws F -> ∃ G, RpK Z ρ H (dput (.k k) d kvs) (putK ws k v) G /\ G.Sublist F
  | [], ws, F, nd, r => by
    obtain ⟨rfl, rfl⟩ := r
    exact ⟨[], ⟨k, v, [], [], [], rfl, rfl, r0, ⟨rfl, rfl⟩, rfl⟩, List.Sublist.refl _⟩
  | (q, x) :: kvs, ws, F, nd, r => by
    obtain ⟨j, u, ws', F1, F2, rfl, rfl, r1, r2, rfl⟩ := r
    have nd' := List.nodup_cons.mp (show (Ky.k j :: kvs.map (·.1)).Nodup from nd)
    rw [putK_cons (fun e => ?_)]
    · simp only [dput]
      by_cases h : j = k
      · subst h
        rw [if_pos rfl, if_pos rfl]
        exact ⟨F2, ⟨j, v, ws', [], F2, rfl, rfl, r0, r2, rfl⟩, List.sublist_append_right _ _⟩
      · rw [if_neg (by simpa using h), if_neg h]
        obtain ⟨G, a, b⟩ := dput_ok (k := k) r0 nd'.2 r2
        exact ⟨F1 ++ G, ⟨j, u, _, F1, G, rfl, rfl, r1, a, rfl⟩, List.Sublist.append (List.Sublist.refl _) b⟩
    · subst e
      have h := dget_ok (k := j) r2
      cases hg : dget (.k j) kvs with
      | none => rw [hg] at h; exact h
      | some y =>
        exfalso
        apply nd'.1
        clear h nd nd' r2
        induction kvs with
        | nil => simp [dget] at hg
        | cons p t ih =>
          obtain ⟨a, b⟩ := p
          simp only [dget] at hg
          split at hg
          · rename_i e; simp [e]
          · simp only [List.map_cons, List.mem_cons]
            exact .inr (ih hg)
theorem RpK.keysEq : ∀ {kvs : List (Ky × D)} {ws : List (L2.Key × V)} {F : List Addr}, RpK Z ρ H kvs ws F -> kvs.map (·.1) = ws.map (fun p => Ky.k p.1)
  | [], _, _, r => by obtain ⟨rfl, _⟩ := r; rfl
  | (q, d) :: kvs, _, _, r => by
    obtain ⟨j, u, ws', F1, F2, rfl, rfl, r1, r2, rfl⟩ := r
    simp [RpK.keysEq r2]
end
section
variable {X : L2.Cx} {pins : List (Addr × Obj)} {σ : L2.St} {H : Hp} {s : Shared} {a : Addr} {ws : List (L2.Key × V)}
theorem KV.keys : ∀ {ws : List (L2.Key × V)} {vs : List (L2.Key × Value)}, L2.KV ws vs -> ws.map (·.1) = vs.map (·.1)
  | _, _, .nil => rfl
  | _, _, .cons r t => by
    have := KV.keys t
    simp_all
theorem dK_nodup (I : Inv X pins σ H s) (h : H a = some (.dK ws)) : (ws.map (·.1)).Nodup := by
  obtain ⟨_, _, vs, kv, o, es, ep, _, _, _, _, _, nd⟩ := I.hok a _ h
  rw [KV.keys kv]
  exact nd
theorem ky_nodup {l : List L2.Key} (h : l.Nodup) : (l.map Ky.k).Nodup := by
  refine List.pairwise_map.mpr (h.imp ?_)
  intro a b hab e
  exact hab (by injection e)
end
section
variable {X : L2.Cx} {T : Tbl} {Z : Wc} {W : WX} {o i : Expr} {A B : Ex} {pos : Pos}
theorem rps_set {ρ : List Addr} {H : Hp} {d : D} {v : V} (rl : Rp Z ρ H d v []) : ∀ {xs : List D} {vs : List V} {j : Nat}, Rps Z ρ H xs vs [] -> Rps Z ρ H (xs.set j d) (vs.set j v) []
  | [], vs, j, h => by obtain ⟨rfl, _⟩ := h; simp [Rps]
  | x :: xs, vs, j, h => by
    obtain ⟨v1, ws, F1, F2, rfl, q1, q2, f⟩ := h
    obtain ⟨rfl, rfl⟩ := List.append_eq_nil_iff.mp f.symm
    cases j with
    | zero => exact ⟨v, ws, [], [], rfl, rl, q2, rfl⟩
    | succ j => exact ⟨v1, ws.set j v, [], [], rfl, q1, rps_set rl q2, rfl⟩
def rSt (Z : Wc) : TSet := fun x y v H2 Q => ∃ ρ st d1 d2 d F G1 G2, Hand Z ρ st H2 F /\ Rp Z ρ H2 d1 x G1 /\ Rp Z ρ H2 d2 y G2 /\ Rp Z ρ H2 d v F /\ ∃ st', setI d1 d2 d st = .ok () st' /\
  ∀ ρ' H', StpF ρ H2 F ρ' H' -> SR Z ρ' st' H' -> (∃ N a o, ρ' = ρ ++ N /\ a ∈ ρ /\ H' = upd H2 a o) -> Q H'
theorem StpF.wr {ρ N F : List Addr} {H : Hp} {st' : Sto} {a : Addr} {o' : HO} (h : StpF ρ H F (ρ ++ N) H) (ha : a ∈ ρ) : StpF ρ H F (ρ ++ N) (upd H a o') := by
  obtain ⟨M, e, nd, f, k⟩ := h
  exact ⟨M, e, nd, f, fun b u q z y => by rw [upd_ne (fun w => z (by rw [w]; exact ha))]; exact k b u q z y⟩
theorem set_ok (hu : X.A.units + 1 < cLine) : PSet X (rSt Z) := by
  intro pins s σ H x y v xv yv u Q I rx ry rv h
  obtain ⟨ρ, st, d1, d2, d, F, G1, G2, hd, r1, r2, r, st', e0, h⟩ := h
  obtain ⟨N, pm, sr', rl⟩ := land_ok d hd.sr r hd.out hd.nd
  have stp : StpF ρ H F (ρ ++ N) H := ⟨N, rfl, pm.nodup_iff.mpr hd.nd, fun b hb => .inl (pm.mem_iff.mp hb), fun _ _ e _ _ => e⟩
  unfold setI at e0
  split at e0
  · rename_i l
    obtain ⟨a, hl, rfl, _⟩ := r1
    have hm : a ∈ ρ := List.mem_of_getElem? hl
    have hl' : (ρ ++ N)[l]? = some a := get_append l a hl
    split at e0
    · rename_i xs hc
      split at e0
      · rename_i k
        obtain ⟨rfl, _⟩ := r2
        split at e0
        · rename_i j hj
          obtain ⟨b, vs, G, z, ha, rs, f⟩ := hd.sr.cell l _ a hc hl
          cases z
          obtain rfl : G = [] := by injection f with _ f; exact f.symm
          refine set_list pins s σ H _ _ _ xv yv u Q I rx ry rv ⟨a, vs, k, j, rfl, rfl, ha, by rw [<- rs.length]; exact hj, ?_⟩
          cases e0
          refine h (ρ ++ N) _ (stp.wr (st' := st) hm) (sr'.wr hl' rfl ?_) ⟨N, a, _, rfl, hm, rfl⟩
          refine ⟨a, vs.set j v, [], rfl, upd_same, ?_, rfl⟩
          refine Rps.updF ha rfl (by simp) ?_
          exact rps_set rl rs.wide
        · exact nomatch e0
      · exact nomatch e0
    · rename_i kvs hc
      split at e0
      · rename_i q hk
        split at e0
        · rename_i hz
          obtain ⟨k, rfl, rfl, _⟩ := key_ok r2 hk
          have hcell := hd.sr.cell l _ a hc hl
          cases e0
          have fin : ∀ H1, Inv X pins σ H1 s -> (∃ ws, H1 a = some (.dK ws) /\ RpK Z (ρ ++ N) H1 kvs ws []) -> (∀ ws, upd H1 a (.dK ws) = upd H a (.dK ws)) -> Rp Z (ρ ++ N) H1 (land d st).1 v [] -> wpAny (model X.prog X.w) X.A (setItem xv yv u) (fun _ s' => ∃ H', Inv X pins σ H' s' /\ Q H') X.xe s := by
            intro H1 I1 ⟨ws, ha, rk⟩ hup rl1
            have nd := dK_nodup I1 ha
            have nd2 : (kvs.map (·.1)).Nodup := by
              rw [rk.keysEq]
              have := ky_nodup nd
              rwa [List.map_map] at this
            obtain ⟨G, rp, hs⟩ := dput_ok (k := k) rl1 nd2 rk
            obtain rfl := List.sublist_nil.mp hs
            have hlen : kvs.length = ws.length := by
              have := congrArg List.length rk.keysEq
              simpa using this
            refine set_dict hu pins s σ H1 _ _ _ xv yv u Q I1 rx ry rv ⟨a, _, rfl, DPut.k ha (by rw [<- hlen]; exact hz.2), ?_⟩
            rw [hup]
            refine h (ρ ++ N) _ (stp.wr (st' := st) hm) (sr'.wr hl' rfl ⟨a, [], rfl, rfl, .inl ⟨_, upd_same, ?_⟩⟩) ⟨N, a, _, rfl, hm, rfl⟩
            have := RpK.stay (ρ' := ρ ++ N) (H' := upd H1 a (.dK (putK ws k v))) (fun _ _ e => e) (upd_keep ha rfl) (by simp) rp
            rwa [hup] at this
          obtain ⟨b, G, z, f, hh⟩ := hcell
          cases z
          obtain rfl : G = [] := by injection f with _ f; exact f.symm
          rcases dK_of hh hz.1 with ⟨ws, ha, rk⟩ | ⟨ha, rfl, _⟩
          · exact fin H I ⟨ws, ha, rk.wide⟩ (fun _ => rfl) rl
          · exact fin _ (retag I ha) ⟨[], upd_same, ⟨rfl, rfl⟩⟩ (fun _ => upd_upd) (rl.updF ha rfl (by simp))
        · exact nomatch e0
      · exact nomatch e0
    · exact nomatch e0
  · exact nomatch e0
theorem sg_sub (hu : X.A.units + 1 < cLine) (ho : PE X o (iE T Z W A)) (hi : PE X i (iE T Z W B)) (ha : ∀ v, assign (.Subscript o i pos) X.env v = (do
      let ov <- holding [v] (eval o X.env)
      let iv <- holding [v, ov] (eval i X.env)
      standAt pos
      holding [v, ov, iv] (setItem ov iv v)
      release [v, ov, iv] [])) : PG X (.Subscript o i pos) (iG T Z (.sub A B)) :=
  ⟨fun pins s σ H v u Q I r q => by
    refine (pg_sub ho hi (set_ok (Z := Z) hu) ha).run pins s σ H v u Q I r ?_
    obtain ⟨ρ, env, st, d, F, hd, er, rd, h⟩ := q
    simp only [asgT] at h
    obtain ⟨d1, st1, e1, h⟩ := postA_seq h
    obtain ⟨d2, st2, e2, h⟩ := postA_seq h
    refine ⟨ρ, env, st, er, hd.sr, post_ok e1 ?_⟩
    intro ρ1 H1 x G1 t1 sr1 r1
    refine ⟨ρ1, env, st1, t1.env hd.sr er, sr1, post_ok e2 ?_⟩
    intro ρ2 H2 y G2 t2 sr2 r2
    have n1 : Now Z ρ H ρ1 st1 H1 G1 := ⟨t1, sr1, fun a ha => r1.there a ha, t1.out hd.sr, t1.nodup⟩
    have n2 : Now Z ρ H ρ2 st2 H2 (G1 ++ G2) := n1.more hd.sr t2 sr2 r2.there
    have r1' := t2.val sr1 n1.out r1
    have rd1 : Rp Z ρ1 H1 d v F := t1.val hd.sr hd.out rd
    have off1 : ∀ a ∈ F, a ∉ ρ1 := fun a ha z => by
      obtain ⟨N, e, _, f, _⟩ := t1
      rw [e] at z
      rcases List.mem_append.mp z with z | z
      · exact hd.out a ha z
      · exact hd.th a ha (f a (List.mem_append_left _ z))
    have rd2 : Rp Z ρ2 H2 d v F := t2.val sr1 off1 rd1
    have off2 : ∀ a ∈ F, a ∉ ρ2 := fun a ha z => by
      obtain ⟨N, e, _, f, _⟩ := n2.stp
      rw [e] at z
      rcases List.mem_append.mp z with z | z
      · exact hd.out a ha z
      · exact hd.th a ha (f a (List.mem_append_left _ z))
    obtain ⟨st', e3, h⟩ : ∃ st', setI d1 d2 d st2 = .ok () st' /\ PostA Z (.ok env st') ρ H F (tgN (.sub A B)) σ Q := by
      unfold bnd at h
      cases e : setI d1 d2 d st2 with
      | ok u s' => rw [e] at h; exact ⟨s', rfl, h⟩
      | exc x s' => rw [e] at h; exact h.elim
      | bad => rw [e] at h; exact h.elim
    refine ⟨ρ2, st2, d1, d2, d, F, G1, G2, ⟨sr2, hd.nd, off2, rd2.there⟩, r1', r2, rd2, st', e3, fun ρ' H' t3 sr3 w => ?_⟩
    have er2 := n2.stp.env hd.sr er
    obtain ⟨N, a, o', rfl, ha, rfl⟩ := w
    refine h _ _ σ ?_ sr3 ?_ Sm.id
    · obtain ⟨M, eM, nd, f, k⟩ := n2.stp
      obtain ⟨N', e', nN, fN, kN⟩ := t3
      obtain rfl : N = N' := List.append_cancel_left e'
      subst eM
      refine ⟨M ++ N, by simp [List.append_assoc], ?_, ?_, fun b o q z y => ?_⟩
      · refine List.nodup_append.mpr ⟨(List.nodup_append.mp nd).1, nN, fun b hb c hc e => ?_⟩
        subst e
        rcases fN b hc with z | z
        · exact hd.th b z (f b (List.mem_append_left _ hb))
        · exact sr2.has (List.mem_append_right _ hb) z
      · intro b hb
        rcases List.mem_append.mp hb with hb | hb
        · exact .inr (f b (List.mem_append_left _ hb))
        · rcases fN b hb with z | z
          · exact .inl z
          · by_cases hr : b ∈ ρ
            · exact absurd z (sr2.has (List.mem_append_left _ hr))
            · cases e : H b with
              | none => exact .inr rfl
              | some o => have := k b o e hr; rw [z] at this; cases this
      · refine kN b o (k b o q z) (fun w => ?_) y
        rcases List.mem_append.mp w with w | w
        · exact z w
        · rw [f b (List.mem_append_left _ w)] at q; cases q
    · refine ⟨er2.1, fun j dj hj => ?_⟩
      obtain ⟨vj, hv, rj⟩ := er2.2 j dj hj
      obtain ⟨oa, hoa, hka⟩ := sr2.hcell ha
      exact ⟨vj, hv, (rj.updF hoa hka (by simp)).wide⟩⟩
end
end Fs
namespace Fs
open PySem
theorem lex_trans : ∀ {a b c : List Int}, lexL a b = true -> lexL b c = true -> lexL a c = true
  | _, [], [], h, h2 => by simp [lexL] at h2
  | [], _ :: _, _ :: _, _, _ => by simp [lexL]
  | x :: a, [], _ :: _, h, _ => by simp [lexL] at h
  | [], [], _ :: _, h, _ => by simp [lexL] at h
  | _, _ :: _, [], _, h2 => by simp [lexL] at h2
  | x :: a, y :: b, z :: c, h, h2 => by
    simp only [lexL] at h h2 ⊢
    by_cases h3 : x = y
    · subst h3
      rw [if_pos rfl] at h
      by_cases h4 : x = z
      · subst h4
        rw [if_pos rfl] at h2 ⊢
        exact lex_trans h h2
      · rw [if_neg h4] at h2 ⊢
        exact h2
    · rw [if_neg h3] at h
      have h := of_decide_eq_true h
      by_cases h4 : y = z
      · subst h4
        rw [if_neg h3]
        exact decide_eq_true h
      · rw [if_neg h4] at h2
        have h2 := of_decide_eq_true h2
        rw [if_neg (by omega)]
        exact decide_eq_true (by omega)
theorem lex_tri : ∀ {a b : List Int}, lexL a b = false -> lexL b a = false -> a = b
  | [], [], _, _ => rfl
  | [], _ :: _, h, _ => by simp [lexL] at h
  | _ :: _, [], _, h => by simp [lexL] at h
  | x :: a, y :: b, h, h2 => by
    simp only [lexL] at h h2
    by_cases h3 : x = y
    · subst h3
      rw [if_pos rfl] at h h2
      rw [lex_tri h h2]
    · rw [if_neg h3] at h
      rw [if_neg (fun q => h3 q.symm)] at h2
      have h := of_decide_eq_false h
      have h2 := of_decide_eq_false h2
      omega
theorem lex_irr : ∀ {a : List Int}, lexL a a = false
  | [] => rfl
  | x :: a => by simp only [lexL, if_true]; exact lex_irr
theorem lex_asym {a b : List Int} (h : lexL a b = true) : lexL b a = false := by
  cases h2 : lexL b a with
  | false => rfl
  | true => have := lex_trans h h2; rw [lex_irr] at this; cases this
abbrev lexLe (a b : List Int) : Prop := lexL b a = false
theorem lexLe_trans {a b c : List Int} (h : lexLe a b) (h2 : lexLe b c) : lexLe a c := by
  unfold lexLe at *
  cases h3 : lexL c a with
  | false => rfl
  | true =>
    cases h4 : lexL a b with
    | true => have := lex_trans h3 h4; rw [h2] at this; cases this
    | false =>
      have := lex_tri h4 h
      subst this
      rw [h2] at h3; cases h3
theorem insL_perm (i : List Int) : ∀ r : List (List Int), (insL i r).Perm (i :: r)
  | [] => .refl _
  | j :: r => by
    simp only [insL]
    split
    · exact .refl _
    · exact (List.Perm.cons _ (insL_perm i r)).trans (List.Perm.swap ..)
theorem sortL_perm : ∀ r : List (List Int), (sortL r).Perm r
  | [] => .refl _
  | i :: r => by
    simp only [sortL]
    exact (insL_perm i _).trans (List.Perm.cons _ (sortL_perm r))
theorem insL_sorted (i : List Int) : ∀ {r : List (List Int)}, r.Pairwise lexLe -> (insL i r).Pairwise lexLe
  | [], _ => by simp [insL]
  | j :: r, h => by
    simp only [insL]
    have h2 := List.pairwise_cons.1 h
    split
    · rename_i hj
      refine List.pairwise_cons.2 ⟨?_, h⟩
      intro a ha
      rcases List.mem_cons.1 ha with rfl | ha
      · exact lex_asym hj
      · exact lexLe_trans (lex_asym hj) (h2.1 a ha)
    · rename_i hj
      refine List.pairwise_cons.2 ⟨?_, insL_sorted i h2.2⟩
      intro a ha
      rcases List.mem_cons.1 ((insL_perm i r).mem_iff.1 ha) with rfl | ha
      · have : lexL a j = false := by simpa using hj
        exact this
      · exact h2.1 a ha
theorem sortL_sorted : ∀ r : List (List Int), (sortL r).Pairwise lexLe
  | [] => .nil
  | i :: r => by simp only [sortL]; exact insL_sorted i (sortL_sorted r)
end Fs
namespace Fs
open PySem PySem.Spec PyProof.Rows Srt
section
variable {prog : Program} {w : World} {A : Around} {s : Shared}
theorem swo_lexL (k : Value -> List Int) : SrtO.Swo fun v u => lexL (k v) (k u) :=
  ⟨fun x y h => lex_asym h, fun x y z h1 h2 => lexLe_trans h1 h2⟩
def lexF (fin : Bool) : List Int -> List Int -> Bool
  | x :: xs, y :: ys => if x = y then lexF fin xs ys else decide (x < y)
  | _, _ => fin
theorem lexF_eq : ∀ {a b : List Int} {fin : Bool}, (fin = decide (a.length < b.length)) -> lexF fin a b = lexL a b
  | [], [], fin, h => by simp [lexF, lexL, h]
  | [], _ :: _, fin, h => by simp [lexF, lexL, h]
  | _ :: _, [], fin, h => by simp [lexF, lexL, h]
  | x :: a, y :: b, fin, h => by
    have ih := lexF_eq (a := a) (b := b) (fin := fin) (by rw [h]; simp)
    simp only [lexF, lexL, ih]
theorem kat_ints {b fin : Bool} : ∀ {ms ns : List Int} {us vs : List Value}, IntsAre us ms -> IntsAre vs ns -> ∀ i : Nat, PySem.W.KatLex prog w A b fin (fun r s' => s' = s /\ r = lexF fin ms ns) (us.zip vs) i s
  | [], _, _, _, .nil, _, i => PySem.W.kat_nil ⟨rfl, by simp [lexF]⟩
  | _ :: _, [], _, _, .cons .., .nil, i => PySem.W.kat_nil ⟨rfl, by simp [lexF]⟩
  | x :: ms, y :: ns, _, _, .cons _ t hu, .cons _ t' hv, i => by
    refine PySem.W.kat_cons (SeqAt.EqAt.int_int x t y t' prog w _ _ ?_)
    refine PySem.W.kat_go (fun e1 => ?_) (fun e1 => ?_)
    · have ex : x = y := by simpa using e1
      have e3 : lexF fin (x :: ms) (y :: ns) = lexF fin ms ns := by simp only [lexF, if_pos ex]
      rw [e3]
      exact PySem.W.kat_yes (kat_ints hu hv (i + 1))
    · have ex : ¬ x = y := by simpa using e1
      have e3 : lexF fin (x :: ms) (y :: ns) = decide (x < y) := by simp only [lexF, if_neg ex]
      rw [e3]
      exact PySem.W.kat_no (TS.oneLt_ints _ ⟨rfl, rfl⟩)
theorem tups_cmp {vs : List Value} {k : Value -> List Int} (hp : ∀ v ∈ vs, TS.TupInts s.heap v (k v)) : SrtO.Cmp prog w A s (tuples' true) (fun p => p.1 ∈ vs) (SrtO.lt2 fun v u => lexL (k v) (k u)) := by
  intro p q hm hm'
  obtain ⟨a, xs, e, ⟨o, ho, hc, n, hd⟩, i⟩ := hp _ hm
  obtain ⟨a', xs', e', ⟨o', ho', hc', n', hd'⟩, i'⟩ := hp _ hm'
  show wpAny (model prog w) A (keyLt' (tuples' true) p.1 q.1) (fun r s' => s' = s /\ r = lexL (k p.1) (k q.1)) (fun _ _ => False) s
  generalize k p.1 = m at i ⊢
  generalize k q.1 = m' at i' ⊢
  rw [e, e']
  refine PySem.W.kat_lt ho hd ho' hd' ?_
  have hl : m.length = xs.size := by have := i.length; simpa using this.symm
  have hl' : m'.length = xs'.size := by have := i'.length; simpa using this.symm
  have := kat_ints (prog := prog) (w := w) (A := A) (s := s) (b := true) (fin := decide (xs.size < xs'.size)) i i' 0
  rw [lexF_eq (by rw [hl, hl'])] at this
  exact this
theorem firsts_any {h : Heap} {k : Value -> List Int} : ∀ {vs : List Value}, (∀ v ∈ vs, TS.TupInts h v (k v) /\ k v ≠ []) -> ∃ fs : List Value, PySem.W.KatTups h vs fs /\ fs.length = vs.length /\ ∀ f ∈ fs, ∃ x t, f = Value.int x t
  | [], _ => ⟨[], PySem.W.KatTups.nil, rfl, fun f hf => by simp at hf⟩
  | v :: vs, hp => by
    obtain ⟨fs, h1, h2, h3⟩ := firsts_any (vs := vs) fun v' hm => hp v' (List.mem_cons_of_mem _ hm)
    obtain ⟨⟨a, xs, e, ⟨o, ho, hc, n, hd⟩, i⟩, hne⟩ := hp v List.mem_cons_self
    generalize k v = m at i hne
    cases m with
    | nil => exact absurd rfl hne
    | cons x m =>
      have hx0 : ∃ t, xs[0]? = some (.int x t) := by
        obtain ⟨t, ht⟩ := IntsAre.int_at i 0 (xs.toList.getD 0 .none) (by
          have hl := i.length
          simp only [List.length_cons] at hl
          rw [List.getD_eq_getElem?_getD, List.getElem?_eq_getElem (by omega)]; rfl)
        have hl := i.length
        simp only [List.length_cons, Array.length_toList] at hl
        refine ⟨t, ?_⟩
        rw [<- Array.getElem?_toList]
        rw [List.getD_eq_getElem?_getD, List.getElem?_eq_getElem (by rw [Array.length_toList]; omega)] at ht
        rw [List.getElem?_eq_getElem (by rw [Array.length_toList]; omega)]
        simpa using ht
      obtain ⟨t, ht⟩ := hx0
      rw [e]
      refine ⟨.int x t :: fs, PySem.W.KatTups.cons ho hc hd ht h1, by rw [List.length_cons, List.length_cons, h2], ?_⟩
      intro f hf
      rcases List.mem_cons.1 hf with rfl | hf
      · exact ⟨x, t, rfl⟩
      · exact h3 f hf
theorem tups_sortableO {a : Addr} {vs : List Value} {k : Value -> List Int} (h0 : 0 < vs.length) (hp : ∀ v ∈ vs, TS.TupInts s.heap v (k v) /\ k v ≠ []) (ha : ∀ o, s.heap.get? a = some o -> o.cls ≠ .type "tuple") : SrtO.SortableO prog w A s a vs fun v u => lexL (k v) (k u) := by
  intro h' keep
  have hp' : ∀ v ∈ vs, TS.TupInts h' v (k v) /\ k v ≠ [] := fun v hm => ⟨(hp v hm).1.keeps fun b o e c => keep b o (fun z => by subst z; exact ha o e c) e, (hp v hm).2⟩
  obtain ⟨fs, h1, h2, h3⟩ := firsts_any hp'
  refine ⟨tuples' true, fun Q E hq => ?_, tups_cmp (s := { s with heap := h' }) fun v hm => (hp' v hm).1⟩
  refine PySem.W.kat_kind (T := .type "int") h1 (by omega) (fun f hm => ?_) (by rfl) ?_
  · obtain ⟨x, t, rfl⟩ := h3 f hm
    exact PySem.W.Looks.now
  · have e : (Value.type "int" != Value.type "tuple") = true := by first | decide +kernel | rfl | decide
    rw [e]
    exact hq
end
end Fs
namespace Fs
open PySem PySem.Spec PyProof.Rows L2
section
variable {P : Program} {w : World} {A : Around} {E : Value -> Shared -> Prop} {s : Shared}
set_option maxHeartbeats 3200000 in
end
end Fs
namespace Fs
open PySem PySem.Spec PyProof.Rows Srt
theorem lexLt_eq : ∀ a b : List Int, HT.lexLt a b = lexL a b
  | [], [] => by rw [HT.lexLt_nil_nil]; rfl
  | [], _ :: _ => by rw [HT.lexLt_nil_cons]; rfl
  | _ :: _, [] => by rw [HT.lexLt_cons_nil]; rfl
  | x :: a, y :: b => by
    rw [HT.lexLt_cons]
    simp only [lexL]
    rw [lexLt_eq a b]
section
variable {prog : Program} {w : World} {A : Around} {E : Value -> Shared -> Prop} {s : Shared}
theorem oneLt_tups (c : Bool) {l b : Addr} {items items2 : Array Value} {ns ms : List Int} {Q : Bool -> Shared -> Prop} (hl : IsTup s.heap l items) (hb : IsTup s.heap b items2) (hi : IntsAre items.toList ns) (hj : IntsAre items2.toList ms)
    (hu : A.units < cLine) (h : Q (HT.lexLt ns ms) s) : wpAny (model prog w) A (oneLt' c (.ref l) (.ref b)) Q E s := by
  cases c with
  | false => exact PySem.W.kat_one _ _ (HT.lt_tupInts (Q := PySem.W.BoolBack Q) hl hb hi hj hu h)
  | true =>
    obtain ⟨⟨cls, dd, data, sl⟩, ho, hc, n, hd⟩ := id hl
    obtain ⟨⟨cls2, dd2, data2, sl2⟩, ho2, hc2, n2, hd2⟩ := id hb
    simp only at hc hd hc2 hd2
    subst hc hd hc2 hd2
    rw [oneLt'_eq]
    simp only [if_true]
    refine wpAny_bind (wpAny_cRoomFor hu ?_)
    refine wpAny_bind (wpAny_callSpecialIfBound?_slot ⟨_, ho, rfl⟩ PySem.F.slot_tuple_lt (call_meets PySem.F.slot_tuple_lt ⟨_, ho, rfl⟩ PySem.F.entry_tuple_lt (PySem.F.args_tuple_lt_2 _ _) (HT.tuple_lt_ints l b items items2 n n2 dd dd2 sl sl2 ns ms hi hj) ⟨ho, ho2, ?_⟩))
    exact wpAny_truthy_bool h
theorem firsts_os {M : Model} {k : Value -> List Int} : ∀ (vs : List Value) {Q : List (Option Value) -> Shared -> Prop}, (∀ v ∈ vs, TS.TupInts s.heap v (k v)) -> (∀ os : List (Option Value), os.map (·.isSome) = vs.map (fun v => !(k v).isEmpty) -> Q os s) -> wpAny M A (vs.mapM firstOfTuple') Q E s
  | [], Q, _, h => by rw [List.mapM_nil]; exact wpAny_pure (h [] rfl)
  | v :: vs, Q, hp, h => by
    obtain ⟨a, xs, e, ⟨o, ho, hc, n, hd⟩, i⟩ := hp v List.mem_cons_self
    rw [List.mapM_cons]
    refine wpAny_bind ?_
    rw [PySem.W.kas_first_eq, e]
    refine wpAny_bind (PySem.W.Looks.here (show PySem.W.Looks M s.heap (typeOf (.ref a)) o.cls from (PySem.W.Looks.ld ho).andThen .now) ?_)
    rw [hc, if_neg (by first | decide | simp)]
    refine wpAny_bind (listItems_at ho hd (wpAny_pure ?_))
    refine wpAny_bind (firsts_os vs (Q := fun bs s' => wpAny M A (pure (xs[0]? :: bs)) Q E s') (fun v' hm => hp v' (List.mem_cons_of_mem _ hm)) fun os hos => wpAny_pure (h _ ?_))
    rw [List.map_cons, List.map_cons, hos]
    congr 1
    have hl := i.length
    generalize k v = m at hl ⊢
    simp only [Array.length_toList] at hl
    cases m with
    | nil =>
      have : xs[0]? = none := by
        have hz : xs.size = 0 := hl
        rw [Array.getElem?_eq_none_iff]; omega
      rw [this]; rfl
    | cons z m =>
      have h0 : 0 < xs.size := by
        have hz : xs.size = m.length + 1 := hl
        omega
      rw [Array.getElem?_eq_getElem h0]; rfl
def kindE (k : Value -> List Int) (vs : List Value) : SortKind := match (k (vs.headD .none)).isEmpty with
  | true => oneType'
  | false => general'
theorem tups_kindE {M : Model} {k : Value -> List Int} {vs : List Value} {Q : SortKind -> Shared -> Prop} (h2 : 2 <= vs.length) (hp : ∀ v ∈ vs, TS.TupInts s.heap v (k v)) (he : (vs.all fun v => !(k v).isEmpty) = false) (h : Q (kindE k vs) s) : wpAny M A (keyKind' vs.toArray) Q E s := by
  rw [PyProof.Rows.keyKind'_eq, List.mapM_toArray, map_eq_pure_bind]
  refine wpAny_bind (wpAny_bind (firsts_os vs hp fun os hos => wpAny_pure ?_))
  have hall : (os.toArray.all fun x => x.isSome) = false := by
    rw [List.all_toArray]
    have e1 : (os.all fun x => x.isSome) = ((os.map (·.isSome)).all id) := by rw [List.all_map]; rfl
    rw [e1, hos, List.all_map]
    exact he
  rw [if_neg (by rw [hall]; simp)]
  cases vs with
  | nil => simp at h2
  | cons v vs =>
    cases os with
    | nil => simp at hos
    | cons o os =>
      simp only [List.map_cons, List.cons.injEq] at hos
      have h0 : ((o :: os).toArray[0]?.bind id) = o := by simp
      rw [h0]
      cases hk : (k v).isEmpty with
      | false =>
        rw [hk] at hos
        have h : Q general' s := by
          have e : kindE k (v :: vs) = general' := by simp only [kindE, List.headD_cons, hk]
          rwa [e] at h
        rw [if_pos (show o.isSome = true from hos.1)]
        exact wpAny_pure h
      | true =>
        rw [hk] at hos
        have h : Q oneType' s := by
          have e : kindE k (v :: vs) = oneType' := by simp only [kindE, List.headD_cons, hk]
          rwa [e] at h
        rw [if_neg (by rw [hos.1]; simp)]
        rw [oneTypeOnly'_eq, List.mapM_toArray, map_eq_pure_bind]
        refine wpAny_bind (wpAny_bind (wpAny_bind (PySem.W.kas_mapM (r := Value.type "tuple") _ (fun u hu Q' hq => ?_) (wpAny_pure ?_))))
        · obtain ⟨a, xs, e, ⟨o', ho', hc', n, hd⟩, i⟩ := hp u hu
          rw [e]
          refine PySem.W.Looks.here (show PySem.W.Looks M s.heap (typeOf (.ref a)) o'.cls from (PySem.W.Looks.ld ho').andThen .now) ?_
          rw [hc']; exact hq
        · have hT2 : (Value.type "tuple" == Value.type "tuple") = true := by first | decide +kernel | rfl | decide
          have hall2 : ((List.map (fun _ => Value.type "tuple") (v :: vs)).toArray.all fun x => x == Value.type "tuple") = true := by
            simp only [List.all_toArray, List.all_map, List.all_eq_true]
            intro _ _
            exact hT2
          have h02 : (List.map (fun _ => Value.type "tuple") (v :: vs)).toArray[0]? = some (Value.type "tuple") := by simp
          rw [h02]
          simp only [hall2, if_true]
          exact wpAny_pure (wpAny_pure h)
theorem tups_cmpE {vs : List Value} {k : Value -> List Int} {κ : SortKind} (hκ : κ = oneType' ∨ κ = general') (hu : A.units < cLine) (hp : ∀ v ∈ vs, TS.TupInts s.heap v (k v)) : SrtO.Cmp prog w A s κ (fun p => p.1 ∈ vs) (SrtO.lt2 fun v u => lexL (k v) (k u)) := by
  intro p q hm hm'
  obtain ⟨a, xs, e, ht, i⟩ := hp _ hm
  obtain ⟨a', xs', e', ht', i'⟩ := hp _ hm'
  show wpAny (model prog w) A (keyLt' κ p.1 q.1) (fun r s' => s' = s /\ r = lexL (k p.1) (k q.1)) (fun _ _ => False) s
  generalize k p.1 = m at i ⊢
  generalize k q.1 = m' at i' ⊢
  rw [e, e']
  rcases hκ with rfl | rfl
  · rw [keyLt'_oneType]
    exact oneLt_tups true ht ht' i i' hu ⟨rfl, lexLt_eq _ _⟩
  · rw [show keyLt' general' (.ref a) (.ref a') = oneLt' false (.ref a) (.ref a') from rfl]
    exact oneLt_tups false ht ht' i i' hu ⟨rfl, lexLt_eq _ _⟩
theorem tups_sortableE {a : Addr} {vs : List Value} {k : Value -> List Int} (h2 : 2 <= vs.length) (hu : A.units < cLine) (hp : ∀ v ∈ vs, TS.TupInts s.heap v (k v)) (ha : ∀ o, s.heap.get? a = some o -> o.cls ≠ .type "tuple") : SrtO.SortableO prog w A s a vs fun v u => lexL (k v) (k u) := by
  by_cases hall : (vs.all fun v => !(k v).isEmpty) = true
  · exact tups_sortableO (by omega) (fun v hm => ⟨hp v hm, fun z => by
      have := List.all_eq_true.1 hall v hm
      rw [z] at this; cases this⟩) ha
  intro h' keep
  have hp' : ∀ v ∈ vs, TS.TupInts h' v (k v) := fun v hm => (hp v hm).keeps fun b o e c => keep b o (fun z => by subst z; exact ha o e c) e
  refine ⟨kindE k vs, fun Q E hq => ?_, tups_cmpE (s := { s with heap := h' }) ?_ hu fun v hm => hp' v hm⟩
  · exact tups_kindE (s := { s with heap := h' }) h2 hp' (by simpa using hall) hq
  · cases hk : (k (vs.headD .none)).isEmpty with
    | true => exact .inl (by simp only [kindE, hk])
    | false => exact .inr (by simp only [kindE, hk])
end
end Fs
namespace SrtU
open PySem PyProof.Rows Srt SrtO
section
variable {prog : Program} {w : World} {A : Around} {E : Value -> Shared -> Prop} {s : Shared}
theorem collect_tup {l : Addr} {vs : List Value} {Q : List Value -> Shared -> Prop} (hl : IsTup s.heap l vs.toArray)
    (h : Q vs { s with heap := (s.heap.push (seqObj "list" #[] 0)).update s.heap.objs.size (Obj.mapSeq (· ++ vs.toArray)) }) (hsz : vs.length <= sizeLine) :
    wpAny (model prog w) A (collect (.ref l)) Q E s := by
  obtain ⟨o, ho, hc, n, hd⟩ := id hl
  unfold collect
  refine wpAny_bind (wpAny_runValue (codeAny_builtin entry_proto_collect' ?_))
  show wpAny _ _ (do again (.builtin "list.__iadd__" ⟨[<- newList [], .ref l], []⟩)) _ _ s
  refine wpAny_bind (wpAny_newList (wpAny_pure ⟨Code.quiet_builtin _ (by decide +kernel), codeAny_builtin entry_list_iadd' ?_⟩))
  show wpAny _ _ (Builtin.List.listExtendWith (.ref s.heap.objs.size) (.ref l) (.ref s.heap.objs.size)) _ _ { s with heap := s.heap.push (seqObj "list" #[] 0) }
  unfold Builtin.List.listExtendWith
  have ho' : (s.heap.push (seqObj "list" #[] 0)).get? l = some o := Heap.get?_push_of_some _ ho
  refine wpAny_bind (wpAny_typeOf (T := "tuple") ⟨o, ho', hc⟩ ?_)
  have ht : (Value.type "tuple" == Value.type "tuple") = true := by rfl
  rw [if_pos (by rw [ht]; simp)]
  refine wpAny_bind (listItems_at ho' hd ?_)
  refine wpAny_bind (listItems_at (xs := #[]) (n := 0) (Heap.get?_push_size _ rfl) rfl ?_)
  rw [if_neg (by simp)]
  refine wpAny_bind (listUpdate_at (xs := #[]) (n := 0) (Heap.get?_push_size _ rfl) rfl ?_ (Nat.zero_le _) (by show (#[] ++ vs.toArray).size <= sizeLine + 1; simp only [Array.size_append, List.size_toArray, List.length_nil]; omega))
  refine wpAny_pure ?_
  show wpAny (model prog w) A (do
      let o <- load s.heap.objs.size
      match o.data with
      | .seq xs _ => pure xs.toList
      | _ => unsupported "internal:collect") Q E { s with heap := (s.heap.push (seqObj "list" #[] 0)).update s.heap.objs.size (Obj.mapSeq (· ++ vs.toArray)) }
  refine wpAny_bind (wpAny_load (get?_update_seq (Heap.get?_push_size _ rfl) _) ?_)
  show wpAny _ _ (pure ((#[] : Array Value) ++ vs.toArray).toList) Q E _
  rw [show ((#[] : Array Value) ++ vs.toArray).toList = vs by simp]
  exact wpAny_pure h
theorem sorted_ordT {l : Addr} {vs : List Value} {ltv : Value -> Value -> Bool} {Q : Value -> Shared -> Prop} (O : Swo ltv) (hl : IsTup s.heap l vs.toArray) (hz : vs.length <= sizeLine)
    (hS : 2 <= vs.length -> ∀ (h₁ : Heap) (a : Addr), h₁.get? a = some (seqObj "list" vs.toArray 0) -> (∀ b o, s.heap.get? b = some o -> b ≠ a /\ h₁.get? b = some o) -> SortableO prog w A.in1.in1 { s with heap := h₁ } a vs ltv)
    (h : ∀ out : List Value, Srtd ltv out -> Stb ltv out vs -> Q (.ref (s.heap.objs.size + 1)) { s with heap := sortedAll s.heap vs out.toArray }) :
    wpAny (model prog w) A (call (.builtin "sorted") [.ref l]) Q E s := by
  refine Calls.call_function_entry kind_sorted plain_sorted entry_sorted (args_sorted1 _) ?_
  unfold Builtin.«sorted»
  refine wpAny_bind (m := checkCount "sorted" 1 1 _) (wpAny_pure ?_)
  refine wpAny_bind (collect_tup hl ?_ hz)
  refine wpAny_bind (wpAny_newList ?_ hz)
  have hsz : ((s.heap.push (seqObj "list" #[] 0)).update s.heap.objs.size (Obj.mapSeq (· ++ vs.toArray))).objs.size = s.heap.objs.size + 1 := by
    rw [Heap.size_update, size_push']
  have hoL : (((s.heap.push (seqObj "list" #[] 0)).update s.heap.objs.size (Obj.mapSeq (· ++ vs.toArray))).push (seqObj "list" vs.toArray 0)).get? (s.heap.objs.size + 1) = some (seqObj "list" vs.toArray 0) := by
    rw [<- hsz]; exact Heap.get?_push_size _ rfl
  have keep : ∀ b o, s.heap.get? b = some o -> b ≠ s.heap.objs.size + 1 /\ (((s.heap.push (seqObj "list" #[] 0)).update s.heap.objs.size (Obj.mapSeq (· ++ vs.toArray))).push (seqObj "list" vs.toArray 0)).get? b = some o := fun b o q => by
    have hlt : b < s.heap.objs.size := Heap.lt_size q
    refine ⟨Nat.ne_of_lt (Nat.lt_succ_of_lt hlt), Heap.get?_push_of_some _ ?_⟩
    rw [Heap.get?_update_ne _ _ _ _ (Nat.ne_of_lt hlt)]
    exact Heap.get?_push_of_some _ q
  show wpAny _ _ _ _ _ { s with heap := ((s.heap.push (seqObj "list" #[] 0)).update s.heap.objs.size (Obj.mapSeq (· ++ vs.toArray))).push (seqObj "list" vs.toArray 0) }
  rw [hsz]
  refine wpAny_bind (wpAny_holding (wpAny_call_entry slot_list_sort ⟨_, hoL, rfl⟩ entry_list_sort (list_sort_ord O hoL hz (fun h2 => hS h2 _ _ hoL keep) fun out hs hb => ⟨_, rfl, ?_⟩) (args_list_sort _)))
  exact wpAny_pure ⟨_, rfl, h out hs hb⟩
end
end SrtU
namespace Fs
open PySem L2 PyProof.Rows PySem.Spec
section
variable {X : Cx}
theorem cr_sortedIT : CallR X (.builtin "sorted") (fun vs H Q => ∃ (a : Addr) (ns : List Int), vs = [V.ref a] /\ SqT X.K H a (ns.map V.int) /\
    ∀ (ns' : List Int) (p : Addr), ns'.Perm ns -> ns'.Pairwise (· <= ·) -> H p = none -> Q (.ref p) (upd H p (.lst (ns'.map V.int)))) := by
  intro pins s σ H vs us Q I r h
  obtain ⟨a, ns, rfl, hs, q⟩ := h
  obtain ⟨its, rv, hl, hz⟩ := I.tuple hs
  rw [Vals.ref1 r]
  have hi := rv.ints
  refine SrtU.sorted_ordT SrtO.swo_int hl (by rw [<- rv.length]; exact hz) (fun h2 h₁ a' _ _ => SrtO.ints_sortable hi h2) fun out h1 h2 => ?_
  obtain ⟨k1, k2, k3⟩ := SrtO.ints_out hi h1 h2
  obtain ⟨ep, he'⟩ := PyProof.Rows.sortedAll_at s.heap its out.toArray
  have hlen : ((out.map SrtO.iv).map V.int).length <= sizeLine := by
    rw [List.length_map, k2.length_eq]
    rw [List.length_map] at hz
    exact hz
  exact ⟨.ref _, upd H (s.heap.objs.size + 1) (.lst ((out.map SrtO.iv).map V.int)), I.laid (t' := s.toks) (fun _ _ => PyProof.Rows.sortedAll_old) (Nat.le_succ _) ⟨hlen, out, ep, vals_of_ints k1, he'⟩, rfl, q _ _ k2 k3 (I.hok.fresh (Nat.le_succ _))⟩
end
end Fs
namespace Fs
open PySem L2 PyProof.Rows PySem.Spec
def rL (Z : Wc) (W : WX) (σ : L2.St) (f : List D -> M D) : List V -> Hp -> VK -> Prop := fun vs H2 Q => ∃ ρ st H ρ2 st2 ds F, SR Z ρ st H /\ Now Z ρ H ρ2 st2 H2 F /\ Rps Z ρ2 H2 ds vs F /\ Post (Rp Z) Z W (f ds st2) ρ σ H Q
section
variable {Z : Wc} {ρ : List Addr} {H : Hp} {st : Sto}
theorem ints_ok : ∀ {ds : List D} {vs : List V} {F : List Addr} {ns : List Int}, Rps Z ρ H ds vs F -> optL intv ds = some ns -> vs = ns.map V.int /\ ds = ns.map D.int
  | [], vs, F, ns, r, e => by obtain ⟨rfl, _⟩ := r; cases e; exact ⟨rfl, rfl⟩
  | d :: ds, vs, F, ns, r, e => by
    obtain ⟨v, ws, F1, F2, rfl, r1, r2, _⟩ := r
    simp only [optL] at e
    cases d with
    | int i =>
      simp only [intv] at e
      cases e2 : optL intv ds with
      | none => rw [e2] at e; cases e
      | some ms =>
        rw [e2] at e
        cases e
        obtain ⟨rfl, rfl⟩ := ints_ok r2 e2
        obtain ⟨rfl, _⟩ := r1
        exact ⟨rfl, rfl⟩
    | _ => simp [intv] at e
theorem bls_ok : ∀ {ds : List D} {vs : List V} {F : List Addr} {ns : List Bool}, Rps Z ρ H ds vs F -> optL blv ds = some ns -> vs = ns.map V.bl
  | [], vs, F, ns, r, e => by obtain ⟨rfl, _⟩ := r; cases e; rfl
  | d :: ds, vs, F, ns, r, e => by
    obtain ⟨v, ws, F1, F2, rfl, r1, r2, _⟩ := r
    simp only [optL] at e
    cases d with
    | bl i =>
      simp only [blv] at e
      cases e2 : optL blv ds with
      | none => rw [e2] at e; cases e
      | some ms =>
        rw [e2] at e
        cases e
        obtain rfl := bls_ok r2 e2
        obtain ⟨rfl, _⟩ := r1
        rfl
    | _ => simp [blv] at e
theorem Rps.ofInts : ∀ ns : List Int, Rps Z ρ H (ns.map D.int) (ns.map V.int) []
  | [] => ⟨rfl, rfl⟩
  | n :: ns => ⟨.int n, ns.map V.int, [], [], rfl, ⟨rfl, rfl⟩, Rps.ofInts ns, rfl⟩
theorem insI_perm (i : Int) : ∀ r : List Int, (insI i r).Perm (i :: r)
  | [] => .refl _
  | j :: r => by
    simp only [insI]
    split
    · exact (List.Perm.cons j (insI_perm i r)).trans (List.Perm.swap i j r)
    · exact .refl _
theorem sortI_perm : ∀ l : List Int, (sortI l).Perm l
  | [] => .refl _
  | a :: l => (insI_perm a (sortI l)).trans (List.Perm.cons a (sortI_perm l))
theorem insI_sorted (i : Int) : ∀ r : List Int, r.Pairwise (· <= ·) -> (insI i r).Pairwise (· <= ·)
  | [], _ => by simp [insI]
  | j :: r, h => by
    obtain ⟨h1, h2⟩ := List.pairwise_cons.mp h
    simp only [insI]
    split
    · rename_i hij
      refine List.pairwise_cons.mpr ⟨fun x hx => ?_, insI_sorted i r h2⟩
      rcases List.mem_cons.mp ((insI_perm i r).mem_iff.mp hx) with rfl | hx
      · exact hij
      · exact h1 x hx
    · rename_i hij
      refine List.pairwise_cons.mpr ⟨fun x hx => ?_, h⟩
      rcases List.mem_cons.mp hx with rfl | hx
      · omega
      · exact Int.le_trans (by omega) (h1 x hx)
theorem sortI_sorted : ∀ l : List Int, (sortI l).Pairwise (· <= ·)
  | [] => .nil
  | a :: l => insI_sorted a _ (sortI_sorted l)
theorem sorted_eq : ∀ {l m : List Int}, l.Perm m -> l.Pairwise (· <= ·) -> m.Pairwise (· <= ·) -> l = m
  | [], m, p, _, _ => (List.nil_perm.mp p).symm
  | a :: l, [], p, _, _ => absurd (List.perm_nil.mp p) (by simp)
  | a :: l, b :: m, p, hl, hm => by
    obtain ⟨h1, h2⟩ := List.pairwise_cons.mp hl
    obtain ⟨h3, h4⟩ := List.pairwise_cons.mp hm
    have e : a = b := by
      have k1 : b <= a := by
        rcases List.mem_cons.mp (p.mem_iff.mp List.mem_cons_self) with e | e
        · omega
        · exact h3 a e
      have k2 : a <= b := by
        rcases List.mem_cons.mp (p.mem_iff.mpr List.mem_cons_self) with e | e
        · omega
        · exact h1 b e
      omega
    subst e
    rw [sorted_eq p.cons_inv h2 h4]
end
section
variable {X : L2.Cx} {T : Tbl} {Z : Wc} {W : WX} {σ0 : L2.St} {e : Expr} {es : List Expr} {As : List Ex} {pos p : Pos} {x : Str} {id : String}
theorem one1 {ρ : List Addr} {H : Hp} {vs : List V} {F : List Addr} {d : D} (r : Rps Z ρ H [d] vs F) : ∃ v, vs = [v] /\ Rp Z ρ H d v F := by
  obtain ⟨v, ws, F1, F2, rfl, r1, ⟨rfl, rfl⟩, rfl⟩ := r
  exact ⟨v, rfl, by simpa using r1⟩
theorem gd_ok {α β : Type} {rel : Rel α β} {b : Bool} {m : M α} {st : Sto} {ρ : List Addr} {H : Hp} {Q : β -> Hp -> Prop} (h : Post rel Z W (gd b m st) ρ σ0 H Q) : b = true /\ Post rel Z W (m st) ρ σ0 H Q := by
  cases b with
  | true => exact ⟨rfl, h⟩
  | false => exact h.elim
theorem callOne {f : Value} {g : D -> M D} (h : ∀ (pins : List (Addr × Obj)) (s : Shared) (σ : L2.St) (H : Hp) (x : V) (us : List Value) (Q : VK) (ρ : List Addr) (st : Sto) (H0 : Hp) (ρ2 : List Addr) (st2 : Sto) (d : D) (F : List Addr), Inv X pins σ H s -> Vals [x] us -> SR Z ρ st H0 -> Now Z ρ H0 ρ2 st2 H F -> Rp Z ρ2 H d x F -> Post (Rp Z) Z W (g d st2) ρ σ0 H0 Q ->
    wpAny (model X.prog X.w) X.A (PySem.call f us) (EP X pins σ Q) X.xe s) : CallR X f (rL Z W σ0 (b1 g)) := by
  intro pins s σ H vs us Q I rv ⟨ρ, st, H0, ρ2, st2, ds, F, sr, n, r, q⟩
  match ds, r, q with
  | [], _, q => exact q.elim
  | [d], r, q =>
    obtain ⟨v, rfl, r1⟩ := one1 r
    exact h pins s σ H v us Q ρ st H0 ρ2 st2 d F I rv sr n r1 q
  | _ :: _ :: _, _, q => exact q.elim
theorem callTwo {f : Value} {g : D -> D -> M D} (h : ∀ (pins : List (Addr × Obj)) (s : Shared) (σ : L2.St) (H : Hp) (x y : V) (us : List Value) (Q : VK) (ρ : List Addr) (st : Sto) (H0 : Hp) (ρ2 : List Addr) (st2 : Sto) (d e : D) (F G : List Addr), Inv X pins σ H s -> Vals [x, y] us -> SR Z ρ st H0 -> Now Z ρ H0 ρ2 st2 H (F ++ G) -> Rp Z ρ2 H d x F -> Rp Z ρ2 H e y G -> Post (Rp Z) Z W (g d e st2) ρ σ0 H0 Q ->
    wpAny (model X.prog X.w) X.A (PySem.call f us) (EP X pins σ Q) X.xe s) : CallR X f (rL Z W σ0 (b2 g)) := by
  intro pins s σ H vs us Q I rv ⟨ρ, st, H0, ρ2, st2, ds, F, sr, n, r, q⟩
  match ds, r, q with
  | [], _, q => exact q.elim
  | [d], _, q => exact q.elim
  | [d, e], r, q =>
    obtain ⟨v, ws, F1, F2, rfl, r1, r2, rfl⟩ := r
    obtain ⟨u, rfl, r3⟩ := one1 r2
    exact h pins s σ H v u us Q ρ st H0 ρ2 st2 d e F1 F2 I rv sr n r1 r3 q
  | _ :: _ :: _ :: _, _, q => exact q.elim
theorem RpT.len {ρ : List Addr} {H : Hp} : ∀ {kvs : List (Ky × D)} {ws : List (List L2.Key × V)} {F : List Addr}, RpT Z ρ H kvs ws F -> kvs.length = ws.length
  | [], ws, F, r => by obtain ⟨rfl, _⟩ := r; rfl
  | (k, d) :: kvs, ws, F, r => by
    obtain ⟨j, v, ws', F1, F2, _, rfl, _, h2, _⟩ := r
    rw [List.length_cons, List.length_cons, RpT.len h2]
theorem bi_len (hK : X.K = Z.K) : CallR X (.builtin "len") (rL Z W σ0 (b1 fLen)) := callOne fun pins s σ H x us Q ρ st H0 ρ2 st2 d F I rv sr n r h => by
  unfold fLen at h
  split at h
  · obtain ⟨hz, h⟩ := gd_ok h
    obtain ⟨rfl, rfl⟩ := r
    exact call_len_str pins s σ H _ us Q I rv ⟨_, rfl, of_decide_eq_true hz, Post.ok h n ⟨rfl, rfl⟩⟩
  · split at h
    · rename_i xs hx
      obtain ⟨a, vs, G, rfl, ha, rs, sub⟩ := seqv_ok n.sr r hx
      exact call_len_seq pins s σ H _ us Q I rv ⟨a, vs, rfl, by rw [hK]; exact ha, by rw [<- rs.length]; exact Post.ok h (n.less (List.nil_sublist _)) ⟨rfl, rfl⟩⟩
    · split at h
      · rename_i kvs hd
        obtain ⟨a, G, rfl, hh, sub⟩ := dicv_ok n.sr r hd
        rcases hh with ⟨ws, ha, rk⟩ | ⟨ws, ha, rk⟩
        · have hlen : kvs.length = ws.length := by simpa using congrArg List.length rk.keysEq
          exact call_lenD pins s σ H _ us Q I rv ⟨a, ws, rfl, ha, by rw [<- hlen]; exact Post.ok h (n.less (List.nil_sublist _)) ⟨rfl, rfl⟩⟩
        · have hlen : kvs.length = ws.length := rk.len
          exact L2.call_len_dT pins s σ H _ us Q I rv ⟨a, ws, rfl, ha, by rw [<- hlen]; exact Post.ok h (n.less (List.nil_sublist _)) ⟨rfl, rfl⟩⟩
      · exact h.elim
theorem lseq_ok {ρ : List Addr} {H : Hp} {st : Sto} {d : D} {x : V} {F : List Addr} {xs : List D} (s : SR Z ρ st H) (r : Rp Z ρ H d x F) (e : seqv st d = some xs) (hnt : ∀ ys, d = .tup ys -> False) : ∃ a vs G, x = .ref a /\ SqL Z.K H a vs /\ Rps Z ρ H xs vs G /\ G.Sublist F := by
  cases d with
  | tup xs => exact (hnt xs rfl).elim
  | lst xs =>
    obtain ⟨b, vs2, G2, rfl, hb, rs, rfl⟩ := r
    cases e
    exact ⟨b, vs2, G2, rfl, SqL.of hb, rs, List.sublist_cons_self _ _⟩
  | ref l =>
    obtain ⟨b, hl, rfl, rfl⟩ := r
    simp only [seqv] at e
    split at e
    · rename_i hc
      cases e
      obtain ⟨ws, hw, rw'⟩ := s.list hl (.inl hc)
      exact ⟨b, ws, [], rfl, hw, rw', List.Sublist.refl _⟩
    · rename_i hc
      cases e
      obtain ⟨ws, hw, rw'⟩ := s.list hl (.inr hc)
      exact ⟨b, ws, [], rfl, hw, rw', List.Sublist.refl _⟩
    · cases e
  | _ => simp [seqv] at e
theorem lInt_ok {ρ : List Addr} {H : Hp} {st : Sto} {d : D} {x : V} {F : List Addr} {ns : List Int} (s : SR Z ρ st H) (r : Rp Z ρ H d x F) (e : lInt st d = some ns) : ∃ a, x = .ref a /\ SqL Z.K H a (ns.map V.int) := by
  unfold lInt at e
  split at e
  · rename_i xs hx
    split at e
    · cases e
    · rename_i hnt
      obtain ⟨a, vs, G, rfl, ha, rs, sub⟩ := lseq_ok s r hx hnt
      obtain ⟨rfl, _⟩ := ints_ok rs e
      exact ⟨a, rfl, ha⟩
  · cases e
theorem lBl_ok {ρ : List Addr} {H : Hp} {st : Sto} {d : D} {x : V} {F : List Addr} {ns : List Bool} (s : SR Z ρ st H) (r : Rp Z ρ H d x F) (e : lBl st d = some ns) : ∃ a, x = .ref a /\ SqL Z.K H a (ns.map V.bl) := by
  unfold lBl at e
  split at e
  · rename_i xs hx
    split at e
    · cases e
    · rename_i hnt
      obtain ⟨a, vs, G, rfl, ha, rs, sub⟩ := lseq_ok s r hx hnt
      obtain rfl := bls_ok rs e
      exact ⟨a, rfl, ha⟩
  · cases e
theorem bi_sum (hK : X.K = Z.K) (hc : X.calm = true) : CallR X (.builtin "sum") (rL Z W σ0 (b1 fSum)) := callOne fun pins s σ H x us Q ρ st H0 ρ2 st2 d F I rv sr n r h => by
  obtain ⟨ns, e, h⟩ := opt_ok h
  obtain ⟨a, rfl, ha⟩ := lInt_ok n.sr r e
  exact cr_sum hc pins s σ H _ us Q I rv ⟨a, ns, rfl, by rw [hK]; exact ha, Post.ret h (n.less (List.nil_sublist _)) ⟨rfl, rfl⟩⟩
theorem bi_all (hK : X.K = Z.K) (hc : X.calm = true) : CallR X (.builtin "all") (rL Z W σ0 (b1 fAll)) := callOne fun pins s σ H x us Q ρ st H0 ρ2 st2 d F I rv sr n r h => by
  obtain ⟨ns, e, h⟩ := opt_ok h
  obtain ⟨a, rfl, ha⟩ := lBl_ok n.sr r e
  exact cr_all hc pins s σ H _ us Q I rv ⟨a, ns, rfl, by rw [hK]; exact ha, Post.ret h (n.less (List.nil_sublist _)) ⟨rfl, rfl⟩⟩
theorem bi_min2 (hc : X.calm = true) : CallR X (.builtin "min") (rL Z W σ0 (b2 fMin2)) := callTwo fun pins s σ H x y us Q ρ st H0 ρ2 st2 d e F G I rv sr n r1 r2 h => by
  unfold fMin2 at h
  split at h
  · obtain ⟨rfl, rfl⟩ := r1
    obtain ⟨rfl, rfl⟩ := r2
    exact call_min2 hc pins s σ H _ us Q I rv ⟨_, _, rfl, Post.ret h n ⟨rfl, rfl⟩⟩
  · exact h.elim
theorem bi_max2 (hc : X.calm = true) : CallR X (.builtin "max") (rL Z W σ0 (b2 fMax2)) := callTwo fun pins s σ H x y us Q ρ st H0 ρ2 st2 d e F G I rv sr n r1 r2 h => by
  unfold fMax2 at h
  split at h
  · obtain ⟨rfl, rfl⟩ := r1
    obtain ⟨rfl, rfl⟩ := r2
    exact call_max2 hc pins s σ H _ us Q I rv ⟨_, _, rfl, Post.ret h n ⟨rfl, rfl⟩⟩
  · exact h.elim
theorem bi_tuple (hK : X.K = Z.K) : CallR X (.type "tuple") (rL Z W σ0 (b1 fTuple)) := callOne fun pins s σ H x us Q ρ st H0 ρ2 st2 d F I rv sr n r h => by
  obtain ⟨xs, e, h⟩ := opt_ok h
  obtain ⟨a, vs, G, rfl, ha, rs, sub⟩ := seqx_ok n.sr r e
  rcases ha with ha | ha
  · exact call_tupleX pins s σ H _ us Q I rv ⟨a, vs, rfl, by rw [hK]; exact ha, fun p o ho hp => Post.ret h ((n.newS sr hp).less sub) ⟨p, vs, rfl, SqX.of upd_same ho, rps_up hp rs⟩⟩
  · exact call_tuple_of pins s σ H _ us Q I rv ⟨a, vs, rfl, .inr ⟨by rw [hK]; exact ha.t, Post.ret h (n.less sub) ⟨a, vs, rfl, ha, rs⟩⟩⟩
theorem bi_list (hK : X.K = Z.K) : CallR X (.type "list") (rL Z W σ0 (b1 fList)) := callOne fun pins s σ H x us Q ρ st H0 ρ2 st2 d F I rv sr n r h => by
  obtain ⟨xs, e, h⟩ := opt_ok h
  obtain ⟨a, vs, G, rfl, ha, rs, sub⟩ := seqv_ok n.sr r e
  exact call_list_of pins s σ H _ us Q I rv ⟨a, vs, rfl, by rw [hK]; exact ha, fun p hp => Post.ret h ((n.new sr hp).less (List.cons_sublist_cons.mpr sub)) ⟨p, vs, G, rfl, upd_same, rps_up hp rs, rfl⟩⟩
def TupJ (K : PySem.W.Frag) (H : Hp) (x : V) (l : List Int) : Prop := ∃ t, x = .ref t /\ SqX H t (l.map V.int)
def TL (K : PySem.W.Frag) (H : Hp) : List V -> List (List Int) -> Prop
  | [], [] => True
  | x :: xs, l :: ls => TupJ K H x l /\ TL K H xs ls
  | _, _ => False
theorem tl_of {ρ : List Addr} {H : Hp} : ∀ {ds : List D} {vs : List V} {F : List Addr} {ls : List (List Int)}, Rps Z ρ H ds vs F -> optL tupI ds = some ls -> TL Z.K H vs ls
  | [], vs, F, ls, r, e => by obtain ⟨rfl, _⟩ := r; cases e; trivial
  | d :: ds, vs, F, ls, r, e => by
    obtain ⟨v, ws, F1, F2, rfl, r1, r2, _⟩ := r
    simp only [optL] at e
    cases d with
    | tup ys =>
      simp only [tupI] at e
      cases e1 : optL intv ys with
      | none => rw [e1] at e; cases e
      | some l =>
        rw [e1] at e
        cases e2 : optL tupI ds with
        | none => rw [e2] at e; cases e
        | some ms =>
          rw [e2] at e
          cases e
          obtain ⟨t, us, rfl, ht, rs⟩ := r1
          obtain ⟨rfl, _⟩ := ints_ok rs e1
          exact ⟨⟨t, rfl, ht⟩, tl_of r2 e2⟩
    | _ => simp [tupI] at e
theorem tl_rps {ρ : List Addr} {H : Hp} : ∀ {vs : List V} {ls : List (List Int)}, TL Z.K H vs ls -> Rps Z ρ H (ls.map fun l => D.tup (l.map D.int)) vs []
  | [], [], _ => ⟨rfl, rfl⟩
  | x :: xs, l :: ls, h => by
    obtain ⟨⟨t, rfl, ht⟩, h2⟩ := h
    exact ⟨.ref t, xs, [], [], rfl, ⟨t, _, rfl, ht, Rps.ofInts l⟩, tl_rps h2, rfl⟩
  | [], _ :: _, h => h.elim
  | _ :: _, [], h => h.elim
theorem tl_vals {pins : List (Addr × Obj)} {σ : L2.St} {H : Hp} {s : Shared} (I : Inv X pins σ H s) : ∀ (vs : List V) (us : List Value) (ls : List (List Int)), Vals vs us -> TL X.K H vs ls -> us.map (TS.intsOf s.heap) = ls /\ ∀ u ∈ us, TS.TupInts s.heap u (TS.intsOf s.heap u) /\ TupJ X.K H (bkV u) (TS.intsOf s.heap u) := by
  intro vs
  induction vs with
  | nil =>
    intro us ls r h
    cases ls with
    | nil =>
      cases r
      exact ⟨rfl, fun u hu => by simp at hu⟩
    | cons _ _ => exact h.elim
  | cons x xs ih =>
    intro us ls r h
    cases ls with
    | nil => exact h.elim
    | cons l ls =>
      cases r with
      | cons r t =>
        obtain ⟨⟨a, rfl, ha⟩, h2⟩ := h
        cases r
        have hr := tupI_raw I ha.t
        have hi := hr.ints
        obtain ⟨h3, h4⟩ := ih _ ls t h2
        refine ⟨by rw [List.map_cons, hi, h3], ?_⟩
        intro z hz
        rcases List.mem_cons.1 hz with rfl | hz
        · rw [hi]
          exact ⟨hr, a, rfl, ha⟩
        · exact h4 z hz
theorem tl_map {K : PySem.W.Frag} {H : Hp} {k : Value -> List Int} : ∀ {us : List Value}, (∀ u ∈ us, TupJ K H (bkV u) (k u)) -> TL K H (us.map bkV) (us.map k)
  | [], _ => trivial
  | u :: us, h => ⟨h u List.mem_cons_self, tl_map fun z hz => h z (List.mem_cons_of_mem _ hz)⟩
theorem cr_sortL (hu : X.A.units + 64 < cLine) : CallR X (.builtin "sorted") (fun vs H Q => ∃ (a : Addr) (xs : List V) (ls : List (List Int)), vs = [V.ref a] /\ SqL X.K H a xs /\ TL X.K H xs ls /\ ∀ (ys : List V) (p : Addr), TL X.K H ys (sortL ls) -> H p = none -> Q (.ref p) (upd H p (.lst ys))) := by
  intro pins s σ H vs us Q I r h
  obtain ⟨a, xs, ls, rfl, hs, ht, q⟩ := h
  obtain ⟨its, rv, hl, hz⟩ := I.list hs
  rw [Vals.ref1 r]
  obtain ⟨e1, e2⟩ := tl_vals I _ _ _ rv ht
  refine SrtO.sorted_ord (swo_lexL (TS.intsOf s.heap)) hl.isList (by rw [<- rv.length]; exact hz) (fun h2 h₁ a' ha' kk => ?_) fun out h1 h2 => ?_
  · refine tups_sortableE (s := { s with heap := h₁ }) (by omega) (by show X.A.units + 1 + 1 < _; omega) (fun v hm => (e2 v hm).1.keeps fun b o e _ => (kk b o e).2) fun o e => ?_
    have e' : some o = some (seqObj "list" its.toArray 0) := e.symm.trans ha'
    cases e'
    intro c
    exact absurd (Value.type.inj c) (by decide)
  · obtain ⟨ep, he'⟩ := PyProof.Rows.sortedAll_at s.heap its out.toArray
    have hso : out.map (TS.intsOf s.heap) = sortL ls := by
      refine (List.Perm.eq_of_pairwise (le := lexLe) (fun a b _ _ h1 h2 => (lex_tri h1 h2).symm) (sortL_sorted ls) ?_ ?_).symm
      · rw [List.pairwise_map]
        exact h1
      · refine (sortL_perm ls).trans ?_
        rw [<- e1]
        exact (h2.perm.map _).symm
    have hr : ∀ u ∈ out, TupJ X.K H (bkV u) (TS.intsOf s.heap u) := fun u hu => (e2 u (h2.perm.mem_iff.1 hu)).2
    have hrf : ∀ u ∈ out, ∃ a, u = Value.ref a := fun u hu => by
      obtain ⟨t, et, _⟩ := hr u hu
      exact ⟨t, bkV_ref et⟩
    have hlen : (out.map bkV).length <= sizeLine := by
      rw [List.length_map, h2.len, <- rv.length]; exact hz
    refine ⟨.ref _, upd H (s.heap.objs.size + 1) (.lst (out.map bkV)), I.laid (t' := s.toks) (fun _ _ => PyProof.Rows.sortedAll_old) (Nat.le_succ _) ⟨hlen, out, ep, bkV_vals hrf, he'⟩, rfl, q _ _ ?_ (I.hok.fresh (Nat.le_succ _))⟩
    rw [<- hso]
    exact tl_map hr
theorem keysI_ok {ρ : List Addr} {H : Hp} : ∀ {kvs : List (Ky × D)} {ns : List Int} {ws : List (L2.Key × V)} {G : List Addr}, optL keyI kvs = some ns -> RpK Z ρ H kvs ws G -> ws.map (·.1) = ns.map Sum.inl
  | [], ns, ws, G, e, r => by
    cases e
    obtain ⟨rfl, _⟩ := r
    rfl
  | (k, d) :: kvs, ns, ws, G, e, r => by
    obtain ⟨j, v, ws', F1, F2, rfl, rfl, _, r2, rfl⟩ := r
    cases j with
    | inr t => simp [optL, keyI] at e
    | inl i =>
      simp only [optL, keyI] at e
      split at e
      · rename_i ms e2
        cases e
        have := keysI_ok e2 r2
        simp [this]
      · cases e
theorem keysI_oks {i : Int} : ∀ {kvs : List (Ky × D)} {ns : List Int}, optL keyI kvs = some ns -> okKeys (.k (.inl i)) kvs = true
  | [], ns, e => rfl
  | (k, d) :: kvs, ns, e => by
    cases k with
    | t as => simp [optL, keyI] at e
    | k j =>
      cases j with
      | inr t => simp [optL, keyI] at e
      | inl i' =>
        simp only [optL, keyI] at e
        split at e
        · rename_i ms e2
          have := keysI_oks (i := i) e2
          simp only [okKeys, List.all_cons, kyK, beq_self_eq_true, Bool.true_and] at this ⊢
          exact this
        · cases e
theorem bi_sorted (hK : X.K = Z.K) (hcm : X.calm = true) (hu : X.A.units + 64 < cLine) : CallR X (.builtin "sorted") (rL Z W σ0 (b1 fSorted)) := callOne fun pins s σ H x us Q ρ st H0 ρ2 st2 d F I rv sr n r h => by
  unfold fSorted at h
  split at h
  · rename_i ns e
    obtain ⟨a, rfl, ha⟩ := lInt_ok n.sr r e
    refine cr_sortedI pins s σ H _ us Q I rv ⟨a, ns, rfl, by rw [hK]; exact ha, fun ns' p pm hs hp => ?_⟩
    obtain rfl := sorted_eq (pm.trans (sortI_perm ns).symm) hs (sortI_sorted ns)
    exact Post.ok h ((n.new sr hp).less (List.cons_sublist_cons.mpr (List.nil_sublist _))) ⟨p, _, [], rfl, upd_same, Rps.ofInts _, rfl⟩
  · split at h
    · rename_i ls e
      unfold lTups at e
      split at e
      · rename_i xs hx
        split at e
        · cases e
        · rename_i hnt
          obtain ⟨a, ts, G, rfl, ha, rs, _⟩ := lseq_ok n.sr r hx (fun ys q => hnt ys q)
          have ht := tl_of rs e
          rw [<- hK] at ha ht
          refine cr_sortL hu pins s σ H _ us Q I rv ⟨a, ts, ls, rfl, ha, ht, fun ys p ty hp => ?_⟩
          rw [hK] at ty
          exact Post.ok h ((n.new sr hp).less (List.cons_sublist_cons.mpr (List.nil_sublist _))) ⟨p, ys, [], rfl, upd_same, rps_up hp (tl_rps ty), rfl⟩
      · cases e
    · split at h
      · rename_i ns e
        obtain ⟨hz, h⟩ := gd_ok h
        unfold dInts at e
        split at e
        · rename_i kvs hk
          have hz := of_decide_eq_true hz
          obtain ⟨H', a, ws, G, rfl, I', n', ha, rk, hs, _, _⟩ := dK_now I sr n (fun b hb => hb) r hk (keysI_oks (i := 0) e)
          refine call_sortedDI hcm pins s σ H' _ us Q I' rv ⟨a, ws, ns, rfl, Rd.of ha, keysI_ok e rk, hz, fun ns' p pm hs2 hp => ?_⟩
          obtain rfl := sorted_eq (pm.trans (sortI_perm ns).symm) hs2 (sortI_sorted ns)
          exact Post.ret h ((n'.new sr hp).less (List.cons_sublist_cons.mpr (List.nil_sublist _))) ⟨p, _, [], rfl, upd_same, Rps.ofInts _, rfl⟩
        · cases e
      · split at h
        · rename_i ns e
          cases d with
          | tup ys =>
            obtain ⟨t, ts, rfl, ht, rs⟩ := r
            obtain ⟨rfl, _⟩ := ints_ok rs e
            refine cr_sortedIT pins s σ H _ us Q I rv ⟨t, ns, rfl, ht.t, fun ns' p pm hs2 hp => ?_⟩
            obtain rfl := sorted_eq (pm.trans (sortI_perm ns).symm) hs2 (sortI_sorted ns)
            exact Post.ok h ((n.new sr hp).less (List.cons_sublist_cons.mpr (List.nil_sublist _))) ⟨p, _, [], rfl, upd_same, Rps.ofInts _, rfl⟩
          | _ => simp [tupI] at e
        · exact h.elim
theorem bi_repr (hK : X.K = Z.K) (hg : X.A.guards = some []) (hu : X.A.units + 64 < cLine) : CallR X (.builtin "repr") (rL Z W σ0 (b1 fRepr)) := callOne fun pins s σ H x us Q ρ st H0 ρ2 st2 d F I rv sr n r h => by
  obtain ⟨p, e, h⟩ := opt_ok h
  obtain ⟨hz, h⟩ := gd_ok h
  obtain ⟨z1, z2, z3, z4⟩ := of_decide_eq_true hz
  have fin : Q (.str p.shown) H := Post.ret h (n.less (List.nil_sublist _)) ⟨rfl, rfl⟩
  have dp := toP_ok n.sr _ _ _ _ _ r e
  rw [<- hK] at dp
  obtain ⟨u, rfl, ru⟩ := vals1 rv
  obtain ⟨as, rd⟩ := Dp.reads I p x u dp ru
  have ref : isDisplay p = true -> wpAny (model X.prog X.w) X.A (PySem.call (.builtin "repr") [u]) (EP X pins σ Q) X.xe s := fun hd => by
    obtain ⟨a, rfl⟩ := isRef_of_reads rd hd
    exact repr_of_reads' rd z1 (PyData.noDict_hsm z4) hg (by omega) (fun _ _ e => e) (fun h' w tk hk => ⟨.str p.shown, H, I.kept hk, ⟨w, rfl⟩, fin⟩) z2
  cases dp with
  | non =>
    cases ru
    exact P.repr_of_none (show EP X pins σ Q _ _ from ⟨.str _, H, I.tok _, ⟨_, rfl⟩, fin⟩)
  | bl b =>
    cases ru
    exact P.repr_of_bool (show EP X pins σ Q _ _ from ⟨.str _, H, I.tok _, ⟨_, rfl⟩, by cases b <;> exact fin⟩)
  | int i =>
    obtain ⟨t, rfl⟩ := ru
    exact P.repr_of_int (of_decide_eq_true z1) (show EP X pins σ Q _ _ from ⟨.str _, H, I.tok _, ⟨_, rfl⟩, fin⟩)
  | str z =>
    obtain ⟨t, rfl⟩ := ru
    exact P.repr_of_str (show EP X pins σ Q _ _ from ⟨.str _, H, I.tok _, ⟨_, rfl⟩, fin⟩) z2
  | lst _ _ => exact ref rfl
  | tup _ _ => exact ref rfl
theorem se_bi {b : Bi} (hc : ∀ σ, CallR X (.builtin id) (rL Z W σ (biD T b))) (hg : Gl X x) (hm : X.mg x = none) (hv : bootBuiltins x = some (.builtin id)) (ha : PA X (e :: es) (iEs T Z W As)) (hn : x ≠ "__name__" := by decide) (hdb : (x == ("__debug__" : Str)) = false := by decide)
    (he : starEach (e :: es) X.env = (false, eval e X.env) :: starEach es X.env := by rfl) (hpl : (backTo pos (starEach es X.env)).any (·.1) = false := by rfl) : PE X (.Call (.Name x p) (e :: es) [] pos) (iE T Z W (.bi b As)) :=
  ⟨fun pins s σ H Q I q => by
    refine (pe_callB (hc σ) hg hm hv ha hn hdb he hpl).run pins s σ H Q I ?_
    obtain ⟨ρ, env, st, er, sr, h⟩ := q
    simp only [ev] at h
    refine ⟨ρ, env, st, er, sr, (Post.seq rpsOk (Now.start sr) sr h).mono ?_⟩
    rintro vs H1 ⟨ρ1, ds, st1, F1, n1, t1, r1, h1⟩
    exact ⟨ρ, st, H, ρ1, st1, ds, F1, sr, n1, r1, h1⟩⟩
theorem se_bt {b : Bi} {Ty : String} (hc : ∀ σ, CallR X (.type Ty) (rL Z W σ (biD T b))) (hg : Gl X x) (hm : X.mg x = none) (hv : bootBuiltins x = some (.type Ty)) (ha : PA X (e :: es) (iEs T Z W As)) (hn : x ≠ "__name__" := by decide) (hdb : (x == ("__debug__" : Str)) = false := by decide)
    (he : starEach (e :: es) X.env = (false, eval e X.env) :: starEach es X.env := by rfl) (hpl : (backTo pos (starEach es X.env)).any (·.1) = false := by rfl) : PE X (.Call (.Name x p) (e :: es) [] pos) (iE T Z W (.bi b As)) :=
  ⟨fun pins s σ H Q I q => by
    refine (pe_callTy (hc σ) hg hm hv ha hn hdb he hpl).run pins s σ H Q I ?_
    obtain ⟨ρ, env, st, er, sr, h⟩ := q
    simp only [ev] at h
    refine ⟨ρ, env, st, er, sr, (Post.seq rpsOk (Now.start sr) sr h).mono ?_⟩
    rintro vs H1 ⟨ρ1, ds, st1, F1, n1, t1, r1, h1⟩
    exact ⟨ρ, st, H, ρ1, st1, ds, F1, sr, n1, r1, h1⟩⟩
def tyNs : List String := ["NoneType", "bool", "int", "str", "tuple", "list", "dict"]
def exT (t u : String) : Bool := if u = "NoneType" then false else if u = "bool" then t == "bool" || t == "int" else t == u
def okT (t : String) : Bool := tyNs.all fun u => kitB u t == some (exT t u)
theorem okT_int : okT "int" = true := by decide +kernel
theorem okT_bool : okT "bool" = true := by decide +kernel
theorem okT_tuple : okT "tuple" = true := by decide +kernel
theorem isTy_ok {ρ : List Addr} {H : Hp} {st : Sto} {d : D} {v : V} {F : List Addr} {t : String} {c : Bool} (s : SR Z ρ st H) (r : Rp Z ρ H d v F) (e : isTy st t d = some c) : ∃ u ∈ tyNs, TyX Z.K H v (.type u) /\ c = exT t u := by
  have list : ∀ {a vs}, SqL Z.K H a vs -> TyX Z.K H (.ref a) (.type "list") := fun {a vs} h => by
    rcases h with h | ⟨o, its, n, ho, hc, _⟩
    · rcases h with h | ⟨o, h⟩
      · exact .base (.lst h)
      · exact .base (.frz h)
    · exact .kList ho hc
  cases d with
  | non => obtain ⟨rfl, _⟩ := r; cases e; exact ⟨"NoneType", by decide, .base .non, rfl⟩
  | bl b => obtain ⟨rfl, _⟩ := r; cases e; exact ⟨"bool", by decide, .base (.bl b), rfl⟩
  | int b => obtain ⟨rfl, _⟩ := r; cases e; exact ⟨"int", by decide, .base (.int b), rfl⟩
  | str b => obtain ⟨rfl, _⟩ := r; cases e; exact ⟨"str", by decide, .base (.str b), rfl⟩
  | tup ds =>
    obtain ⟨a, vs, rfl, h, _⟩ := r
    cases e
    refine ⟨"tuple", by decide, ?_, rfl⟩
    obtain ⟨o, h, _⟩ := h
    exact .fTuple h
  | lst ds => obtain ⟨a, vs, G, rfl, h, _⟩ := r; cases e; exact ⟨"list", by decide, .base (.lst h), rfl⟩
  | dic ds =>
    obtain ⟨a, G, rfl, _, h⟩ := r
    cases e
    rcases h with ⟨ws, h, _⟩ | ⟨ws, h, _⟩
    · exact ⟨"dict", by decide, .base (.dK h), rfl⟩
    · exact ⟨"dict", by decide, .base (.dT h), rfl⟩
  | ref l =>
    obtain ⟨a, hl, rfl, _⟩ := r
    simp only [isTy] at e
    split at e
    · rename_i xs hc
      cases e
      obtain ⟨vs, hv, _⟩ := s.list hl (.inl hc)
      exact ⟨"list", by decide, list hv, rfl⟩
    · rename_i xs hc
      cases e
      obtain ⟨vs, hv, _⟩ := s.list hl (.inr hc)
      exact ⟨"list", by decide, list hv, rfl⟩
    · rename_i xs hc
      cases e
      obtain ⟨b, G, z, _, h⟩ := s.cell l _ a hc hl
      cases z
      rcases h with ⟨ws, h, _⟩ | ⟨ws, h, _⟩
      · exact ⟨"dict", by decide, .base (.dK h), rfl⟩
      · exact ⟨"dict", by decide, .base (.dT h), rfl⟩
    · cases e
  | _ => simp [isTy] at e
theorem se_isT {t : String} {A : Ex} {p2 : Pos} (hK : X.K = Z.K) (ht : okT t = true) (hg : Gl X "isinstance") (hm : X.mg "isinstance" = none) (hgt : Gl X (Str.ofString t)) (hmt : X.mg (Str.ofString t) = none) (hvt : bootBuiltins (Str.ofString t) = some (.type t)) (ha : PE X e (iE T Z W A))
    (hn : Str.ofString t ≠ "__name__") (hdb : (Str.ofString t == ("__debug__" : Str)) = false)
    (he : starEach [e, .Name (Str.ofString t) p2] X.env = (false, eval e X.env) :: starEach [.Name (Str.ofString t) p2] X.env) (he2 : starEach [.Name (Str.ofString t) p2] X.env = (false, eval (.Name (Str.ofString t) p2) X.env) :: starEach [] X.env)
    (hpl : (backTo pos (starEach [.Name (Str.ofString t) p2] X.env)).any (·.1) = false) :
    PE X (.Call (.Name "isinstance" p) [e, .Name (Str.ofString t) p2] [] pos) (iE T Z W (.bi (.isT t) [A])) :=
  ⟨fun pins s σ H Q I q => by
    refine (pe_callB (call_isi (X := X)) hg hm (by decide +kernel) (pa_cons ha (pa_cons (pe_bltn (v := .ty t) hgt hmt hvt rfl hn hdb) pa_nil he2) he) (by decide) (by decide) he hpl).run pins s σ H Q I ?_
    obtain ⟨ρ, env, st, er, sr, h⟩ := q
    simp only [ev] at h
    refine ⟨ρ, env, st, er, sr, (Post.seq rpOk (Now.start sr) sr (evs_one h)).mono ?_⟩
    rintro x H1 ⟨ρ1, d, st1, F1, n1, t1, r1, h1⟩
    have h2 : Post (Rp Z) Z W (opt (isTy st1 t d) (fun c => ret (D.bl c)) st1) ρ σ H Q := h1
    obtain ⟨c, ec, h1⟩ := opt_ok h2
    obtain ⟨u, hu, ty, rfl⟩ := isTy_ok n1.sr r1 ec
    have hk : kitB u t = some (exT t u) := by
      have := List.all_eq_true.mp ht u hu
      exact eq_of_beq this
    refine ⟨x, .ty t, .type u, .type t, exT t u, rfl, .ty t, by rw [hK]; exact ty, kit_ty hk, ?_⟩
    exact Post.ret h1 (n1.less (List.nil_sublist _)) ⟨rfl, rfl⟩⟩
theorem rg_rps {ρ : List Addr} {H : Hp} (a b : Int) : Rps Z ρ H (rngN a 1 (b - a).toNat) (rgV a b) [] := by
  unfold rngN rgV
  generalize (b - a).toNat = n
  have go : ∀ l : List Nat, Rps Z ρ H (l.map fun (i : Nat) => D.int (a + (i : Int) * 1)) (l.map fun i => V.int (a + (i : Nat))) [] := by
    intro l
    induction l with
    | nil => exact ⟨rfl, rfl⟩
    | cons i l ih => exact ⟨_, _, [], [], rfl, ⟨by simp, rfl⟩, ih, rfl⟩
  exact go _
theorem se_lrng1 {a : Expr} {A : Ex} {p1 pos1 : Pos} (hc : X.calm = true) (hg : Gl X "list") (hm : X.mg "list" = none) (hg2 : Gl X "range") (hm2 : X.mg "range" = none) (ha : PE X a (iE T Z W A)) (na : starEach [a] X.env = (false, eval a X.env) :: starEach [] X.env)
    (nb : starEach [.Call (.Name "range" p1) [a] [] pos1] X.env = (false, eval (.Call (.Name "range" p1) [a] [] pos1) X.env) :: starEach [] X.env) :
    PE X (.Call (.Name "list" p) [.Call (.Name "range" p1) [a] [] pos1] [] pos) (iE T Z W (.bi .lrng [A])) :=
  ⟨fun pins s σ H Q I q => by
    refine (pe_listRg hc hg hm (prg_1 hg2 hm2 ha na) nb).run pins s σ H Q I ?_
    obtain ⟨ρ, env, st, er, sr, h⟩ := q
    simp only [ev] at h
    refine ⟨ρ, env, st, er, sr, (Post.seq rpOk (Now.start sr) sr (evs_one h)).mono ?_⟩
    rintro x H1 ⟨ρ1, d, st1, F1, n1, t1, r1, h1⟩
    cases d with
    | int i =>
      obtain ⟨rfl, rfl⟩ := r1
      have h2 : Post (Rp Z) Z W (gd (rgOk 0 i) (ret (D.lst (rngN 0 1 i.toNat))) st1) ρ σ H Q := h1
      obtain ⟨hz, h1⟩ := gd_ok h2
      unfold rgOk at hz
      refine ⟨i, rfl, by unfold RgOk; exact of_decide_eq_true hz, fun p hp => ?_⟩
      have rr := rg_rps (Z := Z) (ρ := ρ1) (H := H1) 0 i
      rw [Int.sub_zero] at rr
      exact Post.ret h1 (n1.new sr hp) ⟨p, _, [], rfl, upd_same, rps_up hp rr, rfl⟩
    | _ => exact h1.elim⟩
end
end Fs
namespace Fs
open PySem L2 PyProof.Rows PySem.Spec
def rM (Z : Wc) (W : WX) (σ : L2.St) (m : Me) (k : Nat) : V -> List V -> Hp -> VK -> Prop := fun x xs H2 Q => ∃ ρ st H ρ2 st2 d ds F G, SR Z ρ st H /\ Now Z ρ H ρ2 st2 H2 (F ++ G) /\ Rp Z ρ2 H2 d x F /\ Rps Z ρ2 H2 ds xs G /\ kndD st2 d = k /\ Post (Rp Z) Z W (meD m d ds st2) ρ σ H Q
def kT : Nat -> String
  | 1 => "str" | 2 => "int" | 3 => "tuple" | 4 => "list" | 5 => "dict" | _ => ""
def MeK (X : L2.Cx) (Z : Wc) (m : Me) (name : Str) (k : Nat) : Prop := (k = 2 ∨ k = 4 ∨ k = 5 ∨ k = 3) /\ ∃ id, PlainAttrs (kT k) /\ Slot (kT k) name id /\ typeOf (.builtin id) = pure (.type "method_descriptor") /\ ∀ W σ, MtR X id (rM Z W σ m k)
section
variable {X : L2.Cx} {T : Tbl} {Z : Wc} {W : WX} {σ0 : L2.St} {e o : Expr} {es : List Expr} {A : Ex} {As : List Ex} {apos cpos pos p : Pos} {name : Str}
theorem knd_ty {ρ : List Addr} {H : Hp} {st : Sto} {d : D} {x : V} {F : List Addr} {k : Nat} (hK : X.K = Z.K) (s : SR Z ρ st H) (r : Rp Z ρ H d x F) (e : kndD st d = k) (hk : k = 2 ∨ k = 4 ∨ k = 5) : tyV X.K (kT k) x H := by
  cases d with
  | int i => obtain ⟨rfl, _⟩ := r; cases e; rfl
  | lst ds => obtain ⟨a, vs, G, rfl, h, _⟩ := r; cases e; exact .inl ⟨rfl, vs, SqL.of h⟩
  | dic ds =>
    obtain ⟨a, G, rfl, _, h⟩ := r
    cases e
    refine .inr (.inr (.inl ⟨rfl, ?_⟩))
    rcases h with ⟨ws, h, _⟩ | ⟨ws, h, _⟩
    · exact .inl ⟨ws, h⟩
    · exact .inr ⟨ws, h⟩
  | ref l =>
    obtain ⟨a, hl, rfl, _⟩ := r
    simp only [kndD] at e
    split at e
    · rename_i xs hc
      subst e
      obtain ⟨vs, hv, _⟩ := s.list hl (.inl hc)
      exact .inl ⟨rfl, vs, by rw [hK]; exact hv⟩
    · rename_i xs hc
      subst e
      obtain ⟨vs, hv, _⟩ := s.list hl (.inr hc)
      exact .inl ⟨rfl, vs, by rw [hK]; exact hv⟩
    · rename_i xs hc
      subst e
      obtain ⟨b, G, z, _, h⟩ := s.cell l _ a hc hl
      cases z
      refine .inr (.inr (.inl ⟨rfl, ?_⟩))
      rcases h with ⟨ws, h, _⟩ | ⟨ws, h, _⟩
      · exact .inl ⟨ws, h⟩
      · exact .inr ⟨ws, h⟩
    · subst e; simp at hk
  | _ => subst e; simp [kndD] at hk
theorem knd_is {ρ : List Addr} {H : Hp} {st : Sto} {d : D} {x : V} {F : List Addr} {k : Nat} {pins : List (Addr × Obj)} {σ : L2.St} {s : Shared} {v : Value} (I : Inv X pins σ H s) (rx : RelV x v) (hK : X.K = Z.K) (sr : SR Z ρ st H) (r : Rp Z ρ H d x F) (e : kndD st d = k) (hk : k = 2 ∨ k = 4 ∨ k = 5 ∨ k = 3) :
    s.TypeIs v (kT k) /\ ∀ a, v = .ref a -> ∃ ob, s.heap.get? a = some ob /\ ob.dict = none := by
  by_cases h3 : k = 3
  · subst h3
    cases d with
    | tup ds =>
      obtain ⟨a, vs, rfl, ⟨o, h, hc, hd⟩, _⟩ := r
      cases rx
      obtain ⟨e1, _⟩ := (show ObjOk X.prog X.w H s.heap a (.frz o (.tup vs)) from I.hok a _ h)
      refine ⟨⟨o, e1, hc⟩, fun b eb => ?_⟩
      cases eb
      exact ⟨o, e1, hd⟩
    | ref l =>
      simp only [kndD] at e
      split at e <;> cases e
    | _ => cases e
  · exact tyV_is I rx (knd_ty hK sr r e (by omega))
theorem me_pre {m : Me} {σ : L2.St} {H : Hp} {Q : VK} (h : iE T Z W (.me m A As) σ H Q) : iE T Z W A σ H (fun x H1 => ∃ ρ st ρ1 st1 d F env, ER Z ρ H env σ /\ SR Z ρ st H /\ Now Z ρ H ρ1 st1 H1 F /\ Rp Z ρ1 H1 d x F /\ ER Z ρ1 H1 env σ /\ meK m (kndD st1 d) = true /\
    Post (Rp Z) Z W (bnd (evs T As env) (fun ds => fun st2 => gd (kndD st1 d == kndD st2 d) (meD m d ds) st2) st1) ρ σ H Q) := by
  obtain ⟨ρ, env, st, er, sr, h⟩ := h
  simp only [ev] at h
  refine ⟨ρ, env, st, er, sr, (Post.seq rpOk (Now.start sr) sr h).mono ?_⟩
  rintro x H1 ⟨ρ1, d, st1, F1, n1, t1, r1, h1⟩
  obtain ⟨hk, h1⟩ := gd_ok h1
  exact ⟨ρ, st, ρ1, st1, d, F1, env, er, sr, n1, r1, t1.env sr er, hk, h1⟩
theorem se_me {m : Me} (hK : X.K = Z.K) (hm : ∀ k, meK m k = true -> MeK X Z m name k) (ho : PE X o (iE T Z W A)) (ha : PA X (e :: es) (iEs T Z W As))
    (hbase : attributeBase o name X.env (eval o X.env) = eval o X.env := by rfl)
    (hfew : ((backTo cpos (starEach (e :: es) X.env)).all (fun x => !x.1) && (backToKw cpos (keywordEach [] X.env)).all (fun x => x.1.isSome)
      && decide ((e :: es).length + ([] : List Keyword).length + (if ([] : List Keyword).isEmpty then 0 else 1) < 30)) = true := by rfl)
    (hline : (apos.endLine == cpos.line) = true := by rfl) (hs : starEach (e :: es) X.env = (false, eval e X.env) :: starEach es X.env := by rfl) (hplain : (backTo cpos (starEach es X.env)).any (·.1) = false := by rfl) :
    PE X (.Call (.Attribute o name apos) (e :: es) [] cpos) (iE T Z W (.me m A As)) := by
  refine ⟨fun pins s σ H Q I h => ?_⟩
  refine wpAny_Call_method_late hbase hfew hline rfl (thn (ho.run pins s σ H _ I (me_pre h)) fun v s1 ⟨x, H1, I1, r1, ρ, st, ρ1, st1, d, F, env, er, sr, n, rd, er1, hk, q⟩ => ?_)
  obtain ⟨hk3, id, pa, slot, hty, mt⟩ := hm _ hk
  obtain ⟨h1, h2⟩ := knd_is I1 r1 hK n.sr rd rfl hk3
  refine ⟨kT (kndD st1 d), id, pa, slot, hty, h1, h2, ?_⟩
  have q' := Post.seq rpsOk n sr q
  have hA := ha.run cpos pins s1 σ H1 (fun us H2 => rM Z W σ m (kndD st1 d) x us H2 Q) I1 ⟨ρ1, env, st1, er1, n.sr, q'.mono fun us H2 ⟨ρ2, ds, st2, G, n2, t2, r2, h2⟩ => ?_⟩
  · rw [hs] at hA ⊢
    refine Calls.callWith_builtin (by show (false || (backTo cpos (starEach es X.env)).any (·.1)) = false; rw [hplain] <;> rfl) (Calls.evalArgs_plain ?_)
    exact thn hA fun us s2 ⟨vs, H2, I2, r2, q2⟩ => mt W σ pins s2 σ H2 x vs v us Q I2 r1 r2 q2
  · obtain ⟨hk2, h2⟩ := gd_ok h2
    exact ⟨ρ, st, H, ρ2, st2, d, ds, F, G, sr, n2, t2.val n.sr n.out rd, r2, (eq_of_beq hk2).symm, h2⟩
theorem mOne {m : Me} {k : Nat} {id : String} {g : D -> D -> M D} (hg : ∀ st o ds, kndD st o = k -> meD m o ds st = b1 (g o) ds st) (h : ∀ (W : WX) (σ0 : L2.St) (pins : List (Addr × Obj)) (s : Shared) (σ : L2.St) (H : Hp) (x y : V) (v : Value) (us : List Value) (Q : VK) (ρ : List Addr) (st : Sto) (H0 : Hp) (ρ2 : List Addr) (st2 : Sto) (d e : D) (F G : List Addr),
    Inv X pins σ H s -> RelV x v -> Vals [y] us -> SR Z ρ st H0 -> Now Z ρ H0 ρ2 st2 H (F ++ G) -> Rp Z ρ2 H d x F -> Rp Z ρ2 H e y G -> kndD st2 d = k -> Post (Rp Z) Z W (g d e st2) ρ σ0 H0 Q -> wpAny (model X.prog X.w) X.A (PySem.call (.builtin id) (v :: us)) (EP X pins σ Q) X.xe s) (W : WX) (σ0 : L2.St) : MtR X id (rM Z W σ0 m k) := by
  intro pins s σ H x xs v us Q I rx rv ⟨ρ, st, H0, ρ2, st2, d, ds, F, G, sr, n, r1, r2, hk, q⟩
  rw [hg st2 d ds hk] at q
  match ds, r2, q with
  | [], _, q => exact q.elim
  | [e], r2, q =>
    obtain ⟨y, rfl, r3⟩ := one1 r2
    exact h W σ0 pins s σ H x y v us Q ρ st H0 ρ2 st2 d e F G I rx rv sr n r1 r3 hk q
  | _ :: _ :: _, _, q => exact q.elim
theorem lcell_ok {ρ ρ2 : List Addr} {st2 : Sto} {H H0 : Hp} {d : D} {x : V} {F G : List Addr} {Q : VK} {f : Nat -> List D -> M D} (n : Now Z ρ H0 ρ2 st2 H (F ++ G)) (r : Rp Z ρ2 H d x F) (h : Post (Rp Z) Z W (lcell st2 f d st2) ρ σ0 H0 Q) :
    ∃ l a xs vs, d = .ref l /\ x = .ref a /\ F = [] /\ ρ2[l]? = some a /\ st2[l]? = some (.lst xs) /\ H a = some (.lst vs) /\ Rps Z ρ2 H xs vs [] /\ Post (Rp Z) Z W (f l xs st2) ρ σ0 H0 Q := by
  cases d with
  | ref l =>
    obtain ⟨a, hl, rfl, rfl⟩ := r
    cases hc : st2[l]? with
    | none => simp only [lcell, hc] at h; exact h.elim
    | some c => cases c with
      | lst xs =>
        simp only [lcell, hc] at h
        obtain ⟨b, vs, G2, z, ha, rs, f⟩ := n.sr.cell l _ a hc hl
        cases z
        obtain rfl : G2 = [] := by injection f with _ f; exact f.symm
        exact ⟨l, a, xs, vs, rfl, rfl, rfl, hl, hc, ha, rs, h⟩
      | _ => simp only [lcell, hc] at h; exact h.elim
  | _ => exact h.elim
theorem Rps.dropLast {ρ : List Addr} {H : Hp} {xs : List D} {vs : List V} (r : Rps Z ρ H xs vs []) : Rps Z ρ H xs.dropLast vs.dropLast [] := by
  obtain ⟨G, a, b⟩ := r.take (xs.length - 1)
  obtain rfl := List.sublist_nil.mp b
  rw [List.dropLast_eq_take, List.dropLast_eq_take, <- r.length]
  exact a
theorem Rps.erase {ρ : List Addr} {H : Hp} : ∀ {xs : List D} {vs : List V} (j : Nat), Rps Z ρ H xs vs [] -> Rps Z ρ H (xs.eraseIdx j) (vs.eraseIdx j) []
  | [], vs, j, h => by obtain ⟨rfl, _⟩ := h; simp [Rps]
  | x :: xs, vs, j, h => by
    obtain ⟨v1, ws, F1, F2, rfl, q1, q2, f⟩ := h
    obtain ⟨rfl, rfl⟩ := List.append_eq_nil_iff.mp f.symm
    cases j with
    | zero => exact q2
    | succ j => exact ⟨v1, ws.eraseIdx j, [], [], rfl, q1, q2.erase j, rfl⟩
theorem k_append : ∀ k, meK .append k = true -> MeK X Z .append "append" k := fun k hk => by
  obtain rfl : k = 4 := by simpa [meK] using hk
  refine ⟨.inr (.inl rfl), "list.append", PySem.F.plainAttrs_list, PySem.F.slot_list_append, PySem.F.type_list_append, mOne (g := mAppend) (fun _ _ _ _ => rfl) ?_⟩
  intro W σ0 pins s σ H x y v us Q ρ st H0 ρ2 st2 d e F G I rx rv sr n r1 r2 hk h
  obtain ⟨l, a, xs, vs, rfl, rfl, rfl, hl, hc, ha, rs, h⟩ := lcell_ok n r1 h
  obtain ⟨hz, h⟩ := gd_ok h
  obtain ⟨N, pm, s', q⟩ := land_ok e n.sr r2 (fun b hb => n.out b (by simpa using hb)) (by simpa using n.nd)
  have n' : Now Z ρ H0 ρ2 st2 H ([] ++ G) := n
  have nl := n'.landed (N := N) pm s'
  refine mt_append pins s σ H _ _ v us Q I rx rv ⟨a, vs, y, rfl, rfl, ha, by rw [<- rs.length]; exact of_decide_eq_true hz, ?_⟩
  have hl' := get_append (N := N) l a hl
  exact Post.ok h (nl.wr sr hl' rfl ⟨a, vs ++ [y], [], rfl, upd_same, Rps.updF ha rfl (by simp) (Rps.append (F := []) (G := []) rs.wide ⟨y, [], [], [], rfl, q, ⟨rfl, rfl⟩, rfl⟩), rfl⟩) ⟨rfl, rfl⟩
theorem dcell_ok {ρ ρ2 : List Addr} {st2 : Sto} {H H0 : Hp} {d : D} {x : V} {F G : List Addr} {Q : VK} {f : Nat -> List (Ky × D) -> M D} (n : Now Z ρ H0 ρ2 st2 H (F ++ G)) (r : Rp Z ρ2 H d x F) (h : Post (Rp Z) Z W (dcell st2 f d st2) ρ σ0 H0 Q) :
    ∃ l a kvs, d = .ref l /\ x = .ref a /\ F = [] /\ ρ2[l]? = some a /\ st2[l]? = some (.dic kvs) /\ Post (Rp Z) Z W (f l kvs st2) ρ σ0 H0 Q := by
  cases d with
  | ref l =>
    obtain ⟨a, hl, rfl, rfl⟩ := r
    cases hc : st2[l]? with
    | none => simp only [dcell, hc] at h; exact h.elim
    | some c => cases c with
      | dic kvs =>
        simp only [dcell, hc] at h
        exact ⟨l, a, kvs, rfl, rfl, rfl, hl, hc, h⟩
      | _ => simp only [dcell, hc] at h; exact h.elim
  | _ => exact h.elim
theorem dropK_cons {j k : L2.Key} {u : V} {r : List (L2.Key × V)} : dropK ((j, u) :: r) k = if j = k then dropK r k else (j, u) :: dropK r k := by
  unfold dropK
  rw [List.filter_cons]
  by_cases h : j = k <;> simp [h]
theorem dropK_out {k : L2.Key} : ∀ {r : List (L2.Key × V)}, k ∉ r.map (·.1) -> dropK r k = r
  | [], _ => rfl
  | (j, u) :: r, h => by
    rw [dropK_cons, if_neg (fun e => h (by simp [e])), dropK_out (fun z => h (by simp at z ⊢; exact .inr z))]
theorem ddel_ok {ρ : List Addr} {H : Hp} {k : L2.Key} : ∀ {kvs : List (Ky × D)} {ws : List (L2.Key × V)}, (ws.map (·.1)).Nodup -> RpK Z ρ H kvs ws [] -> RpK Z ρ H (ddel (.k k) kvs) (dropK ws k) []
  | [], ws, nd, r => by obtain ⟨rfl, _⟩ := r; exact ⟨rfl, rfl⟩
  | (q, d) :: kvs, ws, nd, r => by
    obtain ⟨j, u, ws', F1, F2, rfl, rfl, r1, r2, f⟩ := r
    obtain ⟨rfl, rfl⟩ := List.append_eq_nil_iff.mp f.symm
    have nd' := List.nodup_cons.mp (show (j :: ws'.map (·.1)).Nodup from nd)
    rw [dropK_cons]
    simp only [ddel]
    by_cases h : j = k
    · subst h
      rw [if_pos rfl, if_pos rfl, dropK_out nd'.1]
      exact r2
    · rw [if_neg (by simpa using h), if_neg h]
      exact ⟨j, u, _, [], [], rfl, rfl, r1, ddel_ok nd'.2 r2, rfl⟩
theorem k_popi (hu : X.A.units + 1 < cLine) : ∀ k, meK .popi k = true -> MeK X Z .popi "pop" k := fun k hk => by
  simp only [meK, Bool.or_eq_true, beq_iff_eq] at hk
  rcases hk with rfl | rfl
  · refine ⟨.inr (.inl rfl), "list.pop", PySem.F.plainAttrs_list, PySem.F.slot_list_pop, PySem.F.type_list_pop, mOne (g := mPopi) (fun st o ds e => by simp only [meD, e]) ?_⟩
    intro W σ0 pins s σ H x y v us Q ρ st H0 ρ2 st2 d e F G I rx rv sr n r1 r2 hk h
    obtain ⟨l, a, xs, vs, rfl, rfl, rfl, hl, hc, ha, rs, h⟩ := lcell_ok n r1 h
    obtain ⟨i, hi, h⟩ := opt_ok h
    cases e with
    | int j =>
      cases hi
      obtain ⟨rfl, rfl⟩ := r2
      obtain ⟨hz, h⟩ := gd_ok h
      obtain ⟨j, hj, h⟩ := opt_ok h
      obtain ⟨y, hy, h⟩ := opt_ok h
      obtain ⟨u, G, hu, ru, sub⟩ := rs.get hy
      obtain rfl := List.sublist_nil.mp sub
      have hz := of_decide_eq_true hz
      refine mt_popAt pins s σ H _ _ v us Q I rx rv ⟨a, vs, _, j, u, rfl, rfl, ha, hz.1, hz.2, by rw [<- rs.length]; exact hj, hu, ?_⟩
      exact Post.ok h (n.wr sr hl rfl ⟨a, vs.eraseIdx j, [], rfl, upd_same, Rps.updF ha rfl (by simp) (rs.erase j), rfl⟩) (ru.updF ha rfl (by simp))
    | _ => cases hi
  · refine ⟨.inr (.inr (.inl rfl)), "dict.pop", PySem.F.plainAttrs_dict, PySem.F.slot_dict_pop, PySem.F.type_dict_pop, mOne (g := mDpop) (fun st o ds e => by simp only [meD, e]) ?_⟩
    intro W σ0 pins s σ H x y v us Q ρ st H0 ρ2 st2 d e F G I rx rv sr n r1 r2 hk h
    obtain ⟨l, a, kvs, rfl, rfl, rfl, hl, hc, h⟩ := dcell_ok n r1 h
    obtain ⟨q, hq, h⟩ := opt_ok h
    obtain ⟨ok, h⟩ := gd_ok h
    obtain ⟨z, hz, h⟩ := opt_ok h
    obtain ⟨k, rfl, rfl, rfl⟩ := key_ok r2 hq
    obtain ⟨H', b, ws, G, e1, I', n', ha, rk, hs, _, _⟩ := dK_now (d := .ref l) (kvs := kvs) I sr n (fun b hb => by simpa using hb) r1 (by simp [dicv, hc]) ok
    cases e1
    obtain rfl := List.sublist_nil.mp hs
    obtain rfl : v = Value.ref a := rx
    obtain ⟨u, rfl, ru⟩ := vals1 rv
    have hv := dget_ok (k := k) rk
    rw [hz] at hv
    obtain ⟨v', G', e1, r', hs2⟩ := hv
    obtain rfl := List.sublist_nil.mp hs2
    refine d_pop (more := []) I' ha ru e1 (.inl rfl) fun w' s' I2 rw' => ⟨v', _, I2, rw', ?_⟩
    have nd := dK_nodup I' ha
    have rp := ddel_ok (k := k) nd rk
    have := RpK.stay (ρ' := ρ2) (H' := upd H' a (.dK (dropK ws k))) (fun _ _ e => e) (upd_keep ha rfl) (by simp) rp
    exact Post.ok h (n'.wr sr hl rfl ⟨a, [], rfl, rfl, .inl ⟨_, upd_same, this⟩⟩) (r'.updF ha rfl (by simp))
end
end Fs
namespace Fs
open PySem L2 PyProof.Rows PySem.Spec
def SqB (K : PySem.W.Frag) (b : Bool) (H : Hp) (a : Addr) (xs : List V) : Prop := match b with
  | true => SqT K H a xs
  | false => SqL K H a xs
def ItB (b : Bool) (h : Heap) (it a : Addr) (i : Nat) : Prop := match b with
  | true => h.IsTupleIter it a i
  | false => h.IsListIter it a i
def HeB (b : Bool) (h : Heap) (a : Addr) (xs : Array Value) : Prop := match b with
  | true => h.IsTuple a xs
  | false => h.IsList a xs
section
variable {b : Bool} {h h' : Heap} {it a : Addr} {i : Nat} {xs : Array Value}
theorem ItB.get (x : ItB b h it a i) : ∃ o, h.get? it = some o /\ ∀ v, o.data ≠ .cell v := by
  cases b with
  | true => obtain ⟨o, ho, _, hd⟩ := x; exact ⟨o, ho, fun v q => by rw [hd] at q; cases q⟩
  | false => obtain ⟨o, ho, _, hd⟩ := x; exact ⟨o, ho, fun v q => by rw [hd] at q; cases q⟩
theorem ItB.at (x : ItB b h it a i) (k : ∀ o, h.get? it = some o -> h'.get? it = some o) : ItB b h' it a i := by
  cases b with
  | true => exact Heap.IsTupleIter.at x k
  | false => exact Heap.IsListIter.at x k
theorem drawsB (b : Bool) {prog : Program} {w : World} {A : Around} (hh : A.handled = none) (it a : Addr) (hne : a ≠ it) (items : Array Value) : Draws prog w A it [it, a] items.size (fun i v => items[i]? = some v) (fun i h => ItB b h it a i /\ HeB b h a items) := by
  cases b with
  | true => exact Draws.tuple hh it a hne items
  | false => exact Draws.list hh it a hne items
theorem sqB_heap {X : L2.Cx} {pins : List (Addr × Obj)} {σ : L2.St} {H : Hp} {s : Shared} {vs : List V} (I : Inv X pins σ H s) (q : SqB X.K b H a vs) : ∃ its : List Value, Vals vs its /\ HeB b s.heap a its.toArray := by
  cases b with
  | true => obtain ⟨its, rv, p, _⟩ := I.tuple q; exact ⟨its, rv, p⟩
  | false => obtain ⟨its, rv, p, _⟩ := I.list q; exact ⟨its, rv, p.isList⟩
theorem sqB_inj {X : L2.Cx} {pins : List (Addr × Obj)} {σ : L2.St} {H : Hp} {s : Shared} {vs ws : List V} (I : Inv X pins σ H s) (q : SqB X.K b H a vs) (q2 : SqB X.K b H a ws) : vs = ws := by
  cases b with
  | true => exact I.tuple_inj q q2
  | false => exact I.list_inj q q2
end
def Iten (K : PySem.W.Frag) (b : Bool) (k : Int) (a : Addr) : L2.It :=
  ⟨fun i H => ∃ (xs : List V) (x : V), SqB K b H a xs /\ xs[i]? = some x, fun i H v H' => ∃ T o x, v = .ref T /\ H T = none /\ NwT o /\ H' = upd H T (.frz o (.tup [.int (k + (i : Nat)), x])) /\ ∀ xs, SqB K b H a xs -> xs[i]? = some x, fun i H => ∃ xs : List V, SqB K b H a xs /\ xs.length = i⟩
theorem turn_en {P : Program} {w : World} {K : PySem.W.Frag} {elts : List Expr} {kk : Nat} {tpos : Pos} (bb : Bool) (k : Int) (a e it : Addr) :
    Turn P w K (.Tuple elts kk tpos) (Iten K bb k a) [e, it] e (fun i h => (∃ old, IsEnum h e it (k + (i : Nat)) old) /\ ItB bb h it a i /\ e ≠ it /\ a ≠ it /\ a ≠ e) where
  mem := by simp
  obj := fun i h st b hb => by
    obtain ⟨⟨old, he⟩, hi, _⟩ := st
    have z : b = e ∨ b = it := by simpa using hb
    rcases z with z | z
    · subst z; exact ⟨_, he, fun v q => nomatch q⟩
    · subst z; exact hi.get
  keep := fun i h h' st kp => let ⟨⟨old, he⟩, hi, hne⟩ := st; ⟨⟨old, kp e (by simp) _ he⟩, hi.at fun o q => kp it (by simp) o q, hne⟩
  item := by
    intro X hP hw hK hc i pins s σ H E I hf st hg
    subst hP hw hK
    obtain ⟨⟨old, he⟩, hit, hne, hai, hae⟩ := st
    obtain ⟨xs, x, hq, hx⟩ := hg
    obtain ⟨its, rv, p⟩ := sqB_heap I hq
    obtain ⟨u, hu, ru⟩ := rv.get hx
    have hel : e < s.heap.objs.size := Heap.lt_size he
    have hil : it < s.heap.objs.size := by obtain ⟨_, q, _⟩ := hit.get; exact Heap.lt_size q
    have hlt : i < its.toArray.size := by
      have := (List.getElem?_eq_some_iff.mp hu).1
      simpa using this
    refine wpAny_pyNext_enum_itemC (drawsB bb (show X.A.in1.handled = none from I.ok.hd hc) it a hai its.toArray) he ⟨hit, p⟩ hlt hne (by simp only [List.mem_cons, List.not_mem_nil, or_false, not_or]; exact ⟨hne, fun z => hae z.symm⟩) fun u' h' tk hu' ho hst' hT hsz hk => ?_
    obtain rfl : u' = u := by
      have : its.toArray[i]? = some u := by simpa using hu
      rw [this] at hu'
      exact (Option.some.inj hu').symm
    refine ⟨_, rfl, wpAny_letOwnedTupleGo_enum (s := { s with heap := h', toks := tk + 1 }) ho fun h2 he' sb => ?_⟩
    have hT2 : h2.get? s.heap.objs.size = some { cls := .type "tuple", data := .seq #[.int (k + (i : Nat)) tk, u'] } := (sb.2 _ (Nat.ne_of_gt hel)).trans hT
    have new : ObjOk X.prog X.w (upd H s.heap.objs.size (.frz { cls := .type "tuple", data := .seq #[.int (k + (i : Nat)) tk, u'] } (.tup [.int (k + (i : Nat)), x]))) h2 s.heap.objs.size (.frz { cls := .type "tuple", data := .seq #[.int (k + (i : Nat)) tk, u'] } (.tup [.int (k + (i : Nat)), x])) :=
      ⟨hT2, by show 2 <= sizeLine; decide, [.int (k + (i : Nat)) tk, u'], .cons ⟨_, rfl⟩ (.cons ru .nil), ⟨_, hT2, rfl, _, rfl⟩⟩
    have I1 : Inv X pins σ (upd H s.heap.objs.size (.frz { cls := .type "tuple", data := .seq #[.int (k + (i : Nat)) tk, u'] } (.tup [.int (k + (i : Nat)), x]))) { s with heap := h2, toks := tk + 1 } :=
      I.turnedNew (ch := [e, it]) (fun b ob hb q => (sb.2 b (fun z => hb (by simp [z]))).trans (hk b ob (fun z => hb (by simp [z])) (fun z => hb (by simp [z])) q)) hf (Nat.le_refl _) new
    refine ⟨.ref s.heap.objs.size, _, I1, rfl, ⟨_, _, x, rfl, I.hok.fresh (Nat.le_refl _), ⟨rfl, rfl⟩, rfl, fun ys hy => by rw [sqB_inj I hy hq]; exact hx⟩, ⟨⟨u', ?_⟩, hst'.1.at fun o q => (sb.2 it (Ne.symm hne)).trans q, hne, hai, hae⟩, fun b hb => ?_⟩
    · have e1 : k + ((i + 1 : Nat) : Int) = k + (i : Int) + 1 := by omega
      rw [e1]; exact he'
    · have hb' : b < s.heap.objs.size := by
        have z : b = e ∨ b = it := by simpa using hb
        rcases z with z | z
        · subst z; exact hel
        · subst z; exact hil
      rw [upd_ne (Nat.ne_of_lt hb')]
      exact (hf b hb).1
  done := by
    intro X hP hw hK hc i pins s σ H E I hf st hg
    subst hP hw hK
    obtain ⟨⟨old, he⟩, hit, hne, hai, hae⟩ := st
    obtain ⟨xs, hq, hx⟩ := hg
    obtain ⟨its, rv, p⟩ := sqB_heap I hq
    obtain ⟨f0, f1, f2, f3, f4, f5⟩ := hf it (by simp)
    have hl := rv.length
    refine wpAny_pyNext_enum_endD (drawsB bb (show X.A.in1.handled = none from I.ok.hd hc) it a hai its.toArray) he ⟨?_, p⟩ fun h' eb => ⟨rfl, I.turned (t' := s.toks) (fun b o hb q => eb b o hb q) f0 f1 f3 f4 f5⟩
    have e1 : its.toArray.size = i := by simp; omega
    rw [e1]
    exact hit
  self := fun A i s Q E st h => let ⟨⟨_, he⟩, _⟩ := st; wpAny_pyIter_enum he h
def HoB (b : Bool) (a : Addr) : Obj := match b with
  | true => { cls := .type "tuple_iterator", data := .fields #[.ref a, .int 0 0] }
  | false => { cls := .type "list_iterator", data := .fields #[.ref a, .int 0 0] }
theorem beginsB (b : Bool) (a : Addr) (items : Array Value) : Begins (.ref a) (HoB b a) fun h => HeB b h a items := by
  cases b with
  | true => exact begins_tuple a items
  | false => exact begins_list a items
theorem itB0 {b : Bool} {h : Heap} {it a : Addr} (e : h.get? it = some (HoB b a)) : ItB b h it a 0 := by
  cases b with
  | true => exact ⟨_, e, rfl, rfl⟩
  | false => exact ⟨_, e, rfl, rfl⟩
theorem sqB_lt {X : L2.Cx} {pins : List (Addr × Obj)} {σ : L2.St} {H : Hp} {s : Shared} {b : Bool} {a : Addr} {vs : List V} (I : Inv X pins σ H s) (q : SqB X.K b H a vs) : a < s.heap.objs.size := by
  obtain ⟨its, _, p⟩ := sqB_heap I q
  cases b with
  | true => obtain ⟨_, e, _⟩ := p; exact Heap.lt_size e
  | false => obtain ⟨_, e, _⟩ := p; exact Heap.lt_size e
open Builtin in
theorem meets_en1 {v : Value} {o : Obj} {H : Heap -> Prop} (B : Begins v o H) :
    Meets (Builtin.«enumerate.__new__» ⟨[.type "enumerate", v], []⟩) (fun _ R s => H s.heap /\
      R (.ok (.ret (.ref (s.heap.push o).objs.size))) { s with heap := (s.heap.push o).push { cls := .type "enumerate", data := .fields #[.none, .bool false, .ref s.heap.objs.size, rawInt 0, .none, .none] } }) :=
  .of_wp fun prog w A R s h => by
    obtain ⟨hp, g, d, tk, os⟩ := s
    obtain ⟨h1, h⟩ := h
    have hsub := sub_enumerate
    have begin_ : ∀ {A' : Around} {E : Value -> Shared -> Prop} {Q : Value -> Shared -> Prop}, Q (.ref hp.objs.size) ⟨hp.push o, g, d, tk, os⟩ -> wpAny (model prog w) A' (pyIter v) Q E ⟨hp, g, d, tk, os⟩ :=
      fun q => B.iter prog w _ _ ⟨hp, g, d, tk, os⟩ _ h1 q
    wp_walk using begin_
    refine wpAny_stack_any fun st => wpAny_pure ?_
    split
    · rename_i c _ _ _ _ _
      cases (c == Value.type "enumerate") <;> (wp_walk using begin_; exact ⟨_, rfl, h⟩)
    · wp_walk using begin_
      exact ⟨_, rfl, h⟩
theorem enum_begins1 {prog : Program} {w : World} {A : Around} {E : Value -> Shared -> Prop} {s : Shared} {v : Value} {o : Obj} {H : Heap -> Prop} {Q : Value -> Shared -> Prop} (B : Begins v o H) (h1 : H s.heap)
    (h : ∀ h', IsEnum h' (s.heap.objs.size + 1) s.heap.objs.size 0 .none -> h'.get? s.heap.objs.size = some o -> h'.objs.size = s.heap.objs.size + 2 -> (∀ b o, s.heap.get? b = some o -> h'.get? b = some o) -> Q (.ref (s.heap.objs.size + 1)) { s with heap := h' }) :
    wpAny (model prog w) A (PySem.call (.type "enumerate") [v]) Q E s := by
  refine callType_new F.called_enumerate (by decide) (F.typeCall_enumerate_1 _) (F.newCall_enumerate_1 _) (fun obj => F.args_object_init_2 obj _) F.entry_enumerate_new (meets_en1 B) ⟨h1, ?_⟩
  have hz : (s.heap.push o).objs.size = s.heap.objs.size + 1 := Heap.size_push ..
  show _ /\ _
  rw [hz]
  have he : IsEnum ((s.heap.push o).push { cls := .type "enumerate", data := .fields #[.none, .bool false, .ref s.heap.objs.size, rawInt 0, .none, .none] }) (s.heap.objs.size + 1) s.heap.objs.size 0 .none := by
    have q := Heap.get?_push_size (s.heap.push o) (o := { cls := .type "enumerate", data := .fields #[.none, .bool false, .ref s.heap.objs.size, rawInt 0, .none, .none] }) rfl
    rw [hz] at q; exact q
  exact ⟨⟨_, he, rfl⟩, h _ he (Heap.get?_push_of_some _ (Heap.get?_push_size _ B.free)) (by rw [Heap.size_push, hz]) fun b o x => Heap.get?_push_of_some _ (Heap.get?_push_of_some _ x)⟩
def iEn (K : PySem.W.Frag) (k : Int) (ta : TA) : TI := fun σ H R => ta σ H fun vs H1 => ∃ b a xs, vs = [.ref a] /\ SqB K b H1 a xs /\ R (Iten K b k a) H1
theorem pi_en {X : L2.Cx} {e : Expr} {ta : TA} {p pos tpos : Pos} {elts : List Expr} {kk : Nat} (hg : Gl X "enumerate") (hm : X.mg "enumerate" = none) (ha : PA X [e] ta) (hs : starEach [e] X.env = [(false, eval e X.env)]) :
    PI X (.Tuple elts kk tpos) (.Call (.Name "enumerate" p) [e] [] pos) (iEn X.K 0 ta) := by
  refine ⟨fun pins s σ H R I h => ?_⟩
  refine Call_ (ld_blt I hg hm boot_enumerate (PyProof.Rows.callWith_type1 (thn (ha.run pos pins s σ H _ I h) fun us s1 ⟨vs, H1, I1, r1, q1⟩ => ?_) hs rfl))
  obtain ⟨bb, a, xs, ex, hq, q⟩ := q1
  subst ex
  cases r1 with
  | cons r rr =>
    cases rr
    cases r
    obtain ⟨its, rv, p'⟩ := sqB_heap I1 hq
    have hal := sqB_lt I1 hq
    refine enum_begins1 (beginsB bb a its.toArray) p' fun h' he hit hsz hk => wpAny_pyIter_enum he ?_
    have I2 : Inv X pins σ H1 { s1 with heap := h' } := I1.kept (t' := s1.toks) hk
    refine ⟨s1.heap.objs.size + 1, [s1.heap.objs.size + 1, s1.heap.objs.size], _, _, H1, rfl, I2, turn_en bb 0 a (s1.heap.objs.size + 1) s1.heap.objs.size, ⟨⟨.none, he⟩, itB0 hit, Nat.succ_ne_self _, Nat.ne_of_lt hal, Nat.ne_of_lt (Nat.lt_succ_of_lt hal)⟩, fun b hb => ?_, q⟩
    have z : b = s1.heap.objs.size + 1 ∨ b = s1.heap.objs.size := by simpa using hb
    have hle : s1.heap.objs.size <= b := by
      rcases z with z | z
      · rw [z]; exact Nat.le_add_right _ _
      · rw [z]; exact Nat.le_refl _
    exact I1.fpOk hle (I1.hok.fresh hle)
end Fs
namespace Fs
open PySem L2 PyProof.Rows PySem.Spec
structure FolS (Z : Wc) (t : Src) (b : Bool) (a : Addr) (I : Nat -> List Addr -> Hp -> List Addr -> Prop) : Prop where
  there : ∀ {i ρ H F}, I i ρ H F -> ∀ a ∈ F, H a ≠ none
  stay : ∀ {i ρ H F ρ' H'}, (∀ (l : Nat) (a : Addr), ρ[l]? = some a -> ρ'[l]? = some a) -> (∀ a o, H a = some o -> HCell o = false -> H' a = some o) -> (∀ a ∈ F, ∀ o, H a = some o -> H' a = some o) -> I i ρ H F -> I i ρ' H' F
  stop : ∀ {i ρ st H F}, SR Z ρ st H -> I i ρ H F -> t.at i st = some none -> t.len st = i -> ∃ vs, SqB Z.K b H a vs /\ vs.length = i
  item : ∀ {i ρ st H F d}, SR Z ρ st H -> I i ρ H F -> t.at i st = some (some d) -> ∃ vs x, SqB Z.K b H a vs /\ vs[i]? = some x /\ ∃ F1 F2, (F1 ++ F2).Perm F /\ Rp Z ρ H d x F1 /\ I (i + 1) ρ H F2
section
variable {Z : Wc}
theorem fs_tup {xs : List D} (a : Addr) : FolS Z (.items xs) true a (fun i ρ H F => ∃ vs, SqT Z.K H a vs /\ vs.length = xs.length /\ Rps Z ρ H (xs.drop i) (vs.drop i) F) where
  there := fun ⟨vs, _, _, r⟩ => r.there
  stay := fun hr ht hk ⟨vs, h, l, r⟩ => ⟨vs, SqT.stay ht h, l, r.stay hr ht hk⟩
  stop := fun {i ρ st H F} s ⟨vs, h, l, r⟩ e e2 => ⟨vs, h, by rw [l]; exact e2⟩
  item := fun {i ρ st H F d} s ⟨vs, h, l, r⟩ e => by
    simp only [Src.at, Option.some.injEq] at e
    obtain ⟨x, F1, F2, hx, rfl, r1, r2⟩ := rps_turn e r
    exact ⟨vs, x, h, hx, F1, F2, .refl _, r1, vs, h, l, r2⟩
theorem fs_lst {xs : List D} (a : Addr) : FolS Z (.items xs) false a (fun i ρ H F => ∃ vs G, H a = some (.lst vs) /\ vs.length = xs.length /\ Rps Z ρ H (xs.drop i) (vs.drop i) G /\ F = a :: G) where
  there := fun ⟨vs, G, h, _, r, f⟩ b hb => by
    subst f
    rcases List.mem_cons.mp hb with rfl | hb
    · rw [h]; exact nofun
    · exact r.there b hb
  stay := fun hr ht hk ⟨vs, G, h, l, r, f⟩ => by
    subst f
    exact ⟨vs, G, hk a List.mem_cons_self _ h, l, r.stay hr ht (fun b hb => hk b (List.mem_cons_of_mem _ hb)), rfl⟩
  stop := fun {i ρ st H F} s ⟨vs, G, h, l, r, f⟩ e e2 => ⟨vs, SqL.of h, by rw [l]; exact e2⟩
  item := fun {i ρ st H F d} s ⟨vs, G, h, l, r, f⟩ e => by
    simp only [Src.at, Option.some.injEq] at e
    obtain ⟨x, F1, F2, hx, rfl, r1, r2⟩ := rps_turn e r
    subst f
    exact ⟨vs, x, SqL.of h, hx, F1, a :: F2, List.perm_middle, r1, vs, F2, h, l, r2, rfl⟩
theorem fs_cell {l : Nat} (a : Addr) : FolS Z (.cell l) false a (fun i ρ H F => ρ[l]? = some a /\ F = []) where
  there := fun ⟨_, f⟩ b hb => by rw [f] at hb; cases hb
  stay := fun hr _ _ ⟨h, f⟩ => ⟨hr l a h, f⟩
  stop := fun {i ρ st H F} s ⟨h, f⟩ e e2 => by
    obtain ⟨xs, hc, hx⟩ := src_cell e
    obtain ⟨vs, hv, r⟩ := s.list h hc
    refine ⟨vs, hv, ?_⟩
    rw [<- r.length, <- e2]
    rcases hc with hc | hc <;> simp [Src.len, hc]
  item := fun {i ρ st H F d} s ⟨h, f⟩ e => by
    obtain ⟨xs, hc, hx⟩ := src_cell e
    obtain ⟨vs, hv, r⟩ := s.list h hc
    obtain ⟨x, G, ex, rx, hG⟩ := r.get hx
    obtain rfl : G = [] := List.sublist_nil.mp hG
    exact ⟨vs, x, hv, ex, [], [], by rw [f]; exact .refl _, rx, h, rfl⟩
theorem stay_new {H : Hp} {T : Addr} {o : HO} (hT : H T = none) : ∀ a u, H a = some u -> upd H T o a = some u := fun a u e => by
  rw [upd_ne (fun z => by rw [z, hT] at e; cases e)]; exact e
theorem fol_en {s : Src} {b : Bool} {a : Addr} {I : Nat -> List Addr -> Hp -> List Addr -> Prop} (k : Int) (f : FolS Z s b a I) : Fol Z (.enum k s) (Iten Z.K b k a) I where
  there := f.there
  stay := f.stay
  stop := fun {i ρ st H F} sr hI e => by
    simp only [It.next] at e
    split at e
    · cases e
    · rename_i h1
      split at e
      · rename_i h2
        obtain ⟨vs, h, l⟩ := f.stop sr hI h1 h2
        exact ⟨vs, h, l⟩
      · cases e
    · cases e
  item := fun {i ρ st H F d} sr hI e => by
    simp only [It.next] at e
    split at e
    · rename_i d' h1
      cases e
      obtain ⟨vs, x, h, hx, F1, F2, pm, r, hI2⟩ := f.item sr hI h1
      refine ⟨⟨vs, x, h, hx⟩, ?_⟩
      rintro y H' ⟨T, o, x', rfl, hT, ho, rfl, hall⟩
      have := hall vs h
      rw [hx] at this
      cases this
      have st := stay_new (o := .frz o (.tup [.int (k + (i : Nat)), x])) hT
      refine ⟨.inr ⟨T, o, _, hT, ho, rfl⟩, F1, F2, pm, ⟨T, _, rfl, SqX.of upd_same ho, ?_⟩, f.stay (fun _ _ e => e) (fun a o e _ => st a o e) (fun a _ o e => st a o e) hI2⟩
      exact ⟨_, _, [], F1, rfl, ⟨rfl, rfl⟩, ⟨x, [], F1, [], rfl, rp_up hT r, ⟨rfl, rfl⟩, by simp⟩, by simp⟩
    · split at e <;> cases e
    · cases e
theorem src_ok {d : D} {s : Src} {x : V} {ρ : List Addr} {H : Hp} {F : List Addr} {st st' : Sto} (sr : SR Z ρ st H) (r : Rp Z ρ H d x F) (e : srcOf d st = .ok s st') : st' = st /\ ∃ b a I vs, x = .ref a /\ FolS Z s b a I /\ SqB Z.K b H a vs /\ I 0 ρ H F := by
  cases d with
  | tup xs =>
    cases e
    obtain ⟨a, vs, rfl, h, rs⟩ := r
    exact ⟨rfl, true, a, _, vs, rfl, fs_tup a, h.t, vs, h.t, rs.length.symm, by simpa using rs⟩
  | lst xs =>
    cases e
    obtain ⟨a, vs, G, rfl, h, rs, f⟩ := r
    exact ⟨rfl, false, a, _, vs, rfl, fs_lst a, SqL.of h, vs, G, h, rs.length.symm, by simpa using rs, f⟩
  | ref l =>
    obtain ⟨a, hl, rfl, f⟩ := r
    simp only [srcOf] at e
    split at e
    · rename_i xs hc
      cases e
      obtain ⟨vs, hv, rs⟩ := sr.list hl (.inl hc)
      exact ⟨rfl, false, a, _, vs, rfl, fs_cell a, hv, hl, f⟩
    · rename_i xs hc
      cases e
      obtain ⟨vs, hv, rs⟩ := sr.list hl (.inr hc)
      exact ⟨rfl, false, a, _, vs, rfl, fs_cell a, hv, hl, f⟩
    · cases e
  | _ => cases e
end
section
variable {X : L2.Cx} {T : Tbl} {Z : Wc} {W : WX} {pos p tpos : Pos} {e : Expr} {A : Ex} {elts : List Expr} {kk : Nat}
theorem si_en (hK : X.K = Z.K) (hg : Gl X "enumerate") (hm : X.mg "enumerate" = none) (ha : PE X e (iE T Z W A)) (hs : starEach [e] X.env = [(false, eval e X.env)]) : PI X (.Tuple elts kk tpos) (.Call (.Name "enumerate" p) [e] [] pos) (iI T Z W (.enum A 0)) := by
  have w := pi_en (p := p) (pos := pos) (elts := elts) (kk := kk) (tpos := tpos) hg hm (pa_cons ha pa_nil hs) hs
  refine ⟨fun pins s σ H R I h => w.run pins s σ H R I ?_⟩
  obtain ⟨ρ, env, st, er, sr, h⟩ := h
  simp only [evI] at h
  refine ⟨ρ, env, st, er, sr, (Post.seq rpOk (Now.start sr) sr h).mono ?_⟩
  rintro x H1 ⟨ρ1, d, st1, F1, n1, t1, r1, h1⟩
  cases e1 : srcOf d st1 with
  | exc _ _ => simp [srcOf] at e1; split at e1 <;> first | cases e1 | (split at e1 <;> cases e1)
  | bad => unfold bnd at h1; rw [e1] at h1; exact h1.elim
  | ok s2 st2 =>
    obtain ⟨rfl, b, a, I2, vs, rfl, f, hv, hI⟩ := src_ok n1.sr r1 e1
    unfold bnd at h1
    rw [e1] at h1
    refine ⟨b, a, vs, rfl, by rw [hK]; exact hv, ?_⟩
    rw [hK]
    exact Post.ret h1 n1 ⟨I2, fol_en 0 f, by simpa using hI⟩
end
end Fs
namespace Fs
open PySem L2 PyProof.Rows PySem.Spec
theorem dput_keys {k : Ky} {v : D} : ∀ {kvs : List (Ky × D)} {j : Ky}, j ∈ (dput k v kvs).map (·.1) -> j = k ∨ j ∈ kvs.map (·.1)
  | [], j, h => by simp [dput] at h; exact .inl h
  | (q, x) :: r, j, h => by
    simp only [dput] at h
    split at h
    · exact .inr (by simpa using h)
    · simp only [List.map_cons, List.mem_cons] at h ⊢
      rcases h with h | h
      · exact .inr (.inl h)
      · rcases dput_keys h with h | h
        · exact .inl h
        · exact .inr (.inr h)
theorem dput_nodup {k : Ky} {v : D} : ∀ {kvs : List (Ky × D)}, (kvs.map (·.1)).Nodup -> ((dput k v kvs).map (·.1)).Nodup
  | [], _ => by simp [dput]
  | (q, x) :: r, h => by
    have h' := List.nodup_cons.mp (show (q :: r.map (·.1)).Nodup from h)
    simp only [dput]
    split
    · exact h
    · rename_i hq
      refine List.nodup_cons.mpr ⟨fun z => ?_, dput_nodup h'.2⟩
      rcases dput_keys z with e | e
      · exact hq e
      · exact h'.1 e
section
variable {X : L2.Cx} {T : Tbl} {Z : Wc} {W : WX} {pos p : Pos} {tg e c : Expr} {A B : Ex}
theorem dc_ok {own : List Nat} {it : Ix} {t : Tg} {ifs : List Cn} {A B : Ex} (hsub : ∀ i ∈ tgN t, i ∈ own) {σ : L2.St} {H : Hp} {Q : VK} (h : iE T Z W (.dc own it t ifs A B) σ H Q) :
    tDc (iI T Z W it) (iG T Z t) (iTs T Z WF ifs) (iE T Z WF A) (iE T Z WF B) own σ H Q := by
  obtain ⟨ρ, env, st, er, sr, h⟩ := h
  simp only [ev] at h
  refine ⟨ρ, env, st, er, sr, (Post.seq relI_ok (Now.start sr) sr h).mono ?_⟩
  rintro J H1 ⟨ρ1, w, st1, G, n1, t1, ⟨I, fol, hI⟩, h1⟩ D hD
  have up : ∀ a u, H1 a = some u -> upd H1 D (.dK []) a = some u := fun a u e => by rw [upd_ne (fun z => by rw [z, hD] at e; cases e)]; exact e
  generalize hturn : (fun d => bnd (asgT T t d (Fs.wipe env own)) fun σ' => bnd (evTs T ifs σ') fun b => match b with
        | true => bnd (ev T A σ') fun x => bnd (ev T B σ') fun y => opt (keyOf x) fun q => ret (some (q, y))
        | false => ret none : Fs.D -> Sto -> R (Option (Ky × Fs.D))) = turn at h1
  refine ⟨fun i m H' => ∃ ρ' st' Fi ys vs, Now Z ρ H ρ' st' H' (D :: Fi) /\ H' D = some (.dK vs) /\ RpK Z ρ' H' ys vs [] /\ (ys.map (·.1)).Nodup /\ I i ρ' H' Fi /\ Post (Rp Z) Z W (bnd (dcLoop w turn m i ys) (fun ys => ret (.dic ys)) st') ρ σ H Q,
    ⟨w.len st1 + 1, ρ1, st1, G, [], [], n1.new sr hD, upd_same, ⟨rfl, rfl⟩, List.nodup_nil, fol.stay (fun _ _ e => e) (fun a u e _ => up a u e) (fun a _ u e => up a u e) hI, h1⟩, ?_⟩
  rintro i m H' ⟨ρ', st', Fi, ys, vs, n, hDv, rys, hnd, hI', h'⟩
  cases m with
  | zero => exact h'.elim
  | succ m =>
    unfold bnd at h'
    simp only [dcLoop] at h'
    cases e1 : w.next i st' with
    | none => rw [e1] at h'; exact h'.elim
    | some o => cases o with
      | none =>
        rw [e1] at h'
        refine .inl ⟨fol.stop n.sr hI' e1, ?_⟩
        exact Post.ok h' (n.less (List.cons_sublist_cons.mpr (List.nil_sublist _))) ⟨D, [], rfl, rfl, .inl ⟨vs, hDv, rys⟩⟩
      | some d =>
        rw [e1] at h'
        simp only at h'
        obtain ⟨hgo, hy⟩ := fol.item n.sr hI' e1
        refine .inr ⟨hgo, fun H2 => ∃ ρ' st' Fi ys vs, Now Z ρ H ρ' st' H2 (D :: Fi) /\ H2 D = some (.dK vs) /\ RpK Z ρ' H2 ys vs [] /\ (ys.map (·.1)).Nodup /\ I (i + 1) ρ' H2 Fi /\ Post (Rp Z) Z W (bnd (dcLoop w turn m (i + 1) ys) (fun ys => ret (.dic ys)) st') ρ σ H Q,
          fun H2 hN => ⟨m, Nat.lt_succ_self m, hN⟩, fun x Hx hyl => ?_⟩
        obtain ⟨hH, F1, F2, hperm, rx, hI2⟩ := hy x Hx hyl
        have perm : (F1 ++ (D :: F2)).Perm (D :: Fi) := by
          exact (List.perm_middle).trans (List.Perm.cons D hperm)
        obtain ⟨nx, erx⟩ := (n.perm perm).tupd sr hH
        have stx : (∀ a u, H' a = some u -> Hx a = some u) := by
          rcases hH with rfl | ⟨T0, o0, vs0, hT, _, rfl⟩
          · exact fun a u e => e
          · exact fun a u e => by rw [upd_ne (fun z => by rw [z, hT] at e; cases e)]; exact e
        have rysx : RpK Z ρ' Hx ys vs [] := rys.stay (fun _ _ e => e) (fun a u e _ => stx a u e) (fun a _ u e => stx a u e)
        refine ⟨ρ', Fs.wipe env own, st', d, F1, (nx.less (List.sublist_append_left _ _)).hand, (erx (n.stp.env sr er)).wipe own, rx, ?_⟩
        have et : turn d st' = bnd (asgT T t d (Fs.wipe env own)) (fun σ' => bnd (evTs T ifs σ') fun b => match b with
            | true => bnd (ev T A σ') fun x => bnd (ev T B σ') fun y => opt (keyOf x) fun q => ret (some (q, y))
            | false => ret none) st' := by rw [<- hturn]
        rw [et] at h'
        simp only [bnd] at h'
        cases e2 : asgT T t d (Fs.wipe env own) st' with
        | exc _ _ => simp only [e2] at h'; exact h'.elim
        | bad => simp only [e2] at h'; exact h'.elim
        | ok env3 st3 =>
          simp only [e2] at h'
          intro ρ3 H3 σ3 t3 sr3 er3 m3
          have n3 := nx.landR sr t3 sr3
          obtain ⟨k1, k2, k3⟩ := t3.kept nx.hand rx.hcells
          refine ⟨wipe_sm m3 hsub, ρ3, env3, st3, er3, sr3, ?_⟩
          cases e3 : evTs T ifs env3 st3 with
          | exc _ _ => simp only [e3] at h'; exact h'.elim
          | bad => simp only [e3] at h'; exact h'.elim
          | ok b st4 =>
            simp only [e3] at h'
            rintro ρ4 H4 bb F t4 sr4 ⟨rfl, rfl⟩
            have n4 := n3.more sr t4 sr4 (by simp)
            rw [List.append_nil] at n4
            obtain ⟨q1, q2, q3⟩ := t4.kept sr3 n3.out
            have hD4 : H4 D = some (.dK vs) := q3 D List.mem_cons_self _ (k3 D List.mem_cons_self _ (stx _ _ hDv))
            have rys4 : RpK Z ρ4 H4 ys vs [] := (rysx.stay k1 k2 (by simp)).stay q1 q2 (by simp)
            have hI4 : I (i + 1) ρ4 H4 F2 := fol.stay q1 q2 (fun a ha => q3 a (List.mem_cons_of_mem _ ha)) (fol.stay k1 k2 (fun a ha => k3 a (List.mem_cons_of_mem _ ha)) hI2)
            cases b with
            | false =>
              simp only [ret] at h'
              exact ⟨ρ4, st4, F2, ys, vs, n4, hD4, rys4, hnd, hI4, h'⟩
            | true =>
              refine ⟨ρ4, env3, st4, t4.env sr3 er3, sr4, ?_⟩
              cases e4 : ev T A env3 st4 with
              | exc _ _ => simp only [bnd, e4, ret, opt] at h'; exact h'.elim
              | bad => simp only [bnd, e4, ret, opt] at h'; exact h'.elim
              | ok kd st5 =>
                simp only [bnd, e4, ret, opt] at h'
                intro ρ5 H5 kv G5 t5 sr5 r5
                refine ⟨ρ5, env3, st5, t5.env sr4 (t4.env sr3 er3), sr5, ?_⟩
                have n5 := n4.more sr t5 sr5 r5.there
                obtain ⟨u1, u2, u3⟩ := t5.kept sr4 n4.out
                cases e5 : ev T B env3 st5 with
                | exc _ _ => simp only [e5] at h'; exact h'.elim
                | bad => simp only [e5] at h'; exact h'.elim
                | ok y st6 =>
                  simp only [e5] at h'
                  intro ρ6 H6 v G6 t6 sr6 r6
                  have n6 := n5.more sr t6 sr6 r6.there
                  obtain ⟨w1, w2, w3⟩ := t6.kept sr5 n5.out
                  cases hq : keyOf kd with
                  | none => simp only [hq, bad] at h'; exact h'.elim
                  | some q =>
                    simp only [hq, ret] at h'
                    by_cases hz : ys.length < sizeLine /\ okKeys q ys = true /\ Fs.D.pur y = true
                    · rw [if_pos hz] at h'
                      obtain ⟨k, rfl, rfl, rfl⟩ := key_ok r5 hq
                      obtain rfl := r6.pure hz.2.2
                      have hD6 := w3 D (List.mem_append_left _ List.mem_cons_self) _ (u3 D List.mem_cons_self _ hD4)
                      have rys6 : RpK Z ρ6 H6 ys vs [] := (rys4.stay u1 u2 (by simp)).stay w1 w2 (by simp)
                      obtain ⟨G, rp, hs⟩ := dput_ok (k := k) r6 hnd rys6
                      obtain rfl := List.sublist_nil.mp hs
                      have hlen : ys.length = vs.length := by simpa using congrArg List.length rys6.keysEq
                      have n6' : Now Z ρ H ρ6 st6 H6 (D :: F2) := by simpa using n6
                      have nd6 := n6'.nd
                      simp only [List.nodup_cons] at nd6
                      refine ⟨vs, k, rfl, hD6, by rw [<- hlen]; exact hz.1, ρ6, st6, F2, _, _, n6'.updF sr List.mem_cons_self hD6 rfl, upd_same, RpK.stay (fun _ _ e => e) (upd_keep hD6 rfl) (by simp) rp, dput_nodup hnd, ?_, h'⟩
                      exact fol.stay (fun _ _ e => e) (upd_keep hD6 rfl) (upd_off nd6.1) (fol.stay w1 w2 (fun a ha => w3 a (List.mem_append_left _ (List.mem_cons_of_mem _ ha))) (fol.stay u1 u2 (fun a ha => u3 a (List.mem_cons_of_mem _ ha)) hI4))
                    · rw [if_neg hz] at h'; exact h'.elim
theorem se_dc {kx vx iter : Expr} {ifs : List Expr} {scope : Scope} {own : List (Str × Nat)} {it : Ix} {t : Tg} {Cs : List Cn} (hc : X.calm = true) (hN : X.N.Nodup) (ok : blkC X.N X.env.scope scope own = true) (hsub : (tgN t).all ((own.map (·.2)).contains ·) = true)
    (hi : PI X tg iter (iI T Z W it)) (hg : ∀ (s : Shared) (H : Hp) (C : Addr) (cl : List (Str × Addr)) (fp : List Addr), PG (X.blk s H scope (compEnvC scope cl C X.env) fp) tg (iG T Z t))
    (ht : ∀ (s : Shared) (H : Hp) (C : Addr) (cl : List (Str × Addr)) (fp : List Addr), PTs (X.blk s H scope (compEnvC scope cl C X.env) fp) ifs (iTs T Z WF Cs))
    (hk : ∀ (s : Shared) (H : Hp) (C : Addr) (cl : List (Str × Addr)) (fp : List Addr), PE (X.blk s H scope (compEnvC scope cl C X.env) fp) kx (iE T Z WF A))
    (he : ∀ (s : Shared) (H : Hp) (C : Addr) (cl : List (Str × Addr)) (fp : List Addr), PE (X.blk s H scope (compEnvC scope cl C X.env) fp) vx (iE T Z WF B)) (hs : ∀ x, foldedSetIterable iter X.env x = pure x := by intro _; rfl) :
    PE X (.DictComp kx vx [⟨tg, iter, ifs, 0⟩] scope pos) (iE T Z W (.dc (own.map (·.2)) it t Cs A B)) :=
  pe_weak (pe_dc hc hN hi (blkOk_by ok) hg ht hk he hs) fun σ H Q h => dc_ok (subN hsub) h
theorem se_dct0 : PE X (.Dict [] [] pos) (iE T Z W (.dct [])) :=
  pe_weak pe_dnewK fun σ H Q ⟨ρ, env, st, er, sr, h⟩ p hp => by
    simp only [ev, evkv, bnd, ret, gd] at h
    exact Post.ok h ((Now.start sr).new sr hp) ⟨p, [], rfl, rfl, .inl ⟨[], upd_same, ⟨rfl, rfl⟩⟩⟩
end
end Fs
namespace Fs
open PySem L2 PyProof.Rows PySem.Spec
section
variable {X : L2.Cx} {T : Tbl} {Z : Wc} {W : WX} {pos pt px py pz pt2 : Pos} {a b c : Expr} {A B C : Ex} {x y z : Str} {i j l kt k2 : Nat}
theorem par_pre {ts : List Tg} {As : List Ex} {Dn : Ends} {σ : L2.St} {H : Hp} (h : iS T Z W (.asg (.tup ts) (.tup As)) Dn σ H) :
    iEs T Z W As σ H (fun vs H1 => ∃ ρ1 st1 env ds F, Hand Z ρ1 st1 H1 F /\ ER Z ρ1 H1 env σ /\ Rps Z ρ1 H1 ds vs F /\ ∃ env' st', asgTs T ts ds env st1 = .ok env' st' /\ ∀ ρ' H' σ', StpF ρ1 H1 F ρ' H' -> SR Z ρ' st' H' -> ER Z ρ' H' env' σ' -> Dn.nx σ' H') := by
  obtain ⟨ρ, env, st, er, sr, h⟩ := h
  simp only [exS, ev] at h
  refine ⟨ρ, env, st, er, sr, ?_⟩
  have h' : PostS Z W (lft env (evs T As env) (fun ds => fun s => lft env (gd (decide (ds.length <= sizeLine)) (ret (.tup ds))) (fun x => bnd (noX (asgT T (.tup ts) x env)) fun σ' => ret (.nx σ')) s) st) ρ H Dn := by
    unfold lft bnd at h ⊢
    cases e : evs T As env st <;> simp only [e] at h ⊢ <;> exact h
  refine (PostS.lft rpsOk (Now.start sr) sr er h').mono ?_
  rintro vs H1 ⟨ρ1, ds, st1, G, n, t, er1, r, h1⟩
  cases hz : decide (ds.length <= sizeLine) with
  | false => simp only [hz, gd, lft, bad] at h1; exact h1.elim
  | true =>
    simp only [hz, gd, lft, ret, bnd, noX, asgT, ofTup] at h1
    cases e1 : asgTs T ts ds env st1 with
    | exc _ _ => rw [e1] at h1; exact h1.elim
    | bad => rw [e1] at h1; exact h1.elim
    | ok env' st' =>
      rw [e1] at h1
      have n' : Now Z ρ H ρ1 st1 H1 G := n
      exact ⟨ρ1, st1, env, ds, G, n'.hand, er1, r, env', st', e1, fun ρ' H' σ' t2 sr2 er2 => h1 ρ' H' σ' (n'.land sr t2) sr2 er2⟩
theorem asg2 {ds : List D} {env env' : Env} {st st' : Sto} {ρ : List Addr} {H : Hp} {σ : L2.St} {vs : List V} {F : List Addr} (hd : Hand Z ρ st H F) (er : ER Z ρ H env σ) (r : Rps Z ρ H ds vs F) (e : asgTs T [.nm i, .nm j] ds env st = .ok env' st') :
    ∃ v w N, vs = [v, w] /\ N.Perm F /\ SR Z (ρ ++ N) st' H /\ ER Z (ρ ++ N) H env' ((σ.set i (some v)).set j (some w)) := by
  match ds, r, e with
  | [], _, e => cases e
  | [_], _, e => simp only [asgTs, asgT, bnd, landM, ret] at e; cases e
  | [d1, d2], r, e =>
    obtain ⟨N, pm, s', q⟩ := lands_ok _ hd.sr r hd.out hd.nd
    simp only [lands] at s' q
    simp only [asgTs, asgT, bnd, landM, ret] at e
    cases e
    obtain ⟨v, ws, F1, F2, rfl, q1, q2, f⟩ := q
    obtain ⟨w, ws2, F3, F4, rfl, q3, ⟨rfl, rfl⟩, f2⟩ := q2
    obtain ⟨rfl, rfl⟩ := List.append_eq_nil_iff.mp f.symm
    obtain ⟨rfl, _⟩ := List.append_eq_nil_iff.mp f2.symm
    have er' : ER Z (ρ ++ N) H env σ := ⟨er.1, fun k x hx => let ⟨u, h1, h2⟩ := er.2 k x hx; ⟨u, h1, h2.wide⟩⟩
    exact ⟨v, w, N, rfl, pm, s', (er'.set q1).set q3⟩
  | _ :: _ :: _ :: _, _, e => simp only [asgTs, asgT, bnd, landM, ret] at e; cases e
theorem asg3 {ds : List D} {env env' : Env} {st st' : Sto} {ρ : List Addr} {H : Hp} {σ : L2.St} {vs : List V} {F : List Addr} (hd : Hand Z ρ st H F) (er : ER Z ρ H env σ) (r : Rps Z ρ H ds vs F) (e : asgTs T [.nm i, .nm j, .nm l] ds env st = .ok env' st') :
    ∃ u v w N, vs = [u, v, w] /\ N.Perm F /\ SR Z (ρ ++ N) st' H /\ ER Z (ρ ++ N) H env' (((σ.set i (some u)).set j (some v)).set l (some w)) := by
  match ds, r, e with
  | [], _, e => cases e
  | [_], _, e => simp only [asgTs, asgT, bnd, landM, ret] at e; cases e
  | [_, _], _, e => simp only [asgTs, asgT, bnd, landM, ret] at e; cases e
  | [d1, d2, d3], r, e =>
    obtain ⟨N, pm, s', q⟩ := lands_ok _ hd.sr r hd.out hd.nd
    simp only [lands] at s' q
    simp only [asgTs, asgT, bnd, landM, ret] at e
    cases e
    obtain ⟨v, ws, F1, F2, rfl, q1, q2, f⟩ := q
    obtain ⟨w, ws2, F3, F4, rfl, q3, q4, f2⟩ := q2
    obtain ⟨w3, ws3, F5, F6, rfl, q5, ⟨rfl, rfl⟩, f3⟩ := q4
    obtain ⟨rfl, rfl⟩ := List.append_eq_nil_iff.mp f.symm
    obtain ⟨rfl, rfl⟩ := List.append_eq_nil_iff.mp f2.symm
    obtain ⟨rfl, _⟩ := List.append_eq_nil_iff.mp f3.symm
    have er' : ER Z (ρ ++ N) H env σ := ⟨er.1, fun k x hx => let ⟨u, h1, h2⟩ := er.2 k x hx; ⟨u, h1, h2.wide⟩⟩
    exact ⟨v, w, w3, N, rfl, pm, s', ((er'.set q1).set q3).set q5⟩
  | _ :: _ :: _ :: _ :: _, _, e => simp only [asgTs, asgT, bnd, landM, ret] at e; cases e
theorem ss_par2 (hc : X.calm = true) (hN : X.N.Nodup) (hi : X.N[i]? = some x) (hj : X.N[j]? = some y) (hij : i ≠ j)
    (hx : X.env.scope.names.lookup x = some .local) (hy : X.env.scope.names.lookup y = some .local) (ha : PA X [a, b] (iEs T Z W [A, B]))
    (hw : swappedStores [.Tuple [.Name x px, .Name y py] kt pt] (.Tuple [a, b] k2 pt2) X.env = pure (some [x, y]))
    (hs : swapsWithSole [.Tuple [.Name x px, .Name y py] kt pt] (.Tuple [a, b] k2 pt2) pos.line X.env = pure false := by rfl) :
    PS X (.Assign [.Tuple [.Name x px, .Name y py] kt pt] (.Tuple [a, b] k2 pt2) pos) (iS T Z W (.asg (.tup [.nm i, .nm j]) (.tup [A, B]))) :=
  ps_weak (ps_par hc hN hi hj hij hx hy ha hw hs) fun Dn σ H h => by
    obtain ⟨ρ, env, st, er, sr, q⟩ := par_pre h
    refine ⟨ρ, env, st, er, sr, q.mono ?_⟩
    rintro vs H1 ⟨ρ1, st1, env1, ds, F, hd, er1, r, env', st', e, q1⟩
    obtain ⟨v, w, N, rfl, pm, s', er2⟩ := asg2 hd er1 r e
    exact ⟨v, w, rfl, q1 _ _ _ ⟨N, rfl, pm.nodup_iff.mpr hd.nd, fun b hb => .inl (pm.mem_iff.mp hb), fun _ _ e _ _ => e⟩ s' er2⟩
theorem ss_par3 (hc : X.calm = true) (hN : X.N.Nodup) (hi : X.N[i]? = some x) (hj : X.N[j]? = some y) (hl : X.N[l]? = some z) (hij : i ≠ j) (hil : i ≠ l) (hjl : j ≠ l)
    (hx : X.env.scope.names.lookup x = some .local) (hy : X.env.scope.names.lookup y = some .local) (hz : X.env.scope.names.lookup z = some .local) (ha : PA X [a, b, c] (iEs T Z W [A, B, C]))
    (hw : swappedStores [.Tuple [.Name x px, .Name y py, .Name z pz] kt pt] (.Tuple [a, b, c] k2 pt2) X.env = pure (some [x, y, z]))
    (hs : swapsWithSole [.Tuple [.Name x px, .Name y py, .Name z pz] kt pt] (.Tuple [a, b, c] k2 pt2) pos.line X.env = pure false := by rfl) :
    PS X (.Assign [.Tuple [.Name x px, .Name y py, .Name z pz] kt pt] (.Tuple [a, b, c] k2 pt2) pos) (iS T Z W (.asg (.tup [.nm i, .nm j, .nm l]) (.tup [A, B, C]))) :=
  ps_weak (ps_par3 hc hN hi hj hl hij hil hjl hx hy hz ha hw hs) fun Dn σ H h => by
    obtain ⟨ρ, env, st, er, sr, q⟩ := par_pre h
    refine ⟨ρ, env, st, er, sr, q.mono ?_⟩
    rintro vs H1 ⟨ρ1, st1, env1, ds, F, hd, er1, r, env', st', e, q1⟩
    obtain ⟨u, v, w, N, rfl, pm, s', er2⟩ := asg3 hd er1 r e
    exact ⟨u, v, w, rfl, q1 _ _ _ ⟨N, rfl, pm.nodup_iff.mpr hd.nd, fun b hb => .inl (pm.mem_iff.mp hb), fun _ _ e _ _ => e⟩ s' er2⟩
end
end Fs
namespace Fs
open PySem L2 PyProof.Rows PySem.Spec
section
variable {Z : Wc}
theorem er_start {ρ : List Addr} {H : Hp} {ds : List D} {vs : List V} (r : Rps Z ρ H ds vs []) (m : Nat) : ER Z ρ H (ds.map some ++ List.replicate m none) (vs.map some ++ List.replicate m none) := by
  refine ⟨by simp [r.length], fun i d h => ?_⟩
  by_cases hi : i < ds.length
  · rw [List.getElem?_append_left (by simpa using hi), List.getElem?_map] at h
    cases hd : ds[i]? with
    | none => rw [hd] at h; cases h
    | some d' =>
      rw [hd] at h
      cases h
      obtain ⟨v, G, hv, rv, sub⟩ := r.get hd
      obtain rfl := List.sublist_nil.mp sub
      refine ⟨v, ?_, rv⟩
      rw [List.getElem?_append_left (by simp [<- r.length]; exact hi), List.getElem?_map, hv]
      rfl
  · rw [List.getElem?_append_right (by simpa using Nat.le_of_not_lt hi), List.getElem?_replicate] at h
    split at h <;> cases h
theorem enter_ok {P : Pr} {n i : Nat} {F : Fn} {N : List Str} {vs : List V} {H : Hp} {Q : VK} {E : XK} (hF : P.fns i = some F) (hN : N.length = F.ns) (h : spI Z (call P (n + 1) i) F.np vs H Q E) :
    iL (P.tbl n) Z (fun cls dx _ H' => E cls dx H') F.body { nx := fun _ H' => Q .non H', rt := Q } (start N vs) H := by
  obtain ⟨hl, ρ0, st0, H0, ρ, st, ds, FF, sr0, n0, r, h⟩ := h
  have hd : ds.length = F.np := by rw [r.length, hl]
  rw [call_succ] at h
  unfold runF at h
  simp only [hF, hd, decide_true] at h
  obtain ⟨M, pm, s1, r1⟩ := lands_ok ds n0.sr r n0.out n0.nd
  have n0' : Now Z ρ0 H0 ρ st H ([] ++ FF) := n0
  have n1 := n0'.landed pm s1
  refine ⟨ρ ++ M, (lands ds st).1.map some ++ List.replicate (F.ns - F.np) none, (lands ds st).2, ?_, s1, ?_⟩
  · have := er_start r1 (F.ns - F.np)
    unfold L2.start
    rw [hN, hl]
    exact this
  · have tk : ∀ ρ', (∃ K, ρ' = (ρ ++ M) ++ K) -> ρ'.take st.length = ρ := by
      rintro ρ' ⟨K, rfl⟩
      rw [<- n0.sr.len, List.append_assoc]
      simp
    show PostS Z _ (exL (P.tbl n) F.body _ _) _ _ _
    cases e : exL (P.tbl n) F.body ((lands ds st).1.map some ++ List.replicate (F.ns - F.np) none) (lands ds st).2 with
    | exc _ _ => rw [e] at h; exact h.elim
    | bad => rw [e] at h; exact h.elim
    | ok f s' =>
      rw [e] at h
      cases f with
      | br _ => exact h.elim
      | ct _ => exact h.elim
      | rt d =>
        intro ρ' H' v G t sr r'
        have n2 : Now Z ρ0 H0 ρ' s' H' ([] ++ G) := n1.more sr0 t sr r'.there
        exact leave_ok (N := []) (st1 := []) sr0 n0 n2 (tk ρ' (let ⟨K, e, _⟩ := t; ⟨K, e⟩)) r' h
      | nx _ =>
        intro ρ' H' σ' t sr _
        have n2 : Now Z ρ0 H0 ρ' s' H' ([] ++ []) := n1.more sr0 t sr (by simp)
        exact leave_ok (N := []) (st1 := []) sr0 n0 n2 (tk ρ' (let ⟨K, e, _⟩ := t; ⟨K, e⟩)) (d := .non) ⟨rfl, rfl⟩ h
      | ex _ x =>
        intro ρ' H' σ' cls dx t sr _ rx
        have n2 : Now Z ρ0 H0 ρ' s' H' ([] ++ []) := n1.more sr0 t sr (by simp)
        exact leaveX_ok (st0 := []) (st1 := []) n0 n2 (tk ρ' (let ⟨K, e, _⟩ := t; ⟨K, e⟩)) rx h
end
section
variable {P : Program} {w : World} {K : PySem.W.Frag} {mg : Str -> Option Value} {base : Heap} {Z : Wc}
theorem fg_zero {Pp : Pr} {k : Nat} {f : Addr} {fd : FuncData} {ps : List Str} {i np : Nat} (h : ps.length = np) : FgOk P w K mg base k f fd ps (spI Z (call Pp 0 i) np) :=
  ⟨fun vs H Q E ⟨hl, _⟩ => by rw [hl, h], fun A outer s H args us vs Q E _ _ _ _ _ ⟨_, _, _, _, _, _, _, _, _, _, _, q⟩ => by
    simp only [call, bad] at q
    exact q.elim⟩
end
end Fs
namespace Fs
open PySem L2 PyProof.Rows PySem.Spec
theorem law_callG {P : Program} {w : World} {K : PySem.W.Frag} {mg mb : Str -> Option Value} {k : Nat} {fa a : Addr} {fd : FuncData} {x : Str} {sp : Sp} {sx : Shared} {vs : List Value} {ns : List Int}
    (KX : K.In sx.heap) (hns : sx.heap.Ns mainGlobals mg) (hb : sx.heap.Ns builtinsNs mb) (hbb : ∀ x : Str, x ≠ "__name__" -> mb x = bootBuiltins x) (hlim : sx.heap.NoLimit) (hg : sx.gens = #[])
    (ha : sx.heap.get? a = some { cls := .type "list", data := .seq vs.toArray }) (hi : IntsAre vs ns) (hl : ns.length <= sizeLine) (hr : Room k callerA)
    (F : ∀ base : Heap, K.In base -> base.Ns mainGlobals mg -> FgOk P w K mg base k fa fd [x] sp) (hbind : ∀ (s : Shared) (u : Value), BindsTo s fd ⟨[u], []⟩ [(x, u)])
    (hsp : ∀ J : Hp, Only J -> SqL K J a (ns.map V.int) -> sp [.ref a] J (fun v _ => v = .bl true) fun _ _ _ => False)
    (hCX : ∀ J e s', L2.CX P w [] J sx (fun _ _ _ => False) e s' -> False) :
    codeAny (model P w) callerA (.call (.ref fa) ⟨[.ref a], []⟩) (fun r s' => r = .ok (.ret (.bool true)) /\ OldK sx.heap s'.heap /\ s'.os = sx.os /\ AllBare s'.gens) sx := by
  have rv := vals_ints hi
  have lenV := hi.length
  have inner : ∀ J : Hp, Only J -> SqL K J a (ns.map V.int) -> HOk P w J sx.heap -> (∀ b, J b ≠ none -> b = a) -> (J a ≠ none -> K.lookup a = none) ->
      codeAny (model P w) callerA (.call (.ref fa) ⟨[.ref a], []⟩) (fun r s' => r = .ok (.ret (.bool true)) /\ OldK sx.heap s'.heap /\ s'.os = sx.os /\ AllBare s'.gens) sx := by
    intro J hO hS hok hA hK
    have hid_of : ∀ {b : Addr} {o : Obj}, sx.heap.get? b = some o -> J b = none -> (hidT sx.heap J).get? b = some o := fun e n => hidT_get e n
    have offA : ∀ {b : Addr} {o : Obj} {es : Array DictEntry} {ep : Nat}, sx.heap.get? b = some o -> o.data = .dict es ep -> J b = none := fun {b o es ep} e d => by
      cases q : J b with
      | none => rfl
      | some u =>
        have e' : b = a := hA b (by rw [q]; simp)
        subst e'
        rw [ha] at e; cases e
        have d' : Data.seq vs.toArray _ = Data.dict es ep := d
        cases d'
    have nsI : ∀ {b : Addr} {m : Str -> Option Value}, sx.heap.Ns b m -> (hidT sx.heap J).Ns b m := fun {b m} ⟨o, es, ep, e, d, r⟩ => ⟨o, es, ep, hid_of e (offA e d), d, r⟩
    have hKb : K.In (hidT sx.heap J) := fun b o e => hid_of (KX b o e) (by
      cases q : J b with
      | none => rfl
      | some u =>
        have e' : b = a := hA b (by rw [q]; simp)
        subst e'
        rw [hK (by rw [q]; simp)] at e; cases e)
    have hM : Mod K mg (hidT sx.heap J) := ⟨hKb, nsI hns, ⟨mb, nsI hb, hbb⟩, let ⟨mc, h1, h2⟩ := hlim; ⟨mc, nsI h1, h2⟩⟩
    have e0 : Env0 P w K mg (hidT sx.heap J) callerA [] sx J := ⟨rfl, hM, fun b o e => of_hidT e, Nat.le_of_eq (hidT_size _ _), trivial, fun b hb => absurd (show b ∈ ([] : List Addr) from hb) (by simp), hok, .of_eq hg⟩
    refine codeAny_mono ((F _ hKb (nsI hns)).run callerA [] sx J ⟨[.ref a], []⟩ [.ref a] [.ref a] _ _ hr rfl e0 (hbind sx (.ref a)) (.cons rfl .nil) (hsp J hO hS)) fun r s' h => ?_
    cases r with
    | error e => exact (hCX J e s' h).elim
    | ok fl =>
      cases fl with
      | next => exact False.elim h
      | brk => exact False.elim h
      | cont => exact False.elim h
      | ret u =>
        obtain ⟨v, J', os, bare, un, hok', r', q⟩ := h
        have q' : v = .bl true := q
        subst q'
        obtain rfl : u = Value.bool true := r'
        refine ⟨rfl, OldK.of_keep fun b o e => ?_, os, bare⟩
        cases q : J b with
        | none => exact un.keep b o e q (by intro z; exact absurd (show b ∈ ([] : List Addr) from z) (by simp)) (by simp)
        | some u =>
          rcases hO b with z | ⟨ob, xs, z⟩
          · rw [q] at z; cases z
          · have z2 := un.frzs b ob _ z
            obtain ⟨e1, _⟩ := hok b _ z
            obtain ⟨e2, _⟩ := hok' b _ z2
            rw [e] at e1; cases e1
            exact e2
  cases hk : K.lookup a with
  | some o =>
    have e := KX a o hk
    rw [ha] at e
    cases e
    refine inner (fun _ => none) (fun _ => .inl rfl) (.inr ⟨_, vs.toArray, _, hk, rfl, rfl, rfl, by rw [List.size_toArray, lenV]; exact hl, by simpa using rv⟩) (fun b u z => by have z' : (none : Option HO) = some u := z; cases z') (fun b z => absurd rfl z) fun z => absurd rfl z
  | none =>
    refine inner (fun b => if b = a then some (.frz { cls := .type "list", data := .seq vs.toArray } (.lst (ns.map V.int))) else none) (fun b => ?_) (.inl (.inr ⟨{ cls := .type "list", data := .seq vs.toArray }, if_pos rfl⟩)) (fun b u z => ?_) (fun b z => ?_) fun _ => hk
    · by_cases hb : b = a
      · exact .inr ⟨_, _, if_pos hb⟩
      · exact .inl (if_neg hb)
    · by_cases hb : b = a
      · have z' := (if_pos hb).symm.trans z
        cases z'
        subst hb
        exact ⟨ha, by rw [List.length_map]; exact hl, vs, _, rv, ha⟩
      · have z' := (if_neg hb).symm.trans z
        cases z'
    · by_cases hb : b = a
      · exact hb
      · exact absurd (if_neg hb) z
theorem noCX (P : Program) (w : World) (J : Hp) (s : Shared) (e : Value) (s' : Shared) (h : L2.CX P w [] J s (fun _ _ _ => False) e s') : False := by
  obtain ⟨_, _, _, _, _, _, _, _, _, _, _, _, z⟩ := h
  exact z
end Fs
namespace Fs
open PySem L2 PyProof.Rows PySem.Spec
section
variable {X : L2.Cx} {T : Tbl} {Z : Wc} {W : WX} {a b c e : Expr} {A B C : Ex} {pos p : Pos} {es : List Expr} {As : List Ex}
theorem ss_hole {s : Stmt} : PS X s (iS T Z W (.xpr hole)) := ⟨fun pins s σ H D I ⟨ρ, env, st, er, sr, h⟩ => by
  simp only [exS, hole, ev, bnd, ret, bad, lft] at h
  exact h.elim⟩
theorem se_bin {op : Bop} (hK : X.K = Z.K) (ha : PE X a (iE T Z W A)) (hb : PE X b (iE T Z W B)) : PE X (.BinOp a (pyB op) b pos) (iE T Z W (.bin op A B)) := se_op (fun _ => bin_ok hK) ha hb fun env => by simp only [ev]
theorem se_cmp1 {op : Cop} (hK : X.K = Z.K) (hu : X.A.units + 65 < cLine) (ha : PE X a (iE T Z W A)) (hb : PE X b (iE T Z W B)) (hm : behindInMarks (pyC op) b = false := by rfl) : PE X (.Compare a [pyC op] [b] pos) (iE T Z W (.cmp op A B)) :=
  se_cmp (f := fC op) (fun _ => cmp_ok hK hu) ha hb hm fun env => by simp only [ev]
end
def Cal (Pw : Program) (w : World) (K : PySem.W.Frag) (mg : Str -> Option Value) (base : Heap) (Z : Wc) (Pp : Pr) (n i : Nat) (x : Str) (ps : List Str) : Prop :=
  ∃ f fd, FgOk Pw w K mg base (n + 2) f fd ps (spI Z (call Pp n i) ps.length) /\ mg x = some (.ref f) /\ PySem.W.keepIn K (.ref f) = true /\ Binds K fd ps []
section
variable {X : L2.Cx} {Pp : Pr} {n i : Nat} {Z : Wc} {W : WX} {e : Expr} {A : Ex} {pos p : Pos} {es : List Expr} {As : List Ex} {x : Str} {ps : List Str}
theorem se_callC (c : Cal X.prog X.w X.K X.mg X.base Z Pp n i x ps) (hr : Room (n + 2) X.A) (hgd : X.A.guards = some []) (tk : Takes X W) (hg : Gl X x) (ha : PA X (e :: es) (iEs (Pp.tbl n) Z W As)) (hlen : As.length = ps.length := by rfl) (hdb : (x == ("__debug__" : Str)) = false := by rfl)
    (he : starEach (e :: es) X.env = (false, eval e X.env) :: starEach es X.env := by rfl) (hpl : (backTo pos (starEach es X.env)).any (·.1) = false := by rfl) : PE X (.Call (.Name x p) (e :: es) [] pos) (iE (Pp.tbl n) Z W (.call i As)) := by
  obtain ⟨f, fd, F, hm, hk, hb⟩ := c
  exact se_call (T := Pp.tbl n) F hr hgd tk hg hm hk hb ha hlen hdb he hpl
end
end Fs
namespace Fs
open PySem L2 PyProof.Rows PySem.Spec
section
variable {X : L2.Cx} {T : Tbl} {Z : Wc} {W : WX} {a b c e : Expr} {A B C : Ex} {pos p : Pos}
theorem st_w {C1 : Cn} (h : PW X a (iT T Z W C1)) : PT X a (iT T Z W C1) := ⟨fun pins s σ H Q I q => h.run _ pins s σ H Q I q⟩
theorem bl_pre {E : Ex} {σ : L2.St} {H : Hp} {Q : Bool -> Hp -> Prop} (hb : ∀ env st d st', ev T E env st = .ok d st' -> ∃ k, d = .bl k) (h : iT T Z W (.val E) σ H Q) : iE T Z W E σ H (fun x H' => ∃ k, x = .bl k /\ Q k H') := by
  obtain ⟨ρ, env, st, er, sr, h⟩ := h
  simp only [evT] at h
  refine ⟨ρ, env, st, er, sr, ?_⟩
  unfold bnd at h
  cases e : ev T E env st with
  | exc x s => rw [e] at h; exact h
  | bad => rw [e] at h; exact h
  | ok d s =>
    rw [e] at h
    obtain ⟨k, rfl⟩ := hb _ _ _ _ e
    intro ρ' H' v F t sr' r
    obtain ⟨rfl, rfl⟩ := r
    refine ⟨k, rfl, ?_⟩
    simp only [truth, opt, ret] at h
    exact h ρ' H' k [] t sr' ⟨rfl, rfl⟩
theorem cmp_bl {op : Cop} {env : Env} {st st' : Sto} {d : D} (h : ev T (.cmp op A B) env st = .ok d st') : ∃ k, d = .bl k := by
  simp only [ev, bnd] at h
  cases e1 : ev T A env st with
  | ok x s1 =>
    simp only [e1] at h
    cases e2 : ev T B env s1 with
    | ok y s2 =>
      simp only [e2] at h
      cases e : cmpD op x y s2 with
      | none => rw [e] at h; cases h
      | some k => rw [e] at h; cases h; exact ⟨k, rfl⟩
    | exc _ _ => simp only [e2] at h; cases h
    | bad => simp only [e2] at h; cases h
  | exc _ _ => simp only [e1] at h; cases h
  | bad => simp only [e1] at h; cases h
theorem st_cmp1 {op : Cop} (hK : X.K = Z.K) (hu : X.A.units + 65 < cLine) (ha : PE X a (iE T Z W A)) (hb : PE X b (iE T Z W B)) (hm : behindInMarks (pyC op) b = false := by rfl) : PT X (.Compare a [pyC op] [b] pos) (iT T Z W (.val (.cmp op A B))) :=
  ⟨fun pins s σ H Q I q => by
    refine (pt_cmpR (cmp_ok (W := W) (σ0 := σ) hK hu) ha hb hm).run pins s σ H Q I ?_
    obtain ⟨ρ, env, st, er, sr, h⟩ := bl_pre (fun _ _ _ _ => cmp_bl) q
    simp only [ev] at h
    exact two_ok (f := fC op) ⟨ρ, env, st, er, sr, h⟩⟩
end
end Fs
namespace Fs
open PySem L2 PyProof.Rows PySem.Spec
section
variable {X : L2.Cx} {T : Tbl} {Z : Wc} {W : WX} {pos p : Pos} {tg e c : Expr} {A B : Ex}
theorem ss_setDc {i : Nat} {y : Str} {py spos : Pos} {kx vx iter : Expr} {ifs : List Expr} {scope : Scope} {own : List (Str × Nat)} {it : Ix} {t : Tg} {Cs : List Cn} (hc : X.calm = true) (hN : X.N.Nodup) (hy : X.N[i]? = some y) (hyl : X.env.scope.names.lookup y = some .local)
    (hsw : swapsWith (.DictComp kx vx [⟨tg, iter, ifs, 0⟩] scope pos) (some (.Name y py)) spos.line X.env = pure true) (ok : blkC X.N X.env.scope scope own = true) (hsub : (tgN t).all ((own.map (·.2)).contains ·) = true)
    (hi : PI X tg iter (iI T Z W it)) (hg : ∀ (s : Shared) (H : Hp) (C : Addr) (cl : List (Str × Addr)) (fp : List Addr), PG (X.blk s H scope (compEnvC scope cl C X.env) fp) tg (iG T Z t))
    (ht : ∀ (s : Shared) (H : Hp) (C : Addr) (cl : List (Str × Addr)) (fp : List Addr), PTs (X.blk s H scope (compEnvC scope cl C X.env) fp) ifs (iTs T Z WF Cs))
    (hk : ∀ (s : Shared) (H : Hp) (C : Addr) (cl : List (Str × Addr)) (fp : List Addr), PE (X.blk s H scope (compEnvC scope cl C X.env) fp) kx (iE T Z WF A))
    (he : ∀ (s : Shared) (H : Hp) (C : Addr) (cl : List (Str × Addr)) (fp : List Addr), PE (X.blk s H scope (compEnvC scope cl C X.env) fp) vx (iE T Z WF B)) (hs : ∀ x, foldedSetIterable iter X.env x = pure x := by intro _; rfl) :
    PS X (.Assign [.Name y py] (.DictComp kx vx [⟨tg, iter, ifs, 0⟩] scope pos) spos) (iS T Z W (.asg (.nm i) (.dc (own.map (·.2)) it t Cs A B))) := by
  refine ⟨fun pins s σ H Dn I h0 => ?_⟩
  obtain ⟨ρ, env, st, er, sr, h2⟩ := asg_ok h0
  have h : tDc (iI T Z W it) (iG T Z t) (iTs T Z WF Cs) (iE T Z WF A) (iE T Z WF B) (own.map (·.2)) σ H (fun x H1 => gName i x σ H1 Dn.nx) := dc_ok (subN hsub) ⟨ρ, env, st, er, sr, h2.mono fun v H1 q => ig_nm q⟩
  rw [exec_Assign_Name_used _ _ _ _ hsw]
  refine wpAny_bind (wpAny_standAt (wpAny_bind ?_))
  show wpAny _ X.A (do let _ <- comprehension (.DictComp kx vx [⟨tg, iter, ifs, 0⟩] scope pos) scope X.env (firstIterPos [⟨tg, iter, ifs, 0⟩] pos) newDict false (eval iter X.env) (some (assign (.Name y py) X.env))) _ _ s
  refine wpAny_bind (thn (dc_core (Qf := fun _ s' => SP X pins Dn .next s') hc hN I hi (blkOk_by ok) hg ht hk he hs h fun L C s' m H' I' q hn f => ?_) fun _ s' hq => wpAny_pure (wpAny_pure hq))
  show wpAny _ _ (assign (.Name y py) X.env (.ref L)) _ _ _
  refine wpAny_assign_Name (store_ok2 (v := V.ref L) I' hN hy (.inl hyl) rfl (fun s2 I2 ⟨a, sb, ha⟩ => ?_) (.inr hyl))
  obtain ⟨f0, f1, f2, f3, f4, f5⟩ := f
  have off : C ≠ a := by
    rcases ha with z | z
    · rw [z]; exact f1
    · exact fun e => f4 y a z e.symm
  refine ⟨m, hn.sameBut sb off, fun h3 sb3 => ?_⟩
  exact ⟨_, H', I2.turned (t' := s2.toks) (fun b o hb e => (sb3.2 b hb).trans e) f0 f1 f3 f4 f5, q⟩
end
end Fs
namespace Fs
open PySem L2 PyProof.Rows PySem.Spec
section
variable {X : Cx} {Z : Wc} {W : WX} {T : Tbl} {σ0 : L2.St} {p p2 q pos : Pos}
theorem fold_ok {ρ : List Addr} {H : Hp} : ∀ {more : List (Ky × D)} {ws : List (L2.Key × V)} {acc : List (Ky × D)} {aw : List (L2.Key × V)}, RpK Z ρ H more ws [] -> (more.all fun p => D.pur p.2) = true -> RpK Z ρ H acc aw [] -> (acc.map (·.1)).Nodup -> RpK Z ρ H (more.foldl (fun a p => dput p.1 p.2 a) acc) (mergeK aw ws) [] /\ ((more.foldl (fun a p => dput p.1 p.2 a) acc).map (·.1)).Nodup
  | [], ws, acc, aw, r, _, ra, nd => by
    obtain ⟨rfl, _⟩ := r
    exact ⟨ra, nd⟩
  | (y, d) :: more, ws, acc, aw, r, hp, ra, nd => by
    obtain ⟨j, u, ws', F1, F2, rfl, rfl, r1, r2, e⟩ := r
    have e' : F1 = [] /\ F2 = [] := by
      have := e.symm
      simpa using this
    obtain ⟨rfl, rfl⟩ := e'
    clear e
    simp only [List.all_cons, Bool.and_eq_true] at hp
    obtain ⟨G, h1, h2⟩ := dput_ok (k := j) r1 nd ra
    obtain rfl := List.sublist_nil.mp h2
    exact fold_ok (more := more) (ws := ws') r2 hp.2 h1 (dput_nodup nd)
end
end Fs
namespace Fs
open PySem L2 PyProof.Rows PySem.Spec
def kdel (K : PySem.W.Frag) (a : Addr) : PySem.W.Frag := K.filter fun p => p.1 != a
theorem kdel_at {K : PySem.W.Frag} {a b : Addr} : (kdel K a).lookup b = if b = a then none else K.lookup b := by
  induction K with
  | nil => simp [kdel]
  | cons q K ih =>
    obtain ⟨x, o⟩ := q
    simp only [kdel] at ih ⊢
    by_cases hx : x = a
    · subst hx
      rw [List.filter_cons_of_neg (by simp), ih]
      by_cases hb : b = x
      · rw [if_pos hb, if_pos hb]
      · rw [if_neg hb, if_neg hb, List.lookup_cons]
        have : (b == x) = false := by simpa using hb
        rw [this]
    · rw [List.filter_cons_of_pos (by simpa using hx), List.lookup_cons, List.lookup_cons, ih]
      by_cases hb : b = x
      · subst hb
        simp [hx]
      · have : (b == x) = false := by simpa using hb
        rw [this]
theorem kdel_in {K : PySem.W.Frag} {a : Addr} {h : Heap} (X : K.In h) : (kdel K a).In h := fun b o e => by
  rw [kdel_at] at e
  split at e
  · cases e
  · exact X b o e
def LstAt (K : PySem.W.Frag) (a : Addr) : Prop := ∀ o, K.lookup a = some o -> ∃ xs n, o.data = .seq xs n
theorem kdel_keep {K : PySem.W.Frag} {a b : Addr} {o : Obj} (hL : LstAt K a) (e : K.lookup b = some o) (hd : ∀ xs n, o.data ≠ .seq xs n) : (kdel K a).lookup b = some o := by
  rw [kdel_at, if_neg]
  · exact e
  · rintro rfl
    obtain ⟨xs, n, h⟩ := hL o e
    exact hd xs n h
theorem kdel_code {K : PySem.W.Frag} {a : Addr} {c : Value} {q : Str} (hL : LstAt K a) (e : PySem.W.codeIn K c q = true) : PySem.W.codeIn (kdel K a) c q = true := by
  unfold PySem.W.codeIn at e ⊢
  cases c with
  | ref b =>
    simp only at e ⊢
    cases h : K.lookup b with
    | none => rw [h] at e; cases e
    | some o =>
      obtain ⟨oc, od, data, sl⟩ := o
      rw [h] at e
      cases data with
      | fields vs =>
        rw [kdel_keep hL h (by intro xs n z; cases z)]
        exact e
      | _ => cases e
  | _ => cases e
theorem FunD.del {K : PySem.W.Frag} {a : Addr} {x q : Str} {ps : Arguments} {body : List Stmt} {sc : Scope} {f : Addr} {fd : FuncData} (hL : LstAt K a) (F : FunD K x q ps body sc [] [] f fd) : FunD (kdel K a) x q ps body sc [] [] f fd := by
  obtain ⟨oc, od, dV, kV, doc, pm, an, cdv, ct, osl, e, lk, hc, hD, hK⟩ := F.ex
  have lk2 : (kdel K a).lookup f = some ⟨oc, od, .func fd, osl⟩ := kdel_keep hL lk (by intro xs n z; cases z)
  refine ⟨⟨oc, od, dV, kV, doc, pm, an, cdv, ct, osl, e, lk2, kdel_code hL hc, ?_, .inl rfl⟩, ?_⟩
  · rcases hD with h | ⟨h, _⟩
    · exact .inl h
    · exact absurd rfl h
  · show PySem.W.keepIn (kdel K a) (.ref f) = true
    simp only [PySem.W.keepIn, lk2]
theorem sp_start {Z : Wc} {g : List D -> M D} {J : Hp} {a : Addr} {ns : List Int} (hgb : Z.gb = none) (hO : Only J) (hK : Z.K.lookup a = none) (hS : SqL Z.K J a (ns.map V.int)) (hg : ∃ s', g [.ref 0] [.frl (ns.map D.int)] = .ok (.bl true) s') : spI Z g 1 [.ref a] J (fun v _ => v = .bl true) fun _ _ _ => False := by
  have hJ : ∃ o, J a = some (.frz o (.lst (ns.map V.int))) := by
    rcases hS with h | ⟨o, its, n, h, _⟩
    · rcases h with h | ⟨o, h⟩
      · rcases hO a with z | ⟨o, xs, z⟩
        · rw [h] at z; cases z
        · rw [h] at z; cases z
      · exact ⟨o, h⟩
    · rw [hK] at h; cases h
  obtain ⟨o, hJ⟩ := hJ
  have sr : SR Z [a] [.frl (ns.map D.int)] J := by
    refine ⟨rfl, by simp, ?_, ?_, fun p hp => by rw [hgb] at hp; cases hp⟩
    · intro l c h
      cases l with
      | zero => cases h; rfl
      | succ l => simp at h
    · intro l c b h hb
      cases l with
      | zero =>
        cases h
        have : a = b := by simpa using hb
        subst this
        exact ⟨a, o, ns.map V.int, [], rfl, hJ, Rps.ofInts ns, rfl⟩
      | succ l => simp at h
  refine ⟨rfl, [a], [.frl (ns.map D.int)], J, [a], [.frl (ns.map D.int)], [.ref 0], [], sr, Now.start sr, ?_, ?_⟩
  · exact ⟨.ref a, [], [], [], rfl, ⟨a, rfl, rfl, rfl⟩, ⟨rfl, rfl⟩, rfl⟩
  · obtain ⟨s', hg⟩ := hg
    show Post (Rp Z) Z _ (g [.ref 0] [.frl (ns.map D.int)]) [a] [] J _
    rw [hg]
    intro ρ' H' v F _ _ r
    exact r.1
end Fs
namespace Fs
open PySem L2 PyProof.Rows PySem.Spec
section
variable {X : L2.Cx} {T : Tbl} {Z : Wc} {W : WX} {σ0 : L2.St}
theorem mTwo {m : Me} {k : Nat} {id : String} {g : D -> D -> D -> M D} (hg : ∀ st o ds, kndD st o = k -> meD m o ds st = b2 (g o) ds st) (h : ∀ (W : WX) (σ0 : L2.St) (pins : List (Addr × Obj)) (s : Shared) (σ : L2.St) (H : Hp) (x y z : V) (v : Value) (us : List Value) (Q : VK) (ρ : List Addr) (st : Sto) (H0 : Hp) (ρ2 : List Addr) (st2 : Sto) (d e f : D) (F G1 G2 : List Addr),
    Inv X pins σ H s -> RelV x v -> Vals [y, z] us -> SR Z ρ st H0 -> Now Z ρ H0 ρ2 st2 H (F ++ (G1 ++ G2)) -> Rp Z ρ2 H d x F -> Rp Z ρ2 H e y G1 -> Rp Z ρ2 H f z G2 -> kndD st2 d = k -> Post (Rp Z) Z W (g d e f st2) ρ σ0 H0 Q -> wpAny (model X.prog X.w) X.A (PySem.call (.builtin id) (v :: us)) (EP X pins σ Q) X.xe s) : ∀ W σ, MtR X id (rM Z W σ m k) := by
  intro W σ0 pins s σ H x xs v us Q I rx rv ⟨ρ, st, H0, ρ2, st2, d, ds, F, G, sr, n, r1, r2, hk, q⟩
  rw [hg st2 d ds hk] at q
  match ds, r2, q with
  | [], _, q => exact q.elim
  | [_], _, q => exact q.elim
  | [e, f], r2, q =>
    obtain ⟨y, ws, G1, G2, rfl, r3, r4, rfl⟩ := r2
    obtain ⟨z, rfl, r5⟩ := one1 r4
    exact h W σ0 pins s σ H x y z v us Q ρ st H0 ρ2 st2 d e f F G1 G2 I rx rv sr n r1 r3 r5 hk q
  | _ :: _ :: _ :: _, _, q => exact q.elim
theorem k_insert : ∀ k, meK .insert k = true -> MeK X Z .insert "insert" k := fun k hk => by
  obtain rfl : k = 4 := by simpa [meK] using hk
  refine ⟨.inr (.inl rfl), "list.insert", PySem.F.plainAttrs_list, PySem.F.slot_list_insert, PySem.F.type_list_insert, mTwo (g := mInsert) (fun _ _ _ _ => rfl) ?_⟩
  intro W σ0 pins s σ H x y z v us Q ρ st H0 ρ2 st2 d e f F G1 G2 I rx rv sr n r1 r2 r3 hk h
  obtain ⟨l, a, xs, vs, rfl, rfl, rfl, hl, hc, ha, rs, h⟩ := lcell_ok n r1 h
  obtain ⟨i, ei, hA⟩ := opt_ok h
  obtain ⟨hz, hB⟩ := gd_ok hA
  obtain ⟨z1, z2, z3⟩ := of_decide_eq_true hz
  have he : e = .int i := by
    clear h hA hB hz
    cases e with
    | int j => cases ei; rfl
    | _ => cases ei
  subst he
  obtain ⟨rfl, rfl⟩ := r2
  have n1 : Now Z ρ H0 ρ2 st2 H ([] ++ G2) := by simpa using n
  obtain ⟨N, pm, s', q⟩ := land_ok f n.sr r3 (fun b hb => n1.out b (by simpa using hb)) (by simpa using n1.nd)
  have nl := n1.landed (N := N) pm s'
  refine mt_insert pins s σ H _ _ v us Q I rx rv ⟨a, vs, i, z, rfl, rfl, ha, by rw [<- rs.length]; exact z3, z1, by omega, ?_⟩
  have hl' := get_append (N := N) l a hl
  obtain ⟨K1, t1, t2⟩ := Rps.take i.toNat rs
  obtain ⟨K2, t3, t4⟩ := Rps.drop i.toNat rs
  obtain rfl := List.sublist_nil.mp t2
  obtain rfl := List.sublist_nil.mp t4
  have hall : Rps Z (ρ2 ++ N) H (xs.take i.toNat ++ (land f st2).1 :: xs.drop i.toNat) (vs.take i.toNat ++ [z] ++ vs.drop i.toNat) [] := by
    rw [List.append_assoc]
    exact Rps.append (F := []) (G := []) t1.wide ⟨z, vs.drop i.toNat, [], [], rfl, q, t3.wide, rfl⟩
  have h' : Post (Rp Z) Z W (R.ok D.non ((land f st2).2.set l (.lst (xs.take i.toNat ++ (land f st2).1 :: xs.drop i.toNat)))) ρ σ0 H0 Q := hB
  exact Post.ok h' (nl.wr sr hl' rfl ⟨a, _, [], rfl, upd_same, Rps.updF ha rfl (by simp) hall, rfl⟩) ⟨rfl, rfl⟩
theorem k_extend : ∀ k, meK .extend k = true -> MeK X Z .extend "extend" k := fun k hk => by
  obtain rfl : k = 4 := by simpa [meK] using hk
  refine ⟨.inr (.inl rfl), "list.extend", PySem.F.plainAttrs_list, PySem.F.slot_list_extend, PySem.F.type_list_extend, mOne (g := mExtend) (fun _ _ _ _ => rfl) ?_⟩
  intro W σ0 pins s σ H x y v us Q ρ st H0 ρ2 st2 d e F G I rx rv sr n r1 r2 hk h
  obtain ⟨l, a, xs, vs, rfl, rfl, rfl, hl, hc, ha, rs, h⟩ := lcell_ok n r1 h
  obtain ⟨ys, ey, h⟩ := opt_ok h
  obtain ⟨hz, h⟩ := gd_ok h
  have hz := of_decide_eq_true hz
  obtain ⟨a2, vs2, G2, rfl, ha2, rs2, sub⟩ := lstv_ok n.sr r2 ey
  have n1 : Now Z ρ H0 ρ2 st2 H ([] ++ G2) := by
    have := n.less (G := G2) (by simpa using sub)
    simpa using this
  obtain ⟨N, pm, s', q⟩ := lands_ok ys n.sr rs2 (fun b hb => n1.out b (by simpa using hb)) (by simpa using n1.nd)
  have nl := n1.landed (N := N) pm s'
  have hl' := get_append (N := N) l a hl
  refine mt_extend pins s σ H _ _ v us Q I rx rv ⟨a, a2, vs, vs2, rfl, rfl, ha, ha2, by rw [<- rs.length, <- rs2.length]; exact hz, ?_⟩
  exact Post.ok h (nl.wr sr hl' rfl ⟨a, vs ++ vs2, [], rfl, upd_same, Rps.updF ha rfl (by simp) (Rps.append (F := []) (G := []) rs.wide q), rfl⟩) ⟨rfl, rfl⟩
end
end Fs
namespace Fs
open PySem L2 PyProof.Rows PySem.Spec
section
variable {X : L2.Cx} {T : Tbl} {Z : Wc} {W : WX} {σ0 : L2.St}
theorem toPl {st : Sto} {k l : Nat} {xs : List D} (h : st[l]? = some (.lst xs)) : toP false st (k + 1) (.ref l) = (optL (toP false st k) xs).map .list := by
  simp only [toP, h]
theorem toPf {st : Sto} {k l : Nat} {xs : List D} (h : st[l]? = some (.frl xs)) : toP false st (k + 1) (.ref l) = (optL (toP false st k) xs).map .list := by
  simp only [toP, h]
theorem dats_list {st : Sto} {d : D} {qs : List PyData} (hk : kndD st d = 4) (e : dats st d = some qs) : toP false st 66 d = some (.list qs) := by
  unfold dats at e
  cases d with
  | ref l =>
    simp only [kndD] at hk
    simp only [seqv] at e
    split at hk
    · rename_i xs hc
      rw [hc] at e
      rw [toPl hc]
      have e2 : optL (toP false st 65) xs = some qs := e
      rw [e2]; rfl
    · rename_i xs hc
      rw [hc] at e
      rw [toPf hc]
      have e2 : optL (toP false st 65) xs = some qs := e
      rw [e2]; rfl
    · cases hk
    · cases hk
  | lst xs =>
    have e2 : optL (toP false st 65) xs = some qs := e
    show (optL (toP false st 65) xs).map PyData.list = _
    rw [e2]; rfl
  | _ => simp [kndD] at hk
theorem dats_tup {st : Sto} {d : D} {qs : List PyData} (hk : kndD st d = 3) (e : dats st d = some qs) : toP false st 66 d = some (.tuple qs) := by
  unfold dats at e
  cases d with
  | tup xs =>
    have e2 : optL (toP false st 65) xs = some qs := e
    show (optL (toP false st 65) xs).map PyData.tuple = _
    rw [e2]; rfl
  | ref l =>
    simp only [kndD] at hk
    split at hk <;> cases hk
  | _ => cases hk
def rIndexT (K : PySem.W.Frag) : V -> List V -> Hp -> VK -> Prop := fun x xs H Q => ∃ (a : Addr) (y : V) (d : PyData) (ds : List PyData) (j : Nat) (z : PyData), x = V.ref a /\ xs = [y] /\ Dp K H (V.ref a) (.tuple ds) /\ Dp K H y d /\
  SeqAt.shaped (.list ds) = true /\ SeqAt.shaped d = true /\ ds[j]? = some z /\ PyData.eqv z d = true /\ (∀ m z', m < j -> ds[m]? = some z' -> PyData.eqv z' d = false) /\ Q (.int (j : Nat)) H
theorem mt_indexT (hu : X.A.units + 65 < cLine) : MtR X "tuple.index" (rIndexT X.K) := by
  intro pins s σ H x xs v us Q I rx rxs ⟨a, y, d, ds, j, z, ex, exs, hl, hy, sl, sd, hj, hit, hno, q⟩
  subst ex exs
  cases rx
  cases rxs with
  | cons ry rt =>
    rename_i uy ut
    cases rt
    obtain ⟨bs, r1⟩ := Dp.reads I d y uy hy ry
    have hxs : PyData.canLayAll0 ds = true := SeqAt.canLay_of_shaped sl
    have hroom : X.A.units + 1 + min (PyData.depthAll ds) d.depth < cLine := room_in_shaped sd hu
    cases hl with
    | tup hs ha =>
      obtain ⟨its, rv, ⟨⟨cls, dd, data, sls⟩, ho, hc, n, hdt⟩, hlen⟩ := I.tuple hs
      cases (show cls = Value.type "tuple" from hc)
      cases (show data = Data.seq its.toArray n from hdt)
      obtain ⟨as, h4⟩ := Dp.readsAll I ds _ its ha rv
      have hmap : its.map (SeqAt.readOf s.heap) = ds := SeqAt.readsAll_map ds its as hxs h4
      have hit0 := SeqAt.items_eqAt (A := X.A) (vs := its.toArray) (show ReadsAll s.heap its.toArray.toList ds as from h4) r1 hxs (SeqAt.canLay_of_shaped sd) hroom
      have hget : ∀ m u, its[m]? = some u -> ds[m]? = some (SeqAt.readOf s.heap u) := fun m u e => by rw [<- hmap, List.getElem?_map, e]; rfl
      have hjl : j < its.length := by
        have := (List.getElem?_eq_some_iff.1 hj).1
        rw [<- hmap, List.length_map] at this; exact this
      have hj2 : PyData.eqv (SeqAt.readOf s.heap its[j]) d = true := by
        have := hget j _ (List.getElem?_eq_getElem hjl)
        rw [hj] at this
        rw [<- Option.some.inj this]; exact hit
      refine call_meets PySem.F.slot_tuple_index ⟨_, ho, rfl⟩ PySem.F.entry_tuple_index (PySem.F.args_tuple_index_2 _ _)
        (SeqAt.tuple_index2_found a its.toArray n dd sls uy (fun m => if h : m < its.length then PyData.eqv (SeqAt.readOf s.heap its[m]) d else false) j (by simpa using hjl) (Nat.zero_le _) (by simpa using hjl) (by rw [dif_pos hjl]; exact hj2) (fun m hm _ hmj => by
          have hm2 : m < its.length := by simpa using hm
          rw [dif_pos hm2]
          exact hno m _ hmj (hget m _ (List.getElem?_eq_getElem hm2)))) ⟨ho, fun m hm => ?_, ?_⟩
      · have hm2 : m < its.length := by simpa using hm
        rw [dif_pos hm2]
        have e1 : its.toArray[m] = its[m] := by simp
        rw [e1]
        exact hit0 _ (by simp)
      · exact ⟨.int (j : Nat), H, I.tok _, ⟨s.toks, rfl⟩, q⟩
theorem k_index (hK : X.K = Z.K) (hu : X.A.units + 65 < cLine) : ∀ k, meK .index k = true -> MeK X Z .index "index" k := fun k hk => by
  rcases (show k = 4 ∨ k = 3 by simpa [meK, kIC] using hk) with rfl | rfl
  case inr =>
    refine ⟨.inr (.inr (.inr rfl)), "tuple.index", PySem.F.plainAttrs_tuple, PySem.F.slot_tuple_index, PySem.F.type_tuple_index, mOne (g := mIndex) (fun _ _ _ _ => rfl) ?_⟩
    intro W σ0 pins s σ H x y v us Q ρ st H0 ρ2 st2 d e F G I rx rv sr n r1 r2 hk h
    obtain ⟨qs, e1, h1⟩ := opt_ok h
    obtain ⟨q, e2, h2⟩ := opt_ok h1
    obtain ⟨hz, h3⟩ := gd_ok h2
    obtain ⟨z1, z2⟩ := of_decide_eq_true hz
    obtain ⟨j, e3, h4⟩ := opt_ok h3
    have d1 := toP_ok n.sr _ _ _ _ _ r1 (dats_tup hk e1)
    have d2 := toP_ok n.sr _ _ _ _ _ r2 e2
    rw [<- hK] at d1 d2
    have hx : ∃ a, x = V.ref a := by cases d1 with | tup hs ha => exact ⟨_, rfl⟩
    obtain ⟨a, rfl⟩ := hx
    obtain ⟨hj, hp, hno⟩ := List.findIdx?_eq_some_iff_getElem.1 e3
    refine mt_indexT hu pins s σ H _ _ v us Q I rx rv ⟨a, y, q, qs, j, qs[j], rfl, rfl, d1, d2, z2, z1, List.getElem?_eq_getElem hj, hp, ?_, Post.ret h4 (n.less (List.nil_sublist _)) ⟨rfl, rfl⟩⟩
    intro m z' hm hz'
    obtain ⟨hml, rfl⟩ := List.getElem?_eq_some_iff.1 hz'
    have := hno m hm
    simpa using this
  refine ⟨.inr (.inl rfl), "list.index", PySem.F.plainAttrs_list, PySem.F.slot_list_index, PySem.F.type_list_index, mOne (g := mIndex) (fun _ _ _ _ => rfl) ?_⟩
  intro W σ0 pins s σ H x y v us Q ρ st H0 ρ2 st2 d e F G I rx rv sr n r1 r2 hk h
  obtain ⟨qs, e1, h1⟩ := opt_ok h
  obtain ⟨q, e2, h2⟩ := opt_ok h1
  obtain ⟨hz, h3⟩ := gd_ok h2
  obtain ⟨z1, z2⟩ := of_decide_eq_true hz
  obtain ⟨j, e3, h4⟩ := opt_ok h3
  have d1 := toP_ok n.sr _ _ _ _ _ r1 (dats_list hk e1)
  have d2 := toP_ok n.sr _ _ _ _ _ r2 e2
  rw [<- hK] at d1 d2
  have hx : ∃ a, x = V.ref a := by cases d1 with | lst hs ha => exact ⟨_, rfl⟩
  obtain ⟨a, rfl⟩ := hx
  obtain ⟨hj, hp, hno⟩ := List.findIdx?_eq_some_iff_getElem.1 e3
  refine mt_indexD hu pins s σ H _ _ v us Q I rx rv ⟨a, y, q, qs, j, qs[j], rfl, rfl, d1, d2, z2, z1, List.getElem?_eq_getElem hj, hp, ?_, Post.ret h4 (n.less (List.nil_sublist _)) ⟨rfl, rfl⟩⟩
  intro m z' hm hz'
  obtain ⟨hml, rfl⟩ := List.getElem?_eq_some_iff.1 hz'
  have := hno m hm
  simpa using this
end
end Fs
namespace Fs
open PySem L2 PyProof.Rows PySem.Spec
section kle
variable {K K' : PySem.W.Frag}
end kle
structure ExF (K : PySem.W.Frag) (mg : Str -> Option Value) (x : Str) (C : Addr) : Prop where
  gC : mg x = some (.ref C)
  q : PySem.W.excIn K C He.veBase "ValueError.__new__" = true ∨ PySem.W.excIn K C reBase "RuntimeError.__new__" = true ∨ PySem.W.excIn K C aeBase "ArithmeticError.__new__" = true
  kp : PySem.W.keepIn K (.ref C) = true
  sb : PySem.W.subIn K (.ref C) (.type "BaseException") = some true
  ty : PySem.W.typeIn K (.ref C) = some (.type "type")
section
variable {X : L2.Cx} {T : Tbl} {Z : Wc} {W : WX} {e : Expr} {es : List Expr} {As : List Ex} {pos p pos' : Pos} {x : Str}
end
section
variable {X : L2.Cx} {x n : Str} {c : Value} {i : Nat} {body suite : List Stmt} {b₀ : Stmt} {np pos pos' : Pos} {tb : WX -> TS} {ts : TS} {Wout : WX}
end
section
variable {X : L2.Cx} {T : Tbl} {Z : Wc} {W : WX} {x n : Str} {i k : Nat} {body suite : List Stmt} {b₀ : Stmt} {np pos pos' : Pos} {Bs Ss : List Sx}
end
end Fs
namespace Fs
open PySem L2 PyProof.Rows PySem.Spec
section
variable {X : L2.Cx} {T : Tbl} {Z : Wc} {W : WX} {x : Str} {k : Nat} {body suite : List Stmt} {b₀ : Stmt} {np pos pos' : Pos} {Bs Ss : List Sx}
end
end Fs
namespace Fs
open PySem L2 PyProof.Rows PySem.Spec
theorem rfs_or {tl : List Value} : ∀ l : List Value, rfsB tl l = true -> (∃ c r, l = .ref c :: r /\ rfsB tl r = true) ∨ l = tl := fun l e => by
  cases l with
  | nil => exact Or.inr (beq_iff_eq.mp e)
  | cons v r => cases v with
    | ref c => exact Or.inl ⟨c, r, rfl, e⟩
    | _ => exact Or.inr (beq_iff_eq.mp e)
open Builtin Builtin.ObjectAttr in
structure Bse (B nw it : String) (tl : List Value) : Prop where
  eb : ExcBaseFacts B nw it tl
  ps : ∀ u : Value, refuseLoop u "__setattr__" tl = pure ()
  ob : tl.contains (.type "object") = true
section
open Builtin Builtin.ObjectAttr
variable {B nw it : String} {tl : List Value}
theorem rfs_has (X : String) : ∀ l : List Value, rfsB tl l = true -> l.contains (.type X) = tl.contains (.type X)
  | [], e => by rcases rfs_or _ e with ⟨c, r, q, _⟩ | q; · cases q
                · rw [q]
  | v :: l, e => by
    rcases rfs_or _ e with ⟨c, r, q, y⟩ | q
    · obtain ⟨z1, z2⟩ := List.cons.inj q
      subst z1 z2
      rw [List.contains_cons, rfs_has X l y]; rfl
    · rw [q]
theorem Bse.ne (b : Bse B nw it tl) {l : List Value} (e : rfsB tl l = true) : l.isEmpty = false := by
  cases l with
  | nil =>
    have h1 := (rfs_has "object" [] e).trans b.ob
    cases h1
  | cons _ _ => rfl
variable {prog : Program} {w : World} {A : Around} {R : Result -> Shared -> Prop} {hp : Heap} {g : Array GenState} {d : Drawn} {t : Nat} {os : OsState}
end
structure OexK (K : PySem.W.Frag) (C : Addr) : Prop where
  cls : ∃ B nw it tl, Bse B nw it tl /\ ∃ nm q N bs bm sn sub ab col dd k0 k1 k2 k3 k5, K.lookup C = some (excClassObj nm q C N bs bm true sn sub ab col dd k0 k1 k2 k3 k5 nw) /\ rfsB tl bm = true
  sa : PySem.W.findIn K (.ref C) "__setattr__" = some (some (.builtin "object.__setattr__"))
  exC : PySem.W.subIn K (.ref C) (.type "BaseException") = some true
  tyC : PySem.W.typeIn K (.ref C) = some (.type "type")
  kC : PySem.W.keepIn K (.ref C) = true
section
variable {X : Cx} {pins : List (Addr × Obj)} {σ : L2.St} {H : Hp} {s : Shared} {a C : Addr} {f : Str} {y : V} {u : Value} {Q : Unit -> Shared -> Prop} {E : Value -> Shared -> Prop} {A : Around}
end
section
variable {X : Cx} {o e : Expr} {es : List Expr} {to te : TE} {ta : TA} {f : Str} {p p' pos : Pos}
end
end Fs
namespace Fs
open PySem L2 PyProof.Rows PySem.Spec
def spF (K : PySem.W.Frag) (f : Str) : Sp := fun vs H Q _ => ∃ (a C : Addr) (y : V), vs = [.ref a, y] /\ OexK K C /\ PySem.W.findIn K (.ref C) f = some none /\ H a = some (exo a C none) /\
  ∀ dx, H dx = none -> dx ≠ a -> Q .non (upd (upd H dx (exd dx [(f, y)])) a (exo a C (some dx)))
structure OxF (Pw : Program) (w : World) (K : PySem.W.Frag) (mg : Str -> Option Value) (base : Heap) (x f : Str) (C : Addr) : Prop where
  gC : mg x = some (.ref C)
  T : OexK K C
  no : PySem.W.findIn K (.ref C) f = some none
  ini : ∃ fI fd ps, PySem.W.findIn K (.ref C) "__init__" = some (some (.ref fI)) /\ PySem.W.typeIn K (.ref fI) = some (.type "function") /\ Binds K fd ps [] /\ FnOk Pw w K mg base (L2.CX Pw w) 1 fI fd ps (spF K f)
section
variable {Pw : Program} {w : World} {K : PySem.W.Frag} {mg : Str -> Option Value} {base : Heap}
end
section
variable {X : L2.Cx} {T : Tbl} {Z : Wc} {W : WX} {e : Expr} {es : List Expr} {A : Ex} {pos p pos' : Pos} {x f : Str}
end
end Fs
namespace Fs
open PySem L2 PyProof.Rows PySem.Spec
section
variable {X : L2.Cx} {T : Tbl} {Z : Wc} {W : WX} {e : Expr} {es : List Expr} {As : List Ex} {pos p : Pos} {x : Str} {k i n : Nat} {f : Addr} {fd : FuncData} {ps : List Str} {d : D} {dv : V} {u : Value} {Pp : Pr}
end
section
variable {X : L2.Cx} {Pp : Pr} {n i : Nat} {Z : Wc} {W : WX} {e : Expr} {pos p : Pos} {es : List Expr} {As : List Ex} {x : Str} {ps : List Str} {b : Bool}
end
def LstInts (K : PySem.W.Frag) (a : Addr) : Prop := ∀ o, K.lookup a = some o -> ∃ xs n, o.data = .seq xs n /\ ∀ v ∈ xs.toList, ∃ i t, v = Value.int i t
theorem LstInts.at_ {K : PySem.W.Frag} {a : Addr} (h : LstInts K a) : LstAt K a := fun o e => let ⟨xs, n, q, _⟩ := h o e; ⟨xs, n, q⟩
section
variable {K : PySem.W.Frag} {x qual : Str} {params : Arguments} {body : List Stmt} {scope : Scope} {b : Bool} {f : Addr} {fd : FuncData} {ps : List Str}
end
theorem ints_all : ∀ {vs : List Value} {ns : List Int}, IntsAre vs ns -> ∀ v ∈ vs, ∃ i t, v = Value.int i t
  | _, _, .nil, v, h => nomatch h
  | _, _, .cons n t r, v, h => by
    rcases List.mem_cons.1 h with rfl | h
    · exact ⟨_, _, rfl⟩
    · exact ints_all r v h
theorem walk_h2 {l : PySem.W.OpenLaw} {n k : Nat} {q : Program} {loose : List Str} {XP : (Str -> Option Value) -> Heap -> Prop} {YP : World -> Heap -> Prop} {d : DefRec} {x : Str}
    (hn : l.most = some n) (hn2 : n <= sizeLine) (hdf : d.params.defaults = []) (hr : Room k callerA)
    (F : ∀ (w : World) (mg : Str -> Option Value) (fa : Addr) (h : Heap) (a : Addr) (vs : List Value), YP w h -> h.Ns mainGlobals mg -> mg d.name = some (.ref fa) -> h.get? a = some { cls := .type "list", data := .seq vs.toArray } -> (∀ v ∈ vs, ∃ i t, v = Value.int i t) ->
      ∃ (K : PySem.W.Frag) (fd : FuncData) (sp : Sp), K.In h /\ (∀ (s : Shared) (u : Value), BindsTo s fd ⟨[u], []⟩ [(x, u)]) /\
        (∀ (J : Hp) (ns : List Int), ns.length <= n -> Only J -> SqL K J a (ns.map V.int) -> sp [.ref a] J (fun v _ => v = .bl true) fun _ _ _ => False) /\
        ∀ base : Heap, K.In base -> base.Ns mainGlobals mg -> FgOk l.prog w K mg base k fa fd [x] sp) :
    PySem.W.WalkO q loose XP YP l.row.toRowW d [] (fun f vs => PySem.call f vs) := by
  refine Att.attach_call hn hdf fun w s0 s1 mg mb fa o pm cd doc a vs ns G Y ho hd hcd hmg hobj hints hlen hg => ?_
  have hvi := ints_all hints
  obtain ⟨K, fd, sp, KX, hb, hsp, hF⟩ := F w mg fa _ a vs Y G.T.g hmg hobj hvi
  exact law_callG KX G.T.g G.T.b G.T.builtins G.T.nolimit hg hobj hints (Nat.le_trans hlen hn2) hr hF hb (fun J hO hS => hsp J ns hlen hO hS) fun J e s' => noCX _ _ J s1 e s'
end Fs
namespace Fs
open PySem L2 PyProof.Rows PySem.Spec
structure OxW (K : PySem.W.Frag) (mg : Str -> Option Value) (x f qual : Str) (m : Stmt) (C : Addr) : Prop where
  gC : mg x = some (.ref C)
  T : OexK K C
  no : PySem.W.findIn K (.ref C) f = some none
  ini : ∃ fI fd, PySem.W.findIn K (.ref C) "__init__" = some (some (.ref fI)) /\ PySem.W.typeIn K (.ref fI) = some (.type "function") /\ FunD K "__init__" qual (defArgs m) (defBody m) (defScope m) [] [] fI fd
end Fs
namespace Fs
open PySem L2 PyProof.Rows PySem.Spec
section
variable {X : L2.Cx} {T : Tbl} {Z : Wc} {W : WX} {e : Expr} {A : Ex} {pos : Pos} {f : Str}
end
end Fs
namespace Fs
open PySem L2 PyProof.Rows PySem.Spec
section
variable {Z : Wc} {ρ ρ' : List Addr} {H H' : Hp}
mutual
theorem Rp.pln (ht : ∀ a xs, SqX H a xs -> SqX H' a xs) : ∀ {d : D} {v : V} {F : List Addr}, D.pln d = true -> Rp Z ρ H d v F -> Rp Z ρ' H' d v F
  | .non, v, F, _, h => h
  | .bl b, v, F, _, h => h
  | .int i, v, F, _, h => h
  | .str s, v, F, _, h => h
  | .tup ds, v, F, p, h => by
    obtain ⟨a, vs, e, h2, h3⟩ := h
    exact ⟨a, vs, e, ht _ _ h2, Rps.pln ht (by simpa only [D.pln] using p) h3⟩
  | .ref _, _, _, p, _ => by simp [D.pln] at p
  | .lst _, _, _, p, _ => by simp [D.pln] at p
  | .frl _, _, _, p, _ => by simp [D.pln] at p
  | .dic _, _, _, p, _ => by simp [D.pln] at p
  | .set _, _, _, p, _ => by simp [D.pln] at p
  | .exc _ _, _, _, p, _ => by simp [D.pln] at p
  | .lam _ _, _, _, p, _ => by simp [D.pln] at p
theorem Rps.pln (ht : ∀ a xs, SqX H a xs -> SqX H' a xs) : ∀ {ds : List D} {vs : List V} {F : List Addr}, D.plns ds = true -> Rps Z ρ H ds vs F -> Rps Z ρ' H' ds vs F
  | [], vs, F, _, h => h
  | d :: ds, vs, F, p, h => by
    obtain ⟨v, ws, F1, F2, rfl, h1, h2, rfl⟩ := h
    simp only [D.plns, Bool.and_eq_true] at p
    exact ⟨v, ws, F1, F2, rfl, Rp.pln ht p.1 h1, Rps.pln ht p.2 h2, rfl⟩
end
mutual
theorem D.pln_pur : ∀ {d : D}, D.pln d = true -> D.pur d = true
  | .non, _ => rfl
  | .bl _, _ => rfl
  | .int _, _ => rfl
  | .str _, _ => rfl
  | .tup ds, p => by
    simp only [D.pur]
    exact D.plns_pur (by simpa only [D.pln] using p)
  | .ref _, p => by simp [D.pln] at p
  | .lst _, p => by simp [D.pln] at p
  | .frl _, p => by simp [D.pln] at p
  | .dic _, p => by simp [D.pln] at p
  | .set _, p => by simp [D.pln] at p
  | .exc _ _, p => by simp [D.pln] at p
  | .lam _ _, p => by simp [D.pln] at p
theorem D.plns_pur : ∀ {ds : List D}, D.plns ds = true -> D.purs ds = true
  | [], _ => rfl
  | d :: ds, p => by
    simp only [D.plns, Bool.and_eq_true] at p
    simp only [D.purs, D.pln_pur p.1, D.plns_pur p.2, Bool.and_self]
end
theorem RpK.get : ∀ {kvs : List (Ky × D)} {ws : List (L2.Key × V)} {i : Nat} {d : D} {k : L2.Key} {x : V}, RpK Z ρ H kvs ws [] -> (kvs.map (·.2))[i]? = some d -> ws[i]? = some (k, x) -> Rp Z ρ H d x []
  | [], ws, i, d, k, x, h, e, _ => by simp at e
  | (q, y) :: r, ws, 0, d, k, x, h, e, e2 => by
    obtain ⟨j, v, ws', F1, F2, _, rfl, h1, h2, f⟩ := h
    cases e; cases e2
    obtain ⟨rfl, _⟩ := List.append_eq_nil_iff.1 f.symm
    exact h1
  | (q, y) :: r, ws, i + 1, d, k, x, h, e, e2 => by
    obtain ⟨j, v, ws', F1, F2, _, rfl, h1, h2, f⟩ := h
    obtain ⟨_, rfl⟩ := List.append_eq_nil_iff.1 f.symm
    exact RpK.get h2 (by simpa using e) (by simpa using e2)
theorem RpK.length {kvs : List (Ky × D)} {ws : List (L2.Key × V)} {F : List Addr} (h : RpK Z ρ H kvs ws F) : kvs.length = ws.length := by simpa using congrArg List.length h.keysEq
end
section
variable {X : L2.Cx} {T : Tbl} {Z : Wc} {W : WX} {pos p : Pos} {tg e c : Expr} {A B : Ex} {σ : L2.St} {H : Hp}
structure Iso (Z : Wc) (ρ : List Addr) (st : Sto) (H H' : Hp) (a : Addr) (od : Obj) (ws : List (L2.Key × V)) : Prop where
  n : Now Z ρ H ρ st H' []
  at_ : H' a = some (.dK ws)
end
end Fs
namespace Fs
open PySem L2 PyProof.Rows PySem.Spec
section
variable {X : L2.Cx} {T : Tbl} {Z : Wc} {W : WX} {pos apos : Pos} {o : Expr} {A : Ex}
end
end Fs
namespace Fs
open PySem L2 PyProof.Rows PySem.Spec
section
variable {X : L2.Cx} {T : Tbl} {Z : Wc} {W : WX} {e : Expr} {A : Ex} {p p2 pos : Pos} {k : Nat} {x : Str}
end
end Fs
namespace Fs
open PySem L2 PyProof.Rows PySem.Spec LamX
section
variable {X : L2.Cx} {pins : List (Addr × Obj)} {σ : L2.St} {H : Hp} {s : Shared}
end
end Fs
namespace Fs
open PySem L2 PyProof.Rows PySem.Spec LamX
section
variable {Z : Wc} {W : WX} {g : Option (List Addr × Hp)} {ρ : List Addr} {H : Hp} {st : Sto}
theorem rpL_gb {a : Addr} : ∀ {n : Nat} {cs : List D}, RpL { Z with gb := g } H a n cs = RpL Z H a n cs := by
  intro n cs
  unfold RpL
  split <;> rfl
mutual
theorem rp_eq : ∀ (d : D) (v : V) (F : List Addr), Rp { Z with gb := g } ρ H d v F = Rp Z ρ H d v F
  | .non, v, F => by simp only [Rp]
  | .bl b, v, F => by simp only [Rp]
  | .int i, v, F => by simp only [Rp]
  | .str s, v, F => by simp only [Rp]
  | .tup ds, v, F => by simp only [Rp, rps_eq ds]
  | .ref l, v, F => by simp only [Rp]
  | .lst ds, v, F => by simp only [Rp, rps_eq ds]
  | .frl ds, v, F => by simp only [Rp, rps_eq ds]
  | .dic kvs, v, F => by simp only [Rp, rpK_eq kvs, rpT_eq kvs]
  | .set xs, v, F => by simp only [Rp]
  | .exc c fs, v, F => by simp only [Rp, rpX_eq fs]
  | .lam n cs, v, F => by simp only [Rp, rpL_gb]
theorem rpX_eq : ∀ (ds : List D) (f : Option Str) (dx : Option Addr), RpX { Z with gb := g } ρ H f dx ds = RpX Z ρ H f dx ds
  | [], f, dx => by simp only [RpX]
  | d :: r, f, dx => by simp only [RpX, rp_eq d]
theorem rps_eq : ∀ (ds : List D) (vs : List V) (F : List Addr), Rps { Z with gb := g } ρ H ds vs F = Rps Z ρ H ds vs F
  | [], vs, F => by simp only [Rps]
  | d :: ds, vs, F => by simp only [Rps, rp_eq d, rps_eq ds]
theorem rpK_eq : ∀ (ds : List (Ky × D)) (vs : List (L2.Key × V)) (F : List Addr), RpK { Z with gb := g } ρ H ds vs F = RpK Z ρ H ds vs F
  | [], vs, F => by simp only [RpK]
  | (k, d) :: ds, vs, F => by simp only [RpK, rp_eq d, rpK_eq ds]
theorem rpT_eq : ∀ (ds : List (Ky × D)) (vs : List (List L2.Key × V)) (F : List Addr), RpT { Z with gb := g } ρ H ds vs F = RpT Z ρ H ds vs F
  | [], vs, F => by simp only [RpT]
  | (k, d) :: ds, vs, F => by simp only [RpT, rp_eq d, rpT_eq ds]
end
theorem rp_gb : Rp { Z with gb := g } = Rp Z := by funext ρ H d v F; exact rp_eq d v F
theorem SR.bind (s : SR Z ρ st H) (h : Gb { Z with gb := g } ρ H) : SR { Z with gb := g } ρ st H := ⟨s.len, s.nd, s.kind, by rw [rp_gb]; exact s.cell, h⟩
theorem FgOk.le {P : Program} {w : World} {K : PySem.W.Frag} {mg : Str -> Option Value} {base : Heap} {k : Nat} {f : Addr} {fd : FuncData} {ps : List Str} {sp sp' : Sp} (F : FgOk P w K mg base k f fd ps sp) (h : ∀ vs H Q E, sp' vs H Q E -> sp vs H Q E) : FgOk P w K mg base k f fd ps sp' :=
  ⟨fun vs H Q E q => F.len vs H Q E (h _ _ _ _ q), fun A outer s H args us vs Q E hr hg e0 hb r q => F.run A outer s H args us vs Q E hr hg e0 hb r (h _ _ _ _ q)⟩
end
section
variable {X : L2.Cx} {Z : Wc} {W : WX} {Pp : Pr}
end
end Fs
namespace Fs
open PySem L2 PyProof.Rows PySem.Spec LamX
structure TabsE (cs : List (Addr × Addr)) (K : PySem.W.Frag) (h : Heap) : Prop where
  tab : ∀ p ∈ cs, h.get? p.2 = some { cls := .none, data := .fields #[] }
  off : ∀ p ∈ cs, K.lookup p.2 = none
  code : ∀ p ∈ cs, PySem.W.CodeHd h p.1 p.2
section
variable {P : Program} {w : World} {K : PySem.W.Frag} {mg mb : Str -> Option Value} {k : Nat} {fa a : Addr} {cs : List (Addr × Addr)} {fd : FuncData} {x : Str} {sp : Sp} {sx : Shared} {vs : List Value} {ns : List Int}
end
end Fs
namespace Fs
open PySem L2 PyProof.Rows PySem.Spec
section
variable {X : L2.Cx} {T : Tbl} {Z : Wc} {W : WX} {σ0 : L2.St}
theorem dic_apart {ρ ρ2 : List Addr} {st2 : Sto} {H0 H : Hp} {F G : List Addr} {d : D} {a : Addr} {kvs : List (Ky × D)} (n : Now Z ρ H0 ρ2 st2 H (F ++ G)) (r : Rp Z ρ2 H d (.ref a) F) (e : dicv st2 d = some kvs) : a ∉ G := by
  cases d with
  | dic ks =>
    obtain ⟨b, G2, z, f, _⟩ := r
    cases z
    intro hm
    have := n.nd
    rw [f] at this
    exact (List.nodup_append.mp this).2.2 a List.mem_cons_self a hm rfl
  | ref l =>
    obtain ⟨b, hl, z, f⟩ := r
    cases z
    intro hm
    exact n.out a (List.mem_append_right _ hm) (List.mem_of_getElem? hl)
  | _ => simp [dicv] at e
theorem rpk_pure {ρ : List Addr} {H : Hp} : ∀ {ks : List (Ky × D)} {ws : List (L2.Key × V)} {F : List Addr}, RpK Z ρ H ks ws F -> (ks.all fun p => D.pur p.2) = true -> RpK Z ρ H ks ws []
  | [], ws, F, r, _ => ⟨r.1, rfl⟩
  | (k, d) :: r, ws, F, h, hp => by
    obtain ⟨j, v, ws', F1, F2, rfl, rfl, r1, r2, rfl⟩ := h
    simp only [List.all_cons, Bool.and_eq_true] at hp
    obtain rfl := r1.pure hp.1
    exact ⟨j, v, ws', [], [], rfl, rfl, r1, rpk_pure r2 hp.2, rfl⟩
theorem k_update : ∀ k, meK .update k = true -> MeK X Z .update "update" k := fun k hk => by
  obtain rfl : k = 5 := by simpa [meK] using hk
  refine ⟨.inr (.inr (.inl rfl)), "dict.update", PySem.F.plainAttrs_dict, PySem.F.slot_dict_update, PySem.F.type_dict_update, mOne (g := mUpdate) (fun _ _ _ _ => rfl) ?_⟩
  intro W σ0 pins s σ H x y v us Q ρ st H0 ρ2 st2 d e F G I rx rv sr n r1 r2 hk h
  obtain ⟨l, a, kvs, rfl, rfl, rfl, hl, hc, h⟩ := dcell_ok n r1 h
  obtain ⟨ys, hy, h9⟩ := opt_ok h
  obtain ⟨ok, h9⟩ := gd_ok h9
  clear h
  simp only [Bool.and_eq_true, decide_eq_true_eq] at ok
  obtain ⟨⟨hne, hall⟩, hz⟩ := ok
  have he : e = .dic ys := by
    cases e with
    | dic zs => cases hy; rfl
    | _ => cases hy
  subst he
  cases ys with
  | nil => simp at hne
  | cons p ys =>
    obtain ⟨q, d0⟩ := p
    have hall0 := List.all_eq_true.1 hall
    have hp0 := hall0 (q, d0) List.mem_cons_self
    simp only [Bool.and_eq_true] at hp0
    cases q with
    | t as => exact absurd hp0.2.1 (by simp [kyK])
    | k k0 =>
      have hkv : dicv st2 (.ref l) = some kvs := by simp [dicv, hc]
      obtain ⟨H1, b, ws, G1, e1, I1, n1, ha, rk, hs, _, keep⟩ := dK_now (d := .ref l) (kvs := kvs) I sr n (fun b hb => by simp at hb) r1 hkv hp0.2.2
      cases e1
      obtain rfl := List.sublist_nil.mp hs
      have hap := dic_apart n r1 hkv
      have r2' := keep _ y G r2 hap
      have hok : okKeys (.k k0) ((.k k0, d0) :: ys) = true := by
        simp only [okKeys, List.all_eq_true]
        intro p hp
        have := hall0 p hp
        simp only [Bool.and_eq_true] at this
        rw [this.2.1]; rfl
      obtain ⟨b, G2, z, f, hh⟩ := r2'
      subst z
      rcases dK_of hh hok with ⟨ms, hb, mk⟩ | ⟨_, z2, _⟩
      · obtain rfl : v = Value.ref a := rx
        obtain ⟨u, rfl, ru⟩ := vals1 rv
        obtain rfl : u = Value.ref b := ru
        have hbG : b ∈ G := by rw [f]; exact List.mem_cons_self
        have hab : a ≠ b := fun z => hap (z ▸ hbG)
        have hpur : (((.k k0, d0) :: ys).all fun p => D.pur p.2) = true := by
          refine List.all_eq_true.2 fun p hp => ?_
          have := hall0 p hp
          simp only [Bool.and_eq_true] at this
          exact this.1
        have mk0 := rpk_pure mk hpur
        have nd := dK_nodup I1 ha
        have nd2 : (kvs.map (·.1)).Nodup := by
          rw [rk.keysEq]
          have := ky_nodup nd
          rwa [List.map_map] at this
        have l1 : kvs.length = ws.length := by
          have := congrArg List.length rk.keysEq
          simpa using this
        have l2 : ((.k k0, d0) :: ys).length = ms.length := by
          have := congrArg List.length mk.keysEq
          simpa using this
        obtain ⟨g1, _⟩ := fold_ok mk0 hpur rk nd2
        obtain ⟨z1, hda, vs, rel, dd⟩ := dk_of I1.hok ha
        obtain ⟨z2, hdb, vs2, rel2, dd2⟩ := dk_of I1.hok hb
        have hle : (mergeK ws ms).length <= sizeLine := Nat.le_trans (length_mergeK ms ws) (by rw [<- l1, <- l2]; exact hz)
        refine call_meetsIn PySem.F.slot_dict_update dd.typeIs PySem.F.entry_dict_update (PySem.F.args_dict_update_2 _ _) (meets_dict_update (mixKind X.prog X.w) a b hab hdb) ⟨vs, vs2, dd, dd2, by rw [<- rel.length, <- rel2.length, <- l1, <- l2]; exact hz, fun h' dd' _ hs => ?_⟩
        have he : ∃ q, h'.get? a = some q := let ⟨q, _, _, hq, _⟩ := dd'; ⟨q, hq⟩
        refine ⟨.non, _, d_write (t' := s.toks) I1 (by rw [ha]; exact True.intro) hs he (dk_new hle hda (KV.merge rel2 rel) dd'), rfl, ?_⟩
        have n3 : Now Z ρ H0 ρ2 st2 H1 [] := n1.less (List.nil_sublist _)
        have h' : Post (Rp Z) Z W (R.ok D.non (st2.set l (.dic (((.k k0, d0) :: ys).foldl (fun a p => dput p.1 p.2 a) kvs)))) ρ σ0 H0 Q := h9
        exact Post.ok h' (n3.wr sr hl rfl ⟨a, [], rfl, rfl, .inl ⟨_, upd_same, RpK.stay (fun _ _ e => e) (upd_keep ha rfl) (by simp) g1⟩⟩) ⟨rfl, rfl⟩
      · cases z2
end
end Fs
namespace Fs
open PySem L2 PyProof.Rows PySem.Spec
abbrev ZipAt (S : Bool) (h : Heap) (z TI TO : Addr) (f0 : Value) : Prop :=
  h.get? z = some { cls := .type "zip", dict := none, data := .fields #[f0, .bool false, .bool S, .ref TI, .ref TO], slots := #[] }
abbrev TupAt (h : Heap) (T : Addr) (vs : List Value) : Prop := h.get? T = some { cls := .type "tuple", data := .seq vs.toArray }
structure Tk where
  b : Bool
  a : Addr
  it : Addr
  xs : Array Value
def TkAt (h : Heap) (ts : List Tk) (i : Nat) : Prop := ∀ t ∈ ts, ItB t.b h t.it t.a i /\ HeB t.b h t.a t.xs
section
variable {prog : Program} {w : World} {A : Around} {E : Value -> Shared -> Prop} {s : Shared}
structure ZipNew (S : Bool) (h' : Heap) (N : Nat) (ts : List Tk) (z TI TO : Addr) : Prop where
  zip : ZipAt S h' z TI TO .none
  ti : TupAt h' TI (ts.map fun t => .ref t.it)
  to : TupAt h' TO (ts.map fun _ => .none)
  tk : TkAt h' ts 0
  nd : (z :: TI :: TO :: ts.map Tk.it).Nodup
  ge : ∀ c ∈ z :: TI :: TO :: ts.map Tk.it, N <= c
  lt : ∀ t ∈ ts, t.a < N
end
end Fs
namespace Fs
open PySem L2 PyProof.Rows PySem.Spec
section
variable {prog : Program} {w : World} {A : Around} {E : Value -> Shared -> Prop} {s : Shared}
structure ZAp (N : Nat) (ts : List Tk) (z TI TO : Addr) : Prop where
  nd : (z :: TI :: TO :: ts.map Tk.it).Nodup
  ge : ∀ c ∈ z :: TI :: TO :: ts.map Tk.it, N <= c
  lt : ∀ t ∈ ts, t.a < N
end
end Fs
namespace Fs
open PySem L2 PyProof.Rows PySem.Spec
section
variable {X : L2.Cx} {pins : List (Addr × Obj)} {σ : L2.St} {H : Hp} {s : Shared}
end
end Fs
namespace Fs
open PySem L2 PyProof.Rows PySem.Spec
section
variable {prog : Program} {w : World} {A : Around} {E : Value -> Shared -> Prop} {s : Shared}
end
end Fs
namespace Fs
open PySem L2 PyProof.Rows PySem.Spec
section
variable {M : Model} {A : Around} {E : Value -> Shared -> Prop} {s : Shared} {env : PySem.Env}
end
section
variable {X : L2.Cx} {e e2 e3 : Expr} {ta : TA} {p pos tpos : Pos} {elts : List Expr} {kk : Nat} {kws : List Keyword}
end
end Fs
namespace Fs
open PySem L2 PyProof.Rows PySem.Spec
structure ZSrc where
  s : Src
  b : Bool
  a : Addr
  I : Nat -> List Addr -> Hp -> List Addr -> Prop
section
variable {Z : Wc}
end
section
variable {X : L2.Cx} {T : Tbl} {Z : Wc} {W : WX} {pos p tpos : Pos} {e e2 e3 : Expr} {As : List Ex} {elts : List Expr} {kk : Nat} {kws : List Keyword}
end
end Fs
namespace Fs
open PySem L2 PyProof.Rows PySem.Spec
section
variable {X : L2.Cx} {T : Tbl} {Z : Wc} {W : WX} {σ0 : L2.St}
def rCountD (K : PySem.W.Frag) : V -> List V -> Hp -> VK -> Prop := fun x xs H Q => ∃ (a : Addr) (y : V) (d : PyData) (ds : List PyData), x = V.ref a /\ xs = [y] /\ Dp K H (V.ref a) (.list ds) /\ Dp K H y d /\
  SeqAt.shaped (.list ds) = true /\ SeqAt.shaped d = true /\ Q (.int (ds.countP fun z => PyData.eqv z d : Nat)) H
theorem mt_countD (hu : X.A.units + 65 < cLine) : MtR X "list.count" (rCountD X.K) := by
  intro pins s σ H x xs v us Q I rx rxs h
  obtain ⟨a, y, d, ds, rfl, rfl, hl, hy, sl, sd, q⟩ := h
  cases rx
  cases rxs with
  | cons ry rt =>
    rename_i uy ut
    cases rt
    obtain ⟨bs, r1⟩ := Dp.reads I d y uy hy ry
    have hxs : PyData.canLayAll0 ds = true := SeqAt.canLay_of_shaped sl
    have hroom : X.A.units + 1 + min (PyData.depthAll ds) d.depth < cLine := room_in_shaped sd hu
    cases hl with
    | lst hs ha =>
      obtain ⟨its, rv, ⟨⟨cls, dd, data, sls⟩, n, ho, hc, hdn, hdt⟩, hlen⟩ := I.list hs
      simp only at hc hdt
      subst hc hdt
      obtain ⟨as, h4⟩ := Dp.readsAll I ds _ its ha rv
      have hmap : its.map (SeqAt.readOf s.heap) = ds := SeqAt.readsAll_map ds its as hxs h4
      refine call_meets PySem.F.slot_list_count ⟨_, ho, rfl⟩ PySem.F.entry_list_count (PySem.F.args_list_count_2 _ _)
        (SeqAt.list_countAt a its.toArray n dd sls uy (fun u => PyData.eqv (SeqAt.readOf s.heap u) d)) ⟨ho, SeqAt.items_eqAt (vs := its.toArray) (show ReadsAll s.heap its.toArray.toList ds as from h4) r1 hxs (SeqAt.canLay_of_shaped sd) hroom, ?_⟩
      have ec : its.toArray.toList.countP (fun u => PyData.eqv (SeqAt.readOf s.heap u) d) = ds.countP fun z => PyData.eqv z d := by
        rw [<- hmap, List.countP_map]; rfl
      refine ⟨.int (ds.countP fun z => PyData.eqv z d : Nat), H, I.tok _, ⟨s.toks, ?_⟩, q⟩
      show Value.int ((its.toArray.toList.countP (fun u => PyData.eqv (SeqAt.readOf s.heap u) d) : Nat) : Int) s.toks = Value.int ((ds.countP (fun z => PyData.eqv z d) : Nat) : Int) s.toks
      rw [ec]
def rCountT (K : PySem.W.Frag) : V -> List V -> Hp -> VK -> Prop := fun x xs H Q => ∃ (a : Addr) (y : V) (d : PyData) (ds : List PyData), x = V.ref a /\ xs = [y] /\ Dp K H (V.ref a) (.tuple ds) /\ Dp K H y d /\
  SeqAt.shaped (.list ds) = true /\ SeqAt.shaped d = true /\ Q (.int (ds.countP fun z => PyData.eqv z d : Nat)) H
theorem mt_countT (hu : X.A.units + 65 < cLine) : MtR X "tuple.count" (rCountT X.K) := by
  intro pins s σ H x xs v us Q I rx rxs ⟨a, y, d, ds, ex, exs, hl, hy, sl, sd, q⟩
  subst ex exs
  cases rx
  cases rxs with
  | cons ry rt =>
    rename_i uy ut
    cases rt
    obtain ⟨bs, r1⟩ := Dp.reads I d y uy hy ry
    have hxs : PyData.canLayAll0 ds = true := SeqAt.canLay_of_shaped sl
    have hroom : X.A.units + 1 + min (PyData.depthAll ds) d.depth < cLine := room_in_shaped sd hu
    cases hl with
    | tup hs ha =>
      obtain ⟨its, rv, ⟨⟨cls, dd, data, sls⟩, ho, hc, n, hdt⟩, hlen⟩ := I.tuple hs
      cases (show cls = Value.type "tuple" from hc)
      cases (show data = Data.seq its.toArray n from hdt)
      obtain ⟨as, h4⟩ := Dp.readsAll I ds _ its ha rv
      have hmap : its.map (SeqAt.readOf s.heap) = ds := SeqAt.readsAll_map ds its as hxs h4
      refine call_meets PySem.F.slot_tuple_count ⟨_, ho, rfl⟩ PySem.F.entry_tuple_count (PySem.F.args_tuple_count_2 _ _)
        (SeqAt.tuple_countAt a its.toArray n dd sls uy (fun u => PyData.eqv (SeqAt.readOf s.heap u) d)) ⟨ho, SeqAt.items_eqAt (vs := its.toArray) (show ReadsAll s.heap its.toArray.toList ds as from h4) r1 hxs (SeqAt.canLay_of_shaped sd) hroom, ?_⟩
      have ec : its.toArray.toList.countP (fun u => PyData.eqv (SeqAt.readOf s.heap u) d) = ds.countP fun z => PyData.eqv z d := by
        rw [<- hmap, List.countP_map]; rfl
      exact ⟨.int (ds.countP fun z => PyData.eqv z d : Nat), H, I.tok _, ⟨s.toks, by rw [ec]⟩, q⟩
theorem kr_count (hK : X.K = Z.K) (hu : X.A.units + 65 < cLine) : ∀ k, meK .count k = true -> MeK X Z .count "count" k := fun k hk => by
  rcases (show k = 4 ∨ k = 3 by simpa [meK, kIC] using hk) with rfl | rfl
  case inr =>
    refine ⟨.inr (.inr (.inr rfl)), "tuple.count", PySem.F.plainAttrs_tuple, PySem.F.slot_tuple_count, PySem.F.type_tuple_count, mOne (g := mCount) (fun _ _ _ _ => rfl) ?_⟩
    intro W σ0 pins s σ H x y v us Q ρ st H0 ρ2 st2 d e F G I rx rv sr n r1 r2 hk h
    obtain ⟨qs, e1, h1⟩ := opt_ok h
    obtain ⟨q, e2, h2⟩ := opt_ok h1
    obtain ⟨hz, h3⟩ := gd_ok h2
    obtain ⟨z1, z2⟩ := of_decide_eq_true hz
    have d1 := toP_ok n.sr _ _ _ _ _ r1 (dats_tup hk e1)
    have d2 := toP_ok n.sr _ _ _ _ _ r2 e2
    rw [<- hK] at d1 d2
    have hx : ∃ a, x = V.ref a := by cases d1 with | tup hs ha => exact ⟨_, rfl⟩
    obtain ⟨a, rfl⟩ := hx
    exact mt_countT hu pins s σ H _ _ v us Q I rx rv ⟨a, y, q, qs, rfl, rfl, d1, d2, z2, z1, Post.ret h3 (n.less (List.nil_sublist _)) ⟨rfl, rfl⟩⟩
  refine ⟨.inr (.inl rfl), "list.count", PySem.F.plainAttrs_list, PySem.F.slot_list_count, PySem.F.type_list_count, mOne (g := mCount) (fun _ _ _ _ => rfl) ?_⟩
  intro W σ0 pins s σ H x y v us Q ρ st H0 ρ2 st2 d e F G I rx rv sr n r1 r2 hk h
  obtain ⟨qs, e1, h1⟩ := opt_ok h
  obtain ⟨q, e2, h2⟩ := opt_ok h1
  obtain ⟨hz, h3⟩ := gd_ok h2
  obtain ⟨z1, z2⟩ := of_decide_eq_true hz
  have d1 := toP_ok n.sr _ _ _ _ _ r1 (dats_list hk e1)
  have d2 := toP_ok n.sr _ _ _ _ _ r2 e2
  rw [<- hK] at d1 d2
  have hx : ∃ a, x = V.ref a := by cases d1 with | lst hs ha => exact ⟨_, rfl⟩
  obtain ⟨a, rfl⟩ := hx
  exact mt_countD hu pins s σ H _ _ v us Q I rx rv ⟨a, y, q, qs, rfl, rfl, d1, d2, z2, z1, Post.ret h3 (n.less (List.nil_sublist _)) ⟨rfl, rfl⟩⟩
end
end Fs
namespace Fs
open PySem L2 PyProof.Rows PySem.Spec HT
section
variable {prog : Program} {w : World} {A : Around} {E : Value -> Shared -> Prop} {s : Shared}
end
section
variable {X : L2.Cx} {T : Tbl} {Z : Wc} {W : WX} {σ0 : L2.St} {A : Ex} {a : Expr} {pos : Pos}
end
end Fs
namespace Fs
open PySem L2 PyProof.Rows PySem.Spec
section
variable {X : L2.Cx} {T : Tbl} {Z : Wc} {W : WX} {pos p : Pos} {tg e c : Expr} {A : Ex}
end
end Fs
namespace Fs
open PySem L2 PyProof.Rows PySem.Spec
section
variable {X : L2.Cx} {T : Tbl} {Z : Wc} {W : WX} {e : Expr} {es : List Expr} {As Bs : List Ex} {pos p : Pos} {x : Str} {k i n : Nat} {f : Addr} {fd : FuncData} {ps ks : List Str} {d : D} {dv : V} {u : Value} {Pp : Pr} {kws : List Keyword} {nm : Option Str} {kpos : Pos} {A : Ex}
end
section
variable {X : L2.Cx} {Pp : Pr} {n i nk : Nat} {Z : Wc} {W : WX} {e : Expr} {pos p : Pos} {es : List Expr} {As Bs : List Ex} {x : Str} {ps ks : List Str} {kws : List Keyword}
end
section
variable {K : PySem.W.Frag} {x qual : Str} {params : Arguments} {body : List Stmt} {scope : Scope} {dvs : List V} {f : Addr} {fd : FuncData} {ps : List Str}
end
end Fs
namespace Fs
open PySem L2 PyProof.Rows PySem.Spec
section
variable {X : L2.Cx} {T : Tbl} {Z : Wc} {W : WX} {e : Expr} {pos p p1 pos1 : Pos} {a b c : Int} {ea eb ec : Expr}
end
end Fs
namespace Fs
open PySem L2 PyProof.Rows PySem.Spec
section
variable {X : L2.Cx} {Z : Wc} {pins : List (Addr × Obj)} {σ : L2.St} {H : Hp} {s : Shared} {a : Addr}
theorem RpT.keysEq {ρ : List Addr} : ∀ {kvs : List (Ky × D)} {ws : List (List L2.Key × V)} {F : List Addr}, RpT Z ρ H kvs ws F -> kvs.map (·.1) = ws.map (fun p => Ky.t p.1)
  | [], _, _, r => by obtain ⟨rfl, _⟩ := r; rfl
  | (q, d) :: kvs, _, _, r => by
    obtain ⟨j, u, ws', F1, F2, rfl, rfl, r1, r2, rfl⟩ := r
    simp [RpT.keysEq r2]
end
section
variable {X : L2.Cx} {T : Tbl} {Z : Wc} {W : WX} {pos p1 p2 p3 p4 : Pos} {i j k m : Nat} {x y z : Str}
end
end Fs
namespace Fs
open PySem L2 PyProof.Rows PySem.Spec
section
variable {X : L2.Cx} {T : Tbl} {Z : Wc} {W : WX} {e : Expr} {A : Ex} {pos pos' : Pos}
end
end Fs
namespace Fs
open PySem L2 PyProof.Rows PySem.Spec
section
variable {X : L2.Cx} {n : Str} {t : Expr} {ans : Value -> Option Bool} {i : Nat} {body suite : List Stmt} {b₀ : Stmt} {pos pos' : Pos} {tb : WX -> TS} {ts : TS} {Wout : WX}
end
section
variable {X : L2.Cx} {T : Tbl} {Z : Wc} {W : WX} {n : Str} {t : Expr} {ans : Value -> Option Bool} {i : Nat} {ks : List Nat} {body suite : List Stmt} {b₀ : Stmt} {pos pos' : Pos} {Bs Ss : List Sx}
end
end Fs
namespace Fs
open PySem L2 PyProof.Rows PySem.Spec
section
variable {Z : Wc} {ρ : List Addr} {H : Hp}
end
section
variable {X : L2.Cx} {T : Tbl} {Z : Wc} {W : WX} {pos p : Pos} {x : Str} {k i n : Nat} {f : Addr} {fd : FuncData} {ps ks : List Str} {kws : List Keyword} {As : List Ex} {is : List Nat} {pm : List (Sum Nat D)}
end
section
variable {X : L2.Cx} {Pp : Pr} {n i : Nat} {Z : Wc} {W : WX} {pos p : Pos} {Bs : List Ex} {x : Str} {ps ks : List Str} {kws : List Keyword} {is : List Nat} {pm : List (Sum Nat D)}
end
section
variable {K : PySem.W.Frag} {x qual : Str} {params : Arguments} {body : List Stmt} {scope : Scope} {f : Addr} {fd : FuncData} {ps : List Str}
end
end Fs
namespace Fs
open PySem L2 PyProof.Rows PySem.Spec LamX
end Fs
namespace Fs
open PySem L2 PyProof.Rows PySem.Spec
def SmF (K : PySem.W.Frag) : Prop := ∃ o, K.lookup sysModules = some o /\ ∀ xs n, o.data ≠ .seq xs n
mutual
inductive DpE (K : PySem.W.Frag) (H : Hp) : V -> PyData -> Prop
  | non : DpE K H .non .none
  | bl (b : Bool) : DpE K H (.bl b) (.bool b)
  | int (i : Int) : DpE K H (.int i) (.int i)
  | str (x : Str) : DpE K H (.str x) (.str x)
  | lst {a : Addr} {xs : List V} {ds : List PyData} : SqL K H a xs -> DpEs K H xs ds -> DpE K H (.ref a) (.list ds)
  | tup {a : Addr} {xs : List V} {ds : List PyData} : SqT K H a xs -> DpEs K H xs ds -> DpE K H (.ref a) (.tuple ds)
  | dic {a : Addr} : (H a = some (.dK []) ∨ H a = some (.dT [])) -> DpE K H (.ref a) (.dict [])
inductive DpEs (K : PySem.W.Frag) (H : Hp) : List V -> List PyData -> Prop
  | nil : DpEs K H [] []
  | cons {v : V} {vs : List V} {d : PyData} {ds : List PyData} : DpE K H v d -> DpEs K H vs ds -> DpEs K H (v :: vs) (d :: ds)
end
section
variable {X : L2.Cx} {pins : List (Addr × Obj)} {σ : L2.St} {H : Hp} {s : Shared}
theorem dic_reads {a : Addr} (I : Inv X pins σ H s) (h : H a = some (.dK []) ∨ H a = some (.dT [])) : ∃ as, Reads s.heap (.ref a) (.dict []) as /\ sysModules ∉ as := by
  rcases h with h | h
  · obtain ⟨_, hd, vs, kv, o, es, ep, ho, ex, hdt, _, pr, _⟩ := dk_of I.hok h
    cases kv
    have e : es.toList = [] := by
      cases he : es.toList with
      | nil => rfl
      | cons x y => rw [he] at pr; cases pr
    refine ⟨_, Reads.dict (kvs := []) (as := []) (bs := []) ho ex.1 hdt (by rw [e]; exact .nil) (by rw [e]; exact .nil), fun z => ?_⟩
    have : sysModules = a := by simpa using z
    rw [<- this] at hd
    exact absurd hd (by decide)
  · obtain ⟨_, hd, vs, kv, o, es, ep, ho, ex, hdt, pr, _⟩ := dt_of I.hok h
    cases kv
    have e : es.toList = [] := by simpa using pr
    refine ⟨_, Reads.dict (kvs := []) (as := []) (bs := []) ho ex.1 hdt (by rw [e]; exact .nil) (by rw [e]; exact .nil), fun z => ?_⟩
    have : sysModules = a := by simpa using z
    rw [<- this] at hd
    exact absurd hd (by decide)
mutual
theorem DpE.reads (I : Inv X pins σ H s) (sm : SmF X.K) : ∀ (d : PyData) (v : V) (u : Value), DpE X.K H v d -> RelV v u -> ∃ as, Reads s.heap u d as /\ sysModules ∉ as
  | .none, _, _, h, r => by
    cases h
    cases r
    exact ⟨_, Reads.none, by simp⟩
  | .bool b, _, _, h, r => by
    cases h
    cases r
    exact ⟨_, Reads.bool b, by simp⟩
  | .int i, _, _, h, r => by
    cases h
    obtain ⟨t, rfl⟩ := r
    exact ⟨_, Reads.int i t, by simp⟩
  | .str x, _, _, h, r => by
    cases h
    obtain ⟨t, rfl⟩ := r
    exact ⟨_, Reads.str x t, by simp⟩
  | .list ds, _, _, h, r => by
    cases h with
    | lst hs ha =>
      cases r
      obtain ⟨its, rv, ⟨o, n, ho, hc, _, hd⟩, _⟩ := I.list hs
      obtain ⟨as, hr, hn⟩ := DpE.readsAll I sm ds _ its ha rv
      refine ⟨_, Reads.list ho hc hd hr, fun z => ?_⟩
      rcases List.mem_cons.1 z with z | z
      · obtain ⟨o2, h2, h3⟩ := sm
        have h4 := I.kIn _ _ h2
        rw [z] at h4
        rw [ho] at h4
        cases h4
        exact h3 _ _ hd
      · exact hn z
  | .tuple ds, _, _, h, r => by
    cases h with
    | tup hs ha =>
      cases r
      obtain ⟨its, rv, ⟨o, ho, hc, n, hd⟩, _⟩ := I.tuple hs
      obtain ⟨as, hr, hn⟩ := DpE.readsAll I sm ds _ its ha rv
      exact ⟨_, Reads.tuple ho hc hd hr, hn⟩
  | .dict kvs, _, _, h, r => by
    cases h with
    | dic h =>
      cases r
      exact dic_reads I h
theorem DpE.readsAll (I : Inv X pins σ H s) (sm : SmF X.K) : ∀ (ds : List PyData) (vs : List V) (us : List Value), DpEs X.K H vs ds -> Vals vs us -> ∃ as, ReadsAll s.heap us ds as /\ sysModules ∉ as
  | [], _, _, h, r => by
    cases h
    cases r
    exact ⟨_, ReadsAll.nil, by simp⟩
  | d :: ds, _, _, h, r => by
    cases h with
    | cons h1 h2 =>
      cases r with
      | cons r1 r2 =>
        obtain ⟨as, q1, n1⟩ := DpE.reads I sm d _ _ h1 r1
        obtain ⟨bs, q2, n2⟩ := DpE.readsAll I sm ds _ _ h2 r2
        exact ⟨_, ReadsAll.cons q1 q2, fun z => (List.mem_append.1 z).elim n1 n2⟩
end
end
section
variable {Z : Wc} {W : WX} {ρ : List Addr} {H : Hp} {st : Sto}
end
section
variable {X : L2.Cx} {Z : Wc} {W : WX} {σ0 : L2.St}
end
end Fs
namespace Fs
open PySem L2 PyProof.Rows PySem.Spec
section
variable {X : L2.Cx} {Z : Wc} {W : WX} {T : Tbl} {A B : Ex} {a : Expr} {ρ : List Addr} {H : Hp} {st : Sto} {σ : L2.St}
end
end Fs
namespace Fs
open PySem L2 PyProof.Rows PySem.Spec
section
variable {X : L2.Cx} {T : Tbl} {Z : Wc} {W : WX} {e : Expr} {pos p1 pos1 q1 q2 q3 : Pos} {j1 j2 j3 : Nat} {a b c : Int} {A : Ex}
end
end Fs
namespace Fs
open PySem L2 PyProof.Rows PySem.Spec
section
variable {X : L2.Cx} {T : Tbl} {Z : Wc} {W : WX} {σ0 : L2.St} {a b : Expr} {A B : Ex} {pos : Pos}
end
end Fs
namespace Fs
open PySem L2 PyProof.Rows PySem.Spec
section
variable {X : L2.Cx} {T : Tbl} {Z : Wc} {W : WX} {σ0 : L2.St} {a b : Expr} {A B : Ex} {pos p1 : Pos}
end
end Fs
namespace Fs
open PySem L2 PyProof.Rows PySem.Spec
section
variable {X : L2.Cx} {T : Tbl} {Z : Wc} {W : WX} {σ0 : L2.St} {a b : Expr} {A B : Ex} {pos p1 : Pos}
end
end Fs
namespace Fs
open PySem L2 PyProof.Rows PySem.Spec PySem.W
section
variable {X : L2.Cx} {T : Tbl} {Z : Wc} {W : WX} {σ0 : L2.St}
end
end Fs
namespace Fs
open PySem L2 PyProof.Rows PySem.Spec
section
variable {X : L2.Cx} {T : Tbl} {Z : Wc} {W : WX} {pos : Pos}
end
end Fs
namespace Fs
open PySem L2 PyProof.Rows PySem.Spec PySem.W
section
variable {X : L2.Cx} {T : Tbl} {Z : Wc} {W : WX} {σ0 : L2.St}
end
end Fs
namespace Fs
open PySem L2 PyProof.Rows PySem.Spec
section
variable {X : L2.Cx} {T : Tbl} {Z : Wc} {W : WX} {pos : Pos} {σ : L2.St} {H : Hp}
end
end Fs
namespace Fs
open PySem L2 PyProof.Rows PySem.Spec
section
variable {X : L2.Cx} {T : Tbl} {Z : Wc} {W : WX} {pos : Pos}
end
end Fs
namespace SumL
open PySem PyProof.Rows
section
variable {prog : Program} {w : World} {A : Around} {R : Result -> Shared -> Prop} {I : Addr} {fp wr : List Addr} {G : Array GenState -> Array GenState -> Prop} {n : Nat} {P : Nat -> Value -> Prop} {St : Nat -> Shared -> Prop}
abbrev lobj (vs : List Value) (c : Nat) : Obj := { cls := .type "list", data := .seq vs.toArray c }
def tot (ls : List (Addr × List Value)) (i : Nat) : List Value := ((ls.take i).map (·.2)).flatten
theorem tot_succ {ls : List (Addr × List Value)} {i : Nat} {p : Addr × List Value} (h : ls[i]? = some p) : tot ls (i + 1) = tot ls i ++ p.2 := by
  unfold tot
  rw [List.take_succ, h]
  simp
theorem tot_len {ls : List (Addr × List Value)} {i : Nat} : (tot ls i).length <= (tot ls ls.length).length := by
  unfold tot
  rw [List.take_length]
  conv => rhs; rw [<- List.take_append_drop i ls, List.map_append, List.flatten_append, List.length_append]
  exact Nat.le_add_right _ _
theorem loop_lists (W : WalksS prog w A.in1 I fp wr G n P St) (S : Addr) (hSf : S ∉ fp) (ls : List (Addr × List Value)) (hn : n = ls.length) (hval : ∀ i v, P i v -> ∃ p, ls[i]? = some p /\ v = .ref p.1)
    (h0 : Heap) (hls : ∀ p ∈ ls, ∃ c, h0.get? p.1 = some (lobj p.2 c)) (hS0 : h0.get? S = none) (hw : ∀ b ∈ wr, h0.get? b = none) (hex : ∀ i s, St i s -> ∀ b ∈ wr, ∃ o, s.heap.get? b = some o) (hz : (tot ls ls.length).length <= sizeLine) :
    ∀ (k i : Nat) (s : Shared) (t : Addr) (c d : Nat), n - i = k -> i <= n -> St i s -> (∀ b o, h0.get? b = some o -> s.heap.get? b = some o) -> s.heap.get? S = some (lobj [.ref t] c) ->
    s.heap.get? t = some (lobj (tot ls i) d) -> t ∉ wr -> t ≠ S -> (0 < i -> h0.get? t = none) ->
    (∀ s' t' d', Moved (S :: wr) G s s' -> (∀ b o, h0.get? b = some o -> s'.heap.get? b = some o) -> s'.heap.get? t' = some (lobj (tot ls n) d') -> (n = i -> t' = t) -> (0 < n -> h0.get? t' = none) -> R (.ok (.ret (.ref t'))) s') ->
    codeAny (model prog w) A (.builtin "sum.loop" ⟨[.ref I, .ref S, rawInt 2, rawInt 0], []⟩) R s := by
  have hSw : S ∉ wr := fun h => hSf (W.sub _ h)
  have hsub : ∀ b ∈ wr, b ∈ S :: wr := fun b hb => List.mem_cons_of_mem _ hb
  intro k
  induction k with
  | zero =>
    intro i s t c d hk hi hst hkp hS ht htw htS htn hR
    have hin : i = n := by omega
    subst hin
    refine codeAny_builtin F.entry_sum_loop ?_
    rw [Around.under_plainId F.plain_sum_loop _]
    show wpAny _ A.in1 (seqItems? (.ref S) >>= _) _ _ s
    refine wpAny_bind (wpAny_seqItems hS rfl ?_)
    show wpAny _ A.in1 (tryCatch (pyNext (.ref I)) _ >>= _) _ _ s
    refine wpAny_bind (wpAny_tryCatch (W.done s _ _ hst fun s' hm => ?_))
    refine wpAny_pure (hR s' t d (hm.mono hsub) (fun b o e => hm.heap b o (fun hb => ?_) (hkp b o e)) (hm.heap t _ htw ht) (fun _ => rfl) htn)
    rw [hw b hb] at e; cases e
  | succ k ih =>
    intro i s t c d hk hi hst hkp hS ht htw htS htn hR
    have hlt : i < n := by omega
    refine codeAny_builtin F.entry_sum_loop ?_
    rw [Around.under_plainId F.plain_sum_loop _]
    show wpAny _ A.in1 (seqItems? (.ref S) >>= _) _ _ s
    refine wpAny_bind (wpAny_seqItems hS rfl ?_)
    show wpAny _ A.in1 (tryCatch (pyNext (.ref I)) _ >>= _) _ _ s
    refine wpAny_bind (wpAny_tryCatch (W.item i s _ _ hlt hst fun v s' hP hst' hm => ?_))
    obtain ⟨p, hp, rfl⟩ := hval i v hP
    have hkp' : ∀ b o, h0.get? b = some o -> s'.heap.get? b = some o := fun b o e => hm.heap b o (fun hb => by rw [hw b hb] at e; cases e) (hkp b o e)
    have hS' := hm.heap S _ hSw hS
    have ht' := hm.heap t _ htw ht
    obtain ⟨cp, hcp⟩ := hls p (List.mem_of_getElem? hp)
    have hp' := hkp' _ _ hcp
    have et := tot_succ hp
    have hzz : (tot ls i).toArray.size + p.2.toArray.size <= sizeLine := by
      have h1 := @tot_len ls (i + 1)
      rw [et, List.length_append] at h1
      rw [List.size_toArray, List.size_toArray]; omega
    show wpAny _ A.in1 ((holding [Value.ref p.1] (binaryOp .Add (.ref t) (.ref p.1))).attempt >>= _) _ _ _
    refine wpAny_bind (wpAny_attempt (wpAny_holding (PySem.P.add_list ht' hp' ?_ hzz)))
    have ea : (tot ls i).toArray ++ p.2.toArray = (tot ls (i + 1)).toArray := by rw [et]; simp
    rw [ea]
    have push : ∀ b o, s'.heap.get? b = some o -> (s'.heap.push (lobj (tot ls (i + 1)) 0)).get? b = some o := fun b o e => Heap.get?_push_of_some _ e
    have hS1 : (s'.heap.push (lobj (tot ls (i + 1)) 0)).get? S = some (lobj [.ref t] c) := push _ _ hS'
    show wpAny _ A.in1 (updateSeq S (fun _ => #[.ref s'.heap.objs.size]) >>= _) _ _ { s' with heap := s'.heap.push (lobj (tot ls (i + 1)) 0) }
    refine wpAny_bind (wpAny_updateSeq hS1 rfl ?_)
    have hS2 := Heap.get?_update_self (Obj.mapSeq fun _ => #[Value.ref s'.heap.objs.size]) hS1 rfl
    refine wpAny_bind (wpAny_letGo ?_)
    have oth : ∀ b o, b ≠ S -> s'.heap.get? b = some o -> (((s'.heap.push (lobj (tot ls (i + 1)) 0)).update S (Obj.mapSeq fun _ => #[Value.ref s'.heap.objs.size])).update S (Obj.mapSeq fun _ => #[Value.ref s'.heap.objs.size])).get? b = some o := fun b o hb e =>
      (Heap.get?_update_other _ _ (fun h : S = b => hb h.symm)).trans ((Heap.get?_update_other _ _ (fun h : S = b => hb h.symm)).trans (push _ _ e))
    have hnt : s'.heap.objs.size ≠ S := fun h => Nat.lt_irrefl _ (h ▸ Heap.lt_size hS' : s'.heap.objs.size < s'.heap.objs.size)
    have hnew : (((s'.heap.push (lobj (tot ls (i + 1)) 0)).update S (Obj.mapSeq fun _ => #[Value.ref s'.heap.objs.size])).update S (Obj.mapSeq fun _ => #[Value.ref s'.heap.objs.size])).get? s'.heap.objs.size = some (lobj (tot ls (i + 1)) 0) :=
      (Heap.get?_update_other _ _ (fun h : S = _ => hnt h.symm)).trans ((Heap.get?_update_other _ _ (fun h : S = _ => hnt h.symm)).trans (Heap.get?_push_size _ rfl))
    have hn0 : s'.heap.get? s'.heap.objs.size = none := by
      cases q : s'.heap.get? s'.heap.objs.size with
      | none => rfl
      | some o => exact absurd (Heap.lt_size q) (Nat.lt_irrefl _)
    have h0n : h0.get? s'.heap.objs.size = none := by
      cases q : h0.get? s'.heap.objs.size with
      | none => rfl
      | some o => rw [hkp' _ _ q] at hn0; cases hn0
    refine wpAny_bind (wpAny_updateSeq hS2 rfl (wpAny_pure ⟨plainId_quiet F.plain_sum_loop _, ?_⟩))
    have hnw : s'.heap.objs.size ∉ wr := fun h => by
      obtain ⟨o, q⟩ := hex _ _ hst' _ h
      rw [hn0] at q; cases q
    refine ih (i + 1) _ s'.heap.objs.size _ 0 (by omega) hlt (W.frame _ s' _ _ hst' (Nat.le_refl _) fun b hb o e => oth b o (fun h => hSf (h ▸ hb)) e)
      (fun b o e => oth b o (fun h => by rw [h, hS0] at e; cases e) (hkp' b o e)) (Heap.get?_update_self _ hS2 rfl) hnew hnw hnt (fun _ => h0n) fun s2 t2 d2 hm2 hk2 e1 e2 e3 => ?_
    refine hR s2 t2 d2 (Moved.trans W.gtrans ((hm.mono hsub).then_heap (Nat.le_refl _) fun b o hb e => oth b o (fun h => hb (h ▸ List.mem_cons_self)) e) hm2) hk2 e1 (fun h => absurd h (by omega)) e3
end
section
variable {prog : Program} {w : World} {A : Around} {E : Value -> Shared -> Prop} {s : Shared}
theorem args_sum2 (a b : Value) : argsOk "sum" ⟨[a, b], []⟩ := by unfold argsOk; kernel_rfl
theorem call_sum_lists {l b : Addr} {ls : List (Addr × List Value)} {cl cb : Nat} {Q : Value -> Shared -> Prop} (hh : A.handled = none) (hl : s.heap.get? l = some (lobj (ls.map fun p => Value.ref p.1) cl)) (hb : s.heap.get? b = some (lobj [] cb))
    (hls : ∀ p ∈ ls, ∃ c, s.heap.get? p.1 = some (lobj p.2 c)) (hz : (tot ls ls.length).length <= sizeLine)
    (h : ∀ h' tk t d, (∀ b o, s.heap.get? b = some o -> h'.get? b = some o) -> h'.get? t = some (lobj (tot ls ls.length) d) -> (ls = [] -> t = b) -> (ls ≠ [] -> s.heap.get? t = none) -> Q (.ref t) { s with heap := h', toks := tk }) :
    wpAny (model prog w) A (call (.builtin "sum") [.ref l, .ref b]) Q E s := by
  refine call_function_tree F.kind_sum F.plain_sum F.entry_sum (args_sum2 _ _) ?_
  unfold Builtin.«sum»
  simp only [List.length_cons, List.length_nil]
  rw [if_neg (by decide)]
  refine wpAny_bind (wpAny_of_eq (show Builtin.Builtins.bindParams "sum" ["start"] 0 ⟨[.ref b], []⟩ = pure [some (.ref b)] from rfl) ?_)
  have hil : s.heap.IsList l (ls.map fun p => Value.ref p.1).toArray := ⟨_, hl, rfl, _, rfl⟩
  refine wpAny_bind (wpAny_pyIter_list hil ?_)
  refine wpAny_bind (wpAny_pure ?_)
  have hb1 : (s.heap.push { cls := .type "list_iterator", data := .fields #[.ref l, .int 0 0] }).get? b = some (lobj [] cb) := Heap.get?_push_of_some _ hb
  have hty : Shared.TypeIs { s with heap := s.heap.push { cls := .type "list_iterator", data := .fields #[.ref l, .int 0 0] } } (.ref b) "list" := ⟨_, hb1, rfl⟩
  simp only [List.forIn_cons, List.forIn_nil]
  refine wpAny_bind (wpAny_bind (wpAny_bind (wpAny_isInstance (T := "list") (b := false) hty F.sub_list_str ?_)))
  simp only [Bool.false_eq_true, if_false]
  refine wpAny_pure (wpAny_bind (wpAny_bind (wpAny_isInstance (T := "list") (b := false) hty F.sub_list_bytes ?_)))
  simp only [Bool.false_eq_true, if_false]
  refine wpAny_pure (wpAny_bind (wpAny_bind (wpAny_isInstance (T := "list") (b := false) hty F.sub_list_bytearray ?_)))
  simp only [Bool.false_eq_true, if_false]
  refine wpAny_pure (wpAny_pure ?_)
  refine wpAny_bind (wpAny_newObj_type ?_)
  have hlS : l < s.heap.objs.size := Heap.lt_size hl
  have hbS : b < s.heap.objs.size := Heap.lt_size hb
  have none_of : ∀ b, s.heap.objs.size <= b -> s.heap.get? b = none := fun b hb => by
    cases q : s.heap.get? b with
    | none => rfl
    | some o => exact absurd (Nat.lt_of_lt_of_le (Heap.lt_size q) hb) (Nat.lt_irrefl _)
  have hsz : (s.heap.push { cls := .type "list_iterator", data := .fields #[.ref l, .int 0 0] }).objs.size = s.heap.objs.size + 1 := Heap.size_push ..
  have hne : l ≠ s.heap.objs.size := Nat.ne_of_lt hlS
  have push2 : ∀ x o, s.heap.get? x = some o -> ((s.heap.push { cls := .type "list_iterator", data := .fields #[.ref l, .int 0 0] }).push { cls := .type "list", data := .seq #[Value.ref b] }).get? x = some o := fun x o e => Heap.get?_push_of_some _ (Heap.get?_push_of_some _ e)
  have hn0 : (ls.map fun p => Value.ref p.1).toArray.size = ls.length := by simp
  have e0 : tot ls 0 = [] := rfl
  refine wpAny_pure ⟨plainId_quiet F.plain_sum_loop _, ?_⟩
  refine loop_lists ((Walks.list (A := A.in1) hh s.heap.objs.size l hne (ls.map fun p => Value.ref p.1).toArray).toS) (s.heap.push { cls := .type "list_iterator", data := .fields #[.ref l, .int 0 0] }).objs.size
    (by rw [hsz]; simp only [List.mem_cons, List.not_mem_nil, or_false, not_or]; exact ⟨Nat.succ_ne_self _, fun h => Nat.lt_irrefl _ (Nat.lt_of_lt_of_le (h ▸ hlS) (Nat.le_succ _))⟩) ls hn0
    (fun i v hv => ?_) s.heap hls (by rw [hsz]; exact none_of _ (Nat.le_succ _)) (fun b hb => by rw [List.mem_singleton.mp hb]; exact none_of _ (Nat.le_refl _))
    (fun i s1 hst b hb => ?_) hz _ 0 _ b 0 cb rfl (Nat.zero_le _) ⟨⟨_, Heap.get?_push_of_some _ (Heap.get?_push_size _ rfl), rfl, rfl⟩, ⟨_, push2 _ _ hl, rfl, _, rfl⟩⟩ push2 (Heap.get?_push_size _ rfl) (by rw [e0]; exact push2 _ _ hb)
    (fun h => Nat.lt_irrefl _ (List.mem_singleton.1 h ▸ hbS)) (fun h => by rw [hsz] at h; rw [h] at hbS; exact Nat.lt_irrefl _ (Nat.lt_of_succ_lt hbS)) (fun h => absurd h (Nat.lt_irrefl _)) (fun s' t' d' hm hk ht he hne2 => ?_)
  · rw [List.getElem?_toArray, List.getElem?_map] at hv
    cases hq : ls[i]? with
    | none => rw [hq] at hv; cases hv
    | some p => rw [hq] at hv; exact ⟨p, rfl, (Option.some.inj hv).symm⟩
  · obtain ⟨⟨o, e, _⟩, _⟩ := hst
    rw [List.mem_singleton.mp hb]; exact ⟨o, e⟩
  · obtain ⟨h', g2, d2, tk', os'⟩ := s'
    have eg : g2 = s.gens := hm.gens
    have ed : d2 = s.drawn := hm.drawn
    have eo : os' = s.os := hm.os
    subst eg; subst ed; subst eo
    rw [hn0] at ht he hne2
    exact h h' tk' t' d' hk ht (fun z => he (by rw [z]; rfl)) (fun z => hne2 (List.length_pos_iff.2 z))
end
end SumL
namespace Fs
open PySem L2 PyProof.Rows PySem.Spec SumL
section
variable {X : L2.Cx} {T : Tbl} {Z : Wc} {W : WX} {σ0 : L2.St}
theorem lv_lists {pins : List (Addr × Obj)} {σ : L2.St} {H : Hp} {s : Shared} (I : L2.Inv X pins σ H s) : ∀ {ls : List (Addr × List V)}, (∀ p ∈ ls, H p.1 = some (.lst p.2)) -> ∃ lv : List (Addr × List Value), lv.map (·.1) = ls.map (·.1) /\
    (∀ p ∈ lv, ∃ c, s.heap.get? p.1 = some (SumL.lobj p.2 c)) /\ Vals (ls.map (·.2)).flatten (lv.map (·.2)).flatten
  | [], _ => ⟨[], rfl, by simp, .nil⟩
  | p :: ls, h => by
    obtain ⟨lv, e1, e2, e3⟩ := lv_lists I (ls := ls) fun q hq => h q (List.mem_cons_of_mem _ hq)
    obtain ⟨z, its, n, r, hl, e⟩ := I.lstM (h p List.mem_cons_self)
    refine ⟨(p.1, its) :: lv, by simp [e1], ?_, ?_⟩
    · intro q hq
      rcases List.mem_cons.1 hq with rfl | hq
      · exact ⟨n, e⟩
      · exact e2 q hq
    · simp only [List.map_cons, List.flatten_cons]
      exact r.append e3
theorem refs_vals : ∀ {ls : List (Addr × List V)} {us : List Value}, Vals (ls.map fun p => V.ref p.1) us -> us = (ls.map (·.1)).map Value.ref
  | [], us, r => by cases r; rfl
  | p :: ls, us, r => by
    cases r with
    | cons r1 r2 =>
      cases r1
      rw [refs_vals r2]; rfl
theorem cr_suml (hc : X.calm = true) : CallR X (.builtin "sum") (fun vs H Q => ∃ (a b : Addr) (ls : List (Addr × List V)), vs = [V.ref a, V.ref b] /\ H a = some (.lst (ls.map fun p => V.ref p.1)) /\ H b = some (.lst []) /\ (∀ p ∈ ls, H p.1 = some (.lst p.2)) /\
    (ls.map (·.2)).flatten.length <= sizeLine /\ (ls = [] -> Q (.ref b) H) /\ (ls ≠ [] -> ∀ p, H p = none -> Q (.ref p) (upd H p (.lst (ls.map (·.2)).flatten)))) := by
  intro pins s σ H vs us Q I r h
  obtain ⟨a, b, ls, rfl, ha, hb, hls, hz, q1, q2⟩ := h
  obtain ⟨lv, e1, e2, e3⟩ := lv_lists I hls
  obtain ⟨_, its, n, ra, _, ea⟩ := I.lstM ha
  obtain ⟨_, itb, m, rb, _, eb⟩ := I.lstM hb
  have h1 := refs_vals ra
  cases rb
  have hus : us = [Value.ref a, Value.ref b] := by
    cases r with
    | cons r1 r2 =>
      cases r1
      cases r2 with
      | cons r3 r4 =>
        cases r3
        cases r4
        rfl
  subst hus
  have h2 : its = lv.map fun p => Value.ref p.1 := by rw [h1, <- e1, List.map_map]; rfl
  have et : tot lv lv.length = (lv.map (·.2)).flatten := by unfold tot; rw [List.take_length]
  have hzl : (tot lv lv.length).length <= sizeLine := by rw [et, <- Paired.length e3]; exact hz
  have hnl : lv = [] ↔ ls = [] := by
    have := congrArg List.length e1
    simp only [List.length_map] at this
    rw [<- List.length_eq_zero_iff, <- List.length_eq_zero_iff, this]
  refine call_sum_lists (I.ok.hd hc) (by rw [<- h2]; exact ea) eb e2 hzl fun h' tk t d hk ht z1 z2 => ?_
  by_cases he : ls = []
  · have hb2 := z1 (hnl.2 he)
    subst hb2
    exact ⟨.ref t, H, I.kept hk, rfl, q1 he⟩
  · have hn := z2 fun z => he (hnl.1 z)
    have hH : H t = none := I.hok.gone hn
    refine ⟨.ref t, upd H t (.lst (ls.map (·.2)).flatten), I.laidN (t' := tk) hk hn hH ⟨hz, _, d, e3, by rw [<- et]; exact ht⟩, rfl, q2 he t hH⟩
theorem lists_ok {ρ : List Addr} {st : Sto} {H : Hp} (sr : SR Z ρ st H) : ∀ {ds : List D} {xss : List (List D)} {vs : List V} {F : List Addr}, optL (lstv st) ds = some xss -> Rps Z ρ H ds vs F ->
    ∃ (ls : List (Addr × List V)) (G : List Addr), vs = (ls.map fun p => V.ref p.1) /\ (∀ p ∈ ls, H p.1 = some (.lst p.2)) /\ Rps Z ρ H xss.flatten (ls.map (·.2)).flatten G /\ G.Sublist F
  | [], xss, vs, F, e, r => by
    cases e
    obtain ⟨rfl, rfl⟩ := r
    exact ⟨[], [], rfl, by simp, ⟨rfl, rfl⟩, .slnil⟩
  | d :: ds, xss, vs, F, e, r => by
    obtain ⟨v, ws, F1, F2, rfl, r1, r2, rfl⟩ := r
    simp only [optL] at e
    cases h1 : lstv st d with
    | none => rw [h1] at e; cases e
    | some xs =>
      rw [h1] at e
      simp only at e
      cases h2 : optL (lstv st) ds with
      | none => rw [h2] at e; cases e
      | some yss =>
        rw [h2] at e
        cases e
        obtain ⟨ls, G, rfl, h3, h4, h5⟩ := lists_ok sr h2 r2
        have key : ∃ a ws2 G1, v = .ref a /\ H a = some (.lst ws2) /\ Rps Z ρ H xs ws2 G1 /\ G1.Sublist F1 := by
          cases d with
          | lst ys =>
            cases h1
            obtain ⟨a, vs2, G2, rfl, ha, rs, rfl⟩ := r1
            exact ⟨a, vs2, G2, rfl, ha, rs, List.sublist_cons_self _ _⟩
          | ref l =>
            obtain ⟨a, hl, rfl, rfl⟩ := r1
            simp only [lstv] at h1
            cases h6 : st[l]? with
            | none => rw [h6] at h1; cases h1
            | some c =>
              rw [h6] at h1
              cases c with
              | lst ys =>
                cases h1
                obtain ⟨b, vs2, G2, e1, ha, rs, e2⟩ := sr.cell l _ a h6 hl
                cases e1
                have : G2 = [] := by simpa using e2
                subst this
                exact ⟨a, vs2, [], rfl, ha, rs, List.nil_sublist _⟩
              | _ => cases h1
          | _ => cases h1
        obtain ⟨a, ws2, G1, rfl, ha, rs, sb⟩ := key
        refine ⟨(a, ws2) :: ls, G1 ++ G, rfl, ?_, ?_, sb.append h5⟩
        · intro p hp
          rcases List.mem_cons.1 hp with rfl | hp
          · exact ha
          · exact h3 p hp
        · simp only [List.flatten_cons, List.map_cons]
          exact rs.append h4
theorem bi_suml (hc : X.calm = true) : CallR X (.builtin "sum") (rL Z W σ0 (b2 fSuml)) := callTwo fun pins s σ H x y us Q ρ st H0 ρ2 st2 d e F G I rv sr n r1 r2 h => by
  unfold fSuml at h
  split at h
  · obtain ⟨xss, e1, h⟩ := opt_ok h
    obtain ⟨hz, h⟩ := gd_ok h
    have hz := of_decide_eq_true hz
    obtain ⟨b, vs2, G2, rfl, hb, ⟨rfl, rfl⟩, rfl⟩ := r2
    cases e2 : lstv st2 d with
    | none => rw [e2] at e1; cases e1
    | some xs =>
      rw [e2] at e1
      simp only [Option.bind_some] at e1
      have hx : ∃ a vs G1, x = .ref a /\ H a = some (.lst vs) /\ Rps Z ρ2 H xs vs G1 /\ G1.Sublist F := by
        cases d with
        | lst ys =>
          cases e2
          obtain ⟨a, vs2, G2, rfl, ha, rs, rfl⟩ := r1
          exact ⟨a, vs2, G2, rfl, ha, rs, List.sublist_cons_self _ _⟩
        | ref l =>
          obtain ⟨a, hl, rfl, rfl⟩ := r1
          simp only [lstv] at e2
          cases h6 : st2[l]? with
          | none => rw [h6] at e2; cases e2
          | some c =>
            rw [h6] at e2
            cases c with
            | lst ys =>
              cases e2
              obtain ⟨b', vs2, G2, e3, ha, rs, e4⟩ := n.sr.cell l _ a h6 hl
              cases e3
              have : G2 = [] := by simpa using e4
              subst this
              exact ⟨a, vs2, [], rfl, ha, rs, List.nil_sublist _⟩
            | _ => cases e2
        | _ => cases e2
      obtain ⟨a, vs, G1, rfl, ha, rs, sb⟩ := hx
      obtain ⟨ls, G3, rfl, h3, h4, h5⟩ := lists_ok n.sr e1 rs
      have hlen : (ls.map (·.2)).flatten.length <= sizeLine := by rw [<- h4.length]; exact hz
      refine cr_suml hc pins s σ H _ us Q I rv ⟨a, b, ls, rfl, ha, hb, h3, hlen, fun z => ?_, fun _ p hp => ?_⟩
      · subst z
        have e0 : xss.flatten = [] := List.length_eq_zero_iff.1 h4.length
        rw [e0] at h
        exact Post.ret h (n.less (List.sublist_append_right F [b])) ⟨b, [], [], rfl, hb, ⟨rfl, rfl⟩, rfl⟩
      · exact Post.ret h ((n.new sr hp).less (List.cons_sublist_cons.mpr ((h5.trans sb).trans (List.sublist_append_left F [b])))) ⟨p, _, G3, rfl, upd_same, rps_up hp h4, rfl⟩
  · exact h.elim
end
end Fs
namespace Fs
open PySem L2 PyProof.Rows PySem.Spec
section
variable {X : L2.Cx} {T : Tbl} {Z : Wc} {W : WX} {σ0 : L2.St} {e : Expr} {A : Ex} {p pos : Pos}
theorem cr_sortTT (hu : X.A.units + 64 < cLine) : CallR X (.builtin "sorted") (fun vs H Q => ∃ (a : Addr) (xs : List V) (ls : List (List Int)), vs = [V.ref a] /\ SqT X.K H a xs /\ TL X.K H xs ls /\ ∀ (ys : List V) (p : Addr), TL X.K H ys (sortL ls) -> H p = none -> Q (.ref p) (upd H p (.lst ys))) := by
  intro pins s σ H vs us Q I r h
  obtain ⟨a, xs, ls, rfl, hs, ht, q⟩ := h
  obtain ⟨its, rv, hl, hz⟩ := I.tuple hs
  rw [Vals.ref1 r]
  obtain ⟨e1, e2⟩ := tl_vals I _ _ _ rv ht
  refine SrtU.sorted_ordT (swo_lexL (TS.intsOf s.heap)) hl (by rw [<- rv.length]; exact hz) (fun h2 h₁ a' ha' kk => ?_) fun out h1 h2 => ?_
  · refine tups_sortableE (s := { s with heap := h₁ }) (by omega) (by show X.A.units + 1 + 1 < _; omega) (fun v hm => (e2 v hm).1.keeps fun b o e _ => (kk b o e).2) fun o e => ?_
    have e' : some o = some (seqObj "list" its.toArray 0) := e.symm.trans ha'
    cases e'
    intro c
    exact absurd (Value.type.inj c) (by decide)
  · obtain ⟨ep, he'⟩ := PyProof.Rows.sortedAll_at s.heap its out.toArray
    have hso : out.map (TS.intsOf s.heap) = sortL ls := by
      refine (List.Perm.eq_of_pairwise (le := lexLe) (fun a b _ _ h1 h2 => (lex_tri h1 h2).symm) (sortL_sorted ls) ?_ ?_).symm
      · rw [List.pairwise_map]
        exact h1
      · refine (sortL_perm ls).trans ?_
        rw [<- e1]
        exact (h2.perm.map _).symm
    have hr : ∀ u ∈ out, TupJ X.K H (bkV u) (TS.intsOf s.heap u) := fun u hu => (e2 u (h2.perm.mem_iff.1 hu)).2
    have hrf : ∀ u ∈ out, ∃ a, u = Value.ref a := fun u hu => by
      obtain ⟨t, et, _⟩ := hr u hu
      exact ⟨t, bkV_ref et⟩
    have hlen : (out.map bkV).length <= sizeLine := by
      rw [List.length_map, h2.len, <- rv.length]; exact hz
    refine ⟨.ref _, upd H (s.heap.objs.size + 1) (.lst (out.map bkV)), I.laid (t' := s.toks) (fun _ _ => PyProof.Rows.sortedAll_old) (Nat.le_succ _) ⟨hlen, out, ep, bkV_vals hrf, he'⟩, rfl, q _ _ ?_ (I.hok.fresh (Nat.le_succ _))⟩
    rw [<- hso]
    exact tl_map hr
def sortT (d : D) : M D := fun st => match d with
  | .tup xs => gd (decide (xs.length <= sizeLine)) (fSorted (.lst xs)) st
  | _ => .bad
abbrev exSortT (A : Ex) : Ex := .bi .sorted [.bi .list [.bin .add A (.tup [])]]
theorem ev_sortT {σ : Env} : ev T (exSortT A) σ = bnd (ev T A σ) sortT := by
  funext st
  simp only [exSortT, ev, evs, bnd]
  cases h : ev T A σ st with
  | bad => rfl
  | exc e s => rfl
  | ok d s =>
    cases d with
    | tup xs =>
      by_cases hx : xs.length <= sizeLine
      · simp [sortT, gd, ret, binD, biD, b1, fList, opt, seqv, hx, bnd]
      · simp [sortT, gd, ret, binD, biD, b1, fList, opt, seqv, hx, bnd, bad]
    | _ => simp [sortT, gd, ret, binD, biD, b1, fList, opt, seqv, bnd, bad, lstv]
theorem bi_sortT (hK : X.K = Z.K) (hu : X.A.units + 64 < cLine) : CallR X (.builtin "sorted") (rL Z W σ0 (b1 sortT)) := callOne fun pins s σ H x us Q ρ st H0 ρ2 st2 d F I rv sr n r h => by
  cases d with
  | tup xs =>
    have h := (gd_ok h).2
    obtain ⟨a, ts, rfl, ha, rs⟩ := r
    unfold fSorted at h
    split at h
    · rename_i ns e
      simp only [lInt, seqv] at e
      obtain ⟨rfl, _⟩ := ints_ok rs e
      refine cr_sortedIT pins s σ H _ us Q I rv ⟨a, ns, rfl, ha.t, fun ns' p pm hs2 hp => ?_⟩
      obtain rfl := sorted_eq (pm.trans (sortI_perm ns).symm) hs2 (sortI_sorted ns)
      exact Post.ok h ((n.new sr hp).less (List.cons_sublist_cons.mpr (List.nil_sublist _))) ⟨p, _, [], rfl, upd_same, Rps.ofInts _, rfl⟩
    · split at h
      · rename_i ls e
        simp only [lTups, seqv] at e
        have ht := tl_of rs e
        rw [<- hK] at ht
        refine cr_sortTT hu pins s σ H _ us Q I rv ⟨a, ts, ls, rfl, ha.t, ht, fun ys p ty hp => ?_⟩
        rw [hK] at ty
        exact Post.ok h ((n.new sr hp).less (List.cons_sublist_cons.mpr (List.nil_sublist _))) ⟨p, ys, [], rfl, upd_same, rps_up hp (tl_rps ty), rfl⟩
      · exact h.elim
  | _ => exact h.elim
theorem se_sortT (hK : X.K = Z.K) (hu : X.A.units + 64 < cLine) (hg : Gl X "sorted") (hm : X.mg "sorted" = none) (ha : PE X e (iE T Z W A)) (hs : starEach [e] X.env = (false, eval e X.env) :: starEach [] X.env := by rfl)
    (hpl : (backTo pos (starEach [] X.env)).any (·.1) = false := by rfl) : PE X (.Call (.Name "sorted" p) [e] [] pos) (iE T Z W (exSortT A)) :=
  ⟨fun pins s σ H Q I q => by
    refine (pe_callB (bi_sortT (W := W) (σ0 := σ) hK hu) hg hm (by decide +kernel) (sa_cons ha sa_nil hs) (by decide) (by decide) hs hpl).run pins s σ H Q I ?_
    obtain ⟨ρ, env, st, er, sr, h⟩ := q
    rw [show ev T (exSortT A) env st = bnd (ev T A env) sortT st from congrFun ev_sortT st] at h
    refine ⟨ρ, env, st, er, sr, ?_⟩
    have h2 : Post (Rp Z) Z W (bnd (evs T [A] env) (b1 sortT) st) ρ σ H Q := by
      have : bnd (evs T [A] env) (b1 sortT) st = bnd (ev T A env) sortT st := by
        simp only [evs, bnd, ret]
        cases ev T A env st <;> rfl
      rw [this]; exact h
    refine (Post.seq rpsOk (Now.start sr) sr h2).mono ?_
    rintro vs H1 ⟨ρ1, ds, st1, F1, n1, t1, r1, h1⟩
    exact ⟨ρ, st, H, ρ1, st1, ds, F1, sr, n1, r1, h1⟩⟩
end
end Fs
namespace Fs
open PySem
abbrev F.zq0 : Nat := 0
abbrev F.zq1 : Nat := 1
abbrev F.zq2 : Nat := 2
abbrev F.zq3 : Nat := 3
abbrev F.zq4 : Nat := 4
abbrev F.zq5 : Nat := 5
abbrev F.zq6 : Nat := 6
abbrev F.zq7 : Nat := 7
abbrev F.zq8 : Nat := 8
abbrev F.zq9 : Nat := 9
abbrev F.zq10 : Nat := 10
abbrev F.zq11 : Nat := 11
abbrev F.zq12 : Nat := 12
abbrev F.zq13 : Nat := 13
abbrev F.zq14 : Nat := 14
abbrev F.zq15 : Nat := 15
abbrev F.zq16 : Nat := 16
abbrev F.zq17 : Nat := 17
abbrev F.zq18 : Nat := 18
abbrev F.zq19 : Nat := 19
abbrev F.zq20 : Nat := 20
abbrev F.zq21 : Nat := 21
abbrev F.zq22 : Nat := 22
abbrev F.zq23 : Nat := 23
abbrev F.law : Nat := 24
def c_zq0 : Fn := ⟨2, 2, [.ret (.and2 (.bi (.isT "int") [.loc 0]) (.and2 (.nt (.val (.bi (.isT "bool") [.loc 0]))) (.chn .le .lt (.con (.int 0)) (.loc 0) (.loc 1))))]⟩
def c_zq1 : Fn := ⟨1, 5, [.iff (.or2 (.nt (.val (.bi (.isT "tuple") [.loc 0]))) (.val (.cmp .gt (.bi .len [.loc 0]) (.con (.int 60))))) [.ret (.con (.str "form"))] [], .iff (.nt (.val (.bi .all [.lc [1] (.val (.loc 0)) (.nm 1) [] (.bi (.isT "tuple") [.loc 1])]))) [.ret (.con (.str "form"))] [], .asg (.nm 2) (.bi .sum [.lc [1] (.val (.loc 0)) (.nm 1) [] (.bi .len [.loc 1])]), .iff (.or2 (.val (.cmp .gt (.loc 2) (.bin .mul (.con (.int 2)) (.con (.int 120))))) (.val (.cmp .eq (.bin .mod (.loc 2) (.con (.int 2))) (.con (.int 1))))) [.ret (.con (.str "darts"))] [], .asg (.nm 3) (.dc [4] (.rng [.loc 2]) (.nm 4) [] (.loc 4) (.con (.bl true))), .forr (.val (.loc 0)) (.nm 1) [.forr (.val (.loc 1)) (.nm 4) [.iff (.or2 (.nt (.val (.call F.zq0 [.loc 4, .loc 2]))) (.val (.cmp .nin (.loc 4) (.loc 3)))) [.ret (.con (.str "darts"))] [], .xpr (.me .popi (.loc 3) [.loc 4])]], .ret (.con .non)]⟩
def c_zq2 : Fn := ⟨1, 2, [.asg (.nm 1) (.call F.zq1 [.loc 0]), .iff (.val (.cmp .ntN (.loc 1) (.con .non))) [.xpr hole] []]⟩
def c_zq3 : Fn := ⟨1, 2, [.ret (.bi .sum [.lc [1] (.val (.loc 0)) (.nm 1) [] (.bi .len [.loc 1])])]⟩
def c_zq4 : Fn := ⟨2, 2, [.iff (.nt (.val (.call F.zq0 [.loc 1, .call F.zq3 [.loc 0]]))) [.xpr hole] []]⟩
def c_zq5 : Fn := ⟨1, 1, [.ret (.bin .sub (.bin .add (.loc 0) (.con (.int 1))) (.bin .mul (.con (.int 2)) (.bin .mod (.loc 0) (.con (.int 2)))))]⟩
def c_zq6 : Fn := ⟨1, 5, [.asg (.nm 1) (.bin .mul (.lst [.con (.int 0)]) (.call F.zq3 [.loc 0])), .forr (.val (.loc 0)) (.nm 2) [.forr (.enum (.loc 2) 0) (.tup [.nm 3, .nm 4]) [.asg (.sub (.loc 1) (.call F.zq5 [.loc 4])) (.sub (.loc 2) (.bin .mod (.bin .add (.loc 3) (.con (.int 1))) (.bi .len [.loc 2])))]], .ret (.loc 1)]⟩
def c_zq7 : Fn := ⟨1, 8, [.asg (.tup [.nm 1, .nm 2]) (.tup [.call F.zq6 [.loc 0], .dct []]), .asg (.nm 3) (.lc [4] (.val (.loc 0)) (.nm 4) [.val (.cmp .eq (.loc 4) (.tup []))] (.tup [])), .forr (.rng [.bi .len [.loc 1]]) (.nm 5) [.iff (.val (.cmp .nin (.loc 5) (.loc 2))) [.asg (.tup [.nm 6, .nm 7]) (.tup [.lst [.loc 5], .sub (.loc 1) (.loc 5)]), .whl (.val (.cmp .ne (.loc 7) (.loc 5))) [.xpr (.me .append (.loc 6) [.loc 7]), .asg (.nm 7) (.sub (.loc 1) (.loc 7))], .xpr (.me .update (.loc 2) [.dc [7] (.val (.loc 6)) (.nm 7) [] (.loc 7) (.con (.bl true))]), .xpr (.me .append (.loc 3) [.bi .tuple [.loc 6]])] []], .ret (.bi .tuple [.loc 3])]⟩
def c_zq8 : Fn := ⟨1, 5, [.asg (.nm 1) (.bin .mul (.lst [.con (.int 0)]) (.call F.zq3 [.loc 0])), .forr (.enum (.call F.zq7 [.loc 0]) 0) (.tup [.nm 2, .nm 3]) [.forr (.val (.loc 3)) (.nm 4) [.asg (.sub (.loc 1) (.loc 4)) (.loc 2)]], .ret (.loc 1)]⟩
def c_zq9 : Fn := ⟨2, 2, [.xpr (.call F.zq2 [.loc 0]), .xpr (.call F.zq4 [.loc 0, .loc 1]), .ret (.sub (.call F.zq6 [.loc 0]) (.loc 1))]⟩
def c_zq10 : Fn := ⟨1, 1, [.xpr (.call F.zq2 [.loc 0]), .ret (.call F.zq7 [.loc 0])]⟩
def c_zq11 : Fn := ⟨2, 2, [.xpr (.call F.zq2 [.loc 0]), .xpr (.call F.zq4 [.loc 0, .loc 1]), .ret (.sub (.call F.zq8 [.loc 0]) (.loc 1))]⟩
def c_zq12 : Fn := ⟨2, 3, [.asg (.nm 2) (.ife (.val (.cmp .ne (.loc 0) (.lst []))) (.sub (.loc 0) (.bin .mod (.loc 1) (.bi .len [.loc 0]))) (.con (.int 1))), .ret (.lst [.loc 2, .bin .mul (.con (.int 3)) (.loc 1), .ife (.val (.cmp .ge (.loc 2) (.bin .pow (.con (.int 10)) (.con (.int 18))))) (.bin .fdiv (.loc 2) (.bin .pow (.con (.int 10)) (.con (.int 18)))) (.con (.int 0))])]⟩
def c_zq13 : Fn := ⟨2, 5, [.iff (.val (.cmp .gt (.sub (.loc 0) (.con (.int 2))) (.con (.int 0)))) [.asg (.nm 2) (.bin .mod (.sub (.loc 0) (.con (.int 2))) (.loc 1)), .asg (.sub (.loc 0) (.con (.int 2))) (.bin .fdiv (.sub (.loc 0) (.con (.int 2))) (.loc 1)), .ret (.loc 2)] [], .asg (.sub (.loc 0) (.con (.int 1))) (.bin .add (.sub (.loc 0) (.con (.int 1))) (.con (.int 1))), .asg (.nm 3) (.lst [.con (.int 2147483647), .con (.int 2147483629), .con (.int 2147483587), .con (.int 2147483579), .con (.int 2147483563), .con (.int 2147483549), .con (.int 2147483543), .con (.int 2147483497)]), .asg (.nm 4) (.sub (.bin .add (.loc 3) (.lst [.con (.int 2147483489), .con (.int 2147483477), .con (.int 2147483423)])) (.bin .mod (.sub (.loc 0) (.con (.int 1))) (.con (.int 11)))), .ret (.bin .mod (.bin .fdiv (.bin .mod (.bin .pow (.bin .add (.bin .add (.bin .mod (.sub (.loc 0) (.con (.int 0))) (.loc 4)) (.bin .mul (.con (.int 7919)) (.sub (.loc 0) (.con (.int 1))))) (.con (.int 1))) (.con (.int 5))) (.loc 4)) (.con (.int 13))) (.loc 1))]⟩
def c_zq14 : Fn := ⟨2, 4, [.asg (.tup [.nm 2, .nm 3]) (.tup [.bi .list [.loc 1], .lst []]), .whl (.val (.cmp .ne (.loc 2) (.lst []))) [.xpr (.me .append (.loc 3) [.me .popi (.loc 2) [.call F.zq13 [.loc 0, .bi .len [.loc 2]]]])], .ret (.loc 3)]⟩
def c_zq15 : Fn := ⟨1, 9, [.asg (.tup [.nm 1, .nm 2, .nm 3]) (.tup [.dct [], .lst [], .lst []]), .forr (.val (.loc 0)) (.nm 4) [.forr (.enum (.loc 4) 0) (.tup [.nm 5, .nm 6]) [.asg (.sub (.loc 1) (.bin .sub (.bin .add (.loc 6) (.con (.int 1))) (.bin .mul (.con (.int 2)) (.bin .mod (.loc 6) (.con (.int 2)))))) (.sub (.loc 4) (.bin .mod (.bin .add (.loc 5) (.con (.int 1))) (.bi .len [.loc 4])))]], .forr (.val (.bi .sorted [.loc 1])) (.nm 7) [.asg (.tup [.nm 8, .nm 6]) (.tup [.lst [], .loc 7]), .whl (.val (.cmp .nin (.loc 6) (.loc 3))) [.xpr (.me .append (.loc 8) [.loc 6]), .xpr (.me .append (.loc 3) [.loc 6]), .asg (.nm 6) (.sub (.loc 1) (.loc 6))], .iff (.val (.cmp .ne (.loc 8) (.lst []))) [.xpr (.me .append (.loc 2) [.loc 8])] []], .ret (.loc 2)]⟩
def c_zq16 : Fn := ⟨3, 6, [.asg (.nm 3) (.sub (.lc [4, 5] (.enum (.loc 0) 0) (.tup [.nm 4, .nm 5]) [.val (.cmp .inn (.loc 2) (.loc 5))] (.loc 4)) (.con (.int 0))), .xpr (.me .insert (.sub (.loc 0) (.loc 3)) [.me .index (.sub (.loc 0) (.loc 3)) [.loc 2], .loc 1])]⟩
def c_zq17 : Fn := ⟨4, 7, [.asg (.nm 4) (.call F.zq13 [.loc 0, .bi .len [.loc 1]]), .iff (.val (.cmp .eq (.sub (.loc 1) (.loc 4)) (.lst []))) [.xpr (.me .extend (.sub (.loc 1) (.loc 4)) [.ife (.val (.loc 3)) (.slc (.loc 2) none (some (.con (.int 1)))) (.loc 2)])] [.asg (.nm 5) (.sub (.sub (.loc 1) (.loc 4)) (.call F.zq13 [.loc 0, .bi .len [.sub (.loc 1) (.loc 4)]])), .iff (.nt (.val (.loc 3))) [.asg (.nm 6) (.sub (.lc [6] (.val (.call F.zq15 [.loc 1])) (.nm 6) [.val (.cmp .inn (.loc 5) (.loc 6))] (.loc 6)) (.con (.int 0))), .xpr (.call F.zq16 [.loc 1, .sub (.loc 2) (.con (.int 1)), .sub (.loc 6) (.call F.zq13 [.loc 0, .bi .len [.loc 6]])])] [], .xpr (.call F.zq16 [.loc 1, .sub (.loc 2) (.con (.int 0)), .loc 5])], .iff (.val (.loc 3)) [.xpr (.me .append (.loc 1) [.lst [.sub (.loc 2) (.con (.int 1))]])] []]⟩
def c_zq18 : Fn := ⟨3, 12, [.asg (.tup [.nm 3, .nm 4]) (.tup [.call F.zq14 [.loc 0, .bi .lrng [.loc 2]], .dct []]), .forr (.enum (.loc 3) 0) (.tup [.nm 5, .nm 6]) [.asg (.nm 7) (.call F.zq13 [.loc 0, .con (.int 2)]), .asg (.tup [.sub (.loc 4) (.bin .mul (.con (.int 2)) (.loc 5)), .sub (.loc 4) (.bin .add (.bin .mul (.con (.int 2)) (.loc 5)) (.con (.int 1)))]) (.tup [.bin .add (.bin .mul (.con (.int 2)) (.loc 6)) (.loc 7), .bin .sub (.bin .add (.bin .mul (.con (.int 2)) (.loc 6)) (.con (.int 1))) (.loc 7)])], .asg (.nm 8) (.lst []), .forr (.val (.call F.zq14 [.loc 0, .loc 1])) (.nm 9) [.asg (.nm 10) (.call F.zq13 [.loc 0, .bin .add (.bi .len [.loc 9]) (.con (.int 1))]), .xpr (.me .append (.loc 8) [.bi .tuple [.lc [11] (.val (.bin .add (.slc (.loc 9) (some (.loc 10)) none) (.slc (.loc 9) none (some (.loc 10))))) (.nm 11) [] (.sub (.loc 4) (.loc 11))]])], .ret (.bi .tuple [.loc 8])]⟩
def c_zq19 : Fn := ⟨3, 7, [.asg (.tup [.nm 3, .nm 4]) (.tup [.lst [], .con (.int 0)]), .forr (.rng [.call F.zq13 [.loc 0, .bin .add (.bin .add (.loc 1) (.loc 2)) (.con (.int 1))]]) (.nm 5) [.asg (.nm 6) (.call F.zq13 [.loc 0, .con (.int 16)]), .iff (.or2 (.val (.cmp .eq (.loc 3) (.lst []))) (.and2 (.val (.cmp .eq (.loc 6) (.con (.int 0)))) (.val (.cmp .lt (.bi .len [.loc 3]) (.loc 1))))) [.xpr (.me .append (.loc 3) [.lst []])] [.iff (.val (.cmp .lt (.loc 4) (.loc 2))) [.xpr (.call F.zq17 [.loc 0, .loc 3, .lst [.bin .mul (.con (.int 2)) (.loc 4), .bin .add (.bin .mul (.con (.int 2)) (.loc 4)) (.con (.int 1))], .and2 (.cmp .lt (.loc 6) (.con (.int 8))) (.cmp .lt (.bi .len [.loc 3]) (.loc 1))]), .asg (.nm 4) (.bin .add (.loc 4) (.con (.int 1)))] []]], .ret (.call F.zq18 [.loc 0, .loc 3, .loc 4])]⟩
def c_zq20 : Fn := ⟨3, 7, [.asg (.nm 3) (.lc [4] (.rng [.bin .add (.con (.int 1)) (.call F.zq13 [.loc 0, .loc 1])]) (.nm 4) [] (.lst [])), .forr (.val (.call F.zq14 [.loc 0, .bi .lrng [.bin .mul (.con (.int 2)) (.call F.zq13 [.loc 0, .bin .add (.loc 2) (.con (.int 1))])]])) (.nm 5) [.xpr (.me .append (.sub (.loc 3) (.call F.zq13 [.loc 0, .bi .len [.loc 3]])) [.loc 5])], .ret (.bi .tuple [.lc [6] (.val (.loc 3)) (.nm 6) [] (.bi .tuple [.loc 6])])]⟩
def c_zq21 : Fn := ⟨2, 5, [.asg (.nm 2) (.bin .sub (.bin .add (.loc 1) (.con (.int 1))) (.bin .mul (.con (.int 2)) (.bin .mod (.loc 1) (.con (.int 2))))), .asg (.nm 3) (.sub (.lc [4] (.val (.loc 0)) (.nm 4) [.val (.cmp .inn (.loc 2) (.loc 4))] (.loc 4)) (.con (.int 0))), .ret (.sub (.bin .add (.loc 3) (.loc 3)) (.bin .add (.me .index (.loc 3) [.loc 2]) (.con (.int 1))))]⟩
def c_zq22 : Fn := ⟨1, 6, [.asg (.tup [.nm 1, .nm 2]) (.tup [.bi .sorted [.bi .suml [.lc [3] (.val (.loc 0)) (.nm 3) [] (.bi .list [.loc 3]), .lst []]], .bin .mul (.lst [.tup []]) (.me .count (.loc 0) [.tup []])]), .whl (.val (.cmp .ne (.loc 1) (.lst []))) [.asg (.nm 4) (.lst [.sub (.loc 1) (.con (.int 0))]), .whl (.val (.cmp .ne (.call F.zq21 [.loc 0, .sub (.loc 4) (.neg (.con (.int 1)))]) (.sub (.loc 4) (.con (.int 0))))) [.xpr (.me .append (.loc 4) [.call F.zq21 [.loc 0, .sub (.loc 4) (.neg (.con (.int 1)))]])], .asg (.nm 1) (.lc [5] (.val (.loc 1)) (.nm 5) [.val (.cmp .nin (.loc 5) (.loc 4))] (.loc 5)), .xpr (.me .append (.loc 2) [.bi .tuple [.loc 4]])], .ret (.bi .tuple [.loc 2])]⟩
def c_zq23 : Fn := ⟨2, 8, [.asg (.tup [.nm 2, .nm 3]) (.tup [.bi .repr [.loc 1], .call F.zq22 [.loc 1]]), .iff (.or2 (.val (.cmp .ne (.bi .repr [.call F.zq10 [.loc 1]]) (.bi .repr [.loc 3]))) (.val (.cmp .ne (.bi .list [.loc 3]) (.bi .sorted [.bi .list [.bin .add (.loc 3) (.tup [])]])))) [.ret (.con (.bl false))] [], .forr (.enum (.loc 3) 0) (.tup [.nm 4, .nm 5]) [.forr (.enum (.loc 5) 0) (.tup [.nm 6, .nm 7]) [.iff (.or2 (.val (.cmp .ne (.call F.zq9 [.loc 1, .loc 7]) (.sub (.loc 5) (.bin .mod (.bin .add (.loc 6) (.con (.int 1))) (.bi .len [.loc 5]))))) (.val (.cmp .ne (.call F.zq11 [.loc 1, .loc 7]) (.loc 4)))) [.ret (.con (.bl false))] [], .iff (.val (.cmp .ne (.call F.zq9 [.loc 1, .loc 7]) (.call F.zq21 [.loc 1, .loc 7]))) [.ret (.con (.bl false))] []]], .ret (.and2 (.cmp .eq (.call F.zq10 [.bi .tuple [.call F.zq14 [.loc 0, .loc 1]]]) (.loc 3)) (.cmp .eq (.bi .repr [.loc 1]) (.loc 2)))]⟩
def c_law : Fn := ⟨1, 3, [.forr (.rng [.bi .max2 [.con (.int 1), .bi .min2 [.con (.int 6), .bi .len [.loc 0]]]]) (.nm 1) [.asg (.nm 2) (.call F.zq12 [.loc 0, .loc 1]), .iff (.nt (.val (.call F.zq23 [.loc 2, .call F.zq20 [.loc 2, .con (.int 6), .con (.int 9)]]))) [.ret (.con (.bl false))] [], .iff (.nt (.val (.call F.zq23 [.loc 2, .call F.zq19 [.loc 2, .con (.int 6), .con (.int 9)]]))) [.ret (.con (.bl false))] []], .ret (.and2 (.cmp .eq (.call F.zq10 [.tup []]) (.tup [])) (.cmp .eq (.call F.zq10 [.tup [.tup [], .tup []]]) (.tup [.tup [], .tup []])))]⟩
def fns : Nat -> Option Fn
  | 0 => some c_zq0
  | 1 => some c_zq1
  | 2 => some c_zq2
  | 3 => some c_zq3
  | 4 => some c_zq4
  | 5 => some c_zq5
  | 6 => some c_zq6
  | 7 => some c_zq7
  | 8 => some c_zq8
  | 9 => some c_zq9
  | 10 => some c_zq10
  | 11 => some c_zq11
  | 12 => some c_zq12
  | 13 => some c_zq13
  | 14 => some c_zq14
  | 15 => some c_zq15
  | 16 => some c_zq16
  | 17 => some c_zq17
  | 18 => some c_zq18
  | 19 => some c_zq19
  | 20 => some c_zq20
  | 21 => some c_zq21
  | 22 => some c_zq22
  | 23 => some c_zq23
  | 24 => some c_law
  | _ => none
def lamsF : Nat -> Option (Str × Ex)
  | _ => none
def P : Pr := ⟨fns, fun _ => none, fun _ _ => false, lamsF⟩
end Fs
namespace Fs
open PySem L2 PyProof.Rows PySem.Spec
structure Ev (w : World) (K : PySem.W.Frag) (mg : Str -> Option Value) (base : Heap) (Z : Wc) (n : Nat) : Prop where
  f_all : mg "all" = none
  f_bool : mg "bool" = none
  f_enumerate : mg "enumerate" = none
  f_int : mg "int" = none
  f_isinstance : mg "isinstance" = none
  f_len : mg "len" = none
  f_list : mg "list" = none
  f_max : mg "max" = none
  f_min : mg "min" = none
  f_range : mg "range" = none
  f_repr : mg "repr" = none
  f_sorted : mg "sorted" = none
  f_sum : mg "sum" = none
  f_tuple : mg "tuple" = none
  q_MAX_EDGES : ∃ t, mg "MAX_EDGES" = some (.int 120 t)
  q_MAX_NODES : ∃ t, mg "MAX_NODES" = some (.int 60 t)
  C_zq0 : Cal pw w K mg base Z P n F.zq0 "is_index" ["value", "many"]
  C_zq1 : Cal pw w K mg base Z P n F.zq1 "graph_fault" ["value"]
  C_zq2 : Cal pw w K mg base Z P n F.zq2 "check_graph" ["graph"]
  C_zq3 : Cal pw w K mg base Z P n F.zq3 "dart_count" ["graph"]
  C_zq4 : Cal pw w K mg base Z P n F.zq4 "need_dart" ["graph", "dart"]
  C_zq5 : Cal pw w K mg base Z P n F.zq5 "opposite_of" ["dart"]
  C_zq6 : Cal pw w K mg base Z P n F.zq6 "successors" ["graph"]
  C_zq7 : Cal pw w K mg base Z P n F.zq7 "face_list" ["graph"]
  C_zq8 : Cal pw w K mg base Z P n F.zq8 "face_of_darts" ["graph"]
  C_zq9 : Cal pw w K mg base Z P n F.zq9 "successor" ["graph", "dart"]
  C_zq10 : Cal pw w K mg base Z P n F.zq10 "faces" ["graph"]
  C_zq11 : Cal pw w K mg base Z P n F.zq11 "face_index" ["graph", "dart"]
  C_zq12 : Cal pw w K mg base Z P n F.zq12 "_law_source" ["_law_script", "_law_k"]
  C_zq13 : Cal pw w K mg base Z P n F.zq13 "_law_next" ["_law_source_here", "_law_many"]
  C_zq14 : Cal pw w K mg base Z P n F.zq14 "_law_mixed" ["_law_source_here", "_law_items"]
  C_zq15 : Cal pw w K mg base Z P n F.zq15 "_law_walks" ["_law_rotations"]
  C_zq16 : Cal pw w K mg base Z P n F.zq16 "_law_put" ["_law_rotations", "_law_dart", "_law_corner"]
  C_zq17 : Cal pw w K mg base Z P n F.zq17 "_law_add_edge" ["_law_source_here", "_law_rotations", "_law_pair", "_law_is_leaf"]
  C_zq18 : Cal pw w K mg base Z P n F.zq18 "_law_renumbered" ["_law_source_here", "_law_rotations", "_law_many"]
  C_zq19 : Cal pw w K mg base Z P n F.zq19 "_law_graph" ["_law_source_here", "_law_nodes", "_law_edges"]
  C_zq20 : Cal pw w K mg base Z P n F.zq20 "_law_any_graph" ["_law_source_here", "_law_nodes", "_law_edges"]
  C_zq21 : Cal pw w K mg base Z P n F.zq21 "_law_behind" ["_law_drawing", "_law_end"]
  C_zq22 : Cal pw w K mg base Z P n F.zq22 "_law_cycles" ["_law_drawing"]
  C_zq23 : Cal pw w K mg base Z P n F.zq23 "_law_right" ["_law_source_here", "_law_drawing"]
  C_law : Cal pw w K mg base Z P n F.law "law" ["_law_script"]
local macro_rules
  | `(tactic| trivial) => `(tactic| first | exact Or.inl rfl | exact Or.inr (Or.inl rfl) | exact Or.inr (Or.inr rfl) | exact Or.inr rfl)
abbrev nn0 : List Str := [("value" : Str), ("many" : Str)]
abbrev nn1 : List Str := [("value" : Str), ("rotation" : Str), ("many" : Str), ("missing" : Str), ("dart" : Str)]
abbrev nn2 : List Str := [("graph" : Str), ("place" : Str)]
abbrev nn3 : List Str := [("graph" : Str), ("rotation" : Str)]
abbrev nn4 : List Str := [("graph" : Str), ("dart" : Str)]
abbrev nn5 : List Str := [("dart" : Str)]
abbrev nn6 : List Str := [("graph" : Str), ("found" : Str), ("rotation" : Str), ("place" : Str), ("dart" : Str)]
abbrev nn7 : List Str := [("graph" : Str), ("follows" : Str), ("seen" : Str), ("found" : Str), ("rotation" : Str), ("start" : Str), ("face" : Str), ("dart" : Str)]
abbrev nn8 : List Str := [("graph" : Str), ("found" : Str), ("index" : Str), ("face" : Str), ("dart" : Str)]
abbrev nn9 : List Str := [("graph" : Str)]
abbrev nn10 : List Str := [("_law_script" : Str), ("_law_k" : Str), ("_law_cell" : Str)]
abbrev nn11 : List Str := [("_law_source_here" : Str), ("_law_many" : Str), ("_law_found" : Str), ("_law_primes" : Str), ("_law_prime" : Str)]
abbrev nn12 : List Str := [("_law_source_here" : Str), ("_law_items" : Str), ("_law_rest" : Str), ("_law_found" : Str)]
abbrev nn13 : List Str := [("_law_rotations" : Str), ("_law_follows" : Str), ("_law_found" : Str), ("_law_seen" : Str), ("_law_rotation" : Str), ("_law_k" : Str), ("_law_dart" : Str), ("_law_start" : Str), ("_law_walk" : Str)]
abbrev nn14 : List Str := [("_law_rotations" : Str), ("_law_dart" : Str), ("_law_corner" : Str), ("_law_at" : Str), ("_law_node" : Str), ("_law_rotation" : Str)]
abbrev nn15 : List Str := [("_law_source_here" : Str), ("_law_rotations" : Str), ("_law_pair" : Str), ("_law_is_leaf" : Str), ("_law_at" : Str), ("_law_corner" : Str), ("_law_walk" : Str)]
abbrev nn16 : List Str := [("_law_source_here" : Str), ("_law_rotations" : Str), ("_law_many" : Str), ("_law_order" : Str), ("_law_darts" : Str), ("_law_k" : Str), ("_law_edge" : Str), ("_law_turn" : Str), ("_law_found" : Str), ("_law_rotation" : Str), ("_law_shift" : Str), ("_law_dart" : Str)]
abbrev nn17 : List Str := [("_law_source_here" : Str), ("_law_nodes" : Str), ("_law_edges" : Str), ("_law_rotations" : Str), ("_law_many" : Str), ("_law_turn" : Str), ("_law_way" : Str)]
abbrev nn18 : List Str := [("_law_source_here" : Str), ("_law_nodes" : Str), ("_law_edges" : Str), ("_law_rotations" : Str), ("_law_turn" : Str), ("_law_end" : Str), ("_law_rotation" : Str)]
abbrev nn19 : List Str := [("_law_drawing" : Str), ("_law_end" : Str), ("_law_far" : Str), ("_law_rotation" : Str), ("_law_row" : Str)]
abbrev nn20 : List Str := [("_law_drawing" : Str), ("_law_left" : Str), ("_law_found" : Str), ("_law_row" : Str), ("_law_cycle" : Str), ("_law_end" : Str)]
abbrev nn21 : List Str := [("_law_source_here" : Str), ("_law_drawing" : Str), ("_law_kept" : Str), ("_law_due" : Str), ("_law_place" : Str), ("_law_cycle" : Str), ("_law_k" : Str), ("_law_end" : Str)]
abbrev nn22 : List Str := [("_law_script" : Str), ("_law_k" : Str), ("_law_source_here" : Str)]
section
abbrev bdS (w : World) (K : PySem.W.Frag) (mg : Str -> Option Value) (base : Heap) (Z : Wc) (n : Nat) (cdv : Value) (A : Around) (outer : List PySem.Env) (s : Shared) (H : Hp) (Ek : XK) (fa : Addr) (N : List Str) (x : Str) (i : Nat) (b : List Sx) : Prop :=
  Room (n + 2) (A.deeper (envOfC x (defScope (top i)) s.heap.objs.size fa cdv)) -> A.guards = some [] -> PSs (cxOf (L2.CX pw w) pw w K mg base N x (defScope (top i)) fa cdv A outer s H Ek) (defBody (top i)) (iL (P.tbl n) Z (fun cls dx _ H' => Ek cls dx H') b)
theorem bdP {w : World} {K : PySem.W.Frag} {mg : Str -> Option Value} {base : Heap} {Z : Wc} {n : Nat} {cdv : Value} {A : Around} {outer : List PySem.Env} {s : Shared} {H : Hp} {Ek : XK} {fa : Addr} {N : List Str} {x : Str} {i : Nat} {b : List Sx} (hn : N.Nodup)
    (h : Room (n + 2) (A.deeper (envOfC x (defScope (top i)) s.heap.objs.size fa cdv)) -> A.guards = some [] -> (cxOf (L2.CX pw w) pw w K mg base N x (defScope (top i)) fa cdv A outer s H Ek).A.units + 65 < cLine -> (cxOf (L2.CX pw w) pw w K mg base N x (defScope (top i)) fa cdv A outer s H Ek).A.units + 64 < cLine -> (cxOf (L2.CX pw w) pw w K mg base N x (defScope (top i)) fa cdv A outer s H Ek).A.units + 1 < cLine -> (cxOf (L2.CX pw w) pw w K mg base N x (defScope (top i)) fa cdv A outer s H Ek).N.Nodup -> Takes (cxOf (L2.CX pw w) pw w K mg base N x (defScope (top i)) fa cdv A outer s H Ek) (fun cls dx _ H' => Ek cls dx H') -> PassesOwn (model pw w) (cxOf (L2.CX pw w) pw w K mg base N x (defScope (top i)) fa cdv A outer s H Ek).A (cxOf (L2.CX pw w) pw w K mg base N x (defScope (top i)) fa cdv A outer s H Ek).env (cxOf (L2.CX pw w) pw w K mg base N x (defScope (top i)) fa cdv A outer s H Ek).xe -> PSs (cxOf (L2.CX pw w) pw w K mg base N x (defScope (top i)) fa cdv A outer s H Ek) (defBody (top i)) (iL (P.tbl n) Z (fun cls dx _ H' => Ek cls dx H') b)) : bdS w K mg base Z n cdv A outer s H Ek fa N x i b := by
  intro hr hgd
  have hu65 : (cxOf (L2.CX pw w) pw w K mg base N x (defScope (top i)) fa cdv A outer s H Ek).A.units + 65 < cLine := (by have h := hr.un; show (A.deeper (envOfC x (defScope (top i)) s.heap.objs.size fa cdv)).units + 65 < cLine; omega)
  exact h hr hgd hu65 (by omega) (by omega) hn (takes_of rfl rfl rfl rfl) (passes_of rfl)
theorem sl {X : Cx} {T : Tbl} {Z : Wc} {W : WX} {pos : Pos} (i : Nat) {x : Str} (hN : X.N[i]? = some x := by rfl) (hv : Vis X.env.scope x := by trivial) (hd : (x == ("__debug__" : Str)) = false := by rfl) (hcd : (x == ("__classdict__" : Str)) = false := by rfl) : PE X (.Name x pos) (iE T Z W (.loc i)) := se_loc hN hv hd hcd
theorem sn {X : L2.Cx} {T : Tbl} {Z : Wc} {pos : Pos} (i : Nat) {x : Str} (hN : X.N.Nodup) (hi : X.N[i]? = some x := by rfl) (hx : Loc X.env.scope x := by trivial) (hf : X.fn x = true ∨ X.env.scope.names.lookup x = some .local := by trivial) : PG X (.Name x pos) (iG T Z (.nm i)) := sg_nm hN hi hx hf
variable {w : World} {K : PySem.W.Frag} {mg : Str -> Option Value} {base : Heap} {Z : Wc} {n : Nat}
variable (hK : K = Z.K) (hgb : Z.gb = none) (E : Ev w K mg base Z n)
variable {cdv : Value} {A : Around} {outer : List PySem.Env} {s : Shared} {H : Hp} {Ek : XK} {fa : Addr}
include hK hgb E
theorem bd_zq0 : bdS w K mg base Z n cdv A outer s H Ek fa nn0 "is_index" 7 c_zq0.body := by
  refine bdP (by decide +kernel) fun hr hgd hu65 hu64 hu1 hN tk hp => ?_
  exact (ssl_cons (ss_ret (se_and (se_isT (t := "int") hK okT_int (by rfl) E.f_isinstance (by rfl) E.f_int (by decide +kernel) (sl 0) (by decide) (by rfl) rfl rfl rfl) (se_and (se_nt hK (se_isT (t := "bool") hK okT_bool (by rfl) E.f_isinstance (by rfl) E.f_bool (by decide +kernel) (sl 0) (by decide) (by rfl) rfl rfl rfl)) (se_one (se_chn (o1 := .le) (o2 := .lt) se_int (sl 0) (sl 1) (by rfl))))))
  ssl_nil)
theorem bd_zq1 : bdS w K mg base Z n cdv A outer s H Ek fa nn1 "graph_fault" 8 c_zq1.body := by
  refine bdP (by decide +kernel) fun hr hgd hu65 hu64 hu1 hN tk hp => ?_
  obtain ⟨t_MAX_EDGES, q_MAX_EDGES⟩ := E.q_MAX_EDGES
  obtain ⟨t_MAX_NODES, q_MAX_NODES⟩ := E.q_MAX_NODES
  exact (ssl_cons (ss_if (st_w (sw_or (st_not (st_val (se_isT (t := "tuple") hK okT_tuple (by rfl) E.f_isinstance (by rfl) E.f_tuple (by decide +kernel) (sl 0) (by decide) (by rfl) rfl rfl rfl) (fun _ => rfl) hK)) (sw_or1 (st_cmp1 (op := .gt) hK hu65 (se_bi (b := .len) (fun _ => bi_len hK) (by rfl) E.f_len (by decide +kernel) (sa_cons (sl 0) sa_nil rfl)) (se_glob (d := .int 60) (v := .int 60) (by rfl) q_MAX_NODES ⟨_, rfl⟩ (fun _ _ => ⟨rfl, rfl⟩) rfl))))) (ssl_cons (ss_ret se_str)
  ssl_nil) ssl_nil)
  (ssl_cons (ss_if (st_not (st_val (se_bi (b := .all) (fun _ => bi_all hK rfl) (by rfl) E.f_all (by decide +kernel) (sa_cons (se_lc (own := [("rotation", 1)]) rfl hN (by first | (show blkC nn1 (defScope (top 8)) _ _ = true; decide +kernel) | rfl) (by decide +kernel) (si_val hK (sl 0)) (fun _ _ _ _ _ => (sn 1 hN)) (fun _ _ _ _ _ => sts_nil) (fun _ _ _ _ _ => (se_isT (t := "tuple") hK okT_tuple (by rfl) E.f_isinstance (by rfl) E.f_tuple (by decide +kernel) (sl 1) (by decide) (by rfl) rfl rfl rfl))) sa_nil rfl)) (fun _ => rfl) hK)) (ssl_cons (ss_ret se_str)
  ssl_nil) ssl_nil)
  (ssl_cons (ss_asg (se_bi (b := .sum) (fun _ => bi_sum hK rfl) (by rfl) E.f_sum (by decide +kernel) (sa_cons (se_lc (own := [("rotation", 1)]) rfl hN (by first | (show blkC nn1 (defScope (top 8)) _ _ = true; decide +kernel) | rfl) (by decide +kernel) (si_val hK (sl 0)) (fun _ _ _ _ _ => (sn 1 hN)) (fun _ _ _ _ _ => sts_nil) (fun _ _ _ _ _ => (se_bi (b := .len) (fun _ => bi_len hK) (by rfl) E.f_len (by decide +kernel) (sa_cons (sl 1) sa_nil rfl)))) sa_nil rfl)) (sn 2 hN) rfl rfl rfl)
  (ssl_cons (ss_if (st_w (sw_or (st_cmp1 (op := .gt) hK hu65 (sl 2) (se_bin (op := .mul) hK se_int (se_glob (d := .int 120) (v := .int 120) (by rfl) q_MAX_EDGES ⟨_, rfl⟩ (fun _ _ => ⟨rfl, rfl⟩) rfl))) (sw_or1 (st_cmp1 (op := .eq) hK hu65 (se_bin (op := .mod) hK (sl 2) se_int) se_int)))) (ssl_cons (ss_ret se_str)
  ssl_nil) ssl_nil)
  (ssl_cons (ss_setDc (i := 3) (own := [("dart", 4)]) rfl hN rfl rfl (by rfl) (by first | (show blkC nn1 (defScope (top 8)) _ _ = true; decide +kernel) | rfl) (by decide +kernel) (si_rng1 (by rfl) E.f_range (sl 2) rfl) (fun _ _ _ _ _ => (sn 4 hN)) (fun _ _ _ _ _ => sts_nil) (fun _ _ _ _ _ => (sl 4)) (fun _ _ _ _ _ => se_bl))
  (ssl_cons (ss_for hp rfl (si_val hK (sl 0)) (sn 1 hN) (ssl_cons (ss_for hp rfl (si_val hK (sl 1)) (sn 4 hN) (ssl_cons (ss_if (st_w (sw_or (st_not (st_val (se_callC E.C_zq0 hr hgd tk (by rfl) (sa_cons (sl 4) (sa_cons (sl 2) sa_nil rfl) rfl)) (fun _ => rfl) hK)) (sw_or1 (st_cmp1 (op := .nin) hK hu65 (sl 4) (sl 3))))) (ssl_cons (ss_ret se_str)
  ssl_nil) ssl_nil)
  (ssl_cons (ss_xpr (se_me (m := .popi) hK (k_popi hu1) (sl 3) (sa_cons (sl 4) sa_nil rfl)) rfl)
  ssl_nil)) (fun _ => rfl))
  ssl_nil) (fun _ => rfl))
  (ssl_cons (ss_ret se_non)
  ssl_nil)))))))
theorem bd_zq2 : bdS w K mg base Z n cdv A outer s H Ek fa nn2 "check_graph" 9 c_zq2.body := by
  refine bdP (by decide +kernel) fun hr hgd hu65 hu64 hu1 hN tk hp => ?_
  exact (ssl_cons (ss_asg (se_callC E.C_zq1 hr hgd tk (by rfl) (sa_cons (sl 0) sa_nil rfl)) (sn 1 hN) rfl rfl rfl)
  (ssl_cons (ss_if (st_cmp1 (op := .ntN) hK hu65 (sl 1) se_non) (ssl_cons ss_hole
  ssl_nil) ssl_nil)
  ssl_nil))
theorem bd_zq3 : bdS w K mg base Z n cdv A outer s H Ek fa nn3 "dart_count" 10 c_zq3.body := by
  refine bdP (by decide +kernel) fun hr hgd hu65 hu64 hu1 hN tk hp => ?_
  exact (ssl_cons (ss_ret (se_bi (b := .sum) (fun _ => bi_sum hK rfl) (by rfl) E.f_sum (by decide +kernel) (sa_cons (se_lc (own := [("rotation", 1)]) rfl hN (by first | (show blkC nn3 (defScope (top 10)) _ _ = true; decide +kernel) | rfl) (by decide +kernel) (si_val hK (sl 0)) (fun _ _ _ _ _ => (sn 1 hN)) (fun _ _ _ _ _ => sts_nil) (fun _ _ _ _ _ => (se_bi (b := .len) (fun _ => bi_len hK) (by rfl) E.f_len (by decide +kernel) (sa_cons (sl 1) sa_nil rfl)))) sa_nil rfl)))
  ssl_nil)
theorem bd_zq4 : bdS w K mg base Z n cdv A outer s H Ek fa nn4 "need_dart" 11 c_zq4.body := by
  refine bdP (by decide +kernel) fun hr hgd hu65 hu64 hu1 hN tk hp => ?_
  exact (ssl_cons (ss_if (st_not (st_val (se_callC E.C_zq0 hr hgd tk (by rfl) (sa_cons (sl 1) (sa_cons (se_callC E.C_zq3 hr hgd tk (by rfl) (sa_cons (sl 0) sa_nil rfl)) sa_nil rfl) rfl)) (fun _ => rfl) hK)) (ssl_cons ss_hole
  ssl_nil) ssl_nil)
  ssl_nil)
theorem bd_zq5 : bdS w K mg base Z n cdv A outer s H Ek fa nn5 "opposite_of" 12 c_zq5.body := by
  refine bdP (by decide +kernel) fun hr hgd hu65 hu64 hu1 hN tk hp => ?_
  exact (ssl_cons (ss_ret (se_bin (op := .sub) hK (se_bin (op := .add) hK (sl 0) se_int) (se_bin (op := .mul) hK se_int (se_bin (op := .mod) hK (sl 0) se_int))))
  ssl_nil)
theorem bd_zq6 : bdS w K mg base Z n cdv A outer s H Ek fa nn6 "successors" 14 c_zq6.body := by
  refine bdP (by decide +kernel) fun hr hgd hu65 hu64 hu1 hN tk hp => ?_
  exact (ssl_cons (ss_asg (se_bin (op := .mul) hK (se_lst (sa_cons se_int sa_nil rfl)) (se_callC E.C_zq3 hr hgd tk (by rfl) (sa_cons (sl 0) sa_nil rfl))) (sn 1 hN) rfl rfl rfl)
  (ssl_cons (ss_for hp rfl (si_val hK (sl 0)) (sn 2 hN) (ssl_cons (ss_for hp rfl (si_en hK (by rfl) E.f_enumerate (sl 2) rfl) (sg_tup hK rfl (sgs_cons (sn 3 hN) (sgs_cons (sn 4 hN) sgs_nil rfl) rfl) rfl rfl rfl) (ssl_cons (ss_asg (se_sub hK hu1 (sl 2) (se_bin (op := .mod) hK (se_bin (op := .add) hK (sl 3) se_int) (se_bi (b := .len) (fun _ => bi_len hK) (by rfl) E.f_len (by decide +kernel) (sa_cons (sl 2) sa_nil rfl))) (fun _ _ => rfl)) (sg_sub (W := fun cls dx _ H' => Ek cls dx H') hu1 (sl 1) (se_callC E.C_zq5 hr hgd tk (by rfl) (sa_cons (sl 4) sa_nil rfl)) (fun _ => rfl)) rfl rfl rfl)
  ssl_nil) (fun _ => rfl))
  ssl_nil) (fun _ => rfl))
  (ssl_cons (ss_ret (sl 1))
  ssl_nil)))
theorem bd_zq7 : bdS w K mg base Z n cdv A outer s H Ek fa nn7 "face_list" 15 c_zq7.body := by
  refine bdP (by decide +kernel) fun hr hgd hu65 hu64 hu1 hN tk hp => ?_
  exact (ssl_cons (ss_par2 (i := 1) (j := 2) rfl hN rfl rfl (by decide) rfl rfl (sa_cons (se_callC E.C_zq6 hr hgd tk (by rfl) (sa_cons (sl 0) sa_nil rfl)) (sa_cons se_dct0 sa_nil rfl) rfl) (by rfl))
  (ssl_cons (ss_setLc (i := 3) (own := [("rotation", 4)]) rfl hN rfl rfl (by rfl) (by first | (show blkC nn7 (defScope (top 15)) _ _ = true; decide +kernel) | rfl) (by decide +kernel) (si_val hK (sl 0)) (fun _ _ _ _ _ => (sn 4 hN)) (fun _ _ _ _ _ => (sts_one (st_cmp1 (op := .eq) hK hu65 (sl 4) (se_tup sa_nil)))) (fun _ _ _ _ _ => (se_tup sa_nil)))
  (ssl_cons (ss_for hp rfl (si_rng1 (by rfl) E.f_range (se_bi (b := .len) (fun _ => bi_len hK) (by rfl) E.f_len (by decide +kernel) (sa_cons (sl 1) sa_nil rfl)) rfl) (sn 5 hN) (ssl_cons (ss_if (st_cmp1 (op := .nin) hK hu65 (sl 5) (sl 2)) (ssl_cons (ss_par2 (i := 6) (j := 7) rfl hN rfl rfl (by decide) rfl rfl (sa_cons (se_lst (sa_cons (sl 5) sa_nil rfl)) (sa_cons (se_sub hK hu1 (sl 1) (sl 5) (fun _ _ => rfl)) sa_nil rfl) rfl) (by rfl))
  (ssl_cons (ss_whl hp (st_cmp1 (op := .ne) hK hu65 (sl 7) (sl 5)) (ssl_cons (ss_xpr (se_me (m := .append) hK (k_append) (sl 6) (sa_cons (sl 7) sa_nil rfl)) rfl)
  (ssl_cons (ss_asg (se_sub hK hu1 (sl 1) (sl 7) (fun _ _ => rfl)) (sn 7 hN) rfl rfl rfl)
  ssl_nil)))
  (ssl_cons (ss_xpr (se_me (m := .update) hK (k_update) (sl 2) (sa_cons (se_dc (own := [("dart", 7)]) rfl hN (by first | (show blkC nn7 (defScope (top 15)) _ _ = true; decide +kernel) | rfl) (by decide +kernel) (si_val hK (sl 6)) (fun _ _ _ _ _ => (sn 7 hN)) (fun _ _ _ _ _ => sts_nil) (fun _ _ _ _ _ => (sl 7)) (fun _ _ _ _ _ => se_bl)) sa_nil rfl)) rfl)
  (ssl_cons (ss_xpr (se_me (m := .append) hK (k_append) (sl 3) (sa_cons (se_bt (b := .tuple) (fun _ => bi_tuple hK) (by rfl) E.f_tuple (by decide +kernel) (sa_cons (sl 6) sa_nil rfl)) sa_nil rfl)) rfl)
  ssl_nil)))) ssl_nil)
  ssl_nil) (fun _ => rfl))
  (ssl_cons (ss_ret (se_bt (b := .tuple) (fun _ => bi_tuple hK) (by rfl) E.f_tuple (by decide +kernel) (sa_cons (sl 3) sa_nil rfl)))
  ssl_nil))))
theorem bd_zq8 : bdS w K mg base Z n cdv A outer s H Ek fa nn8 "face_of_darts" 16 c_zq8.body := by
  refine bdP (by decide +kernel) fun hr hgd hu65 hu64 hu1 hN tk hp => ?_
  exact (ssl_cons (ss_asg (se_bin (op := .mul) hK (se_lst (sa_cons se_int sa_nil rfl)) (se_callC E.C_zq3 hr hgd tk (by rfl) (sa_cons (sl 0) sa_nil rfl))) (sn 1 hN) rfl rfl rfl)
  (ssl_cons (ss_for hp rfl (si_en hK (by rfl) E.f_enumerate (se_callC E.C_zq7 hr hgd tk (by rfl) (sa_cons (sl 0) sa_nil rfl)) rfl) (sg_tup hK rfl (sgs_cons (sn 2 hN) (sgs_cons (sn 3 hN) sgs_nil rfl) rfl) rfl rfl rfl) (ssl_cons (ss_for hp rfl (si_val hK (sl 3)) (sn 4 hN) (ssl_cons (ss_asg (sl 2) (sg_sub (W := fun cls dx _ H' => Ek cls dx H') hu1 (sl 1) (sl 4) (fun _ => rfl)) rfl rfl rfl)
  ssl_nil) (fun _ => rfl))
  ssl_nil) (fun _ => rfl))
  (ssl_cons (ss_ret (sl 1))
  ssl_nil)))
theorem bd_zq9 : bdS w K mg base Z n cdv A outer s H Ek fa nn4 "successor" 17 c_zq9.body := by
  refine bdP (by decide +kernel) fun hr hgd hu65 hu64 hu1 hN tk hp => ?_
  exact (ssl_cons (ss_xpr (se_callC E.C_zq2 hr hgd tk (by rfl) (sa_cons (sl 0) sa_nil rfl)) rfl)
  (ssl_cons (ss_xpr (se_callC E.C_zq4 hr hgd tk (by rfl) (sa_cons (sl 0) (sa_cons (sl 1) sa_nil rfl) rfl)) rfl)
  (ssl_cons (ss_ret (se_sub hK hu1 (se_callC E.C_zq6 hr hgd tk (by rfl) (sa_cons (sl 0) sa_nil rfl)) (sl 1) (fun _ _ => rfl)))
  ssl_nil)))
theorem bd_zq10 : bdS w K mg base Z n cdv A outer s H Ek fa nn9 "faces" 18 c_zq10.body := by
  refine bdP (by decide +kernel) fun hr hgd hu65 hu64 hu1 hN tk hp => ?_
  exact (ssl_cons (ss_xpr (se_callC E.C_zq2 hr hgd tk (by rfl) (sa_cons (sl 0) sa_nil rfl)) rfl)
  (ssl_cons (ss_ret (se_callC E.C_zq7 hr hgd tk (by rfl) (sa_cons (sl 0) sa_nil rfl)))
  ssl_nil))
theorem bd_zq11 : bdS w K mg base Z n cdv A outer s H Ek fa nn4 "face_index" 19 c_zq11.body := by
  refine bdP (by decide +kernel) fun hr hgd hu65 hu64 hu1 hN tk hp => ?_
  exact (ssl_cons (ss_xpr (se_callC E.C_zq2 hr hgd tk (by rfl) (sa_cons (sl 0) sa_nil rfl)) rfl)
  (ssl_cons (ss_xpr (se_callC E.C_zq4 hr hgd tk (by rfl) (sa_cons (sl 0) (sa_cons (sl 1) sa_nil rfl) rfl)) rfl)
  (ssl_cons (ss_ret (se_sub hK hu1 (se_callC E.C_zq8 hr hgd tk (by rfl) (sa_cons (sl 0) sa_nil rfl)) (sl 1) (fun _ _ => rfl)))
  ssl_nil)))
theorem bd_zq12 : bdS w K mg base Z n cdv A outer s H Ek fa nn10 "_law_source" 21 c_zq12.body := by
  refine bdP (by decide +kernel) fun hr hgd hu65 hu64 hu1 hN tk hp => ?_
  exact (ssl_cons (ss_asg (se_ife (st_cmp1 (op := .ne) hK hu65 (sl 0) (se_lst sa_nil)) (se_sub hK hu1 (sl 0) (se_bin (op := .mod) hK (sl 1) (se_bi (b := .len) (fun _ => bi_len hK) (by rfl) E.f_len (by decide +kernel) (sa_cons (sl 0) sa_nil rfl))) (fun _ _ => rfl)) se_int) (sn 2 hN) rfl rfl rfl)
  (ssl_cons (ss_ret (se_lst (sa_cons (sl 2) (sa_cons (se_bin (op := .mul) hK se_int (sl 1)) (sa_cons (se_ife (st_cmp1 (op := .ge) hK hu65 (sl 2) (se_bin (op := .pow) hK se_int se_int)) (se_bin (op := .fdiv) hK (sl 2) (se_bin (op := .pow) hK se_int se_int)) se_int) sa_nil rfl) rfl) rfl)))
  ssl_nil))
theorem bd_zq13 : bdS w K mg base Z n cdv A outer s H Ek fa nn11 "_law_next" 22 c_zq13.body := by
  refine bdP (by decide +kernel) fun hr hgd hu65 hu64 hu1 hN tk hp => ?_
  exact (ssl_cons (ss_if (st_cmp1 (op := .gt) hK hu65 (se_sub hK hu1 (sl 0) se_int (fun _ _ => rfl)) se_int) (ssl_cons (ss_asg (se_bin (op := .mod) hK (se_sub hK hu1 (sl 0) se_int (fun _ _ => rfl)) (sl 1)) (sn 2 hN) rfl rfl rfl)
  (ssl_cons (ss_asg (se_bin (op := .fdiv) hK (se_sub hK hu1 (sl 0) se_int (fun _ _ => rfl)) (sl 1)) (sg_sub (W := fun cls dx _ H' => Ek cls dx H') hu1 (sl 0) se_int (fun _ => rfl)) rfl rfl rfl)
  (ssl_cons (ss_ret (sl 2))
  ssl_nil))) ssl_nil)
  (ssl_cons (ss_asg (se_bin (op := .add) hK (se_sub hK hu1 (sl 0) se_int (fun _ _ => rfl)) se_int) (sg_sub (W := fun cls dx _ H' => Ek cls dx H') hu1 (sl 0) se_int (fun _ => rfl)) rfl rfl rfl)
  (ssl_cons (ss_asg (se_lst (sa_cons se_int (sa_cons se_int (sa_cons se_int (sa_cons se_int (sa_cons se_int (sa_cons se_int (sa_cons se_int (sa_cons se_int sa_nil rfl) rfl) rfl) rfl) rfl) rfl) rfl) rfl)) (sn 3 hN) rfl rfl rfl)
  (ssl_cons (ss_asg (se_sub hK hu1 (se_bin (op := .add) hK (sl 3) (se_lst (sa_cons se_int (sa_cons se_int (sa_cons se_int sa_nil rfl) rfl) rfl))) (se_bin (op := .mod) hK (se_sub hK hu1 (sl 0) se_int (fun _ _ => rfl)) se_int) (fun _ _ => rfl)) (sn 4 hN) rfl rfl rfl)
  (ssl_cons (ss_ret (se_bin (op := .mod) hK (se_bin (op := .fdiv) hK (se_bin (op := .mod) hK (se_bin (op := .pow) hK (se_bin (op := .add) hK (se_bin (op := .add) hK (se_bin (op := .mod) hK (se_sub hK hu1 (sl 0) se_int (fun _ _ => rfl)) (sl 4)) (se_bin (op := .mul) hK se_int (se_sub hK hu1 (sl 0) se_int (fun _ _ => rfl)))) se_int) se_int) (sl 4)) se_int) (sl 1)))
  ssl_nil)))))
theorem bd_zq14 : bdS w K mg base Z n cdv A outer s H Ek fa nn12 "_law_mixed" 23 c_zq14.body := by
  refine bdP (by decide +kernel) fun hr hgd hu65 hu64 hu1 hN tk hp => ?_
  exact (ssl_cons (ss_par2 (i := 2) (j := 3) rfl hN rfl rfl (by decide) rfl rfl (sa_cons (se_bt (b := .list) (fun _ => bi_list hK) (by rfl) E.f_list (by decide +kernel) (sa_cons (sl 1) sa_nil rfl)) (sa_cons (se_lst sa_nil) sa_nil rfl) rfl) (by rfl))
  (ssl_cons (ss_whl hp (st_cmp1 (op := .ne) hK hu65 (sl 2) (se_lst sa_nil)) (ssl_cons (ss_xpr (se_me (m := .append) hK (k_append) (sl 3) (sa_cons (se_me (m := .popi) hK (k_popi hu1) (sl 2) (sa_cons (se_callC E.C_zq13 hr hgd tk (by rfl) (sa_cons (sl 0) (sa_cons (se_bi (b := .len) (fun _ => bi_len hK) (by rfl) E.f_len (by decide +kernel) (sa_cons (sl 2) sa_nil rfl)) sa_nil rfl) rfl)) sa_nil rfl)) sa_nil rfl)) rfl)
  ssl_nil))
  (ssl_cons (ss_ret (sl 3))
  ssl_nil)))
theorem bd_zq15 : bdS w K mg base Z n cdv A outer s H Ek fa nn13 "_law_walks" 24 c_zq15.body := by
  refine bdP (by decide +kernel) fun hr hgd hu65 hu64 hu1 hN tk hp => ?_
  exact (ssl_cons (ss_par3 (i := 1) (j := 2) (l := 3) rfl hN rfl rfl rfl (by decide) (by decide) (by decide) rfl rfl rfl (sa_cons se_dct0 (sa_cons (se_lst sa_nil) (sa_cons (se_lst sa_nil) sa_nil rfl) rfl) rfl) (by rfl))
  (ssl_cons (ss_for hp rfl (si_val hK (sl 0)) (sn 4 hN) (ssl_cons (ss_for hp rfl (si_en hK (by rfl) E.f_enumerate (sl 4) rfl) (sg_tup hK rfl (sgs_cons (sn 5 hN) (sgs_cons (sn 6 hN) sgs_nil rfl) rfl) rfl rfl rfl) (ssl_cons (ss_asg (se_sub hK hu1 (sl 4) (se_bin (op := .mod) hK (se_bin (op := .add) hK (sl 5) se_int) (se_bi (b := .len) (fun _ => bi_len hK) (by rfl) E.f_len (by decide +kernel) (sa_cons (sl 4) sa_nil rfl))) (fun _ _ => rfl)) (sg_sub (W := fun cls dx _ H' => Ek cls dx H') hu1 (sl 1) (se_bin (op := .sub) hK (se_bin (op := .add) hK (sl 6) se_int) (se_bin (op := .mul) hK se_int (se_bin (op := .mod) hK (sl 6) se_int))) (fun _ => rfl)) rfl rfl rfl)
  ssl_nil) (fun _ => rfl))
  ssl_nil) (fun _ => rfl))
  (ssl_cons (ss_for hp rfl (si_val hK (se_bi (b := .sorted) (fun _ => bi_sorted hK rfl hu64) (by rfl) E.f_sorted (by decide +kernel) (sa_cons (sl 1) sa_nil rfl))) (sn 7 hN) (ssl_cons (ss_par2 (i := 8) (j := 6) rfl hN rfl rfl (by decide) rfl rfl (sa_cons (se_lst sa_nil) (sa_cons (sl 7) sa_nil rfl) rfl) (by rfl))
  (ssl_cons (ss_whl hp (st_cmp1 (op := .nin) hK hu65 (sl 6) (sl 3)) (ssl_cons (ss_xpr (se_me (m := .append) hK (k_append) (sl 8) (sa_cons (sl 6) sa_nil rfl)) rfl)
  (ssl_cons (ss_xpr (se_me (m := .append) hK (k_append) (sl 3) (sa_cons (sl 6) sa_nil rfl)) rfl)
  (ssl_cons (ss_asg (se_sub hK hu1 (sl 1) (sl 6) (fun _ _ => rfl)) (sn 6 hN) rfl rfl rfl)
  ssl_nil))))
  (ssl_cons (ss_if (st_cmp1 (op := .ne) hK hu65 (sl 8) (se_lst sa_nil)) (ssl_cons (ss_xpr (se_me (m := .append) hK (k_append) (sl 2) (sa_cons (sl 8) sa_nil rfl)) rfl)
  ssl_nil) ssl_nil)
  ssl_nil))) (fun _ => rfl))
  (ssl_cons (ss_ret (sl 2))
  ssl_nil))))
theorem bd_zq16 : bdS w K mg base Z n cdv A outer s H Ek fa nn14 "_law_put" 25 c_zq16.body := by
  refine bdP (by decide +kernel) fun hr hgd hu65 hu64 hu1 hN tk hp => ?_
  exact (ssl_cons (ss_asg (se_sub hK hu1 (se_lc (own := [("_law_node", 4), ("_law_rotation", 5)]) rfl hN (by first | (show blkC nn14 (defScope (top 25)) _ _ = true; decide +kernel) | rfl) (by decide +kernel) (si_en hK (by rfl) E.f_enumerate (sl 0) rfl) (fun _ _ _ _ _ => (sg_tup hK rfl (sgs_cons (sn 4 hN) (sgs_cons (sn 5 hN) sgs_nil rfl) rfl) rfl rfl rfl)) (fun _ _ _ _ _ => (sts_one (st_cmp1 (op := .inn) hK hu65 (sl 2) (sl 5)))) (fun _ _ _ _ _ => (sl 4))) se_int (fun _ _ => rfl)) (sn 3 hN) rfl rfl rfl)
  (ssl_cons (ss_xpr (se_me (m := .insert) hK (k_insert) (se_sub hK hu1 (sl 0) (sl 3) (fun _ _ => rfl)) (sa_cons (se_me (m := .index) hK (k_index hK hu65) (se_sub hK hu1 (sl 0) (sl 3) (fun _ _ => rfl)) (sa_cons (sl 2) sa_nil rfl)) (sa_cons (sl 1) sa_nil rfl) rfl)) rfl)
  ssl_nil))
theorem bd_zq17 : bdS w K mg base Z n cdv A outer s H Ek fa nn15 "_law_add_edge" 26 c_zq17.body := by
  refine bdP (by decide +kernel) fun hr hgd hu65 hu64 hu1 hN tk hp => ?_
  exact (ssl_cons (ss_asg (se_callC E.C_zq13 hr hgd tk (by rfl) (sa_cons (sl 0) (sa_cons (se_bi (b := .len) (fun _ => bi_len hK) (by rfl) E.f_len (by decide +kernel) (sa_cons (sl 1) sa_nil rfl)) sa_nil rfl) rfl)) (sn 4 hN) rfl rfl rfl)
  (ssl_cons (ss_if (st_cmp1 (op := .eq) hK hu65 (se_sub hK hu1 (sl 1) (sl 4) (fun _ _ => rfl)) (se_lst sa_nil)) (ssl_cons (ss_xpr (se_me (m := .extend) hK (k_extend) (se_sub hK hu1 (sl 1) (sl 4) (fun _ _ => rfl)) (sa_cons (se_ife (st_val (sl 3) (fun _ => rfl) hK) (se_slc hK (sl 2) so_none (so_some se_int)) (sl 2)) sa_nil rfl)) rfl)
  ssl_nil) (ssl_cons (ss_asg (se_sub hK hu1 (se_sub hK hu1 (sl 1) (sl 4) (fun _ _ => rfl)) (se_callC E.C_zq13 hr hgd tk (by rfl) (sa_cons (sl 0) (sa_cons (se_bi (b := .len) (fun _ => bi_len hK) (by rfl) E.f_len (by decide +kernel) (sa_cons (se_sub hK hu1 (sl 1) (sl 4) (fun _ _ => rfl)) sa_nil rfl)) sa_nil rfl) rfl)) (fun _ _ => rfl)) (sn 5 hN) rfl rfl rfl)
  (ssl_cons (ss_if (st_not (st_val (sl 3) (fun _ => rfl) hK)) (ssl_cons (ss_asg (se_sub hK hu1 (se_lc (own := [("_law_walk", 6)]) rfl hN (by first | (show blkC nn15 (defScope (top 26)) _ _ = true; decide +kernel) | rfl) (by decide +kernel) (si_val hK (se_callC E.C_zq15 hr hgd tk (by rfl) (sa_cons (sl 1) sa_nil rfl))) (fun _ _ _ _ _ => (sn 6 hN)) (fun _ _ _ _ _ => (sts_one (st_cmp1 (op := .inn) hK hu65 (sl 5) (sl 6)))) (fun _ _ _ _ _ => (sl 6))) se_int (fun _ _ => rfl)) (sn 6 hN) rfl rfl rfl)
  (ssl_cons (ss_xpr (se_callC E.C_zq16 hr hgd tk (by rfl) (sa_cons (sl 1) (sa_cons (se_sub hK hu1 (sl 2) se_int (fun _ _ => rfl)) (sa_cons (se_sub hK hu1 (sl 6) (se_callC E.C_zq13 hr hgd tk (by rfl) (sa_cons (sl 0) (sa_cons (se_bi (b := .len) (fun _ => bi_len hK) (by rfl) E.f_len (by decide +kernel) (sa_cons (sl 6) sa_nil rfl)) sa_nil rfl) rfl)) (fun _ _ => rfl)) sa_nil rfl) rfl) rfl)) rfl)
  ssl_nil)) ssl_nil)
  (ssl_cons (ss_xpr (se_callC E.C_zq16 hr hgd tk (by rfl) (sa_cons (sl 1) (sa_cons (se_sub hK hu1 (sl 2) se_int (fun _ _ => rfl)) (sa_cons (sl 5) sa_nil rfl) rfl) rfl)) rfl)
  ssl_nil))))
  (ssl_cons (ss_if (st_val (sl 3) (fun _ => rfl) hK) (ssl_cons (ss_xpr (se_me (m := .append) hK (k_append) (sl 1) (sa_cons (se_lst (sa_cons (se_sub hK hu1 (sl 2) se_int (fun _ _ => rfl)) sa_nil rfl)) sa_nil rfl)) rfl)
  ssl_nil) ssl_nil)
  ssl_nil)))
theorem bd_zq18 : bdS w K mg base Z n cdv A outer s H Ek fa nn16 "_law_renumbered" 27 c_zq18.body := by
  refine bdP (by decide +kernel) fun hr hgd hu65 hu64 hu1 hN tk hp => ?_
  exact (ssl_cons (ss_asg (se_tup (sa_cons (se_callC E.C_zq14 hr hgd tk (by rfl) (sa_cons (sl 0) (sa_cons (se_lrng1 rfl (by rfl) E.f_list (by rfl) E.f_range (sl 2) rfl rfl) sa_nil rfl) rfl)) (sa_cons se_dct0 sa_nil rfl) rfl)) (sg_tup hK rfl (sgs_cons (sn 3 hN) (sgs_cons (sn 4 hN) sgs_nil rfl) rfl) rfl rfl rfl) rfl rfl rfl)
  (ssl_cons (ss_for hp rfl (si_en hK (by rfl) E.f_enumerate (sl 3) rfl) (sg_tup hK rfl (sgs_cons (sn 5 hN) (sgs_cons (sn 6 hN) sgs_nil rfl) rfl) rfl rfl rfl) (ssl_cons (ss_asg (se_callC E.C_zq13 hr hgd tk (by rfl) (sa_cons (sl 0) (sa_cons se_int sa_nil rfl) rfl)) (sn 7 hN) rfl rfl rfl)
  (ssl_cons (ss_asg (se_tup (sa_cons (se_bin (op := .add) hK (se_bin (op := .mul) hK se_int (sl 6)) (sl 7)) (sa_cons (se_bin (op := .sub) hK (se_bin (op := .add) hK (se_bin (op := .mul) hK se_int (sl 6)) se_int) (sl 7)) sa_nil rfl) rfl)) (sg_tup hK rfl (sgs_cons (sg_sub (W := fun cls dx _ H' => Ek cls dx H') hu1 (sl 4) (se_bin (op := .mul) hK se_int (sl 5)) (fun _ => rfl)) (sgs_cons (sg_sub (W := fun cls dx _ H' => Ek cls dx H') hu1 (sl 4) (se_bin (op := .add) hK (se_bin (op := .mul) hK se_int (sl 5)) se_int) (fun _ => rfl)) sgs_nil rfl) rfl) rfl rfl rfl) rfl rfl rfl)
  ssl_nil)) (fun _ => rfl))
  (ssl_cons (ss_asg (se_lst sa_nil) (sn 8 hN) rfl rfl rfl)
  (ssl_cons (ss_for hp rfl (si_val hK (se_callC E.C_zq14 hr hgd tk (by rfl) (sa_cons (sl 0) (sa_cons (sl 1) sa_nil rfl) rfl))) (sn 9 hN) (ssl_cons (ss_asg (se_callC E.C_zq13 hr hgd tk (by rfl) (sa_cons (sl 0) (sa_cons (se_bin (op := .add) hK (se_bi (b := .len) (fun _ => bi_len hK) (by rfl) E.f_len (by decide +kernel) (sa_cons (sl 9) sa_nil rfl)) se_int) sa_nil rfl) rfl)) (sn 10 hN) rfl rfl rfl)
  (ssl_cons (ss_xpr (se_me (m := .append) hK (k_append) (sl 8) (sa_cons (se_bt (b := .tuple) (fun _ => bi_tuple hK) (by rfl) E.f_tuple (by decide +kernel) (sa_cons (se_lc (own := [("_law_dart", 11)]) rfl hN (by first | (show blkC nn16 (defScope (top 27)) _ _ = true; decide +kernel) | rfl) (by decide +kernel) (si_val hK (se_bin (op := .add) hK (se_slc hK (sl 9) (so_some (sl 10)) so_none) (se_slc hK (sl 9) so_none (so_some (sl 10))))) (fun _ _ _ _ _ => (sn 11 hN)) (fun _ _ _ _ _ => sts_nil) (fun _ _ _ _ _ => (se_sub hK hu1 (sl 4) (sl 11) (fun _ _ => rfl)))) sa_nil rfl)) sa_nil rfl)) rfl)
  ssl_nil)) (fun _ => rfl))
  (ssl_cons (ss_ret (se_bt (b := .tuple) (fun _ => bi_tuple hK) (by rfl) E.f_tuple (by decide +kernel) (sa_cons (sl 8) sa_nil rfl)))
  ssl_nil)))))
theorem bd_zq19 : bdS w K mg base Z n cdv A outer s H Ek fa nn17 "_law_graph" 28 c_zq19.body := by
  refine bdP (by decide +kernel) fun hr hgd hu65 hu64 hu1 hN tk hp => ?_
  exact (ssl_cons (ss_par2 (i := 3) (j := 4) rfl hN rfl rfl (by decide) rfl rfl (sa_cons (se_lst sa_nil) (sa_cons se_int sa_nil rfl) rfl) (by rfl))
  (ssl_cons (ss_for hp rfl (si_rng1 (by rfl) E.f_range (se_callC E.C_zq13 hr hgd tk (by rfl) (sa_cons (sl 0) (sa_cons (se_bin (op := .add) hK (se_bin (op := .add) hK (sl 1) (sl 2)) se_int) sa_nil rfl) rfl)) rfl) (sn 5 hN) (ssl_cons (ss_asg (se_callC E.C_zq13 hr hgd tk (by rfl) (sa_cons (sl 0) (sa_cons se_int sa_nil rfl) rfl)) (sn 6 hN) rfl rfl rfl)
  (ssl_cons (ss_if (st_w (sw_or (st_cmp1 (op := .eq) hK hu65 (sl 3) (se_lst sa_nil)) (sw_or1 (st_w (sw_and (st_cmp1 (op := .eq) hK hu65 (sl 6) se_int) (sw_and1 (st_cmp1 (op := .lt) hK hu65 (se_bi (b := .len) (fun _ => bi_len hK) (by rfl) E.f_len (by decide +kernel) (sa_cons (sl 3) sa_nil rfl)) (sl 1)))))))) (ssl_cons (ss_xpr (se_me (m := .append) hK (k_append) (sl 3) (sa_cons (se_lst sa_nil) sa_nil rfl)) rfl)
  ssl_nil) (ssl_cons (ss_if (st_cmp1 (op := .lt) hK hu65 (sl 4) (sl 2)) (ssl_cons (ss_xpr (se_callC E.C_zq17 hr hgd tk (by rfl) (sa_cons (sl 0) (sa_cons (sl 3) (sa_cons (se_lst (sa_cons (se_bin (op := .mul) hK se_int (sl 4)) (sa_cons (se_bin (op := .add) hK (se_bin (op := .mul) hK se_int (sl 4)) se_int) sa_nil rfl) rfl)) (sa_cons (se_and (se_cmp1 (op := .lt) hK hu65 (sl 6) se_int) (se_one (se_cmp1 (op := .lt) hK hu65 (se_bi (b := .len) (fun _ => bi_len hK) (by rfl) E.f_len (by decide +kernel) (sa_cons (sl 3) sa_nil rfl)) (sl 1)))) sa_nil rfl) rfl) rfl) rfl)) rfl)
  (ssl_cons (ss_asg (se_bin (op := .add) hK (sl 4) se_int) (sn 4 hN) rfl rfl rfl)
  ssl_nil)) ssl_nil)
  ssl_nil))
  ssl_nil)) (fun _ => rfl))
  (ssl_cons (ss_ret (se_callC E.C_zq18 hr hgd tk (by rfl) (sa_cons (sl 0) (sa_cons (sl 3) (sa_cons (sl 4) sa_nil rfl) rfl) rfl)))
  ssl_nil)))
theorem bd_zq20 : bdS w K mg base Z n cdv A outer s H Ek fa nn18 "_law_any_graph" 29 c_zq20.body := by
  refine bdP (by decide +kernel) fun hr hgd hu65 hu64 hu1 hN tk hp => ?_
  exact (ssl_cons (ss_setLc (i := 3) (own := [("_law_turn", 4)]) rfl hN rfl rfl (by rfl) (by first | (show blkC nn18 (defScope (top 29)) _ _ = true; decide +kernel) | rfl) (by decide +kernel) (si_rng1 (by rfl) E.f_range (se_bin (op := .add) hK se_int (se_callC E.C_zq13 hr hgd tk (by rfl) (sa_cons (sl 0) (sa_cons (sl 1) sa_nil rfl) rfl))) rfl) (fun _ _ _ _ _ => (sn 4 hN)) (fun _ _ _ _ _ => sts_nil) (fun _ _ _ _ _ => (se_lst sa_nil)))
  (ssl_cons (ss_for hp rfl (si_val hK (se_callC E.C_zq14 hr hgd tk (by rfl) (sa_cons (sl 0) (sa_cons (se_lrng1 rfl (by rfl) E.f_list (by rfl) E.f_range (se_bin (op := .mul) hK se_int (se_callC E.C_zq13 hr hgd tk (by rfl) (sa_cons (sl 0) (sa_cons (se_bin (op := .add) hK (sl 2) se_int) sa_nil rfl) rfl))) rfl rfl) sa_nil rfl) rfl))) (sn 5 hN) (ssl_cons (ss_xpr (se_me (m := .append) hK (k_append) (se_sub hK hu1 (sl 3) (se_callC E.C_zq13 hr hgd tk (by rfl) (sa_cons (sl 0) (sa_cons (se_bi (b := .len) (fun _ => bi_len hK) (by rfl) E.f_len (by decide +kernel) (sa_cons (sl 3) sa_nil rfl)) sa_nil rfl) rfl)) (fun _ _ => rfl)) (sa_cons (sl 5) sa_nil rfl)) rfl)
  ssl_nil) (fun _ => rfl))
  (ssl_cons (ss_ret (se_bt (b := .tuple) (fun _ => bi_tuple hK) (by rfl) E.f_tuple (by decide +kernel) (sa_cons (se_lc (own := [("_law_rotation", 6)]) rfl hN (by first | (show blkC nn18 (defScope (top 29)) _ _ = true; decide +kernel) | rfl) (by decide +kernel) (si_val hK (sl 3)) (fun _ _ _ _ _ => (sn 6 hN)) (fun _ _ _ _ _ => sts_nil) (fun _ _ _ _ _ => (se_bt (b := .tuple) (fun _ => bi_tuple hK) (by rfl) E.f_tuple (by decide +kernel) (sa_cons (sl 6) sa_nil rfl)))) sa_nil rfl)))
  ssl_nil)))
theorem bd_zq21 : bdS w K mg base Z n cdv A outer s H Ek fa nn19 "_law_behind" 30 c_zq21.body := by
  refine bdP (by decide +kernel) fun hr hgd hu65 hu64 hu1 hN tk hp => ?_
  exact (ssl_cons (ss_asg (se_bin (op := .sub) hK (se_bin (op := .add) hK (sl 1) se_int) (se_bin (op := .mul) hK se_int (se_bin (op := .mod) hK (sl 1) se_int))) (sn 2 hN) rfl rfl rfl)
  (ssl_cons (ss_asg (se_sub hK hu1 (se_lc (own := [("_law_row", 4)]) rfl hN (by first | (show blkC nn19 (defScope (top 30)) _ _ = true; decide +kernel) | rfl) (by decide +kernel) (si_val hK (sl 0)) (fun _ _ _ _ _ => (sn 4 hN)) (fun _ _ _ _ _ => (sts_one (st_cmp1 (op := .inn) hK hu65 (sl 2) (sl 4)))) (fun _ _ _ _ _ => (sl 4))) se_int (fun _ _ => rfl)) (sn 3 hN) rfl rfl rfl)
  (ssl_cons (ss_ret (se_sub hK hu1 (se_bin (op := .add) hK (sl 3) (sl 3)) (se_bin (op := .add) hK (se_me (m := .index) hK (k_index hK hu65) (sl 3) (sa_cons (sl 2) sa_nil rfl)) se_int) (fun _ _ => rfl)))
  ssl_nil)))
theorem bd_zq22 : bdS w K mg base Z n cdv A outer s H Ek fa nn20 "_law_cycles" 31 c_zq22.body := by
  refine bdP (by decide +kernel) fun hr hgd hu65 hu64 hu1 hN tk hp => ?_
  exact (ssl_cons (ss_par2 (i := 1) (j := 2) rfl hN rfl rfl (by decide) rfl rfl (sa_cons (se_bi (b := .sorted) (fun _ => bi_sorted hK rfl hu64) (by rfl) E.f_sorted (by decide +kernel) (sa_cons (se_bi (b := .suml) (fun _ => bi_suml rfl) (by rfl) E.f_sum (by decide +kernel) (sa_cons (se_lc (own := [("_law_row", 3)]) rfl hN (by first | (show blkC nn20 (defScope (top 31)) _ _ = true; decide +kernel) | rfl) (by decide +kernel) (si_val hK (sl 0)) (fun _ _ _ _ _ => (sn 3 hN)) (fun _ _ _ _ _ => sts_nil) (fun _ _ _ _ _ => (se_bt (b := .list) (fun _ => bi_list hK) (by rfl) E.f_list (by decide +kernel) (sa_cons (sl 3) sa_nil rfl)))) (sa_cons (se_lst sa_nil) sa_nil rfl) rfl)) sa_nil rfl)) (sa_cons (se_bin (op := .mul) hK (se_lst (sa_cons (se_tup sa_nil) sa_nil rfl)) (se_me (m := .count) hK (kr_count hK hu65) (sl 0) (sa_cons (se_tup sa_nil) sa_nil rfl))) sa_nil rfl) rfl) (by rfl))
  (ssl_cons (ss_whl hp (st_cmp1 (op := .ne) hK hu65 (sl 1) (se_lst sa_nil)) (ssl_cons (ss_asg (se_lst (sa_cons (se_sub hK hu1 (sl 1) se_int (fun _ _ => rfl)) sa_nil rfl)) (sn 4 hN) rfl rfl rfl)
  (ssl_cons (ss_whl hp (st_cmp1 (op := .ne) hK hu65 (se_callC E.C_zq21 hr hgd tk (by rfl) (sa_cons (sl 0) (sa_cons (se_sub hK hu1 (sl 4) (se_neg se_int) (fun _ _ => rfl)) sa_nil rfl) rfl)) (se_sub hK hu1 (sl 4) se_int (fun _ _ => rfl))) (ssl_cons (ss_xpr (se_me (m := .append) hK (k_append) (sl 4) (sa_cons (se_callC E.C_zq21 hr hgd tk (by rfl) (sa_cons (sl 0) (sa_cons (se_sub hK hu1 (sl 4) (se_neg se_int) (fun _ _ => rfl)) sa_nil rfl) rfl)) sa_nil rfl)) rfl)
  ssl_nil))
  (ssl_cons (ss_setLc (i := 1) (own := [("_law_end", 5)]) rfl hN rfl rfl (by rfl) (by first | (show blkC nn20 (defScope (top 31)) _ _ = true; decide +kernel) | rfl) (by decide +kernel) (si_val hK (sl 1)) (fun _ _ _ _ _ => (sn 5 hN)) (fun _ _ _ _ _ => (sts_one (st_cmp1 (op := .nin) hK hu65 (sl 5) (sl 4)))) (fun _ _ _ _ _ => (sl 5)))
  (ssl_cons (ss_xpr (se_me (m := .append) hK (k_append) (sl 2) (sa_cons (se_bt (b := .tuple) (fun _ => bi_tuple hK) (by rfl) E.f_tuple (by decide +kernel) (sa_cons (sl 4) sa_nil rfl)) sa_nil rfl)) rfl)
  ssl_nil)))))
  (ssl_cons (ss_ret (se_bt (b := .tuple) (fun _ => bi_tuple hK) (by rfl) E.f_tuple (by decide +kernel) (sa_cons (sl 2) sa_nil rfl)))
  ssl_nil)))
theorem bd_zq23 : bdS w K mg base Z n cdv A outer s H Ek fa nn21 "_law_right" 32 c_zq23.body := by
  refine bdP (by decide +kernel) fun hr hgd hu65 hu64 hu1 hN tk hp => ?_
  exact (ssl_cons (ss_par2 (i := 2) (j := 3) rfl hN rfl rfl (by decide) rfl rfl (sa_cons (se_bi (b := .repr) (fun _ => bi_repr hK hgd hu64) (by rfl) E.f_repr (by decide +kernel) (sa_cons (sl 1) sa_nil rfl)) (sa_cons (se_callC E.C_zq22 hr hgd tk (by rfl) (sa_cons (sl 1) sa_nil rfl)) sa_nil rfl) rfl) (by rfl))
  (ssl_cons (ss_if (st_w (sw_or (st_cmp1 (op := .ne) hK hu65 (se_bi (b := .repr) (fun _ => bi_repr hK hgd hu64) (by rfl) E.f_repr (by decide +kernel) (sa_cons (se_callC E.C_zq10 hr hgd tk (by rfl) (sa_cons (sl 1) sa_nil rfl)) sa_nil rfl)) (se_bi (b := .repr) (fun _ => bi_repr hK hgd hu64) (by rfl) E.f_repr (by decide +kernel) (sa_cons (sl 3) sa_nil rfl))) (sw_or1 (st_cmp1 (op := .ne) hK hu65 (se_bt (b := .list) (fun _ => bi_list hK) (by rfl) E.f_list (by decide +kernel) (sa_cons (sl 3) sa_nil rfl)) (se_sortT hK hu64 (by rfl) E.f_sorted (sl 3)))))) (ssl_cons (ss_ret se_bl)
  ssl_nil) ssl_nil)
  (ssl_cons (ss_for hp rfl (si_en hK (by rfl) E.f_enumerate (sl 3) rfl) (sg_tup hK rfl (sgs_cons (sn 4 hN) (sgs_cons (sn 5 hN) sgs_nil rfl) rfl) rfl rfl rfl) (ssl_cons (ss_for hp rfl (si_en hK (by rfl) E.f_enumerate (sl 5) rfl) (sg_tup hK rfl (sgs_cons (sn 6 hN) (sgs_cons (sn 7 hN) sgs_nil rfl) rfl) rfl rfl rfl) (ssl_cons (ss_if (st_w (sw_or (st_cmp1 (op := .ne) hK hu65 (se_callC E.C_zq9 hr hgd tk (by rfl) (sa_cons (sl 1) (sa_cons (sl 7) sa_nil rfl) rfl)) (se_sub hK hu1 (sl 5) (se_bin (op := .mod) hK (se_bin (op := .add) hK (sl 6) se_int) (se_bi (b := .len) (fun _ => bi_len hK) (by rfl) E.f_len (by decide +kernel) (sa_cons (sl 5) sa_nil rfl))) (fun _ _ => rfl))) (sw_or1 (st_cmp1 (op := .ne) hK hu65 (se_callC E.C_zq11 hr hgd tk (by rfl) (sa_cons (sl 1) (sa_cons (sl 7) sa_nil rfl) rfl)) (sl 4))))) (ssl_cons (ss_ret se_bl)
  ssl_nil) ssl_nil)
  (ssl_cons (ss_if (st_cmp1 (op := .ne) hK hu65 (se_callC E.C_zq9 hr hgd tk (by rfl) (sa_cons (sl 1) (sa_cons (sl 7) sa_nil rfl) rfl)) (se_callC E.C_zq21 hr hgd tk (by rfl) (sa_cons (sl 1) (sa_cons (sl 7) sa_nil rfl) rfl))) (ssl_cons (ss_ret se_bl)
  ssl_nil) ssl_nil)
  ssl_nil)) (fun _ => rfl))
  ssl_nil) (fun _ => rfl))
  (ssl_cons (ss_ret (se_and (se_cmp1 (op := .eq) hK hu65 (se_callC E.C_zq10 hr hgd tk (by rfl) (sa_cons (se_bt (b := .tuple) (fun _ => bi_tuple hK) (by rfl) E.f_tuple (by decide +kernel) (sa_cons (se_callC E.C_zq14 hr hgd tk (by rfl) (sa_cons (sl 0) (sa_cons (sl 1) sa_nil rfl) rfl)) sa_nil rfl)) sa_nil rfl)) (sl 3)) (se_one (se_cmp1 (op := .eq) hK hu65 (se_bi (b := .repr) (fun _ => bi_repr hK hgd hu64) (by rfl) E.f_repr (by decide +kernel) (sa_cons (sl 1) sa_nil rfl)) (sl 2)))))
  ssl_nil))))
theorem bd_law : bdS w K mg base Z n cdv A outer s H Ek fa nn22 "law" 33 c_law.body := by
  refine bdP (by decide +kernel) fun hr hgd hu65 hu64 hu1 hN tk hp => ?_
  exact (ssl_cons (ss_for hp rfl (si_rng1 (by rfl) E.f_range (se_bi (b := .max2) (fun _ => bi_max2 rfl) (by rfl) E.f_max (by decide +kernel) (sa_cons se_int (sa_cons (se_bi (b := .min2) (fun _ => bi_min2 rfl) (by rfl) E.f_min (by decide +kernel) (sa_cons se_int (sa_cons (se_bi (b := .len) (fun _ => bi_len hK) (by rfl) E.f_len (by decide +kernel) (sa_cons (sl 0) sa_nil rfl)) sa_nil rfl) rfl)) sa_nil rfl) rfl)) rfl) (sn 1 hN) (ssl_cons (ss_asg (se_callC E.C_zq12 hr hgd tk (by rfl) (sa_cons (sl 0) (sa_cons (sl 1) sa_nil rfl) rfl)) (sn 2 hN) rfl rfl rfl)
  (ssl_cons (ss_if (st_not (st_val (se_callC E.C_zq23 hr hgd tk (by rfl) (sa_cons (sl 2) (sa_cons (se_callC E.C_zq20 hr hgd tk (by rfl) (sa_cons (sl 2) (sa_cons se_int (sa_cons se_int sa_nil rfl) rfl) rfl)) sa_nil rfl) rfl)) (fun _ => rfl) hK)) (ssl_cons (ss_ret se_bl)
  ssl_nil) ssl_nil)
  (ssl_cons (ss_if (st_not (st_val (se_callC E.C_zq23 hr hgd tk (by rfl) (sa_cons (sl 2) (sa_cons (se_callC E.C_zq19 hr hgd tk (by rfl) (sa_cons (sl 2) (sa_cons se_int (sa_cons se_int sa_nil rfl) rfl) rfl)) sa_nil rfl) rfl)) (fun _ => rfl) hK)) (ssl_cons (ss_ret se_bl)
  ssl_nil) ssl_nil)
  ssl_nil))) (fun _ => rfl))
  (ssl_cons (ss_ret (se_and (se_cmp1 (op := .eq) hK hu65 (se_callC E.C_zq10 hr hgd tk (by rfl) (sa_cons (se_tup sa_nil) sa_nil rfl)) (se_tup sa_nil)) (se_one (se_cmp1 (op := .eq) hK hu65 (se_callC E.C_zq10 hr hgd tk (by rfl) (sa_cons (se_tup (sa_cons (se_tup sa_nil) (sa_cons (se_tup sa_nil) sa_nil rfl) rfl)) sa_nil rfl)) (se_tup (sa_cons (se_tup sa_nil) (sa_cons (se_tup sa_nil) sa_nil rfl) rfl))))))
  ssl_nil))
end
structure Wf (w : World) (K : PySem.W.Frag) (mg : Str -> Option Value) : Prop where
  f_all : mg "all" = none
  f_bool : mg "bool" = none
  f_enumerate : mg "enumerate" = none
  f_int : mg "int" = none
  f_isinstance : mg "isinstance" = none
  f_len : mg "len" = none
  f_list : mg "list" = none
  f_max : mg "max" = none
  f_min : mg "min" = none
  f_range : mg "range" = none
  f_repr : mg "repr" = none
  f_sorted : mg "sorted" = none
  f_sum : mg "sum" = none
  f_tuple : mg "tuple" = none
  q_MAX_EDGES : ∃ t, mg "MAX_EDGES" = some (.int 120 t)
  q_MAX_NODES : ∃ t, mg "MAX_NODES" = some (.int 60 t)
  d_zq0 : ∃ f fd, FunD K "is_index" "is_index" (defArgs (top 7)) (defBody (top 7)) (defScope (top 7)) [] [] f fd /\ mg "is_index" = some (.ref f)
  d_zq1 : ∃ f fd, FunD K "graph_fault" "graph_fault" (defArgs (top 8)) (defBody (top 8)) (defScope (top 8)) [] [] f fd /\ mg "graph_fault" = some (.ref f)
  d_zq2 : ∃ f fd, FunD K "check_graph" "check_graph" (defArgs (top 9)) (defBody (top 9)) (defScope (top 9)) [] [] f fd /\ mg "check_graph" = some (.ref f)
  d_zq3 : ∃ f fd, FunD K "dart_count" "dart_count" (defArgs (top 10)) (defBody (top 10)) (defScope (top 10)) [] [] f fd /\ mg "dart_count" = some (.ref f)
  d_zq4 : ∃ f fd, FunD K "need_dart" "need_dart" (defArgs (top 11)) (defBody (top 11)) (defScope (top 11)) [] [] f fd /\ mg "need_dart" = some (.ref f)
  d_zq5 : ∃ f fd, FunD K "opposite_of" "opposite_of" (defArgs (top 12)) (defBody (top 12)) (defScope (top 12)) [] [] f fd /\ mg "opposite_of" = some (.ref f)
  d_zq6 : ∃ f fd, FunD K "successors" "successors" (defArgs (top 14)) (defBody (top 14)) (defScope (top 14)) [] [] f fd /\ mg "successors" = some (.ref f)
  d_zq7 : ∃ f fd, FunD K "face_list" "face_list" (defArgs (top 15)) (defBody (top 15)) (defScope (top 15)) [] [] f fd /\ mg "face_list" = some (.ref f)
  d_zq8 : ∃ f fd, FunD K "face_of_darts" "face_of_darts" (defArgs (top 16)) (defBody (top 16)) (defScope (top 16)) [] [] f fd /\ mg "face_of_darts" = some (.ref f)
  d_zq9 : ∃ f fd, FunD K "successor" "successor" (defArgs (top 17)) (defBody (top 17)) (defScope (top 17)) [] [] f fd /\ mg "successor" = some (.ref f)
  d_zq10 : ∃ f fd, FunD K "faces" "faces" (defArgs (top 18)) (defBody (top 18)) (defScope (top 18)) [] [] f fd /\ mg "faces" = some (.ref f)
  d_zq11 : ∃ f fd, FunD K "face_index" "face_index" (defArgs (top 19)) (defBody (top 19)) (defScope (top 19)) [] [] f fd /\ mg "face_index" = some (.ref f)
  d_zq12 : ∃ f fd, FunD K "_law_source" "_law_source" (defArgs (top 21)) (defBody (top 21)) (defScope (top 21)) [] [] f fd /\ mg "_law_source" = some (.ref f)
  d_zq13 : ∃ f fd, FunD K "_law_next" "_law_next" (defArgs (top 22)) (defBody (top 22)) (defScope (top 22)) [] [] f fd /\ mg "_law_next" = some (.ref f)
  d_zq14 : ∃ f fd, FunD K "_law_mixed" "_law_mixed" (defArgs (top 23)) (defBody (top 23)) (defScope (top 23)) [] [] f fd /\ mg "_law_mixed" = some (.ref f)
  d_zq15 : ∃ f fd, FunD K "_law_walks" "_law_walks" (defArgs (top 24)) (defBody (top 24)) (defScope (top 24)) [] [] f fd /\ mg "_law_walks" = some (.ref f)
  d_zq16 : ∃ f fd, FunD K "_law_put" "_law_put" (defArgs (top 25)) (defBody (top 25)) (defScope (top 25)) [] [] f fd /\ mg "_law_put" = some (.ref f)
  d_zq17 : ∃ f fd, FunD K "_law_add_edge" "_law_add_edge" (defArgs (top 26)) (defBody (top 26)) (defScope (top 26)) [] [] f fd /\ mg "_law_add_edge" = some (.ref f)
  d_zq18 : ∃ f fd, FunD K "_law_renumbered" "_law_renumbered" (defArgs (top 27)) (defBody (top 27)) (defScope (top 27)) [] [] f fd /\ mg "_law_renumbered" = some (.ref f)
  d_zq19 : ∃ f fd, FunD K "_law_graph" "_law_graph" (defArgs (top 28)) (defBody (top 28)) (defScope (top 28)) [] [] f fd /\ mg "_law_graph" = some (.ref f)
  d_zq20 : ∃ f fd, FunD K "_law_any_graph" "_law_any_graph" (defArgs (top 29)) (defBody (top 29)) (defScope (top 29)) [] [] f fd /\ mg "_law_any_graph" = some (.ref f)
  d_zq21 : ∃ f fd, FunD K "_law_behind" "_law_behind" (defArgs (top 30)) (defBody (top 30)) (defScope (top 30)) [] [] f fd /\ mg "_law_behind" = some (.ref f)
  d_zq22 : ∃ f fd, FunD K "_law_cycles" "_law_cycles" (defArgs (top 31)) (defBody (top 31)) (defScope (top 31)) [] [] f fd /\ mg "_law_cycles" = some (.ref f)
  d_zq23 : ∃ f fd, FunD K "_law_right" "_law_right" (defArgs (top 32)) (defBody (top 32)) (defScope (top 32)) [] [] f fd /\ mg "_law_right" = some (.ref f)
  d_law : ∃ f fd, FunD K "law" "law" (defArgs (top 33)) (defBody (top 33)) (defScope (top 33)) [] [] f fd /\ mg "law" = some (.ref f)
theorem cal_of {w : World} {K : PySem.W.Frag} {mg : Str -> Option Value} {base : Heap} {Z : Wc} {n i t : Nat} {x : Str} {N ps : List Str} {F : Fn} {dvs : List V} {us : List Value} (hF : P.fns i = some F) (hN : N.length = F.ns) (hps : ps.length = F.np) (S : FnScope N ps (defScope (top t)))
    (hd : ∃ f fd, FunD K x x (defArgs (top t)) (defBody (top t)) (defScope (top t)) dvs [] f fd /\ mg x = some (.ref f))
    (hb : ∀ f fd, FunD K x x (defArgs (top t)) (defBody (top t)) (defScope (top t)) dvs [] f fd -> Binds K fd ps us)
    (body : ∀ (cdv : Value) (A : Around) (outer : List PySem.Env) (s : Shared) (H : Hp) (Ek : XK) (fa : Addr), Room (n + 2) (A.deeper (envOfC x (defScope (top t)) s.heap.objs.size fa cdv)) -> A.guards = some [] ->
      PSs (cxOf (L2.CX pw w) pw w K mg base N x (defScope (top t)) fa cdv A outer s H Ek) (defBody (top t)) (iL (P.tbl n) Z (fun cls dx _ H' => Ek cls dx H') F.body)) : ∃ f fd, FgOk pw w K mg base (n + 1 + 2) f fd ps (spI Z (call P (n + 1) i) ps.length) /\ mg x = some (.ref f) /\ PySem.W.keepIn K (.ref f) = true /\ Binds K fd ps us := by
  obtain ⟨f, fd, D, hm⟩ := hd
  refine ⟨f, fd, ?_, hm, D.kp, hb f fd D⟩
  obtain ⟨oc, od, dV, kV, doc, pm, an, cdv, ct, osl, rfl, lk, hc, _⟩ := D.ex
  rw [hps]
  exact fg_of lk hc S (fun vs H Q E ⟨hl, _⟩ => by rw [hl, hps]) fun A outer s H vs Q E hr hg h => ⟨_, body cdv A outer s H E f hr hg, enter_ok hF hN h⟩
theorem ev_zero {w : World} {K : PySem.W.Frag} {mg : Str -> Option Value} {base : Heap} {Z : Wc} (hK : K = Z.K) (hgb : Z.gb = none) (X : Wf w K mg) : Ev w K mg base Z 0 := {
    f_all := X.f_all
    f_bool := X.f_bool
    f_enumerate := X.f_enumerate
    f_int := X.f_int
    f_isinstance := X.f_isinstance
    f_len := X.f_len
    f_list := X.f_list
    f_max := X.f_max
    f_min := X.f_min
    f_range := X.f_range
    f_repr := X.f_repr
    f_sorted := X.f_sorted
    f_sum := X.f_sum
    f_tuple := X.f_tuple
    q_MAX_EDGES := X.q_MAX_EDGES
    q_MAX_NODES := X.q_MAX_NODES
    C_zq0 := (let ⟨f, fd, D, hm⟩ := X.d_zq0; ⟨f, fd, fg_zero rfl, hm, D.kp, D.bindsN fun _ _ _ _ _ _ us hl => match us, hl with | [_, _], _ => rfl⟩)
    C_zq1 := (let ⟨f, fd, D, hm⟩ := X.d_zq1; ⟨f, fd, fg_zero rfl, hm, D.kp, D.bindsN fun _ _ _ _ _ _ us hl => match us, hl with | [_], _ => rfl⟩)
    C_zq2 := (let ⟨f, fd, D, hm⟩ := X.d_zq2; ⟨f, fd, fg_zero rfl, hm, D.kp, D.bindsN fun _ _ _ _ _ _ us hl => match us, hl with | [_], _ => rfl⟩)
    C_zq3 := (let ⟨f, fd, D, hm⟩ := X.d_zq3; ⟨f, fd, fg_zero rfl, hm, D.kp, D.bindsN fun _ _ _ _ _ _ us hl => match us, hl with | [_], _ => rfl⟩)
    C_zq4 := (let ⟨f, fd, D, hm⟩ := X.d_zq4; ⟨f, fd, fg_zero rfl, hm, D.kp, D.bindsN fun _ _ _ _ _ _ us hl => match us, hl with | [_, _], _ => rfl⟩)
    C_zq5 := (let ⟨f, fd, D, hm⟩ := X.d_zq5; ⟨f, fd, fg_zero rfl, hm, D.kp, D.bindsN fun _ _ _ _ _ _ us hl => match us, hl with | [_], _ => rfl⟩)
    C_zq6 := (let ⟨f, fd, D, hm⟩ := X.d_zq6; ⟨f, fd, fg_zero rfl, hm, D.kp, D.bindsN fun _ _ _ _ _ _ us hl => match us, hl with | [_], _ => rfl⟩)
    C_zq7 := (let ⟨f, fd, D, hm⟩ := X.d_zq7; ⟨f, fd, fg_zero rfl, hm, D.kp, D.bindsN fun _ _ _ _ _ _ us hl => match us, hl with | [_], _ => rfl⟩)
    C_zq8 := (let ⟨f, fd, D, hm⟩ := X.d_zq8; ⟨f, fd, fg_zero rfl, hm, D.kp, D.bindsN fun _ _ _ _ _ _ us hl => match us, hl with | [_], _ => rfl⟩)
    C_zq9 := (let ⟨f, fd, D, hm⟩ := X.d_zq9; ⟨f, fd, fg_zero rfl, hm, D.kp, D.bindsN fun _ _ _ _ _ _ us hl => match us, hl with | [_, _], _ => rfl⟩)
    C_zq10 := (let ⟨f, fd, D, hm⟩ := X.d_zq10; ⟨f, fd, fg_zero rfl, hm, D.kp, D.bindsN fun _ _ _ _ _ _ us hl => match us, hl with | [_], _ => rfl⟩)
    C_zq11 := (let ⟨f, fd, D, hm⟩ := X.d_zq11; ⟨f, fd, fg_zero rfl, hm, D.kp, D.bindsN fun _ _ _ _ _ _ us hl => match us, hl with | [_, _], _ => rfl⟩)
    C_zq12 := (let ⟨f, fd, D, hm⟩ := X.d_zq12; ⟨f, fd, fg_zero rfl, hm, D.kp, D.bindsN fun _ _ _ _ _ _ us hl => match us, hl with | [_, _], _ => rfl⟩)
    C_zq13 := (let ⟨f, fd, D, hm⟩ := X.d_zq13; ⟨f, fd, fg_zero rfl, hm, D.kp, D.bindsN fun _ _ _ _ _ _ us hl => match us, hl with | [_, _], _ => rfl⟩)
    C_zq14 := (let ⟨f, fd, D, hm⟩ := X.d_zq14; ⟨f, fd, fg_zero rfl, hm, D.kp, D.bindsN fun _ _ _ _ _ _ us hl => match us, hl with | [_, _], _ => rfl⟩)
    C_zq15 := (let ⟨f, fd, D, hm⟩ := X.d_zq15; ⟨f, fd, fg_zero rfl, hm, D.kp, D.bindsN fun _ _ _ _ _ _ us hl => match us, hl with | [_], _ => rfl⟩)
    C_zq16 := (let ⟨f, fd, D, hm⟩ := X.d_zq16; ⟨f, fd, fg_zero rfl, hm, D.kp, D.bindsN fun _ _ _ _ _ _ us hl => match us, hl with | [_, _, _], _ => rfl⟩)
    C_zq17 := (let ⟨f, fd, D, hm⟩ := X.d_zq17; ⟨f, fd, fg_zero rfl, hm, D.kp, D.bindsN fun _ _ _ _ _ _ us hl => match us, hl with | [_, _, _, _], _ => rfl⟩)
    C_zq18 := (let ⟨f, fd, D, hm⟩ := X.d_zq18; ⟨f, fd, fg_zero rfl, hm, D.kp, D.bindsN fun _ _ _ _ _ _ us hl => match us, hl with | [_, _, _], _ => rfl⟩)
    C_zq19 := (let ⟨f, fd, D, hm⟩ := X.d_zq19; ⟨f, fd, fg_zero rfl, hm, D.kp, D.bindsN fun _ _ _ _ _ _ us hl => match us, hl with | [_, _, _], _ => rfl⟩)
    C_zq20 := (let ⟨f, fd, D, hm⟩ := X.d_zq20; ⟨f, fd, fg_zero rfl, hm, D.kp, D.bindsN fun _ _ _ _ _ _ us hl => match us, hl with | [_, _, _], _ => rfl⟩)
    C_zq21 := (let ⟨f, fd, D, hm⟩ := X.d_zq21; ⟨f, fd, fg_zero rfl, hm, D.kp, D.bindsN fun _ _ _ _ _ _ us hl => match us, hl with | [_, _], _ => rfl⟩)
    C_zq22 := (let ⟨f, fd, D, hm⟩ := X.d_zq22; ⟨f, fd, fg_zero rfl, hm, D.kp, D.bindsN fun _ _ _ _ _ _ us hl => match us, hl with | [_], _ => rfl⟩)
    C_zq23 := (let ⟨f, fd, D, hm⟩ := X.d_zq23; ⟨f, fd, fg_zero rfl, hm, D.kp, D.bindsN fun _ _ _ _ _ _ us hl => match us, hl with | [_, _], _ => rfl⟩)
    C_law := (let ⟨f, fd, D, hm⟩ := X.d_law; ⟨f, fd, fg_zero rfl, hm, D.kp, D.bindsN fun _ _ _ _ _ _ us hl => match us, hl with | [_], _ => rfl⟩) }
theorem ev_step {w : World} {K : PySem.W.Frag} {mg : Str -> Option Value} {base : Heap} {Z : Wc} (hK : K = Z.K) (hgb : Z.gb = none) (X : Wf w K mg) {n : Nat} (E : Ev w K mg base Z n) : Ev w K mg base Z (n + 1) := {
    f_all := X.f_all
    f_bool := X.f_bool
    f_enumerate := X.f_enumerate
    f_int := X.f_int
    f_isinstance := X.f_isinstance
    f_len := X.f_len
    f_list := X.f_list
    f_max := X.f_max
    f_min := X.f_min
    f_range := X.f_range
    f_repr := X.f_repr
    f_sorted := X.f_sorted
    f_sum := X.f_sum
    f_tuple := X.f_tuple
    q_MAX_EDGES := X.q_MAX_EDGES
    q_MAX_NODES := X.q_MAX_NODES
    C_zq0 := cal_of (N := nn0) (F := c_zq0) rfl rfl rfl ⟨rfl, rfl, rfl, by decide +kernel, rfl, by decide +kernel, by decide +kernel⟩ X.d_zq0 (fun f fd D => D.bindsN fun _ _ _ _ _ _ us hl => match us, hl with | [_, _], _ => rfl) (fun _ _ _ _ _ _ _ hr hg => bd_zq0 hK hgb E hr hg)
    C_zq1 := cal_of (N := nn1) (F := c_zq1) rfl rfl rfl ⟨rfl, rfl, rfl, by decide +kernel, rfl, by decide +kernel, by decide +kernel⟩ X.d_zq1 (fun f fd D => D.bindsN fun _ _ _ _ _ _ us hl => match us, hl with | [_], _ => rfl) (fun _ _ _ _ _ _ _ hr hg => bd_zq1 hK hgb E hr hg)
    C_zq2 := cal_of (N := nn2) (F := c_zq2) rfl rfl rfl ⟨rfl, rfl, rfl, by decide +kernel, rfl, by decide +kernel, by decide +kernel⟩ X.d_zq2 (fun f fd D => D.bindsN fun _ _ _ _ _ _ us hl => match us, hl with | [_], _ => rfl) (fun _ _ _ _ _ _ _ hr hg => bd_zq2 hK hgb E hr hg)
    C_zq3 := cal_of (N := nn3) (F := c_zq3) rfl rfl rfl ⟨rfl, rfl, rfl, by decide +kernel, rfl, by decide +kernel, by decide +kernel⟩ X.d_zq3 (fun f fd D => D.bindsN fun _ _ _ _ _ _ us hl => match us, hl with | [_], _ => rfl) (fun _ _ _ _ _ _ _ hr hg => bd_zq3 hK hgb E hr hg)
    C_zq4 := cal_of (N := nn4) (F := c_zq4) rfl rfl rfl ⟨rfl, rfl, rfl, by decide +kernel, rfl, by decide +kernel, by decide +kernel⟩ X.d_zq4 (fun f fd D => D.bindsN fun _ _ _ _ _ _ us hl => match us, hl with | [_, _], _ => rfl) (fun _ _ _ _ _ _ _ hr hg => bd_zq4 hK hgb E hr hg)
    C_zq5 := cal_of (N := nn5) (F := c_zq5) rfl rfl rfl ⟨rfl, rfl, rfl, by decide +kernel, rfl, by decide +kernel, by decide +kernel⟩ X.d_zq5 (fun f fd D => D.bindsN fun _ _ _ _ _ _ us hl => match us, hl with | [_], _ => rfl) (fun _ _ _ _ _ _ _ hr hg => bd_zq5 hK hgb E hr hg)
    C_zq6 := cal_of (N := nn6) (F := c_zq6) rfl rfl rfl ⟨rfl, rfl, rfl, by decide +kernel, rfl, by decide +kernel, by decide +kernel⟩ X.d_zq6 (fun f fd D => D.bindsN fun _ _ _ _ _ _ us hl => match us, hl with | [_], _ => rfl) (fun _ _ _ _ _ _ _ hr hg => bd_zq6 hK hgb E hr hg)
    C_zq7 := cal_of (N := nn7) (F := c_zq7) rfl rfl rfl ⟨rfl, rfl, rfl, by decide +kernel, rfl, by decide +kernel, by decide +kernel⟩ X.d_zq7 (fun f fd D => D.bindsN fun _ _ _ _ _ _ us hl => match us, hl with | [_], _ => rfl) (fun _ _ _ _ _ _ _ hr hg => bd_zq7 hK hgb E hr hg)
    C_zq8 := cal_of (N := nn8) (F := c_zq8) rfl rfl rfl ⟨rfl, rfl, rfl, by decide +kernel, rfl, by decide +kernel, by decide +kernel⟩ X.d_zq8 (fun f fd D => D.bindsN fun _ _ _ _ _ _ us hl => match us, hl with | [_], _ => rfl) (fun _ _ _ _ _ _ _ hr hg => bd_zq8 hK hgb E hr hg)
    C_zq9 := cal_of (N := nn4) (F := c_zq9) rfl rfl rfl ⟨rfl, rfl, rfl, by decide +kernel, rfl, by decide +kernel, by decide +kernel⟩ X.d_zq9 (fun f fd D => D.bindsN fun _ _ _ _ _ _ us hl => match us, hl with | [_, _], _ => rfl) (fun _ _ _ _ _ _ _ hr hg => bd_zq9 hK hgb E hr hg)
    C_zq10 := cal_of (N := nn9) (F := c_zq10) rfl rfl rfl ⟨rfl, rfl, rfl, by decide +kernel, rfl, by decide +kernel, by decide +kernel⟩ X.d_zq10 (fun f fd D => D.bindsN fun _ _ _ _ _ _ us hl => match us, hl with | [_], _ => rfl) (fun _ _ _ _ _ _ _ hr hg => bd_zq10 hK hgb E hr hg)
    C_zq11 := cal_of (N := nn4) (F := c_zq11) rfl rfl rfl ⟨rfl, rfl, rfl, by decide +kernel, rfl, by decide +kernel, by decide +kernel⟩ X.d_zq11 (fun f fd D => D.bindsN fun _ _ _ _ _ _ us hl => match us, hl with | [_, _], _ => rfl) (fun _ _ _ _ _ _ _ hr hg => bd_zq11 hK hgb E hr hg)
    C_zq12 := cal_of (N := nn10) (F := c_zq12) rfl rfl rfl ⟨rfl, rfl, rfl, by decide +kernel, rfl, by decide +kernel, by decide +kernel⟩ X.d_zq12 (fun f fd D => D.bindsN fun _ _ _ _ _ _ us hl => match us, hl with | [_, _], _ => rfl) (fun _ _ _ _ _ _ _ hr hg => bd_zq12 hK hgb E hr hg)
    C_zq13 := cal_of (N := nn11) (F := c_zq13) rfl rfl rfl ⟨rfl, rfl, rfl, by decide +kernel, rfl, by decide +kernel, by decide +kernel⟩ X.d_zq13 (fun f fd D => D.bindsN fun _ _ _ _ _ _ us hl => match us, hl with | [_, _], _ => rfl) (fun _ _ _ _ _ _ _ hr hg => bd_zq13 hK hgb E hr hg)
    C_zq14 := cal_of (N := nn12) (F := c_zq14) rfl rfl rfl ⟨rfl, rfl, rfl, by decide +kernel, rfl, by decide +kernel, by decide +kernel⟩ X.d_zq14 (fun f fd D => D.bindsN fun _ _ _ _ _ _ us hl => match us, hl with | [_, _], _ => rfl) (fun _ _ _ _ _ _ _ hr hg => bd_zq14 hK hgb E hr hg)
    C_zq15 := cal_of (N := nn13) (F := c_zq15) rfl rfl rfl ⟨rfl, rfl, rfl, by decide +kernel, rfl, by decide +kernel, by decide +kernel⟩ X.d_zq15 (fun f fd D => D.bindsN fun _ _ _ _ _ _ us hl => match us, hl with | [_], _ => rfl) (fun _ _ _ _ _ _ _ hr hg => bd_zq15 hK hgb E hr hg)
    C_zq16 := cal_of (N := nn14) (F := c_zq16) rfl rfl rfl ⟨rfl, rfl, rfl, by decide +kernel, rfl, by decide +kernel, by decide +kernel⟩ X.d_zq16 (fun f fd D => D.bindsN fun _ _ _ _ _ _ us hl => match us, hl with | [_, _, _], _ => rfl) (fun _ _ _ _ _ _ _ hr hg => bd_zq16 hK hgb E hr hg)
    C_zq17 := cal_of (N := nn15) (F := c_zq17) rfl rfl rfl ⟨rfl, rfl, rfl, by decide +kernel, rfl, by decide +kernel, by decide +kernel⟩ X.d_zq17 (fun f fd D => D.bindsN fun _ _ _ _ _ _ us hl => match us, hl with | [_, _, _, _], _ => rfl) (fun _ _ _ _ _ _ _ hr hg => bd_zq17 hK hgb E hr hg)
    C_zq18 := cal_of (N := nn16) (F := c_zq18) rfl rfl rfl ⟨rfl, rfl, rfl, by decide +kernel, rfl, by decide +kernel, by decide +kernel⟩ X.d_zq18 (fun f fd D => D.bindsN fun _ _ _ _ _ _ us hl => match us, hl with | [_, _, _], _ => rfl) (fun _ _ _ _ _ _ _ hr hg => bd_zq18 hK hgb E hr hg)
    C_zq19 := cal_of (N := nn17) (F := c_zq19) rfl rfl rfl ⟨rfl, rfl, rfl, by decide +kernel, rfl, by decide +kernel, by decide +kernel⟩ X.d_zq19 (fun f fd D => D.bindsN fun _ _ _ _ _ _ us hl => match us, hl with | [_, _, _], _ => rfl) (fun _ _ _ _ _ _ _ hr hg => bd_zq19 hK hgb E hr hg)
    C_zq20 := cal_of (N := nn18) (F := c_zq20) rfl rfl rfl ⟨rfl, rfl, rfl, by decide +kernel, rfl, by decide +kernel, by decide +kernel⟩ X.d_zq20 (fun f fd D => D.bindsN fun _ _ _ _ _ _ us hl => match us, hl with | [_, _, _], _ => rfl) (fun _ _ _ _ _ _ _ hr hg => bd_zq20 hK hgb E hr hg)
    C_zq21 := cal_of (N := nn19) (F := c_zq21) rfl rfl rfl ⟨rfl, rfl, rfl, by decide +kernel, rfl, by decide +kernel, by decide +kernel⟩ X.d_zq21 (fun f fd D => D.bindsN fun _ _ _ _ _ _ us hl => match us, hl with | [_, _], _ => rfl) (fun _ _ _ _ _ _ _ hr hg => bd_zq21 hK hgb E hr hg)
    C_zq22 := cal_of (N := nn20) (F := c_zq22) rfl rfl rfl ⟨rfl, rfl, rfl, by decide +kernel, rfl, by decide +kernel, by decide +kernel⟩ X.d_zq22 (fun f fd D => D.bindsN fun _ _ _ _ _ _ us hl => match us, hl with | [_], _ => rfl) (fun _ _ _ _ _ _ _ hr hg => bd_zq22 hK hgb E hr hg)
    C_zq23 := cal_of (N := nn21) (F := c_zq23) rfl rfl rfl ⟨rfl, rfl, rfl, by decide +kernel, rfl, by decide +kernel, by decide +kernel⟩ X.d_zq23 (fun f fd D => D.bindsN fun _ _ _ _ _ _ us hl => match us, hl with | [_, _], _ => rfl) (fun _ _ _ _ _ _ _ hr hg => bd_zq23 hK hgb E hr hg)
    C_law := cal_of (N := nn22) (F := c_law) rfl rfl rfl ⟨rfl, rfl, rfl, by decide +kernel, rfl, by decide +kernel, by decide +kernel⟩ X.d_law (fun f fd D => D.bindsN fun _ _ _ _ _ _ us hl => match us, hl with | [_], _ => rfl) (fun _ _ _ _ _ _ _ hr hg => bd_law hK hgb E hr hg) }
theorem ev_all {w : World} {K : PySem.W.Frag} {mg : Str -> Option Value} {base : Heap} {Z : Wc} (hK : K = Z.K) (hgb : Z.gb = none) (X : Wf w K mg) : ∀ n, Ev w K mg base Z n := by
  have h : ∀ n, ∀ m, m <= n -> Ev w K mg base Z m := by
    intro n
    induction n with
    | zero => intro m hm; rw [Nat.le_zero.mp hm]; exact ev_zero hK hgb X
    | succ n ih =>
      intro m hm
      rcases Nat.lt_or_ge m (n + 1) with h1 | h1
      · exact ih m (by omega)
      · have : m = n + 1 := by omega
        subst this
        exact ev_step hK hgb X (ih n (Nat.le_refl n))
  exact fun n => h n n (Nat.le_refl n)
theorem wf_of {w : World} {K : PySem.W.Frag} {h : Heap} {mg : Str -> Option Value} (X : K.In h) (G : h.Ns mainGlobals mg) (c : He.SaysD faL fnL K) : Wf w K mg := {
  f_all := He.free_ok X G (c.fact 25 (f := .free "all") rfl)
  f_bool := He.free_ok X G (c.fact 26 (f := .free "bool") rfl)
  f_enumerate := He.free_ok X G (c.fact 27 (f := .free "enumerate") rfl)
  f_int := He.free_ok X G (c.fact 28 (f := .free "int") rfl)
  f_isinstance := He.free_ok X G (c.fact 29 (f := .free "isinstance") rfl)
  f_len := He.free_ok X G (c.fact 30 (f := .free "len") rfl)
  f_list := He.free_ok X G (c.fact 31 (f := .free "list") rfl)
  f_max := He.free_ok X G (c.fact 32 (f := .free "max") rfl)
  f_min := He.free_ok X G (c.fact 33 (f := .free "min") rfl)
  f_range := He.free_ok X G (c.fact 34 (f := .free "range") rfl)
  f_repr := He.free_ok X G (c.fact 35 (f := .free "repr") rfl)
  f_sorted := He.free_ok X G (c.fact 36 (f := .free "sorted") rfl)
  f_sum := He.free_ok X G (c.fact 37 (f := .free "sum") rfl)
  f_tuple := He.free_ok X G (c.fact 38 (f := .free "tuple") rfl)
  q_MAX_EDGES := He.int_ok X G (c.fact 39 (f := .int "MAX_EDGES" 120) rfl)
  q_MAX_NODES := He.int_ok X G (c.fact 40 (f := .int "MAX_NODES" 60) rfl)
  d_zq0 := (let ⟨fd, F⟩ := c.def_ 0 (d := dd "is_index" 7) rfl; ⟨_, fd, F, He.glo_ok X G (c.fact 0 (f := .glo "is_index") rfl)⟩)
  d_zq1 := (let ⟨fd, F⟩ := c.def_ 1 (d := dd "graph_fault" 8) rfl; ⟨_, fd, F, He.glo_ok X G (c.fact 1 (f := .glo "graph_fault") rfl)⟩)
  d_zq2 := (let ⟨fd, F⟩ := c.def_ 2 (d := dd "check_graph" 9) rfl; ⟨_, fd, F, He.glo_ok X G (c.fact 2 (f := .glo "check_graph") rfl)⟩)
  d_zq3 := (let ⟨fd, F⟩ := c.def_ 3 (d := dd "dart_count" 10) rfl; ⟨_, fd, F, He.glo_ok X G (c.fact 3 (f := .glo "dart_count") rfl)⟩)
  d_zq4 := (let ⟨fd, F⟩ := c.def_ 4 (d := dd "need_dart" 11) rfl; ⟨_, fd, F, He.glo_ok X G (c.fact 4 (f := .glo "need_dart") rfl)⟩)
  d_zq5 := (let ⟨fd, F⟩ := c.def_ 5 (d := dd "opposite_of" 12) rfl; ⟨_, fd, F, He.glo_ok X G (c.fact 5 (f := .glo "opposite_of") rfl)⟩)
  d_zq6 := (let ⟨fd, F⟩ := c.def_ 6 (d := dd "successors" 14) rfl; ⟨_, fd, F, He.glo_ok X G (c.fact 6 (f := .glo "successors") rfl)⟩)
  d_zq7 := (let ⟨fd, F⟩ := c.def_ 7 (d := dd "face_list" 15) rfl; ⟨_, fd, F, He.glo_ok X G (c.fact 7 (f := .glo "face_list") rfl)⟩)
  d_zq8 := (let ⟨fd, F⟩ := c.def_ 8 (d := dd "face_of_darts" 16) rfl; ⟨_, fd, F, He.glo_ok X G (c.fact 8 (f := .glo "face_of_darts") rfl)⟩)
  d_zq9 := (let ⟨fd, F⟩ := c.def_ 9 (d := dd "successor" 17) rfl; ⟨_, fd, F, He.glo_ok X G (c.fact 9 (f := .glo "successor") rfl)⟩)
  d_zq10 := (let ⟨fd, F⟩ := c.def_ 10 (d := dd "faces" 18) rfl; ⟨_, fd, F, He.glo_ok X G (c.fact 10 (f := .glo "faces") rfl)⟩)
  d_zq11 := (let ⟨fd, F⟩ := c.def_ 11 (d := dd "face_index" 19) rfl; ⟨_, fd, F, He.glo_ok X G (c.fact 11 (f := .glo "face_index") rfl)⟩)
  d_zq12 := (let ⟨fd, F⟩ := c.def_ 12 (d := dd "_law_source" 21) rfl; ⟨_, fd, F, He.glo_ok X G (c.fact 12 (f := .glo "_law_source") rfl)⟩)
  d_zq13 := (let ⟨fd, F⟩ := c.def_ 13 (d := dd "_law_next" 22) rfl; ⟨_, fd, F, He.glo_ok X G (c.fact 13 (f := .glo "_law_next") rfl)⟩)
  d_zq14 := (let ⟨fd, F⟩ := c.def_ 14 (d := dd "_law_mixed" 23) rfl; ⟨_, fd, F, He.glo_ok X G (c.fact 14 (f := .glo "_law_mixed") rfl)⟩)
  d_zq15 := (let ⟨fd, F⟩ := c.def_ 15 (d := dd "_law_walks" 24) rfl; ⟨_, fd, F, He.glo_ok X G (c.fact 15 (f := .glo "_law_walks") rfl)⟩)
  d_zq16 := (let ⟨fd, F⟩ := c.def_ 16 (d := dd "_law_put" 25) rfl; ⟨_, fd, F, He.glo_ok X G (c.fact 16 (f := .glo "_law_put") rfl)⟩)
  d_zq17 := (let ⟨fd, F⟩ := c.def_ 17 (d := dd "_law_add_edge" 26) rfl; ⟨_, fd, F, He.glo_ok X G (c.fact 17 (f := .glo "_law_add_edge") rfl)⟩)
  d_zq18 := (let ⟨fd, F⟩ := c.def_ 18 (d := dd "_law_renumbered" 27) rfl; ⟨_, fd, F, He.glo_ok X G (c.fact 18 (f := .glo "_law_renumbered") rfl)⟩)
  d_zq19 := (let ⟨fd, F⟩ := c.def_ 19 (d := dd "_law_graph" 28) rfl; ⟨_, fd, F, He.glo_ok X G (c.fact 19 (f := .glo "_law_graph") rfl)⟩)
  d_zq20 := (let ⟨fd, F⟩ := c.def_ 20 (d := dd "_law_any_graph" 29) rfl; ⟨_, fd, F, He.glo_ok X G (c.fact 20 (f := .glo "_law_any_graph") rfl)⟩)
  d_zq21 := (let ⟨fd, F⟩ := c.def_ 21 (d := dd "_law_behind" 30) rfl; ⟨_, fd, F, He.glo_ok X G (c.fact 21 (f := .glo "_law_behind") rfl)⟩)
  d_zq22 := (let ⟨fd, F⟩ := c.def_ 22 (d := dd "_law_cycles" 31) rfl; ⟨_, fd, F, He.glo_ok X G (c.fact 22 (f := .glo "_law_cycles") rfl)⟩)
  d_zq23 := (let ⟨fd, F⟩ := c.def_ 23 (d := dd "_law_right" 32) rfl; ⟨_, fd, F, He.glo_ok X G (c.fact 23 (f := .glo "_law_right") rfl)⟩)
  d_law := (let ⟨fd, F⟩ := c.def_ 24 (d := dd "law" 33) rfl; ⟨_, fd, F, He.glo_ok X G (c.fact 24 (f := .glo "law") rfl)⟩) }
end Fs
namespace Fs
open PySem
section
variable {α β : Type}
def wr (r : R α) (Q : α -> Sto -> Prop) (E : D -> Sto -> Prop) : Prop := match r with
  | .ok a s' => Q a s'
  | .exc e s' => E e s'
  | .bad => False
structure wp (m : M α) (s : Sto) (Q : α -> Sto -> Prop) (E : D -> Sto -> Prop) : Prop where
  run : wr (m s) Q E
theorem wp_def {m : M α} {s : Sto} {Q : α -> Sto -> Prop} {E : D -> Sto -> Prop} : wp m s Q E = wr (m s) Q E := propext ⟨fun h => h.run, fun h => ⟨h⟩⟩
def wb (k : Bool) (A B : Prop) : Prop := match k with
  | true => A
  | false => B
def og (o : Option α) (f : α -> Prop) : Prop := match o with
  | some a => f a
  | none => False
theorem wb_t {A B : Prop} : wb true A B = A := propext Iff.rfl
theorem wb_f {A B : Prop} : wb false A B = B := propext Iff.rfl
theorem og_s {a : α} {f : α -> Prop} : og (some a) f = f a := propext Iff.rfl
theorem wb_of {k : Bool} {A B : Prop} (h1 : k = true -> A) (h2 : k = false -> B) : wb k A B := by
  cases k
  · exact h2 rfl
  · exact h1 rfl
theorem wr_ok {a : α} {s : Sto} {Q : α -> Sto -> Prop} {E : D -> Sto -> Prop} : wr (.ok a s) Q E = Q a s := propext Iff.rfl
theorem wr_exc {a : D} {s : Sto} {Q : α -> Sto -> Prop} {E : D -> Sto -> Prop} : wr (.exc a s) Q E = E a s := propext Iff.rfl
theorem wp_of {m : M α} {s : Sto} {Q Q' : α -> Sto -> Prop} {E E' : D -> Sto -> Prop} (h : wp m s Q E) (hq : ∀ a s', Q a s' -> Q' a s') (he : ∀ a s', E a s' -> E' a s') : wp m s Q' E' := by
  rw [wp_def] at *
  unfold wr at *
  cases e : m s with
  | ok a s' => rw [e] at h; exact hq _ _ h
  | exc a s' => rw [e] at h; exact he _ _ h
  | bad => rw [e] at h; exact h
theorem wp_q {m : M α} {s : Sto} {Q Q' : α -> Sto -> Prop} {E : D -> Sto -> Prop} (h : ∀ a s', Q a s' = Q' a s') : wp m s Q E = wp m s Q' E := by
  have : Q = Q' := funext fun a => funext fun s' => h a s'
  rw [this]
theorem og_q {o : Option α} {f g : α -> Prop} (h : ∀ a, f a = g a) : og o f = og o g := by
  have : f = g := funext h
  rw [this]
abbrev NX : D -> Sto -> Prop := fun _ _ => False
theorem wp_nx {m : M α} {s : Sto} {Q Q' : α -> Sto -> Prop} {E' : D -> Sto -> Prop} (h : wp m s Q NX) (hq : ∀ a s', Q a s' -> Q' a s') : wp m s Q' E' := wp_of h hq (fun _ _ h => h.elim)
theorem wp_run {m : M α} {s : Sto} {Q : α -> Sto -> Prop} (h : wp m s Q NX) : ∃ a s', m s = .ok a s' /\ Q a s' := by
  rw [wp_def] at h
  unfold wr at h
  cases e : m s with
  | ok a s' => rw [e] at h; exact ⟨a, s', rfl, h⟩
  | exc a s' => rw [e] at h; exact h.elim
  | bad => rw [e] at h; exact h.elim
variable {s : Sto} {E : D -> Sto -> Prop}
theorem wp_ret {a : α} {Q : α -> Sto -> Prop} : wp (ret a) s Q E = Q a s := by rw [wp_def]; exact propext Iff.rfl
theorem wp_bnd {m : M α} {f : α -> M β} {Q : β -> Sto -> Prop} : wp (bnd m f) s Q E = wp m s (fun a s' => wp (f a) s' Q E) E := by
  simp only [wp_def, bnd]
  cases m s <;> (first | rfl | (simp only [wp_def] <;> rfl))
theorem wp_opt {o : Option α} {f : α -> M β} {Q : β -> Sto -> Prop} : wp (opt o f) s Q E = og o (fun a => wp (f a) s Q E) := by
  cases o <;> (first | rfl | (simp only [wp_def] <;> rfl))
theorem wp_bndS {m : Sto -> M α} {f : α -> M β} {Q : β -> Sto -> Prop} : wp (fun st => bnd (m st) f st) s Q E = wp (m s) s (fun a s' => wp (f a) s' Q E) E := by
  rw [wp_def]
  show wr (bnd (m s) f s) Q E = _
  simp only [wp_def, bnd]
  cases m s s <;> (first | rfl | (simp only [wp_def] <;> rfl))
theorem wp_optS {o : Sto -> Option α} {f : α -> M β} {Q : β -> Sto -> Prop} : wp (fun st => opt (o st) f st) s Q E = og (o s) (fun a => wp (f a) s Q E) := by
  rw [wp_def]
  show wr (opt (o s) f s) Q E = _
  cases o s <;> (first | rfl | (simp only [wp_def] <;> rfl))
theorem wp_gdS {b : Sto -> Bool} {m : Sto -> M β} {Q : β -> Sto -> Prop} : wp (fun st => gd (b st) (m st) st) s Q E = (b s = true /\ wp (m s) s Q E) := by
  rw [wp_def]
  show wr (gd (b s) (m s) s) Q E = _
  cases b s <;> simp [gd, wp_def, wr, bad]
theorem wp_gd {b : Bool} {m : M α} {Q : α -> Sto -> Prop} : wp (gd b m) s Q E = (b = true /\ wp m s Q E) := by
  cases b <;> simp [gd, wp_def, wr, bad]
theorem wp_noX {m : M α} {Q : α -> Sto -> Prop} : wp (noX m) s Q E = wp m s Q NX := by
  simp only [wp_def, noX]
  cases m s <;> (first | rfl | (simp only [wp_def] <;> rfl))
theorem wp_lft {σ : Env} {m : M α} {f : α -> M Fl} {Q : Fl -> Sto -> Prop} : wp (lft σ m f) s Q E = wp m s (fun a s' => wp (f a) s' Q E) (fun e s' => Q (.ex σ e) s') := by
  simp only [wp_def, lft]
  cases m s <;> (first | rfl | (simp only [wp_def] <;> rfl))
def fq (k : Env -> Sto -> Prop) (Q : Fl -> Sto -> Prop) : Fl -> Sto -> Prop := fun f s' => match f with
  | .nx σ => k σ s'
  | f => Q f s'
theorem fq_nx {k : Env -> Sto -> Prop} {Q : Fl -> Sto -> Prop} {σ : Env} : fq k Q (.nx σ) s = k σ s := propext Iff.rfl
theorem fq_rt {k : Env -> Sto -> Prop} {Q : Fl -> Sto -> Prop} {d : D} : fq k Q (.rt d) s = Q (.rt d) s := propext Iff.rfl
theorem fq_br {k : Env -> Sto -> Prop} {Q : Fl -> Sto -> Prop} {d : Env} : fq k Q (.br d) s = Q (.br d) s := propext Iff.rfl
theorem fq_ct {k : Env -> Sto -> Prop} {Q : Fl -> Sto -> Prop} {d : Env} : fq k Q (.ct d) s = Q (.ct d) s := propext Iff.rfl
theorem fq_ex {k : Env -> Sto -> Prop} {Q : Fl -> Sto -> Prop} {d : Env} {e : D} : fq k Q (.ex d e) s = Q (.ex d e) s := propext Iff.rfl
theorem wp_seqF {m : M Fl} {k : Env -> M Fl} {Q : Fl -> Sto -> Prop} (hE : E = NX) : wp (seqF m k) s Q E = wp m s (fq (fun σ s' => wp (k σ) s' Q E) Q) E := by
  subst hE
  simp only [wp_def, seqF]
  cases m s with
  | ok f s' => cases f <;> (first | rfl | (simp only [wp_def] <;> rfl))
  | exc => first | rfl | (simp only [wp_def] <;> rfl)
  | bad => first | rfl | (simp only [wp_def] <;> rfl)
end
section
variable {T : Tbl} {σ : Env} {s : Sto} {E : D -> Sto -> Prop} {Q : D -> Sto -> Prop} {QB : Bool -> Sto -> Prop} {QF : Fl -> Sto -> Prop}
def lk (o : Option (Option D)) (f : D -> Prop) : Prop := match o with
  | some (some d) => f d
  | _ => False
theorem lk_s {d : D} {f : D -> Prop} : lk (some (some d)) f = f d := propext Iff.rfl
theorem e_loc {i : Nat} : wp (ev T (.loc i) σ) s Q E = lk σ[i]? (fun d => Q d s) := by
  simp only [ev]
  cases σ[i]? with
  | none => first | rfl | (simp only [wp_def] <;> rfl)
  | some o => cases o <;> (first | rfl | (simp only [wp_def] <;> rfl))
theorem e_con {d : D} : wp (ev T (.con d) σ) s Q E = Q d s := by simp only [ev, wp_ret]
theorem e_bin {op : Bop} {a b : Ex} : wp (ev T (.bin op a b) σ) s Q E = wp (ev T a σ) s (fun x s => wp (ev T b σ) s (fun y s => wp (binD op x y) s Q E) E) E := by
  simp only [ev, wp_bnd]
theorem e_neg {a : Ex} : wp (ev T (.neg a) σ) s Q E = wp (ev T a σ) s (fun x s => og (intv x) fun i => Q (.int (-i)) s) E := by
  simp only [ev, wp_bnd, wp_opt, wp_ret]
theorem e_nt {a : Cn} : wp (ev T (.nt a) σ) s Q E = wp (evT T a σ) s (fun c s => Q (.bl (!c)) s) E := by
  simp only [ev, wp_bnd, wp_ret]
theorem wp_st {f : Sto -> M D} : wp (fun st => f st st) s Q E = wp (f s) s Q E := by rw [wp_def, wp_def]
theorem e_cmp {op : Cop} {a b : Ex} : wp (ev T (.cmp op a b) σ) s Q E = wp (ev T a σ) s (fun x s => wp (ev T b σ) s (fun y s => og (cmpD op x y s) (fun c => Q (.bl c) s)) E) E := by
  simp only [ev, wp_bnd]
  refine wp_q fun x s => wp_q fun y s => ?_
  rw [wp_optS (o := fun st => cmpD op x y st)]
  exact og_q fun c => wp_ret
theorem e_chn {o1 o2 : Cop} {a b c : Ex} : wp (ev T (.chn o1 o2 a b c) σ) s Q E = wp (ev T a σ) s (fun x s => og (intv x) fun i => wp (ev T b σ) s (fun y s => og (intv y) fun j => og (cmpI o1 i j) fun k => wb k (wp (ev T c σ) s (fun z s => og (intv z) fun m => og (cmpI o2 j m) fun r => Q (.bl r) s) E) (Q (.bl false) s)) E) E := by
  simp only [ev, wp_bnd, wp_opt]
  refine wp_q fun x s => og_q fun i => wp_q fun y s => og_q fun j => og_q fun k => ?_
  cases k
  · first | rfl | (simp only [wp_def] <;> rfl)
  · simp only [wb, wp_bnd, wp_opt, wp_ret]
theorem e_and2 {a b : Ex} : wp (ev T (.and2 a b) σ) s Q E = wp (ev T a σ) s (fun x s => og (blv x) fun c => wb c (wp (ev T b σ) s Q E) (Q (.bl false) s)) E := by
  simp only [ev, wp_bnd, wp_opt]
  refine wp_q fun x s => og_q fun k => ?_
  cases k <;> (first | rfl | (simp only [wp_def] <;> rfl))
theorem e_or2 {a b : Ex} : wp (ev T (.or2 a b) σ) s Q E = wp (ev T a σ) s (fun x s => og (blv x) fun c => wb c (Q (.bl true) s) (wp (ev T b σ) s Q E)) E := by
  simp only [ev, wp_bnd, wp_opt]
  refine wp_q fun x s => og_q fun k => ?_
  cases k <;> (first | rfl | (simp only [wp_def] <;> rfl))
theorem e_ife {c : Cn} {a b : Ex} : wp (ev T (.ife c a b) σ) s Q E = wp (evT T c σ) s (fun k s => wb k (wp (ev T a σ) s Q E) (wp (ev T b σ) s Q E)) E := by
  simp only [ev, wp_bnd]
  refine wp_q fun k s => ?_
  cases k <;> (first | rfl | (simp only [wp_def] <;> rfl))
theorem es_nil {Q : List D -> Sto -> Prop} : wp (evs T [] σ) s Q E = Q [] s := by simp only [evs, wp_ret]
theorem es_cons {e : Ex} {es : List Ex} {Q : List D -> Sto -> Prop} : wp (evs T (e :: es) σ) s Q E = wp (ev T e σ) s (fun x s => wp (evs T es σ) s (fun xs s => Q (x :: xs) s) E) E := by
  simp only [evs, wp_bnd, wp_ret]
theorem e_tup {es : List Ex} : wp (ev T (.tup es) σ) s Q E = wp (evs T es σ) s (fun ds s => ds.length <= sizeLine /\ Q (.tup ds) s) E := by
  simp only [ev, wp_bnd, wp_gd, wp_ret, decide_eq_true_eq]
theorem e_lst {es : List Ex} : wp (ev T (.lst es) σ) s Q E = wp (evs T es σ) s (fun ds s => ds.length <= sizeLine /\ Q (.lst ds) s) E := by
  simp only [ev, wp_bnd, wp_gd, wp_ret, decide_eq_true_eq]
theorem e_dct0 : wp (ev T (.dct []) σ) s Q E = Q (.dic []) s := by
  simp only [ev, evkv, wp_bnd, wp_gd, wp_ret, List.foldl, true_and]
theorem e_sub {a i : Ex} : wp (ev T (.sub a i) σ) s Q E = wp (ev T a σ) s (fun x s => wp (ev T i σ) s (fun y s => wp (getI x y) s Q E) E) E := by
  simp only [ev, wp_bnd]
theorem e_slc {a : Ex} {lo hi : Option Ex} : wp (ev T (.slc a lo hi) σ) s Q E = wp (ev T a σ) s (fun x s => wp (evo T lo σ) s (fun l s => wp (evo T hi σ) s (fun h s => wp (slcD x l h) s Q E) E) E) E := by
  simp only [ev, wp_bnd]
theorem eo_n {Q : Option Int -> Sto -> Prop} : wp (evo T none σ) s Q E = Q none s := by simp only [evo, wp_ret]
theorem eo_s {e : Ex} {Q : Option Int -> Sto -> Prop} : wp (evo T (some e) σ) s Q E = wp (ev T e σ) s (fun x s => og (intv x) fun i => Q (some i) s) E := by
  simp only [evo, wp_bnd, wp_opt, wp_ret]
theorem e_rev {a : Ex} : wp (ev T (.rev a) σ) s Q E = wp (ev T a σ) s (fun x s => wp (revD x) s Q E) E := by
  simp only [ev, wp_bnd]
theorem e_call {f : Nat} {es : List Ex} : wp (ev T (.call f es) σ) s Q E = wp (evs T es σ) s (fun ds s => wp (T.fn f ds) s Q E) E := by
  simp only [ev, wp_bnd]
theorem e_bi {b : Bi} {es : List Ex} : wp (ev T (.bi b es) σ) s Q E = wp (evs T es σ) s (fun ds s => wp (biD T b ds) s Q E) E := by
  simp only [ev, wp_bnd]
theorem e_me {m : Me} {o : Ex} {es : List Ex} : wp (ev T (.me m o es) σ) s Q E = wp (ev T o σ) s (fun x s1 => meK m (kndD s1 x) = true /\ wp (evs T es σ) s1 (fun ds s2 => (kndD s1 x == kndD s2 x) = true /\ wp (meD m x ds) s2 Q E) E) E := by
  simp only [ev, wp_bnd]
  refine wp_q fun x s1 => ?_
  rw [wp_gdS (b := fun st1 => meK m (kndD st1 x)) (m := fun st1 => bnd (evs T es σ) fun ds => fun st2 => gd (kndD st1 x == kndD st2 x) (meD m x ds) st2)]
  refine congrArg _ ?_
  rw [wp_bnd]
  refine wp_q fun ds s2 => ?_
  rw [wp_gdS (b := fun st2 => kndD s1 x == kndD st2 x) (m := fun _ => meD m x ds)]
def lcT (T : Tbl) (own : List Nat) (tg : Tg) (ifs : List Cn) (e : Ex) (σ : Env) : D -> M (Option D) := fun d => bnd (asgT T tg d (wipe σ own)) fun σ' => bnd (evTs T ifs σ') fun b => match b with
        | true => bnd (ev T e σ') fun y => ret (some y)
        | false => ret none
theorem e_lc {own : List Nat} {it : Ix} {tg : Tg} {ifs : List Cn} {e : Ex} : wp (ev T (.lc own it tg ifs e) σ) s Q E = wp (evI T it σ) s (fun t s => wp (lcLoop t (lcT T own tg ifs e σ) (t.len s + 1) 0 []) s (fun ys s => Q (.lst ys) s) E) E := by
  simp only [ev, wp_bnd]
  refine wp_q fun t s => ?_
  unfold lcT
  exact Eq.trans (wp_bndS (m := fun st => lcLoop t _ (t.len st + 1) 0 [])) (wp_q fun ys s => wp_ret)
def dcT (T : Tbl) (own : List Nat) (tg : Tg) (ifs : List Cn) (k v : Ex) (σ : Env) : D -> M (Option (Ky × D)) := fun d => bnd (asgT T tg d (wipe σ own)) fun σ' => bnd (evTs T ifs σ') fun b => match b with
        | true => bnd (ev T k σ') fun x => bnd (ev T v σ') fun y => opt (keyOf x) fun q => ret (some (q, y))
        | false => ret none
theorem e_dc {own : List Nat} {it : Ix} {tg : Tg} {ifs : List Cn} {k v : Ex} : wp (ev T (.dc own it tg ifs k v) σ) s Q E = wp (evI T it σ) s (fun t s => wp (dcLoop t (dcT T own tg ifs k v σ) (t.len s + 1) 0 []) s (fun ys s => Q (.dic ys) s) E) E := by
  simp only [ev, wp_bnd]
  refine wp_q fun t s => ?_
  unfold dcT
  exact Eq.trans (wp_bndS (m := fun st => dcLoop t _ (t.len st + 1) 0 [])) (wp_q fun ys s => wp_ret)
theorem w_lcT {own : List Nat} {tg : Tg} {ifs : List Cn} {e : Ex} {d : D} {Q : Option D -> Sto -> Prop} : wp (lcT T own tg ifs e σ d) s Q E = wp (asgT T tg d (wipe σ own)) s (fun σ' s => wp (evTs T ifs σ') s (fun b s => wb b (wp (ev T e σ') s (fun y s => Q (some y) s) E) (Q none s)) E) E := by
  simp only [lcT, wp_bnd]
  refine wp_q fun t s => wp_q fun b s => ?_
  cases b
  · first | rfl | (simp only [wp_def] <;> rfl)
  · simp only [wb, wp_bnd, wp_ret]
theorem w_dcT {own : List Nat} {tg : Tg} {ifs : List Cn} {k v : Ex} {d : D} {Q : Option (Ky × D) -> Sto -> Prop} : wp (dcT T own tg ifs k v σ d) s Q E = wp (asgT T tg d (wipe σ own)) s (fun σ' s => wp (evTs T ifs σ') s (fun b s => wb b (wp (ev T k σ') s (fun x s => wp (ev T v σ') s (fun y s => og (keyOf x) fun q => Q (some (q, y)) s) E) E) (Q none s)) E) E := by
  simp only [dcT, wp_bnd]
  refine wp_q fun t s => wp_q fun b s => ?_
  cases b
  · first | rfl | (simp only [wp_def] <;> rfl)
  · simp only [wb, wp_bnd, wp_opt, wp_ret]
theorem t_nt {a : Cn} : wp (evT T (.nt a) σ) s QB E = wp (evT T a σ) s (fun c s => QB (!c) s) E := by
  simp only [evT, wp_bnd, wp_ret]
theorem t_and2 {a b : Cn} : wp (evT T (.and2 a b) σ) s QB E = wp (evT T a σ) s (fun c s => wb c (wp (evT T b σ) s QB E) (QB false s)) E := by
  simp only [evT, wp_bnd]
  refine wp_q fun x s => ?_
  cases x <;> (first | rfl | (simp only [wp_def] <;> rfl))
theorem t_or2 {a b : Cn} : wp (evT T (.or2 a b) σ) s QB E = wp (evT T a σ) s (fun c s => wb c (QB true s) (wp (evT T b σ) s QB E)) E := by
  simp only [evT, wp_bnd]
  refine wp_q fun x s => ?_
  cases x <;> (first | rfl | (simp only [wp_def] <;> rfl))
theorem t_ife {a b c : Cn} : wp (evT T (.ife c a b) σ) s QB E = wp (evT T c σ) s (fun k s => wb k (wp (evT T a σ) s QB E) (wp (evT T b σ) s QB E)) E := by
  simp only [evT, wp_bnd]
  refine wp_q fun x s => ?_
  cases x <;> (first | rfl | (simp only [wp_def] <;> rfl))
theorem t_val {e : Ex} : wp (evT T (.val e) σ) s QB E = wp (ev T e σ) s (fun x s => og (truth s x) (fun b => QB b s)) E := by
  simp only [evT, wp_bnd]
  refine wp_q fun x s => ?_
  rw [wp_optS (o := fun st => truth st x)]
  exact og_q fun c => wp_ret
theorem ts_nil : wp (evTs T [] σ) s QB E = QB true s := by simp only [evTs, wp_ret]
theorem ts_cons {e : Cn} {es : List Cn} : wp (evTs T (e :: es) σ) s QB E = wp (evT T e σ) s (fun c s => wb c (wp (evTs T es σ) s QB E) (QB false s)) E := by
  simp only [evTs, wp_bnd]
  refine wp_q fun x s => ?_
  cases x <;> (first | rfl | (simp only [wp_def] <;> rfl))
theorem i_val {e : Ex} {Q : It -> Sto -> Prop} : wp (evI T (.val e) σ) s Q E = wp (ev T e σ) s (fun x s => wp (srcOf x) s (fun w s => Q (.one w) s) E) E := by
  simp only [evI, wp_bnd, wp_ret]
theorem i_rng {es : List Ex} {Q : It -> Sto -> Prop} : wp (evI T (.rng es) σ) s Q E = wp (evs T es σ) s (fun ds s => og (rngL ds) fun xs => Q (.one (.items xs)) s) E := by
  simp only [evI, wp_bnd, wp_opt, wp_ret]
theorem i_enum {e : Ex} {k : Int} {Q : It -> Sto -> Prop} : wp (evI T (.enum e k) σ) s Q E = wp (ev T e σ) s (fun x s => wp (srcOf x) s (fun w s => Q (.enum k w) s) E) E := by
  simp only [evI, wp_bnd, wp_ret]
theorem wp_land {d : D} : wp (landM d) s Q E = Q (land d s).1 (land d s).2 := by rw [wp_def]; exact propext Iff.rfl
theorem g_nm {i : Nat} {d : D} {Q : Env -> Sto -> Prop} : wp (asgT T (.nm i) d σ) s Q E = Q (σ.set i (some (land d s).1)) (land d s).2 := by
  simp only [asgT, wp_bnd, wp_land, wp_ret]
theorem g_tup {ts : List Tg} {d : D} {Q : Env -> Sto -> Prop} : wp (asgT T (.tup ts) d σ) s Q E = og (ofTup d s) (fun ds => wp (asgTs T ts ds σ) s Q E) := by
  have e : asgT T (.tup ts) d σ s = match ofTup d s with
    | some ds => asgTs T ts ds σ s
    | none => .bad := by
    simp only [asgT] <;> (cases ofTup d s <;> rfl)
  rw [wp_def, e]
  cases ofTup d s with
  | none => rfl
  | some ds => simp only [og, wp_def]
theorem g_sub {o i : Ex} {d : D} {Q : Env -> Sto -> Prop} : wp (asgT T (.sub o i) d σ) s Q E = wp (ev T o σ) s (fun x s => wp (ev T i σ) s (fun y s => wp (setI x y d) s (fun _ s => Q σ s) E) E) E := by
  simp only [asgT, wp_bnd, wp_ret]
theorem gs_nil {Q : Env -> Sto -> Prop} : wp (asgTs T [] [] σ) s Q E = Q σ s := by simp only [asgTs, wp_ret]
theorem gs_cons {t : Tg} {ts : List Tg} {d : D} {ds : List D} {Q : Env -> Sto -> Prop} : wp (asgTs T (t :: ts) (d :: ds) σ) s Q E = wp (asgT T t d σ) s (fun σ' s => wp (asgTs T ts ds σ') s Q E) E := by
  simp only [asgTs, wp_bnd]
theorem s_asg {t : Tg} {e : Ex} : wp (exS T (.asg t e) σ) s QF E = wp (ev T e σ) s (fun x s => wp (asgT T t x σ) s (fun σ' s => QF (.nx σ') s) NX) (fun e s => QF (.ex σ e) s) := by
  simp only [exS, wp_lft, wp_bnd, wp_noX, wp_ret]
theorem s_xpr {e : Ex} : wp (exS T (.xpr e) σ) s QF E = wp (ev T e σ) s (fun _ s => QF (.nx σ) s) (fun e s => QF (.ex σ e) s) := by
  simp only [exS, wp_lft, wp_ret]
theorem s_ret {e : Ex} : wp (exS T (.ret e) σ) s QF E = wp (ev T e σ) s (fun d s => QF (.rt d) s) (fun e s => QF (.ex σ e) s) := by
  simp only [exS, wp_lft, wp_ret]
theorem s_ret0 : wp (exS T .ret0 σ) s QF E = QF (.rt .non) s := by simp only [exS, wp_ret]
theorem s_iff {c : Cn} {a b : List Sx} : wp (exS T (.iff c a b) σ) s QF E = wp (evT T c σ) s (fun k s => wb k (wp (exL T a σ) s QF E) (wp (exL T b σ) s QF E)) (fun e s => QF (.ex σ e) s) := by
  simp only [exS, wp_lft]
  refine wp_q fun x s => ?_
  cases x <;> (first | rfl | (simp only [wp_def] <;> rfl))
theorem s_brk : wp (exS T .brk σ) s QF E = QF (.br σ) s := by simp only [exS, wp_ret]
theorem s_cnt : wp (exS T .cnt σ) s QF E = QF (.ct σ) s := by simp only [exS, wp_ret]
theorem s_pas : wp (exS T .pas σ) s QF E = QF (.nx σ) s := by simp only [exS, wp_ret]
theorem s_for {it : Ix} {t : Tg} {b : List Sx} : wp (exS T (.forr it t b) σ) s QF E = wp (evI T it σ) s (fun w s => wp (forLoop w (fun d σ => asgT T t d σ) (fun σ => exL T b σ) (w.len s + 1) 0 σ) s QF E) (fun e s => QF (.ex σ e) s) := by
  simp only [exS, wp_lft]; exact wp_q fun w s => by rw [wp_def, wp_def]
theorem s_whl {c : Cn} {b : List Sx} : wp (exS T (.whl c b) σ) s QF E = wp (whLoop (fun σ => evT T c σ) (fun σ => exL T b σ) wfuel σ) s QF E := by
  simp only [exS]
theorem l_nil : wp (exL T [] σ) s QF E = QF (.nx σ) s := by simp only [exL, wp_ret]
theorem l_cons {x : Sx} {xs : List Sx} : wp (exL T (x :: xs) σ) s QF NX = wp (exS T x σ) s (fq (fun σ s => wp (exL T xs σ) s QF NX) QF) NX := by
  simp only [exL, wp_seqF]
def tq (I : Env -> Sto -> Prop) (QF : Fl -> Sto -> Prop) : Fl -> Sto -> Prop := fun f s => match f with
  | .nx σ | .ct σ => I σ s
  | .br σ => QF (.nx σ) s
  | f => QF f s
theorem tq_nx {I : Env -> Sto -> Prop} {σ : Env} : tq I QF (.nx σ) s = I σ s := propext Iff.rfl
theorem tq_ct {I : Env -> Sto -> Prop} {σ : Env} : tq I QF (.ct σ) s = I σ s := propext Iff.rfl
theorem tq_br {I : Env -> Sto -> Prop} {σ : Env} : tq I QF (.br σ) s = QF (.nx σ) s := propext Iff.rfl
theorem tq_rt {I : Env -> Sto -> Prop} {d : D} : tq I QF (.rt d) s = QF (.rt d) s := propext Iff.rfl
theorem tq_ex {I : Env -> Sto -> Prop} {σ : Env} {d : D} : tq I QF (.ex σ d) s = QF (.ex σ d) s := propext Iff.rfl
theorem w_forAux {it : It} {g : D -> Env -> M Env} {b : Env -> M Fl} (xs : List D) (I : Nat -> Env -> Sto -> Prop)
    (hit : ∀ i σ s, I i σ s -> it.next i s = some xs[i]?)
    (hb : ∀ i d σ s, I i σ s -> xs[i]? = some d -> wp (g d σ) s (fun σ1 s1 => wp (b σ1) s1 (tq (I (i + 1)) QF) NX) NX)
    (hq : ∀ σ s, I xs.length σ s -> QF (.nx σ) s) : ∀ (n i : Nat) (σ : Env) (s : Sto), I i σ s -> i <= xs.length -> xs.length + 1 <= n + i -> wp (forLoop it g b n i σ) s QF E
  | 0, i, σ, s, h, h1, h2 => absurd h2 (by omega)
  | n + 1, i, σ, s, h, h1, h2 => by
    simp only [wp_def, forLoop]
    rw [hit i σ s h]
    by_cases hi : i < xs.length
    · rw [List.getElem?_eq_getElem hi]
      have hw := hb i _ σ s h (List.getElem?_eq_getElem hi)
      simp only [wp_def, noX] at hw ⊢
      cases eg : g xs[i] σ s with
      | ok σ1 s1 =>
        rw [eg] at hw
        simp only [wr] at hw
        simp only
        cases eb : b σ1 s1 with
        | ok f s2 =>
          rw [eb] at hw
          simp only [wr] at hw
          cases f with
          | nx σ' => exact (w_forAux xs I hit hb hq n (i + 1) σ' s2 hw hi (by omega)).run
          | ct σ' => exact (w_forAux xs I hit hb hq n (i + 1) σ' s2 hw hi (by omega)).run
          | br σ' => exact hw
          | rt d => exact hw
          | ex σ' e => exact hw
        | exc e s2 => rw [eb] at hw; exact hw.elim
        | bad => rw [eb] at hw; exact hw.elim
      | exc e s2 => rw [eg] at hw; exact hw.elim
      | bad => rw [eg] at hw; exact hw.elim
    · obtain rfl : i = xs.length := by omega
      rw [List.getElem?_eq_none (Nat.le_refl _)]
      exact hq σ s h
theorem w_for {g : D -> Env -> M Env} {b : Env -> M Fl} (xs : List D) (I : Nat -> Env -> Sto -> Prop) (h0 : I 0 σ s)
    (hb : ∀ i d σ s, I i σ s -> xs[i]? = some d -> wp (g d σ) s (fun σ1 s1 => wp (b σ1) s1 (tq (I (i + 1)) QF) NX) NX)
    (hq : ∀ σ s, I xs.length σ s -> QF (.nx σ) s) : wp (forLoop (.one (.items xs)) g b ((It.one (.items xs)).len s + 1) 0 σ) s QF E :=
  w_forAux xs I (fun i σ s _ => rfl) hb hq _ 0 σ s h0 (Nat.zero_le _) (by show xs.length + 1 <= xs.length + 1 + 0; omega)
def numb (k : Int) (xs : List D) : List D := (List.range xs.length).map fun (i : Nat) => .tup [.int (k + (i : Int)), xs.getD i .non]
theorem numb_get {k : Int} {xs : List D} {i : Nat} : (numb k xs)[i]? = xs[i]?.map fun d => .tup [.int (k + (i : Int)), d] := by
  simp only [numb, List.getElem?_map]
  by_cases h : i < xs.length
  · rw [List.getElem?_range h, List.getElem?_eq_getElem h]
    simp [List.getD, List.getElem?_eq_getElem h]
  · rw [List.getElem?_eq_none (l := List.range xs.length) (by simpa using h), List.getElem?_eq_none (by omega)]; rfl
theorem numb_len {k : Int} {xs : List D} : (numb k xs).length = xs.length := by simp [numb]
theorem enum_next {k : Int} {xs : List D} {i : Nat} {s : Sto} (h : i <= xs.length) : (It.enum k (.items xs)).next i s = some (numb k xs)[i]? := by
  rw [numb_get]
  simp only [It.next, Src.at]
  by_cases hi : i < xs.length
  · rw [List.getElem?_eq_getElem hi]; rfl
  · obtain rfl : i = xs.length := by omega
    rw [List.getElem?_eq_none (Nat.le_refl _)]
    simp [Src.len]
theorem w_forE {g : D -> Env -> M Env} {b : Env -> M Fl} {k : Int} (xs : List D) (I : Nat -> Env -> Sto -> Prop) (h0 : I 0 σ s)
    (hb : ∀ i d σ s, I i σ s -> xs[i]? = some d -> wp (g (.tup [.int (k + (i : Int)), d]) σ) s (fun σ1 s1 => wp (b σ1) s1 (tq (I (i + 1)) QF) NX) NX)
    (hq : ∀ σ s, I xs.length σ s -> QF (.nx σ) s) : wp (forLoop (.enum k (.items xs)) g b ((It.enum k (.items xs)).len s + 1) 0 σ) s QF E := by
  refine w_forAux (numb k xs) (fun i σ s => i <= xs.length /\ I i σ s) (fun i σ s h => enum_next h.1) ?_ ?_ _ 0 σ s ⟨Nat.zero_le _, h0⟩ (Nat.zero_le _) ?_
  · rintro i d σ s ⟨h, hI⟩ e
    rw [numb_get] at e
    cases e2 : xs[i]? with
    | none => rw [e2] at e; cases e
    | some x =>
      rw [e2] at e
      cases e
      have hi : i < xs.length := (List.getElem?_eq_some_iff.1 e2).1
      refine wp_nx (hb i x σ s hI e2) fun σ1 s1 h1 => wp_nx h1 fun f s2 h2 => ?_
      cases f <;> first
        | exact ⟨hi, h2⟩
        | exact h2
  · rintro σ s ⟨_, h⟩
    rw [numb_len] at h
    exact hq σ s h
  · rw [numb_len]; show xs.length + 1 <= xs.length + 1 + 0; omega
theorem w_lcAux {it : It} {turn : D -> M (Option D)} (xs : List D) (I : Nat -> List D -> Sto -> Prop) {Q : List D -> Sto -> Prop}
    (hit : ∀ i a s, I i a s -> it.next i s = some xs[i]?)
    (hb : ∀ i d a s, I i a s -> xs[i]? = some d -> wp (turn d) s (fun o s1 => match o with
      | some y => a.length < sizeLine /\ I (i + 1) (a ++ [y]) s1
      | none => I (i + 1) a s1) NX)
    (hq : ∀ a s, I xs.length a s -> Q a s) : ∀ (n i : Nat) (a : List D) (s : Sto), I i a s -> i <= xs.length -> xs.length + 1 <= n + i -> wp (lcLoop it turn n i a) s Q E
  | 0, i, σ, s, h, h1, h2 => absurd h2 (by omega)
  | n + 1, i, a, s, h, h1, h2 => by
    simp only [wp_def, lcLoop]
    rw [hit i a s h]
    by_cases hi : i < xs.length
    · rw [List.getElem?_eq_getElem hi]
      have hw := hb i _ a s h (List.getElem?_eq_getElem hi)
      simp only [wp_def] at hw ⊢
      cases eg : turn xs[i] s with
      | ok o s1 =>
        rw [eg] at hw
        cases o with
        | some y =>
          simp only [wr] at hw
          simp only [if_pos hw.1]
          exact (w_lcAux xs I hit hb hq n (i + 1) _ s1 hw.2 hi (by omega)).run
        | none =>
          simp only [wr] at hw
          exact (w_lcAux xs I hit hb hq n (i + 1) _ s1 hw hi (by omega)).run
      | exc e s2 => rw [eg] at hw; exact hw.elim
      | bad => rw [eg] at hw; exact hw.elim
    · obtain rfl : i = xs.length := by omega
      rw [List.getElem?_eq_none (Nat.le_refl _)]
      exact hq a s h
theorem w_lcM {turn : D -> M (Option D)} (xs : List D) (I : Nat -> List D -> Sto -> Prop) {Q : List D -> Sto -> Prop} (h0 : I 0 [] s) (hl : ∀ i a s, I i a s -> a.length <= i) (hx : xs.length <= sizeLine)
    (hb : ∀ i d a s, I i a s -> xs[i]? = some d -> wp (turn d) s (fun o s1 => match o with
      | some y => I (i + 1) (a ++ [y]) s1
      | none => I (i + 1) a s1) NX)
    (hq : ∀ a s, I xs.length a s -> Q a s) : wp (lcLoop (.one (.items xs)) turn ((It.one (.items xs)).len s + 1) 0 []) s Q E :=
  w_lcAux xs I (fun i σ s _ => rfl) (fun i d a s h e => wp_nx (hb i d a s h e) fun o s1 h1 => by
    have hi : i < xs.length := (List.getElem?_eq_some_iff.1 e).1
    have := hl i a s h
    cases o with
    | none => exact h1
    | some y => exact ⟨by omega, h1⟩) hq _ 0 [] s h0 (Nat.zero_le _) (by show xs.length + 1 <= xs.length + 1 + 0; omega)
theorem w_wh {c : Env -> M Bool} {b : Env -> M Fl} (I : Nat -> Env -> Sto -> Prop)
    (hb : ∀ k σ s, I k σ s -> wp (c σ) s (fun t s1 => wb t (0 < k /\ wp (b σ) s1 (tq (fun σ s => ∃ j, j < k /\ I j σ s) QF) NX) (QF (.nx σ) s1)) NX) : ∀ (n k : Nat) (σ : Env) (s : Sto), I k σ s -> k < n -> wp (whLoop c b n σ) s QF E
  | 0, k, σ, s, h, h2 => absurd h2 (by omega)
  | n + 1, k, σ, s, h, h2 => by
    simp only [wp_def, whLoop, lft]
    have hw := hb k σ s h
    simp only [wp_def] at hw
    cases ec : c σ s with
    | ok t s1 =>
      rw [ec] at hw
      simp only [wr] at hw
      simp only
      cases t with
      | false => exact hw
      | true =>
        simp only [wb] at hw
        obtain ⟨hk, hw⟩ := hw
        simp only
        cases eb : b σ s1 with
        | ok f s2 =>
          rw [eb] at hw
          simp only [wr] at hw
          cases f with
          | nx σ' => obtain ⟨j, hj, hI⟩ := hw; exact (w_wh I hb n j σ' s2 hI (by omega)).run
          | ct σ' => obtain ⟨j, hj, hI⟩ := hw; exact (w_wh I hb n j σ' s2 hI (by omega)).run
          | br σ' => exact hw
          | rt d => exact hw
          | ex σ' e => exact hw
        | exc e s2 => rw [eb] at hw; exact hw.elim
        | bad => rw [eb] at hw; exact hw.elim
    | exc e s2 => rw [ec] at hw; exact hw.elim
    | bad => rw [ec] at hw; exact hw.elim
end
def lv (st : Sto) (Q E : D -> Sto -> Prop) : Fl -> Sto -> Prop := fun f s2 => match f with
  | .rt d => okPre st s2 st.length = true /\ og (rback s2 st.length d) fun d' => Q d' (s2.take st.length)
  | .nx _ => okPre st s2 st.length = true /\ Q .non (s2.take st.length)
  | .ex _ e => okPre st s2 st.length = true /\ D.cls st.length e = true /\ E e (s2.take st.length)
  | _ => False
theorem lv_rt {st s2 : Sto} {Q E : D -> Sto -> Prop} {d : D} : lv st Q E (.rt d) s2 = (okPre st s2 st.length = true /\ og (rback s2 st.length d) fun d' => Q d' (s2.take st.length)) := propext Iff.rfl
theorem lv_nx {st s2 : Sto} {Q E : D -> Sto -> Prop} {d : Env} : lv st Q E (.nx d) s2 = (okPre st s2 st.length = true /\ Q .non (s2.take st.length)) := propext Iff.rfl
theorem lv_ex {st s2 : Sto} {Q E : D -> Sto -> Prop} {d : Env} {e : D} : lv st Q E (.ex d e) s2 = (okPre st s2 st.length = true /\ D.cls st.length e = true /\ E e (s2.take st.length)) := propext Iff.rfl
theorem w_call {P : Pr} {n f : Nat} {ds : List D} {st : Sto} {F : Fn} {Q E : D -> Sto -> Prop} (hF : P.fns f = some F) (hl : ds.length = F.np)
    (h : wp (exL (P.tbl n) F.body ((lands ds st).1.map some ++ List.replicate (F.ns - F.np) none)) (lands ds st).2 (lv st Q E) NX) : wp (call P (n + 1) f ds) st Q E := by
  rw [wp_def, call_succ]
  unfold runF
  simp only [hF]
  simp only [decide_eq_true hl]
  simp only [wp_def] at h
  cases e : exL (P.tbl n) F.body ((lands ds st).1.map some ++ List.replicate (F.ns - F.np) none) (lands ds st).2 with
  | ok f s2 =>
    rw [e] at h
    simp only [wr] at h
    cases f with
    | rt d =>
      rw [lv_rt] at h
      obtain ⟨h1, h2⟩ := h
      simp only [outR, leaveD, h1]
      cases er : rback s2 st.length d with
      | none => rw [er] at h2; exact h2.elim
      | some d' => rw [er] at h2; exact h2
    | nx σ =>
      rw [lv_nx] at h
      simp only [outR, leaveD, h.1]
      exact h.2
    | ex σ e =>
      rw [lv_ex] at h
      simp only [outR, leaveD, h.1, h.2.1, Bool.and_self]
      exact h.2.2
    | br => exact h.elim
    | ct => exact h.elim
  | exc e s2 => rw [e] at h; exact h.elim
  | bad => rw [e] at h; exact h.elim
end Fs
namespace Fs
open PySem
section
variable {T : Tbl} {σ : Env} {s : Sto} {E : D -> Sto -> Prop} {Q : D -> Sto -> Prop}
theorem b_add {i j : Int} : wp (binD .add (.int i) (.int j)) s Q E = Q (.int (i + j)) s := by rw [wp_def]; exact propext Iff.rfl
theorem b_sub {i j : Int} : wp (binD .sub (.int i) (.int j)) s Q E = Q (.int (i - j)) s := by rw [wp_def]; exact propext Iff.rfl
theorem b_mul {i j : Int} : wp (binD .mul (.int i) (.int j)) s Q E = (i.natAbs.log2 + j.natAbs.log2 < 1000000 /\ Q (.int (i * j)) s) := by
  by_cases h : i.natAbs.log2 + j.natAbs.log2 < 1000000
  · simp only [wp_def, binD, intOp, if_pos h]
    exact propext ⟨fun q => ⟨h, q⟩, fun q => q.2⟩
  · simp only [wp_def, binD, intOp, if_neg h]
    exact propext ⟨False.elim, fun q => h q.1⟩
theorem b_mod {i j : Int} : wp (binD .mod (.int i) (.int j)) s Q E = (j ≠ 0 /\ Q (.int (i.fmod j)) s) := by
  by_cases h : j ≠ 0
  · simp only [wp_def, binD, intOp, if_pos h]
    exact propext ⟨fun q => ⟨h, q⟩, fun q => q.2⟩
  · simp only [wp_def, binD, intOp, if_neg h]
    exact propext ⟨False.elim, fun q => h q.1⟩
theorem b_fdiv {i j : Int} : wp (binD .fdiv (.int i) (.int j)) s Q E = ((j ≠ 0 /\ j.natAbs.log2 < 9000) /\ Q (.int (i.fdiv j)) s) := by
  by_cases h : j ≠ 0 /\ j.natAbs.log2 < 9000
  · simp only [wp_def, binD, intOp, if_pos h]
    exact propext ⟨fun q => ⟨h, q⟩, fun q => q.2⟩
  · simp only [wp_def, binD, intOp, if_neg h]
    exact propext ⟨False.elim, fun q => h q.1⟩
theorem b_pow {i j : Int} : wp (binD .pow (.int i) (.int j)) s Q E = ((0 <= j /\ j <= 1000000 /\ i.natAbs < 2 ^ 64) /\ Q (.int (i ^ j.toNat)) s) := by
  by_cases h : 0 <= j /\ j <= 1000000 /\ i.natAbs < 2 ^ 64
  · simp only [wp_def, binD, intOp, if_pos h]
    exact propext ⟨fun q => ⟨h, q⟩, fun q => q.2⟩
  · simp only [wp_def, binD, intOp, if_neg h]
    exact propext ⟨False.elim, fun q => h q.1⟩
theorem b_addT {xs ys : List D} : wp (binD .add (.tup xs) (.tup ys)) s Q E = (xs.length + ys.length <= sizeLine /\ Q (.tup (xs ++ ys)) s) := by
  by_cases h : xs.length + ys.length <= sizeLine
  · simp only [wp_def, binD, intOp, if_pos h]
    exact propext ⟨fun q => ⟨h, q⟩, fun q => q.2⟩
  · simp only [wp_def, binD, intOp, if_neg h]
    exact propext ⟨False.elim, fun q => h q.1⟩
def lpC (c : Option D) : Option (List D) := match c with
  | some (.lst xs) => some xs
  | _ => none
theorem lpC_lst {xs : List D} : lpC (some (.lst xs)) = some xs := rfl
theorem lstv_ref {l : Nat} : lstv s (.ref l) = lpC s[l]? := by
  simp only [lstv, lpC] <;> (cases s[l]? with
    | none => first | rfl | (simp only [wp_def] <;> rfl)
    | some c => cases c <;> (first | rfl | (simp only [wp_def] <;> rfl)))
theorem lstv_lst {xs : List D} : lstv s (.lst xs) = some xs := rfl
theorem b_addL {l : Nat} {ys : List D} : wp (binD .add (.ref l) (.lst ys)) s Q E = og (lpC s[l]?) (fun xs => xs.length + ys.length <= sizeLine /\ Q (.lst (xs ++ ys)) s) := by
  simp only [wp_def, binD, lstv_ref, lstv_lst]
  cases lpC s[l]? with
  | none => first | rfl | (simp only [wp_def] <;> rfl)
  | some xs =>
    simp only [og]
    by_cases h : xs.length + ys.length <= sizeLine
    · rw [if_pos h]; exact propext ⟨fun q => ⟨h, q⟩, fun q => q.2⟩
    · rw [if_neg h]; exact propext ⟨False.elim, fun q => h q.1⟩
theorem b_mulL {xs : List D} {k : Int} : wp (binD .mul (.lst xs) (.int k)) s Q E = ((D.purs xs = true /\ k < 2 ^ 63 /\ -(2 ^ 63) <= k /\ xs.length * k.toNat <= sizeLine) /\ Q (.lst (rep k.toNat xs)) s) := by
  by_cases h : D.purs xs = true /\ k < 2 ^ 63 /\ -(2 ^ 63) <= k /\ xs.length * k.toNat <= sizeLine
  · simp only [wp_def, binD, lstv_lst, if_pos h]
    exact propext ⟨fun q => ⟨h, q⟩, fun q => q.2⟩
  · simp only [wp_def, binD, lstv_lst, if_neg h]
    exact propext ⟨False.elim, fun q => h q.1⟩
theorem b_mulT {xs : List D} {k : Int} : wp (binD .mul (.tup xs) (.int k)) s Q E = ((D.purs xs = true /\ xs.isEmpty = false /\ 0 <= k /\ k <= 1000 /\ xs.length <= 1000) /\ Q (.tup (rep k.toNat xs)) s) := by
  by_cases h : D.purs xs = true /\ xs.isEmpty = false /\ 0 <= k /\ k <= 1000 /\ xs.length <= 1000
  · simp only [wp_def, binD, if_pos h]
    exact propext ⟨fun q => ⟨h, q⟩, fun q => q.2⟩
  · simp only [wp_def, binD, if_neg h]
    exact propext ⟨False.elim, fun q => h q.1⟩
def atC (c : Option D) (k : Int) : Option D := match c with
  | some (.lst xs) => L2.atI xs k
  | some (.frl xs) => L2.atI xs k
  | some (.dic kvs) => if okKeys (.k (.inl k)) kvs then dget (.k (.inl k)) kvs else none
  | _ => none
theorem atC_lst {xs : List D} {k : Int} : atC (some (.lst xs)) k = L2.atI xs k := rfl
theorem atC_frl {xs : List D} {k : Int} : atC (some (.frl xs)) k = L2.atI xs k := rfl
theorem atC_dic {xs : List (Ky × D)} {k : Int} : atC (some (.dic xs)) k = if okKeys (.k (.inl k)) xs then dget (.k (.inl k)) xs else none := rfl
theorem gi_tup {xs : List D} {k : Int} : wp (getI (.tup xs) (.int k)) s Q E = og (L2.atI xs k) (fun y => Q y s) := by
  simp only [wp_def, getI, seqv]
  cases L2.atI xs k <;> (first | rfl | (simp only [wp_def] <;> rfl))
theorem gi_lst {xs : List D} {k : Int} : wp (getI (.lst xs) (.int k)) s Q E = og (L2.atI xs k) (fun y => Q y s) := by
  simp only [wp_def, getI, seqv]
  cases L2.atI xs k <;> (first | rfl | (simp only [wp_def] <;> rfl))
theorem gi_ref {l : Nat} {k : Int} : wp (getI (.ref l) (.int k)) s Q E = og (atC s[l]? k) (fun y => Q y s) := by
  simp only [wp_def, getI, seqv, dicv]
  cases s[l]? with
  | none => first | rfl | (simp only [wp_def] <;> rfl)
  | some c =>
    cases c with
    | lst xs => simp only [atC]; cases L2.atI xs k <;> (first | rfl | (simp only [wp_def] <;> rfl))
    | frl xs => simp only [atC]; cases L2.atI xs k <;> (first | rfl | (simp only [wp_def] <;> rfl))
    | dic xs =>
      simp only [atC]
      split
      · cases dget (.k (.inl k)) xs <;> (first | rfl | (simp only [wp_def] <;> rfl))
      · first | rfl | (simp only [wp_def] <;> rfl)
    | _ => first | rfl | (simp only [wp_def] <;> rfl)
def stC (c : Option D) (l : Nat) (i d : D) (s : Sto) (Q : Unit -> Sto -> Prop) : Prop := match c with
  | some (.lst xs) => og (intv i) fun k => og (L2.ixN xs.length k) fun j => Q () ((land d s).2.set l (.lst (xs.set j (land d s).1)))
  | some (.dic kvs) => og (keyOf i) fun q => (okKeys q kvs = true /\ kvs.length < sizeLine) /\ Q () ((land d s).2.set l (.dic (dput q (land d s).1 kvs)))
  | _ => False
theorem stC_lst {xs : List D} {l : Nat} {i : Int} {d : D} {Q : Unit -> Sto -> Prop} : stC (some (.lst xs)) l (.int i) d s Q = og (L2.ixN xs.length i) fun j => Q () ((land d s).2.set l (.lst (xs.set j (land d s).1))) := propext Iff.rfl
theorem stC_dic {kvs : List (Ky × D)} {l : Nat} {i : D} {d : D} {Q : Unit -> Sto -> Prop} : stC (some (.dic kvs)) l i d s Q = og (keyOf i) fun q => (okKeys q kvs = true /\ kvs.length < sizeLine) /\ Q () ((land d s).2.set l (.dic (dput q (land d s).1 kvs))) := propext Iff.rfl
theorem si_ref {l : Nat} {i d : D} {Q : Unit -> Sto -> Prop} : wp (setI (.ref l) i d) s Q E = stC s[l]? l i d s Q := by
  simp only [wp_def, setI]
  cases s[l]? with
  | none => first | rfl | (simp only [wp_def] <;> rfl)
  | some c =>
    cases c with
    | lst xs =>
      simp only [stC]
      cases i with
      | int k => simp only [intv, og]; cases L2.ixN xs.length k <;> (first | rfl | (simp only [wp_def] <;> rfl))
      | _ => first | rfl | (simp only [wp_def] <;> rfl)
    | dic xs =>
      simp only [stC]
      cases keyOf i with
      | none => first | rfl | (simp only [wp_def] <;> rfl)
      | some q =>
        simp only [og]
        by_cases h : okKeys q xs = true /\ xs.length < sizeLine
        · rw [if_pos h]; exact propext ⟨fun q => ⟨h, q⟩, fun q => q.2⟩
        · rw [if_neg h]; exact propext ⟨False.elim, fun q => h q.1⟩
    | _ => first | rfl | (simp only [wp_def] <;> rfl)
theorem m_append {o d : D} : meD .append o [d] = mAppend o d := rfl
theorem m_pop {o : D} : meD .pop o [] = mPop o := rfl
theorem m_popi {o d : D} : wp (meD .popi o [d]) s Q E = wb (kndD s o == 5) (wp (mDpop o d) s Q E) (wp (mPopi o d) s Q E) := by
  rw [wp_def]
  show wr (match kndD s o with
    | 5 => b1 (mDpop o) [d] s
    | _ => b1 (mPopi o) [d] s) Q E = _
  cases h : (kndD s o == 5) with
  | true =>
    have e : kndD s o = 5 := by simpa using h
    rw [e]; simp only [wb, wp_def]; rfl
  | false =>
    have e : kndD s o ≠ 5 := by simpa using h
    simp only [wb]
    first | rfl | (simp only [wp_def] <;> rfl)
def lcC (c : Option D) (f : List D -> Prop) : Prop := match c with
  | some (.lst xs) => f xs
  | _ => False
theorem lcC_lst {xs : List D} {f : List D -> Prop} : lcC (some (.lst xs)) f = f xs := propext Iff.rfl
def dcC (c : Option D) (f : List (Ky × D) -> Prop) : Prop := match c with
  | some (.dic xs) => f xs
  | _ => False
theorem dcC_dic {xs : List (Ky × D)} {f : List (Ky × D) -> Prop} : dcC (some (.dic xs)) f = f xs := propext Iff.rfl
theorem wp_lcell {f : Nat -> List D -> M D} {l : Nat} {s' : Sto} : wp (lcell s' f (.ref l)) s Q E = lcC s'[l]? (fun xs => wp (f l xs) s Q E) := by
  simp only [wp_def, lcell]
  cases s'[l]? with
  | none => first | rfl | (simp only [wp_def] <;> rfl)
  | some c => cases c <;> (first | rfl | (simp only [wp_def] <;> rfl))
theorem wp_dcell {f : Nat -> List (Ky × D) -> M D} {l : Nat} {s' : Sto} : wp (dcell s' f (.ref l)) s Q E = dcC s'[l]? (fun xs => wp (f l xs) s Q E) := by
  simp only [wp_def, dcell]
  cases s'[l]? with
  | none => first | rfl | (simp only [wp_def] <;> rfl)
  | some c => cases c <;> (first | rfl | (simp only [wp_def] <;> rfl))
theorem k_app {l : Nat} {d : D} : wp (mAppend (.ref l) d) s Q E = lcC s[l]? (fun xs => xs.length < sizeLine /\ Q .non ((land d s).2.set l (.lst (xs ++ [(land d s).1])))) := by
  refine (wp_st (f := fun st => lcell st _ (.ref l))).trans ?_
  rw [wp_lcell]
  cases s[l]? with
  | none => first | rfl | (simp only [wp_def] <;> rfl)
  | some c =>
    cases c with
    | lst xs => simp only [lcC, wp_gd, decide_eq_true_eq]; simp only [wp_def]; rfl
    | _ => first | rfl | (simp only [wp_def] <;> rfl)
theorem kw_pop {l : Nat} : wp (mPop (.ref l)) s Q E = lcC s[l]? (fun xs => og xs[xs.length - 1]? fun y => Q y (s.set l (.lst xs.dropLast))) := by
  refine (wp_st (f := fun st => lcell st _ (.ref l))).trans ?_
  rw [wp_lcell]
  cases s[l]? with
  | none => first | rfl | (simp only [wp_def] <;> rfl)
  | some c =>
    cases c with
    | lst xs => simp only [lcC, wp_opt]; simp only [wp_def]; rfl
    | _ => first | rfl | (simp only [wp_def] <;> rfl)
theorem kw_popi {l : Nat} {k : Int} : wp (mPopi (.ref l) (.int k)) s Q E = lcC s[l]? (fun xs => (-(2 ^ 63) <= k /\ k < 2 ^ 63) /\ og (PySem.seqIndex? k xs.length) fun j => og xs[j]? fun y => Q y (s.set l (.lst (xs.eraseIdx j)))) := by
  refine (wp_st (f := fun st => lcell st _ (.ref l))).trans ?_
  rw [wp_lcell]
  cases s[l]? with
  | none => first | rfl | (simp only [wp_def] <;> rfl)
  | some c =>
    cases c with
    | lst xs => simp only [lcC, wp_opt, intv, og_s, wp_gd, decide_eq_true_eq]; simp only [wp_def]; rfl
    | _ => first | rfl | (simp only [wp_def] <;> rfl)
theorem k_dpop {l : Nat} {k : D} : wp (mDpop (.ref l) k) s Q E = dcC s[l]? (fun kvs => og (keyOf k) fun q => okKeys q kvs = true /\ og (dget q kvs) fun y => Q y (s.set l (.dic (ddel q kvs)))) := by
  refine (wp_st (f := fun st => dcell st _ (.ref l))).trans ?_
  rw [wp_dcell]
  cases s[l]? with
  | none => first | rfl | (simp only [wp_def] <;> rfl)
  | some c =>
    cases c with
    | dic xs => simp only [dcC, wp_opt, wp_gd]; simp only [wp_def]; rfl
    | _ => first | rfl | (simp only [wp_def] <;> rfl)
def kC (c : Option D) : Nat := match c with
  | some (.lst _) => 4
  | some (.frl _) => 4
  | some (.dic _) => 5
  | _ => 0
theorem kC_lst {xs : List D} : kC (some (.lst xs)) = 4 := rfl
theorem kC_dic {xs : List (Ky × D)} : kC (some (.dic xs)) = 5 := rfl
theorem knd_ref {l : Nat} : kndD s (.ref l) = kC s[l]? := by
  simp only [kndD, kC] <;> (cases s[l]? with
    | none => first | rfl | (simp only [wp_def] <;> rfl)
    | some c => cases c <;> (first | rfl | (simp only [wp_def] <;> rfl)))
theorem bi_len1 {d : D} : wp (biD T .len [d]) s Q E = wp (fLen d) s Q E := by rw [wp_def, wp_def]; exact propext Iff.rfl
def leC (c : Option D) : Option Nat := match c with
  | some (.lst xs) => some xs.length
  | some (.frl xs) => some xs.length
  | some (.dic xs) => some xs.length
  | _ => none
theorem leC_lst {xs : List D} : leC (some (.lst xs)) = some xs.length := rfl
theorem leC_frl {xs : List D} : leC (some (.frl xs)) = some xs.length := rfl
theorem leC_dic {xs : List (Ky × D)} : leC (some (.dic xs)) = some xs.length := rfl
theorem f_len_tup {xs : List D} : wp (fLen (.tup xs)) s Q E = Q (.int xs.length) s := by rw [wp_def]; exact propext Iff.rfl
theorem f_len_lst {xs : List D} : wp (fLen (.lst xs)) s Q E = Q (.int xs.length) s := by rw [wp_def]; exact propext Iff.rfl
theorem f_len_dic {xs : List (Ky × D)} : wp (fLen (.dic xs)) s Q E = Q (.int xs.length) s := by rw [wp_def]; exact propext Iff.rfl
theorem f_len_ref {l : Nat} : wp (fLen (.ref l)) s Q E = og (leC s[l]?) fun n => Q (.int n) s := by
  simp only [wp_def, fLen, seqv, dicv]
  cases s[l]? with
  | none => first | rfl | (simp only [wp_def] <;> rfl)
  | some c => cases c <;> (first | rfl | (simp only [wp_def] <;> rfl))
theorem bi_sum1 {d : D} : wp (biD T .sum [d]) s Q E = og (lInt s d) (fun ns => Q (.int ns.sum) s) := (wp_optS (o := fun st => lInt st d)).trans (og_q fun _ => wp_ret)
theorem bi_all1 {d : D} : wp (biD T .all [d]) s Q E = og (lBl s d) (fun ns => Q (.bl (ns.all id)) s) := (wp_optS (o := fun st => lBl st d)).trans (og_q fun _ => wp_ret)
theorem bi_any1 {d : D} : wp (biD T .any [d]) s Q E = og (lBl s d) (fun ns => Q (.bl (ns.any id)) s) := (wp_optS (o := fun st => lBl st d)).trans (og_q fun _ => wp_ret)
theorem bi_tup1 {d : D} : wp (biD T .tuple [d]) s Q E = og (seqv s d) (fun ns => Q (.tup ns) s) := (wp_optS (o := fun st => seqv st d)).trans (og_q fun _ => wp_ret)
theorem bi_lst1 {d : D} : wp (biD T .list [d]) s Q E = og (seqv s d) (fun ns => Q (.lst ns) s) := (wp_optS (o := fun st => seqv st d)).trans (og_q fun _ => wp_ret)
theorem bi_min2' {i j : Int} : wp (biD T .min2 [.int i, .int j]) s Q E = Q (.int (if j < i then j else i)) s := by rw [wp_def]; exact propext Iff.rfl
theorem bi_max2' {i j : Int} : wp (biD T .max2 [.int i, .int j]) s Q E = Q (.int (if j > i then j else i)) s := by rw [wp_def]; exact propext Iff.rfl
theorem bi_isT1 {t : String} {d : D} : wp (biD T (.isT t) [d]) s Q E = og (isTy s t d) (fun c => Q (.bl c) s) := (wp_optS (o := fun st => isTy st t d)).trans (og_q fun _ => wp_ret)
theorem bi_lrng1 {b : Int} : wp (biD T .lrng [.int b]) s Q E = (rgOk 0 b = true /\ Q (.lst (rngN 0 1 b.toNat)) s) := by
  show wp (gd _ _) s Q E = _
  rw [wp_gd, wp_ret]
theorem bi_srt1 {d : D} : wp (biD T .sorted [d]) s Q E = wp (fSorted d) s Q E := by rw [wp_def, wp_def]; exact propext Iff.rfl
theorem bi_ssort1 {d : D} : wp (biD T .ssort [d]) s Q E = og (lInt s d) (fun ns => ns.length < 64 /\ Q (.lst ((sortI (dedI ns)).map .int)) s) := by
  refine (wp_optS (o := fun st => lInt st d)).trans (og_q fun ns => ?_)
  rw [wp_gd, wp_ret, decide_eq_true_eq]
theorem bi_dict1 {d : D} : wp (biD T .dict [d]) s Q E = og ((lstv s d).bind (optL pairv)) (fun kvs => (kvs.all fun p => D.pur p.2) = true /\ Q (.dic (kvs.foldl (fun a p => dput p.1 p.2 a) [])) s) := by
  refine (wp_optS (o := fun st => (lstv st d).bind (optL pairv))).trans (og_q fun ns => ?_)
  rw [wp_gd, wp_ret]
theorem bi_repr1 {d : D} : wp (biD T .repr [d]) s Q E = og (toP false s 60 d) (fun p => (p.showable = true /\ p.shown.length <= sizeLine /\ p.depth <= 60 /\ p.hasDict = false) /\ Q (.str p.shown) s) := by
  refine (wp_optS (o := fun st => toP false st 60 d)).trans (og_q fun ns => ?_)
  rw [wp_gd, wp_ret, decide_eq_true_eq]
theorem so_tup {xs : List D} {Q : Src -> Sto -> Prop} : wp (srcOf (.tup xs)) s Q E = Q (.items xs) s := by rw [wp_def]; exact propext Iff.rfl
theorem so_lst {xs : List D} {Q : Src -> Sto -> Prop} : wp (srcOf (.lst xs)) s Q E = Q (.items xs) s := by rw [wp_def]; exact propext Iff.rfl
def soC (c : Option D) (l : Nat) : Option Src := match c with
  | some (.lst _) => some (.cell l)
  | some (.frl _) => some (.cell l)
  | _ => none
theorem soC_lst {xs : List D} {l : Nat} : soC (some (.lst xs)) l = some (.cell l) := rfl
theorem soC_frl {xs : List D} {l : Nat} : soC (some (.frl xs)) l = some (.cell l) := rfl
theorem so_ref {l : Nat} {Q : Src -> Sto -> Prop} : wp (srcOf (.ref l)) s Q E = og (soC s[l]? l) (fun w => Q w s) := by
  simp only [wp_def, srcOf]
  cases s[l]? with
  | none => first | rfl | (simp only [wp_def] <;> rfl)
  | some c => cases c <;> (first | rfl | (simp only [wp_def] <;> rfl))
theorem la_int {i : Int} : land (.int i) s = (.int i, s) := by simp only [land]
theorem la_bl {i : Bool} : land (.bl i) s = (.bl i, s) := by simp only [land]
theorem la_non : land .non s = (.non, s) := by simp only [land]
theorem la_str {i : Str} : land (.str i) s = (.str i, s) := by simp only [land]
theorem la_ref {i : Nat} : land (.ref i) s = (.ref i, s) := by simp only [land]
theorem la_lst0 : land (.lst []) s = (.ref s.length, s ++ [.lst []]) := by simp only [land, lands]
theorem la_dic0 : land (.dic []) s = (.ref s.length, s ++ [.dic []]) := by simp only [land, landk]
mutual
theorem land_pur : ∀ {d : D} {s : Sto}, d.pur = true -> land d s = (d, s)
  | .non, s, _ => by simp only [land]
  | .bl _, s, _ => by simp only [land]
  | .int _, s, _ => by simp only [land]
  | .str _, s, _ => by simp only [land]
  | .ref _, s, _ => by simp only [land]
  | .tup xs, s, h => by simp only [D.pur] at h; simp only [land, lands_pur h]
  | .exc _ xs, s, h => by simp only [land]
  | .lam _ xs, s, h => by simp [D.pur] at h
  | .lst _, s, h => by simp [D.pur] at h
  | .frl _, s, h => by simp [D.pur] at h
  | .dic _, s, h => by simp [D.pur] at h
  | .set _, s, h => by simp [D.pur] at h
theorem lands_pur : ∀ {ds : List D} {s : Sto}, D.purs ds = true -> lands ds s = (ds, s)
  | [], s, _ => by simp only [lands]
  | d :: ds, s, h => by
    simp only [D.purs, Bool.and_eq_true] at h
    simp only [lands, land_pur h.1, lands_pur h.2]
end
theorem la_lst {xs : List D} (h : D.purs xs = true) : land (.lst xs) s = (.ref s.length, s ++ [.lst xs]) := by simp only [land, lands_pur h]
theorem landk_pur : ∀ {ds : List (Ky × D)} {s : Sto}, (ds.all fun p => D.pur p.2) = true -> landk ds s = (ds, s)
  | [], s, _ => by simp only [landk]
  | d :: ds, s, h => by
    simp only [List.all_cons, Bool.and_eq_true] at h
    simp only [landk, land_pur h.1, landk_pur h.2]
theorem la_dic {xs : List (Ky × D)} (h : (xs.all fun p => D.pur p.2) = true) : land (.dic xs) s = (.ref s.length, s ++ [.dic xs]) := by simp only [land, landk_pur h]
theorem la_tup {xs : List D} (h : D.purs xs = true) : land (.tup xs) s = (.tup xs, s) := land_pur h
theorem ofT {xs : List D} : ofTup (.tup xs) s = some xs := rfl
theorem ofL {xs : List D} : ofTup (.lst xs) s = some xs := rfl
theorem ofR {l : Nat} : ofTup (.ref l) s = lpC s[l]? := by
  simp only [ofTup, lpC] <;> (cases s[l]? with
    | none => first | rfl | (simp only [wp_def] <;> rfl)
    | some c => cases c <;> (first | rfl | (simp only [wp_def] <;> rfl)))
theorem c_lt {i j : Int} : cmpD .lt (.int i) (.int j) s = some (decide (i < j)) := rfl
theorem c_le {i j : Int} : cmpD .le (.int i) (.int j) s = some (decide (i <= j)) := rfl
theorem c_gt {i j : Int} : cmpD .gt (.int i) (.int j) s = some (decide (j < i)) := rfl
theorem c_ge {i j : Int} : cmpD .ge (.int i) (.int j) s = some (decide (j <= i)) := rfl
theorem ci_lt {i j : Int} : cmpI .lt i j = some (decide (i < j)) := rfl
theorem ci_le {i j : Int} : cmpI .le i j = some (decide (i <= j)) := rfl
theorem c_eq {a b : D} : cmpD .eq a b s = eqD s a b := rfl
theorem c_ne {a b : D} : cmpD .ne a b s = (eqD s a b).map (!·) := rfl
theorem c_isN {a b : D} : cmpD .isN a b s = isD a b := rfl
theorem c_ntN {a b : D} : cmpD .ntN a b s = (isD a b).map (!·) := rfl
theorem c_in {a b : D} : cmpD .inn a b s = inD s a b := rfl
theorem c_nin {a b : D} : cmpD .nin a b s = (inD s a b).map (!·) := rfl
theorem sg0 {st r : Sto} {c : D} : (st ++ c :: r)[st.length]? = some c := by simp
theorem sg1 {st r : Sto} {c d : D} : (st ++ c :: d :: r)[st.length + 1]? = some d := by simp
theorem sg2 {st r : Sto} {c d e : D} : (st ++ c :: d :: e :: r)[st.length + 2]? = some e := by simp
theorem sg3 {st r : Sto} {c d e f : D} : (st ++ c :: d :: e :: f :: r)[st.length + 3]? = some f := by simp
theorem sgl {st r : Sto} {l : Nat} {c : D} (h : st[l]? = some c) : (st ++ r)[l]? = some c := by
  rw [List.getElem?_append_left (List.getElem?_eq_some_iff.1 h).1]; exact h
theorem ss0 {st r : Sto} {c x : D} : (st ++ c :: r).set st.length x = st ++ x :: r := by simp
theorem ss1 {st r : Sto} {c d x : D} : (st ++ c :: d :: r).set (st.length + 1) x = st ++ c :: x :: r := by simp
theorem ss2 {st r : Sto} {c d e x : D} : (st ++ c :: d :: e :: r).set (st.length + 2) x = st ++ c :: d :: x :: r := by simp
theorem ss3 {st r : Sto} {c d e f x : D} : (st ++ c :: d :: e :: f :: r).set (st.length + 3) x = st ++ c :: d :: e :: x :: r := by simp
theorem ssl {st r : Sto} {l : Nat} {c x : D} (h : st[l]? = some c) : (st ++ r).set l x = st.set l x ++ r := by
  rw [List.set_append_left]; exact (List.getElem?_eq_some_iff.1 h).1
theorem okP_app : ∀ {st r : Sto} {b : Nat}, okPre st (st ++ r) b = true
  | [], r, b => by cases r <;> (first | rfl | (simp only [wp_def] <;> rfl))
  | c :: st, r, b => by simp [okPre, okP_app]
theorem okP_self {st : Sto} {b : Nat} : okPre st st b = true := by
  have := okP_app (st := st) (r := []) (b := b)
  rwa [List.append_nil] at this
theorem okP_set : ∀ {st r : Sto} {b l : Nat} {c : D}, cellCl b c = true -> okPre st (st.set l c ++ r) b = true
  | [], r, b, l, c, h => by cases r <;> (first | rfl | (simp only [wp_def] <;> rfl))
  | d :: st, r, b, 0, c, h => by simp [okPre, okP_app, h]
  | d :: st, r, b, l + 1, c, h => by simp [okPre, okP_set h]
theorem okP_set0 {st : Sto} {b l : Nat} {c : D} (h : cellCl b c = true) : okPre st (st.set l c) b = true := by
  have := okP_set (st := st) (r := []) (l := l) h
  rwa [List.append_nil] at this
theorem take0 {st r : Sto} : (st ++ r).take st.length = st := by simp
mutual
def D.clean : D -> Bool
  | .non | .bl _ | .int _ | .str _ => true
  | .tup xs => D.cleans xs
  | _ => false
def D.cleans : List D -> Bool
  | [] => true
  | x :: xs => D.clean x && D.cleans xs
end
mutual
theorem rb_clean {g : Nat -> List Nat -> Option (D × List Nat)} {b : Nat} : ∀ {d : D} {vis : List Nat}, d.clean = true -> rbD g b d vis = some (d, vis)
  | .non, vis, _ => by simp only [rbD]
  | .bl _, vis, _ => by simp only [rbD]
  | .int _, vis, _ => by simp only [rbD]
  | .str _, vis, _ => by simp only [rbD]
  | .tup xs, vis, h => by simp only [D.clean] at h; simp only [rbD, rbs_clean h]; rfl
  | .ref _, vis, h => by simp [D.clean] at h
  | .lst _, vis, h => by simp [D.clean] at h
  | .frl _, vis, h => by simp [D.clean] at h
  | .dic _, vis, h => by simp [D.clean] at h
  | .set _, vis, h => by simp [D.clean] at h
  | .exc _ _, vis, h => by simp [D.clean] at h
  | .lam _ _, vis, h => by simp [D.clean] at h
theorem rbs_clean {g : Nat -> List Nat -> Option (D × List Nat)} {b : Nat} : ∀ {ds : List D} {vis : List Nat}, D.cleans ds = true -> rbDs g b ds vis = some (ds, vis)
  | [], vis, _ => by simp only [rbDs]
  | d :: ds, vis, h => by
    simp only [D.cleans, Bool.and_eq_true] at h
    simp only [rbDs, rb_clean h.1, Option.bind_some, rbs_clean h.2, Option.map_some]
end
mutual
theorem clean_pur : ∀ {d : D}, d.clean = true -> d.pur = true
  | .non, _ => rfl
  | .bl _, _ => rfl
  | .int _, _ => rfl
  | .str _, _ => rfl
  | .tup xs, h => by simp only [D.clean] at h; simp only [D.pur]; exact cleans_purs h
  | .ref _, h => by simp [D.clean] at h
  | .lst _, h => by simp [D.clean] at h
  | .frl _, h => by simp [D.clean] at h
  | .dic _, h => by simp [D.clean] at h
  | .set _, h => by simp [D.clean] at h
  | .exc _ _, h => by simp [D.clean] at h
  | .lam _ _, h => by simp [D.clean] at h
theorem cleans_purs : ∀ {ds : List D}, D.cleans ds = true -> D.purs ds = true
  | [], _ => rfl
  | d :: ds, h => by
    simp only [D.cleans, Bool.and_eq_true] at h
    simp only [D.purs, clean_pur h.1, cleans_purs h.2, Bool.and_self]
end
mutual
theorem clean_cls {b : Nat} : ∀ {d : D}, d.clean = true -> d.cls b = true
  | .non, _ => rfl
  | .bl _, _ => rfl
  | .int _, _ => rfl
  | .str _, _ => rfl
  | .tup xs, h => by simp only [D.clean] at h; simp only [D.cls]; exact cleans_clss h
  | .ref _, h => by simp [D.clean] at h
  | .lst _, h => by simp [D.clean] at h
  | .frl _, h => by simp [D.clean] at h
  | .dic _, h => by simp [D.clean] at h
  | .set _, h => by simp [D.clean] at h
  | .exc _ _, h => by simp [D.clean] at h
  | .lam _ _, h => by simp [D.clean] at h
theorem cleans_clss {b : Nat} : ∀ {ds : List D}, D.cleans ds = true -> D.clss b ds = true
  | [], _ => rfl
  | d :: ds, h => by
    simp only [D.cleans, Bool.and_eq_true] at h
    simp only [D.clss, clean_cls h.1, cleans_clss h.2, Bool.and_self]
end
theorem rk_clean {b : Nat} {d : D} (h : d.clean = true) : rback s b d = some d := by
  simp only [rback, rb_clean h]; rfl
theorem rk_lst {st r : Sto} {l : Nat} {xs : List D} (hb : st.length <= l) (hl : (st ++ r)[l]? = some (.lst xs)) (h : D.cleans xs = true) : rback (st ++ r) st.length (.ref l) = some (.lst xs) := by
  simp only [rback, rbD]
  have : decide (l < st.length) = false := by simpa using hb
  rw [this]
  simp only [rbC, hl, List.contains_nil, rbD, rbs_clean h, Option.map_some]
theorem rk_set_lst {st r : Sto} {l m : Nat} {c : D} {xs : List D} (hb : st.length <= l) (hl : (st.set m c ++ r)[l]? = some (.lst xs)) (h : D.cleans xs = true) : rback (st.set m c ++ r) st.length (.ref l) = some (.lst xs) := by
  have := rk_lst (st := st.set m c) (by rwa [List.length_set]) hl h
  rwa [List.length_set] at this
theorem cleans_of {ds : List D} (h : ∀ d ∈ ds, d.clean = true) : D.cleans ds = true := by
  induction ds with
  | nil => first | rfl | (simp only [wp_def] <;> rfl)
  | cons d ds ih =>
    simp only [D.cleans, Bool.and_eq_true]
    exact ⟨h d (List.mem_cons_self ..), ih fun x hx => h x (List.mem_cons_of_mem _ hx)⟩
def nv (ns : List Nat) : List D := ns.map fun (n : Nat) => D.int (n : Int)
theorem nv_clean {ns : List Nat} : D.cleans (nv ns) = true := cleans_of (by
  intro d hd
  obtain ⟨n, _, rfl⟩ := List.mem_map.1 hd
  rfl)
theorem nv_purs {ns : List Nat} : D.purs (nv ns) = true := cleans_purs nv_clean
theorem nv_len {ns : List Nat} : (nv ns).length = ns.length := by simp [nv]
theorem nv_get {ns : List Nat} {i : Nat} : (nv ns)[i]? = ns[i]?.map fun (n : Nat) => D.int (n : Int) := by simp [nv]
theorem nv_app {xs ys : List Nat} : nv (xs ++ ys) = nv xs ++ nv ys := by simp [nv]
theorem nv_one {x : Nat} : nv [x] = [.int (x : Int)] := rfl
def tv (g : List (List Nat)) : List D := g.map fun r => D.tup (nv r)
theorem tv_clean {g : List (List Nat)} : D.cleans (tv g) = true := cleans_of (by
  intro d hd
  obtain ⟨n, _, rfl⟩ := List.mem_map.1 hd
  simp only [D.clean]
  exact nv_clean)
theorem tv_purs {g : List (List Nat)} : D.purs (tv g) = true := cleans_purs tv_clean
theorem tv_len {g : List (List Nat)} : (tv g).length = g.length := by simp [tv]
theorem tv_get {g : List (List Nat)} {i : Nat} : (tv g)[i]? = g[i]?.map fun r => D.tup (nv r) := by simp [tv]
theorem gv_clean {g : List (List Nat)} : (D.tup (tv g)).clean = true := by simp only [D.clean]; exact tv_clean
theorem atI_nat {α : Type} {xs : List α} {i : Nat} : L2.atI xs (i : Int) = xs[i]? := by
  simp only [L2.atI, L2.ixN]
  have h0 : (0 : Int) <= (i : Int) := by omega
  simp only [h0, if_true]
  by_cases h : i < xs.length
  · have h1 : (i : Int) < (xs.length : Int) := by omega
    simp [h1]
  · have h1 : ¬ (i : Int) < (xs.length : Int) := by omega
    simp only [h1, if_false, Option.bind_none]
    rw [List.getElem?_eq_none (by omega)]
theorem ixN_nat {n i : Nat} (h : i < n) : L2.ixN n (i : Int) = some i := by
  simp only [L2.ixN]
  have h0 : (0 : Int) <= (i : Int) := by omega
  have h1 : (i : Int) < (n : Int) := by omega
  simp [h0, h1]
theorem rngN_nv {n : Nat} : rngN 0 1 n = nv (List.range n) := by
  simp [rngN, nv]
theorem nv_ints {ns : List Nat} : nv ns = (ns.map fun (n : Nat) => (n : Int)).map D.int := by simp [nv]
theorem isTy_tup {xs : List D} : isTy s "tuple" (.tup xs) = some true := by simp [isTy]
theorem isTy_int {i : Int} : isTy s "int" (.int i) = some true := by simp [isTy]
theorem isTy_intb {i : Int} : isTy s "bool" (.int i) = some false := by simp [isTy]
end
theorem tbl_fn {P : Pr} {n f : Nat} {ds : List D} : (P.tbl n).fn f ds = call P n f ds := rfl
end Fs
open Lean.Parser.Tactic in
local macro_rules
  | `(tactic| simp! [$ts,*]) => `(tactic| simp only [↓Fs.wb_t, ↓Fs.wb_f, ↓Fs.og_s, ↓Fs.wr_ok, ↓Fs.wr_exc, ↓Fs.wp_ret, ↓Fs.wp_bnd, ↓Fs.wp_opt, ↓Fs.wp_gd, ↓Fs.wp_noX, ↓Fs.wp_lft, ↓Fs.fq_nx, ↓Fs.fq_rt, ↓Fs.fq_br, ↓Fs.fq_ct, ↓Fs.fq_ex, ↓Fs.lk_s, ↓Fs.e_loc, ↓Fs.e_con, ↓Fs.e_bin, ↓Fs.e_neg, ↓Fs.e_nt, ↓Fs.e_cmp, ↓Fs.e_chn, ↓Fs.e_and2, ↓Fs.e_or2, ↓Fs.e_ife, ↓Fs.es_nil, ↓Fs.es_cons, ↓Fs.e_tup, ↓Fs.e_lst, ↓Fs.e_dct0, ↓Fs.e_sub, ↓Fs.e_slc, ↓Fs.eo_n, ↓Fs.eo_s, ↓Fs.e_rev, ↓Fs.e_call, ↓Fs.e_bi, ↓Fs.e_me, ↓Fs.e_lc, ↓Fs.e_dc, ↓Fs.w_lcT, ↓Fs.w_dcT, ↓Fs.t_nt, ↓Fs.t_and2, ↓Fs.t_or2, ↓Fs.t_ife, ↓Fs.t_val, ↓Fs.ts_nil, ↓Fs.ts_cons, ↓Fs.i_val, ↓Fs.i_rng, ↓Fs.i_enum, ↓Fs.wp_land, ↓Fs.g_nm, ↓Fs.g_tup, ↓Fs.g_sub, ↓Fs.gs_nil, ↓Fs.gs_cons, ↓Fs.s_asg, ↓Fs.s_xpr, ↓Fs.s_ret, ↓Fs.s_ret0, ↓Fs.s_iff, ↓Fs.s_brk, ↓Fs.s_cnt, ↓Fs.s_pas, ↓Fs.s_for, ↓Fs.s_whl, ↓Fs.l_nil, ↓Fs.l_cons, ↓Fs.tq_nx, ↓Fs.tq_ct, ↓Fs.tq_br, ↓Fs.tq_rt, ↓Fs.tq_ex, ↓Fs.lv_rt, ↓Fs.lv_nx, ↓Fs.lv_ex, ↓Fs.b_add, ↓Fs.b_sub, ↓Fs.b_mul, ↓Fs.b_mod, ↓Fs.b_fdiv, ↓Fs.b_pow, ↓Fs.b_addT, ↓Fs.b_addL, ↓Fs.b_mulL, ↓Fs.b_mulT, Fs.lpC_lst, Fs.lstv_ref, Fs.lstv_lst, Fs.atC_lst, Fs.atC_frl, Fs.atC_dic, ↓Fs.gi_tup, ↓Fs.gi_lst, ↓Fs.gi_ref, ↓Fs.stC_lst, ↓Fs.stC_dic, ↓Fs.si_ref, Fs.m_append, Fs.m_pop, ↓Fs.m_popi, ↓Fs.lcC_lst, ↓Fs.dcC_dic, ↓Fs.k_app, ↓Fs.kw_pop, ↓Fs.kw_popi, ↓Fs.k_dpop, Fs.kC_lst, Fs.kC_dic, Fs.knd_ref, ↓Fs.bi_len1, Fs.leC_lst, Fs.leC_frl, Fs.leC_dic, ↓Fs.f_len_tup, ↓Fs.f_len_lst, ↓Fs.f_len_dic, ↓Fs.f_len_ref, ↓Fs.bi_sum1, ↓Fs.bi_all1, ↓Fs.bi_any1, ↓Fs.bi_tup1, ↓Fs.bi_lst1, ↓Fs.bi_min2', ↓Fs.bi_max2', ↓Fs.bi_isT1, ↓Fs.bi_lrng1, ↓Fs.bi_srt1, ↓Fs.bi_ssort1, ↓Fs.bi_dict1, ↓Fs.bi_repr1, ↓Fs.so_tup, ↓Fs.so_lst, ↓Fs.so_ref, Fs.soC_lst, Fs.soC_frl, Fs.la_int, Fs.la_bl, Fs.la_non, Fs.la_str, Fs.la_ref, Fs.la_lst0, Fs.la_dic0, Fs.ofT, Fs.ofL, Fs.ofR, Fs.c_lt, Fs.c_le, Fs.c_gt, Fs.c_ge, Fs.ci_lt, Fs.ci_le, Fs.c_eq, Fs.c_ne, Fs.c_isN, Fs.c_ntN, Fs.c_in, Fs.c_nin, Fs.intv, Fs.blv, Fs.isTy_tup, Fs.isTy_int, Fs.isTy_intb, Fs.sg0, Fs.sg1, Fs.sg2, Fs.sg3, Fs.ss0, Fs.ss1, Fs.ss2, Fs.ss3, List.append_assoc, List.cons_append, List.nil_append, List.length_append, List.length_cons, List.length_nil, Nat.zero_add, Fs.wipe, List.foldr, List.set_cons_zero, List.set_cons_succ, List.getElem?_cons_zero, List.getElem?_cons_succ, List.map_cons, List.map_nil, List.replicate, Fs.lands, Fs.meK, Bool.not_true, Bool.not_false, true_and, and_true, beq_self_eq_true, Fs.kIC4, Fs.kIC3, Fs.tbl_fn, $ts,*])
namespace Fs
open PySem
section
variable {T : Tbl} {σ : Env} {s : Sto} {E : D -> Sto -> Prop} {Q : D -> Sto -> Prop} {QF : Fl -> Sto -> Prop} {γ : Type}
theorem split_at {L : List γ} {i : Nat} {c : γ} (h : L[i]? = some c) : L = L.take i ++ c :: L.drop (i + 1) := by
  obtain ⟨hi, rfl⟩ := List.getElem?_eq_some_iff.1 h
  rw [<- List.drop_eq_getElem_cons hi, List.take_append_drop]
theorem take_snoc {L : List γ} {i : Nat} {c : γ} (h : L[i]? = some c) : L.take (i + 1) = L.take i ++ [c] := by
  rw [List.take_add_one, h]; rfl
theorem w_forP {g : D -> Env -> M Env} {b : Env -> M Fl} (L : List γ) (h : γ -> D) (I : List γ -> Env -> Sto -> Prop) (h0 : I [] σ s)
    (hb : ∀ pre c post σ s, L = pre ++ c :: post -> I pre σ s -> wp (g (h c) σ) s (fun σ1 s1 => wp (b σ1) s1 (tq (I (pre ++ [c])) QF) NX) NX)
    (hq : ∀ σ s, I L σ s -> QF (.nx σ) s) : wp (forLoop (.one (.items (L.map h))) g b ((It.one (.items (L.map h))).len s + 1) 0 σ) s QF E := by
  refine w_for (L.map h) (fun i σ s => I (L.take i) σ s) (by simpa using h0) ?_ ?_
  · intro i d σ s hI e
    rw [List.getElem?_map] at e
    cases e2 : L[i]? with
    | none => rw [e2] at e; cases e
    | some c =>
      rw [e2] at e
      cases e
      have := hb (L.take i) c _ σ s (split_at e2) hI
      rw [<- take_snoc e2] at this
      exact this
  · intro σ s hI
    rw [List.length_map, List.take_length] at hI
    exact hq σ s hI
theorem w_forPE {g : D -> Env -> M Env} {b : Env -> M Fl} (L : List γ) (h : γ -> D) (I : List γ -> Env -> Sto -> Prop) (h0 : I [] σ s)
    (hb : ∀ pre c post σ s, L = pre ++ c :: post -> I pre σ s -> wp (g (.tup [.int (pre.length : Nat), h c]) σ) s (fun σ1 s1 => wp (b σ1) s1 (tq (I (pre ++ [c])) QF) NX) NX)
    (hq : ∀ σ s, I L σ s -> QF (.nx σ) s) : wp (forLoop (.enum 0 (.items (L.map h))) g b ((It.enum 0 (.items (L.map h))).len s + 1) 0 σ) s QF E := by
  refine w_forE (L.map h) (fun i σ s => I (L.take i) σ s) (by simpa using h0) ?_ ?_
  · intro i d σ s hI e
    rw [List.getElem?_map] at e
    cases e2 : L[i]? with
    | none => rw [e2] at e; cases e
    | some c =>
      rw [e2] at e
      cases e
      have := hb (L.take i) c _ σ s (split_at e2) hI
      rw [<- take_snoc e2, List.length_take] at this
      have hi : i < L.length := (List.getElem?_eq_some_iff.1 e2).1
      rw [Nat.min_eq_left (Nat.le_of_lt hi)] at this
      rw [Int.zero_add]
      exact this
  · intro σ s hI
    rw [List.length_map, List.take_length] at hI
    exact hq σ s hI
theorem w_lcm {turn : D -> M (Option D)} {Q : List D -> Sto -> Prop} (L : List γ) (h : γ -> D) (k : γ -> D) (hx : L.length <= sizeLine)
    (hb : ∀ c ∈ L, wp (turn (h c)) s (fun o s1 => o = some (k c) /\ s1 = s) NX)
    (hq : Q (L.map k) s) : wp (lcLoop (.one (.items (L.map h))) turn ((It.one (.items (L.map h))).len s + 1) 0 []) s Q E := by
  refine w_lcM (L.map h) (fun i a s' => s' = s /\ a = (L.take i).map k) ⟨rfl, by simp⟩ ?_ (by simpa using hx) ?_ ?_
  · rintro i a s' ⟨rfl, rfl⟩
    rw [List.length_map]
    exact List.length_take_le ..
  · rintro i d a s' ⟨rfl, rfl⟩ e
    rw [List.getElem?_map] at e
    cases e2 : L[i]? with
    | none => rw [e2] at e; cases e
    | some c =>
      rw [e2] at e
      cases e
      refine wp_nx (hb c (List.mem_of_getElem? e2)) ?_
      rintro o s1 ⟨rfl, rfl⟩
      refine ⟨rfl, ?_⟩
      rw [take_snoc e2, List.map_append]; rfl
  · rintro a s' ⟨rfl, rfl⟩
    rw [List.length_map, List.take_length]
    exact hq
theorem w_lcf {turn : D -> M (Option D)} {Q : List D -> Sto -> Prop} (L : List γ) (h : γ -> D) (p : γ -> Bool) (k : γ -> D) (hx : L.length <= sizeLine)
    (hb : ∀ c ∈ L, wp (turn (h c)) s (fun o s1 => o = (if p c then some (k c) else none) /\ s1 = s) NX)
    (hq : Q ((L.filter p).map k) s) : wp (lcLoop (.one (.items (L.map h))) turn ((It.one (.items (L.map h))).len s + 1) 0 []) s Q E := by
  refine w_lcM (L.map h) (fun i a s' => s' = s /\ a = ((L.take i).filter p).map k) ⟨rfl, by simp⟩ ?_ (by simpa using hx) ?_ ?_
  · rintro i a s' ⟨rfl, rfl⟩
    rw [List.length_map]
    exact Nat.le_trans (List.length_filter_le ..) (List.length_take_le ..)
  · rintro i d a s' ⟨rfl, rfl⟩ e
    rw [List.getElem?_map] at e
    cases e2 : L[i]? with
    | none => rw [e2] at e; cases e
    | some c =>
      rw [e2] at e
      cases e
      refine wp_nx (hb c (List.mem_of_getElem? e2)) ?_
      rintro o s1 ⟨rfl, rfl⟩
      cases hp : p c with
      | true =>
        show _ /\ _
        refine ⟨rfl, ?_⟩
        rw [take_snoc e2, List.filter_append, List.map_append]
        simp [hp]
      | false =>
        show _ /\ _
        refine ⟨rfl, ?_⟩
        rw [take_snoc e2, List.filter_append, List.map_append]
        simp [hp]
  · rintro a s' ⟨rfl, rfl⟩
    rw [List.length_map, List.take_length]
    exact hq
end
section
variable {s : Sto}
abbrev ik (d : Nat) : Ky := .k (.inl (d : Int))
def kd (f : Nat -> D) (L : List Nat) : List (Ky × D) := L.map fun d => (ik d, f d)
theorem ik_inj {a b : Nat} (h : ik a = ik b) : a = b := by
  have : (a : Int) = (b : Int) := by injection h with h; injection h
  omega
theorem kd_len {f : Nat -> D} {L : List Nat} : (kd f L).length = L.length := by simp [kd]
theorem kd_ok {f : Nat -> D} {L : List Nat} {d : Nat} : okKeys (ik d) (kd f L) = true := by
  simp [okKeys, kd, kyK]
theorem kd_okI {f : Nat -> D} {L : List Nat} {d : Int} : okKeys (.k (.inl d)) (kd f L) = true := by
  simp [okKeys, kd, kyK]
theorem kd_get {f : Nat -> D} {d : Nat} : ∀ {L : List Nat}, dget (ik d) (kd f L) = if d ∈ L then some (f d) else none
  | [] => rfl
  | a :: L => by
    simp only [kd, List.map_cons, dget]
    by_cases h : a = d
    · subst h; simp
    · have h2 : ¬ ik a = ik d := fun e => h (ik_inj e)
      rw [if_neg h2]
      have ih := kd_get (f := f) (d := d) (L := L)
      simp only [kd] at ih
      rw [ih]
      have h3 : d ≠ a := fun e => h e.symm
      simp [h3]
theorem kd_put {f : Nat -> D} {d : Nat} : ∀ {L : List Nat}, d ∉ L -> dput (ik d) (f d) (kd f L) = kd f (L ++ [d])
  | [], _ => rfl
  | a :: L, h => by
    simp only [kd, List.map_cons, dput, List.cons_append]
    have h2 : ¬ ik a = ik d := fun e => h (by rw [ik_inj e]; exact List.mem_cons_self ..)
    rw [if_neg h2]
    have ih := kd_put (f := f) (d := d) (L := L) fun q => h (List.mem_cons_of_mem _ q)
    simp only [kd] at ih
    rw [ih]
theorem kd_del {f : Nat -> D} {d : Nat} : ∀ {L : List Nat}, ddel (ik d) (kd f L) = kd f (L.erase d)
  | [] => rfl
  | a :: L => by
    simp only [kd, List.map_cons, ddel]
    by_cases h : a = d
    · subst h; simp
    · have h2 : ¬ ik a = ik d := fun e => h (ik_inj e)
      rw [if_neg h2, List.erase_cons_tail (by simpa using h)]
      have ih := kd_del (f := f) (d := d) (L := L)
      simp only [kd] at ih
      rw [ih]; rfl
theorem kd_pur {f : Nat -> D} {L : List Nat} (h : ∀ d, (f d).pur = true) : ((kd f L).all fun p => D.pur p.2) = true := by
  simp [kd, h]
theorem kd_isIn {f : Nat -> D} {L : List Nat} {d l : Nat} (h : s[l]? = some (.dic (kd f L))) : inD s (.int (d : Int)) (.ref l) = some (decide (d ∈ L)) := by
  simp only [inD, dicv, h, keyOf]
  rw [if_pos kd_ok, kd_get]
  by_cases hd : d ∈ L
  · simp [hd]
  · simp [hd]
theorem kd_key {d : Int} : keyOf (.int d) = some (.k (.inl d)) := rfl
end
section
variable {T : Tbl} {σ : Env} {s : Sto} {E : D -> Sto -> Prop} {Q : List (Ky × D) -> Sto -> Prop}
theorem w_dcAux {s : Sto} {E : D -> Sto -> Prop} {Q : List (Ky × D) -> Sto -> Prop} {it : It} {turn : D -> M (Option (Ky × D))} {f : Nat -> D} (L : List Nat) (h : Nat -> D) (hn : L.Nodup) (hf : ∀ d, (f d).pur = true) (hx : L.length <= sizeLine)
    (hit : ∀ i, it.next i s = some (L.map h)[i]?)
    (hb : ∀ c ∈ L, wp (turn (h c)) s (fun o s1 => o = some (ik c, f c) /\ s1 = s) NX)
    (hq : Q (kd f L) s) : ∀ (n i : Nat), i <= L.length -> L.length + 1 <= n + i -> wp (dcLoop it turn n i (kd f (L.take i))) s Q E
  | 0, i, h1, h2 => absurd h2 (by omega)
  | n + 1, i, h1, h2 => by
    simp only [wp_def, dcLoop]
    rw [hit i, List.getElem?_map]
    cases e2 : L[i]? with
    | none =>
      have : L.length <= i := List.getElem?_eq_none_iff.1 e2
      rw [List.take_of_length_le this]
      exact hq
    | some c =>
      have hw := hb c (List.mem_of_getElem? e2)
      have hi : i < L.length := (List.getElem?_eq_some_iff.1 e2).1
      simp only [wp_def, Option.map_some] at hw ⊢
      cases eg : turn (h c) s with
      | ok o s1 =>
        rw [eg] at hw
        obtain ⟨rfl, rfl⟩ := hw
        have hc : (kd f (L.take i)).length < sizeLine /\ okKeys (ik c) (kd f (L.take i)) = true /\ D.pur (f c) = true := ⟨by rw [kd_len]; exact Nat.lt_of_le_of_lt (List.length_take_le ..) (by omega), kd_ok, hf c⟩
        simp only [if_pos hc]
        have hnot : c ∉ L.take i := by
          have h3 := split_at e2
          rw [h3] at hn
          have := (List.nodup_append.1 hn).2.2
          intro hm
          exact this c hm c (List.mem_cons_self ..) rfl
        rw [kd_put hnot, <- take_snoc e2]
        exact (w_dcAux L h hn hf hx hit hb hq n (i + 1) hi (by omega)).run
      | exc e s2 => rw [eg] at hw; exact hw.elim
      | bad => rw [eg] at hw; exact hw.elim
theorem w_dcm {turn : D -> M (Option (Ky × D))} {f : Nat -> D} (L : List Nat) (h : Nat -> D) (hn : L.Nodup) (hf : ∀ d, (f d).pur = true) (hx : L.length <= sizeLine)
    (hb : ∀ c ∈ L, wp (turn (h c)) s (fun o s1 => o = some (ik c, f c) /\ s1 = s) NX)
    (hq : Q (kd f L) s) : wp (dcLoop (.one (.items (L.map h))) turn ((It.one (.items (L.map h))).len s + 1) 0 []) s Q E :=
  w_dcAux L h hn hf hx (fun i => rfl) hb hq _ 0 (Nat.zero_le _) (by show L.length + 1 <= (L.map h).length + 1 + 0; rw [List.length_map]; omega)
end
end Fs
namespace Fs
open PySem
def sqC (c : Option D) : Option (List D) := match c with
  | some (.lst xs) => some xs
  | some (.frl xs) => some xs
  | _ => none
theorem sqC_lst {xs : List D} : sqC (some (.lst xs)) = some xs := rfl
theorem seqv_lst {s : Sto} {xs : List D} : seqv s (.lst xs) = some xs := rfl
theorem seqv_ref {s : Sto} {l : Nat} : seqv s (.ref l) = sqC s[l]? := by
  simp only [seqv, sqC] <;> (cases s[l]? with
    | none => first | rfl | (simp only [wp_def] <;> rfl)
    | some c => cases c <;> (first | rfl | (simp only [wp_def] <;> rfl)))
section
variable {T : Tbl} {σ : Env} {s : Sto} {E : D -> Sto -> Prop} {Q : D -> Sto -> Prop} {QF : Fl -> Sto -> Prop} {γ : Type}
theorem w_lcPC {turn : D -> M (Option D)} {Q : List D -> Sto -> Prop} {l : Nat} (L : List γ) (h : γ -> D) (I : List γ -> List D -> Sto -> Prop) (h0 : I [] [] s) (hx : L.length <= sizeLine)
    (hc : ∀ p a s, I p a s -> s[l]? = some (.lst (L.map h)))
    (hb : ∀ pre c post a s, L = pre ++ c :: post -> a.length = pre.length -> I pre a s -> wp (turn (h c)) s (fun o s1 => ∃ y, o = some y /\ I (pre ++ [c]) (a ++ [y]) s1) NX)
    (hq : ∀ a s, a.length = L.length -> I L a s -> Q a s) : wp (lcLoop (.one (.cell l)) turn ((It.one (.cell l)).len s + 1) 0 []) s Q E := by
  refine w_lcAux (L.map h) (fun i a s' => (i <= L.length /\ a.length = i) /\ I (L.take i) a s') ?_ ?_ ?_ _ 0 [] s ⟨⟨Nat.zero_le _, rfl⟩, by simpa using h0⟩ (Nat.zero_le _) ?_
  · rintro i a s' ⟨_, hI⟩
    simp only [It.next, Src.at, hc _ _ _ hI]
  · rintro i d a s' ⟨⟨hi, hl⟩, hI⟩ e
    rw [List.getElem?_map] at e
    cases e2 : L[i]? with
    | none => rw [e2] at e; cases e
    | some c =>
      rw [e2] at e
      cases e
      have hi2 : i < L.length := (List.getElem?_eq_some_iff.1 e2).1
      refine wp_nx (hb (L.take i) c _ a s' (split_at e2) (by rw [hl, List.length_take]; omega) hI) ?_
      rintro o s1 ⟨y, rfl, h1⟩
      refine ⟨by omega, ⟨hi2, by simp [hl]⟩, ?_⟩
      rw [take_snoc e2]
      exact h1
  · rintro a s' ⟨⟨_, hl⟩, hI⟩
    rw [List.length_map] at hl hI
    rw [List.take_length] at hI
    exact hq a s' hl hI
  · simp only [It.len, Src.len, hc _ _ _ h0]; omega
theorem w_lcmC {turn : D -> M (Option D)} {Q : List D -> Sto -> Prop} {l : Nat} (L : List γ) (h : γ -> D) (k : γ -> D) (hx : L.length <= sizeLine) (hc : s[l]? = some (.lst (L.map h)))
    (hb : ∀ c ∈ L, wp (turn (h c)) s (fun o s1 => o = some (k c) /\ s1 = s) NX)
    (hq : Q (L.map k) s) : wp (lcLoop (.one (.cell l)) turn ((It.one (.cell l)).len s + 1) 0 []) s Q E := by
  refine w_lcPC (l := l) L h (fun pre a s' => s' = s /\ a = pre.map k) ⟨rfl, rfl⟩ hx (by rintro p a s' ⟨rfl, _⟩; exact hc) ?_ ?_
  · rintro pre c post a s' hL _ ⟨rfl, rfl⟩
    refine wp_nx (hb c (by rw [hL]; simp)) ?_
    rintro o s1 ⟨rfl, rfl⟩
    exact ⟨_, rfl, rfl, by simp⟩
  · rintro a s' _ ⟨rfl, rfl⟩
    exact hq
end
end Fs
namespace Fs
open PySem
theorem optL_len : ∀ {g : List (List Nat)}, optL intv (g.map fun r => D.int (r.length : Nat)) = some (g.map fun r => ((r.length : Nat) : Int))
  | [] => rfl
  | a :: g => by simp only [List.map_cons, optL, intv, optL_len]
theorem sum_len : ∀ {g : List (List Nat)}, (g.map fun r => ((r.length : Nat) : Int)).sum = ((g.flatten.length : Nat) : Int)
  | [] => rfl
  | a :: g => by
    simp only [List.map_cons, List.sum_cons, sum_len, List.flatten_cons, List.length_append]
    omega
theorem lInt_lst {s : Sto} {xs : List D} : lInt s (.lst xs) = optL intv xs := rfl
theorem sl_ge : 2 ^ 20 <= sizeLine := by decide
theorem rep_nv {k : Nat} : rep k [.int 0] = nv (List.replicate k 0) := by
  simp only [rep, nv, List.map_replicate]
  induction k with
  | zero => rfl
  | succ k ih => rw [List.replicate_succ, List.flatten_cons, ih]; rfl
theorem nv_set {L : List Nat} {i x : Nat} : (nv L).set i (.int (x : Nat)) = nv (L.set i x) := by
  simp only [nv, List.map_set]
theorem rngL1 {b : Nat} (h : b <= 2 ^ 20) : rngL [.int (b : Nat)] = some (nv (List.range b)) := by
  have h0 : b <= 1048576 := h
  have h1 : -(2 ^ 62 : Int) <= (b : Int) /\ (b : Int) < 2 ^ 62 := by
    constructor <;> omega
  rw [<- rngN_nv]
  have h2 : rngL [.int (b : Nat)] = if -(2 ^ 62 : Int) <= (b : Int) /\ (b : Int) < 2 ^ 62 then some (rngN 0 1 (b : Int).toNat) else none := by
    generalize (b : Int) = x
    rfl
  rw [h2, if_pos h1, Int.toNat_natCast]
theorem optL_bl {γ : Type} (f : γ -> Bool) : ∀ {g : List γ}, optL blv (g.map fun r => D.bl (f r)) = some (g.map f)
  | [] => rfl
  | a :: g => by simp only [List.map_cons, optL, blv, optL_bl]
theorem lBl_lst {s : Sto} {xs : List D} : lBl s (.lst xs) = optL blv xs := rfl
theorem insI_perm' (i : Int) : ∀ r : List Int, (insI i r).Perm (i :: r)
  | [] => .refl _
  | j :: r => by
    simp only [insI]
    split
    · exact (List.Perm.cons _ (insI_perm' i r)).trans (List.Perm.swap ..)
    · exact .refl _
theorem sortI_perm' : ∀ r : List Int, (sortI r).Perm r
  | [] => .refl _
  | i :: r => by
    simp only [sortI]
    exact (insI_perm' i _).trans (List.Perm.cons _ (sortI_perm' r))
theorem insI_sorted' (i : Int) : ∀ {r : List Int}, r.Pairwise (· <= ·) -> (insI i r).Pairwise (· <= ·)
  | [], _ => by simp [insI]
  | j :: r, h => by
    simp only [insI]
    have h2 := List.pairwise_cons.1 h
    split
    · rename_i hj
      refine List.pairwise_cons.2 ⟨?_, insI_sorted' i h2.2⟩
      intro a ha
      rcases List.mem_cons.1 ((insI_perm' i r).mem_iff.1 ha) with rfl | ha
      · exact hj
      · exact h2.1 a ha
    · rename_i hj
      refine List.pairwise_cons.2 ⟨?_, h⟩
      intro a ha
      rcases List.mem_cons.1 ha with rfl | ha
      · omega
      · have := h2.1 a ha; omega
theorem sortI_sorted' : ∀ r : List Int, (sortI r).Pairwise (· <= ·)
  | [] => .nil
  | i :: r => by simp only [sortI]; exact insI_sorted' i (sortI_sorted' r)
theorem sortI_eq {r q : List Int} (hp : r.Perm q) (hq : q.Pairwise (· < ·)) : sortI r = q :=
  List.Perm.eq_of_pairwise (le := (· <= ·)) (fun a b _ _ h1 h2 => by omega) (sortI_sorted' r) (hq.imp fun h => by omega) ((sortI_perm' r).trans hp)
abbrev toZ (L : List Nat) : List Int := L.map fun (n : Nat) => (n : Int)
theorem toZ_sorted {L : List Nat} (h : L.Pairwise (· < ·)) : (toZ L).Pairwise (· < ·) := by
  rw [List.pairwise_map]
  exact h.imp fun h => by omega
theorem nd_of_lt {L : List Nat} (h : L.Pairwise (· < ·)) : L.Nodup := h.imp fun h => by omega
theorem sort_nat {P q : List Nat} (hP : P.Nodup) (hq : q.Pairwise (· < ·)) (hm : ∀ v, v ∈ P ↔ v ∈ q) : (sortI (toZ P)).map D.int = nv q := by
  rw [sortI_eq (q := toZ q) (((List.perm_ext_iff_of_nodup hP (nd_of_lt hq)).2 hm).map _) (toZ_sorted hq), nv_ints]
theorem range_split {n c : Nat} {pre post : List Nat} (h : List.range n = pre ++ c :: post) : pre = List.range c /\ c < n /\ pre.length = c := by
  have hl : pre.length < n := by
    have := congrArg List.length h
    simp at this
    omega
  have h1 : (List.range n)[pre.length]? = some c := by rw [h]; simp
  rw [List.getElem?_range hl] at h1
  have hc : pre.length = c := by simpa using h1
  have h2 : (List.range n).take pre.length = pre := by rw [h]; simp
  rw [List.take_range, Nat.min_eq_left (Nat.le_of_lt hl), hc] at h2
  exact ⟨h2.symm, by omega, hc⟩
theorem optL_map {γ α β : Type} {f : α -> Option β} {h : γ -> α} {k : γ -> β} (hf : ∀ c, f (h c) = some (k c)) : ∀ L : List γ, optL f (L.map h) = some (L.map k)
  | [] => rfl
  | a :: L => by simp only [List.map_cons, optL, hf, optL_map hf L]
def pn (L : List Nat) : List PyData := L.map fun (n : Nat) => PyData.int (n : Int)
def pt (g : List (List Nat)) : List PyData := g.map fun r => PyData.tuple (pn r)
theorem pn_nil : pn [] = [] := rfl
theorem pt_nil : pt [] = [] := rfl
theorem pn_cons {a : Nat} {L : List Nat} : pn (a :: L) = .int (a : Int) :: pn L := rfl
theorem pt_cons {a : List Nat} {L : List (List Nat)} : pt (a :: L) = .tuple (pn a) :: pt L := rfl
theorem toP_int {z : Bool} {s : Sto} {k : Nat} {i : Int} : toP z s (k + 1) (.int i) = some (.int i) := rfl
theorem toP_tup {z : Bool} {s : Sto} {k : Nat} {xs : List D} : toP z s (k + 1) (.tup xs) = (optL (toP z s k) xs).map .tuple := rfl
theorem toP_lst {z : Bool} {s : Sto} {k : Nat} {xs : List D} : toP z s (k + 1) (.lst xs) = (optL (toP z s k) xs).map .list := rfl
theorem toP_ref {z : Bool} {s : Sto} {k l : Nat} {xs : List D} (h : s[l]? = some (.lst xs)) : toP z s (k + 1) (.ref l) = (optL (toP z s k) xs).map .list := by
  simp only [toP, h]
theorem toP_nv {z : Bool} {s : Sto} {k : Nat} {L : List Nat} : optL (toP z s (k + 1)) (nv L) = some (pn L) := optL_map (fun c => toP_int) L
theorem toP_tv {z : Bool} {s : Sto} {k : Nat} {g : List (List Nat)} : optL (toP z s (k + 2)) (tv g) = some (pt g) := optL_map (fun c => by rw [toP_tup, toP_nv]; rfl) g
theorem pn_lay : ∀ L : List Nat, PyData.canLayAll0 (pn L) = true
  | [] => by simp [pn_nil, pt_nil, pn_cons, pt_cons, PyData.canLayAll0]
  | a :: L => by
    have := pn_lay L
    simp [pn_nil, pt_nil, pn_cons, pt_cons, PyData.canLayAll0, PyData.canLay0, this]
theorem pn_depth : ∀ L : List Nat, PyData.depthAll (pn L) <= 1
  | [] => by simp [pn_nil, pt_nil, pn_cons, pt_cons, PyData.depthAll]
  | a :: L => by
    have := pn_depth L
    simp only [pn_cons, PyData.depthAll, PyData.depth]
    omega
theorem pt_lay : ∀ L : List (List Nat), PyData.canLayAll0 (pt L) = true
  | [] => by simp [pn_nil, pt_nil, pn_cons, pt_cons, PyData.canLayAll0]
  | a :: L => by
    have := pt_lay L
    simp [pn_nil, pt_nil, pn_cons, pt_cons, PyData.canLayAll0, PyData.canLay0, this, pn_lay]
theorem pt_depth : ∀ L : List (List Nat), PyData.depthAll (pt L) <= 2
  | [] => by simp [pn_nil, pt_nil, pn_cons, pt_cons, PyData.depthAll]
  | a :: L => by
    have := pt_depth L
    have := pn_depth a
    simp only [pt_cons, PyData.depthAll, PyData.depth]
    omega
theorem eqvAll_pn : ∀ L : List Nat, PyData.eqvAll (pn L) (pn L) = true
  | [] => by simp [pn_nil, pt_nil, pn_cons, pt_cons, PyData.eqvAll]
  | a :: L => by
    have := eqvAll_pn L
    simp [pn_nil, pt_nil, pn_cons, pt_cons, PyData.eqvAll, PyData.eqv, this]
theorem eqvAll_pt : ∀ L : List (List Nat), PyData.eqvAll (pt L) (pt L) = true
  | [] => by simp [pn_nil, pt_nil, pn_cons, pt_cons, PyData.eqvAll]
  | a :: L => by
    have := eqvAll_pt L
    simp [pn_nil, pt_nil, pn_cons, pt_cons, PyData.eqvAll, PyData.eqv, this, eqvAll_pn]
theorem eq_tv {s : Sto} {g : List (List Nat)} : eqD s (.tup (tv g)) (.tup (tv g)) = some true := by
  have h1 : toP false s 66 (.tup (tv g)) = some (.tuple (pt g)) := by rw [toP_tup, toP_tv]; rfl
  have h2 : SeqAt.shaped (.tuple (pt g)) = true := by
    have h := pt_depth g
    have hd : PyData.depth (.tuple (pt g)) <= 64 := by simp only [PyData.depth]; omega
    simp [SeqAt.shaped, PyData.canLay0, pt_lay, hd]
  simp only [eqD, h1]
  rw [if_pos ⟨h2, h2⟩]
  simp only [PyData.eqv, eqvAll_pt]
theorem eq_nil {s : Sto} {l : Nat} {W : List Nat} (h : s[l]? = some (.lst (nv W))) : eqD s (.ref l) (.lst []) = some W.isEmpty := by
  have h1 : toP false s 66 (.ref l) = some (.list (pn W)) := by rw [toP_ref h, toP_nv]; rfl
  have h0 : toP false s 66 (.lst []) = some (.list []) := rfl
  have h2 : SeqAt.shaped (.list (pn W)) = true := by
    have h := pn_depth W
    have hd : PyData.depth (.list (pn W)) <= 64 := by simp only [PyData.depth]; omega
    simp [SeqAt.shaped, PyData.canLay0, pn_lay, hd]
  have h3 : SeqAt.shaped (.list []) = true := by decide
  simp only [eqD, h1, h0]
  rw [if_pos ⟨h2, h3⟩]
  cases W with
  | nil => simp [pn_nil, pt_nil, pn_cons, pt_cons, PyData.eqv, PyData.eqvAll]
  | cons a W => simp [pn_nil, pt_nil, pn_cons, pt_cons, PyData.eqv, PyData.eqvAll]
theorem srt_ints {s : Sto} {d : D} {ns : List Int} {Q : D -> Sto -> Prop} {E : D -> Sto -> Prop} (h : lInt s d = some ns) : wp (fSorted d) s Q E = Q (.lst ((sortI ns).map .int)) s := by
  simp only [wp_def, fSorted, h, wr]
theorem nodup_len : ∀ {n : Nat} {L : List Nat}, L.Nodup -> (∀ v, v ∈ L -> v < n) -> L.length <= n
  | 0, L, _, h => by
    cases L with
    | nil => simp
    | cons a L => exact absurd (h a (List.mem_cons_self ..)) (by omega)
  | n + 1, L, hn, h => by
    have h1 : (L.erase n).length <= n := nodup_len (hn.erase n) fun v hv => by
      have h2 := hn.mem_erase_iff.1 hv
      have := h v h2.2
      omega
    have h3 : L.length <= (L.erase n).length + 1 := by
      rw [List.length_erase]
      split <;> omega
    omega
theorem rk_val {s : Sto} {b : Nat} {xs : List D} (h : D.cleans xs = true) : rback s b (.lst xs) = some (.lst xs) := by
  simp only [rback, rbD, rbs_clean h]; rfl
theorem log_lt {x : Int} {k : Nat} (h : x.natAbs < 2 ^ k) (hk : k <= 500000) : x.natAbs.log2 < 500000 := by
  by_cases h0 : x.natAbs = 0
  · rw [h0]; decide
  · have := (Nat.log2_lt h0).2 h
    omega
theorem take_set {st r : Sto} {l : Nat} {c : D} : (st.set l c ++ r).take st.length = st.set l c := by
  rw [List.take_append_of_le_length (by simp), List.take_of_length_le (by simp)]
abbrev zv (L : List Int) : List D := L.map D.int
theorem seqIdx {x : Int} {n : Nat} (h0 : 0 <= x) (h : x < n) : PySem.seqIndex? x n = some x.toNat := by
  unfold PySem.seqIndex?
  have h1 : ¬ x < 0 := by omega
  simp only [if_neg h1]
  rw [if_pos (by simp [h0, h])]
theorem erase_perm {L : List Nat} {j : Nat} {v : Nat} (h : L[j]? = some v) : L.Perm (v :: L.eraseIdx j) := by
  have h1 := split_at h
  rw [List.eraseIdx_eq_take_drop_succ]
  conv => lhs; rw [h1]
  exact List.perm_middle
theorem nv_erase {L : List Nat} {j : Nat} : (nv L).eraseIdx j = nv (L.eraseIdx j) := by
  simp only [nv, List.eraseIdx_eq_take_drop_succ, List.map_append, List.map_take, List.map_drop]
theorem wp_wrap {m : M D} {s : Sto} {Q : D -> Sto -> Prop} {E : D -> Sto -> Prop} (h : wp m s Q NX) : wp m s Q E := wp_of h (fun _ _ h => h) (fun _ _ h => h.elim)
section
variable {st X : Sto} {a b x : D}
theorem tA {r : Sto} : (st ++ (X ++ a :: r))[st.length + X.length]? = some a := by
  rw [List.getElem?_append_right (by omega)]; simp
theorem tB {r : Sto} : (st ++ (X ++ a :: b :: r))[st.length + X.length + 1]? = some b := by
  rw [List.getElem?_append_right (by omega)]
  simp [show st.length + X.length + 1 - st.length = X.length + 1 by omega]
theorem tAs {r : Sto} : (st ++ (X ++ a :: r)).set (st.length + X.length) x = st ++ (X ++ x :: r) := by
  rw [List.set_append_right _ _ (by omega)]; simp
theorem tBs {r : Sto} : (st ++ (X ++ a :: b :: r)).set (st.length + X.length + 1) x = st ++ (X ++ a :: x :: r) := by
  rw [List.set_append_right _ _ (by omega)]
  simp [show st.length + X.length + 1 - st.length = X.length + 1 by omega, List.set_append]
end
theorem eq_int {s : Sto} {a b : Int} : eqD s (.int a) (.int b) = some (decide (a = b)) := by
  have h1 : ∀ a : Int, toP false s 66 (.int a) = some (.int a) := fun a => rfl
  have h2 : ∀ a : Int, SeqAt.shaped (.int a) = true := fun a => by simp [SeqAt.shaped, PyData.canLay0, PyData.depth]
  simp only [eqD, h1]
  rw [if_pos ⟨h2 a, h2 b⟩]
  congr 1
theorem rgOk_nat {b : Nat} (h : b <= 2 ^ 20) : rgOk 0 (b : Int) = true := by
  unfold rgOk
  exact decide_eq_true ⟨by decide, by decide, by omega, by omega, by omega⟩
def pz (L : List Int) : List PyData := L.map PyData.int
theorem pz_lay : ∀ L : List Int, PyData.canLayAll0 (pz L) = true
  | [] => by simp [pz, PyData.canLayAll0]
  | a :: L => by
    have h : pz (a :: L) = .int a :: pz L := rfl
    rw [h]
    simp only [PyData.canLayAll0, PyData.canLay0, pz_lay L, Bool.and_self]
theorem pz_depth : ∀ L : List Int, PyData.depthAll (pz L) <= 1
  | [] => by simp [pz, PyData.depthAll]
  | a :: L => by
    have h : pz (a :: L) = .int a :: pz L := rfl
    have := pz_depth L
    rw [h]
    simp only [PyData.depthAll, PyData.depth]
    omega
theorem toP_refF {z : Bool} {s : Sto} {k l : Nat} {xs : List D} (h : s[l]? = some (.frl xs)) : toP z s (k + 1) (.ref l) = (optL (toP z s k) xs).map .list := by
  simp only [toP, h]
theorem eq_nilF {s : Sto} {l : Nat} {W : List Int} (h : s[l]? = some (.frl (zv W))) : eqD s (.ref l) (.lst []) = some W.isEmpty := by
  have h1 : toP false s 66 (.ref l) = some (.list (pz W)) := by
    have e : optL (toP false s 65) (zv W) = some (pz W) := optL_map (fun c => toP_int) W
    rw [toP_refF h, e]; rfl
  have h0 : toP false s 66 (.lst []) = some (.list []) := rfl
  have h2 : SeqAt.shaped (.list (pz W)) = true := by
    have h := pz_depth W
    have hd : PyData.depth (.list (pz W)) <= 64 := by simp only [PyData.depth]; omega
    simp [SeqAt.shaped, PyData.canLay0, pz_lay, hd]
  have h3 : SeqAt.shaped (.list []) = true := by decide
  simp only [eqD, h1, h0]
  rw [if_pos ⟨h2, h3⟩]
  cases W with
  | nil => simp [pz, PyData.eqv, PyData.eqvAll]
  | cons a W => simp [pz, PyData.eqv, PyData.eqvAll]
end Fs
namespace Fs
open PySem
def opp (d : Nat) : Nat := if d % 2 = 0 then d + 1 else d - 1
theorem fmod2 (d : Nat) : (d : Int).fmod 2 = ((d % 2 : Nat) : Int) := by rw [Int.fmod_eq_emod_of_nonneg _ (by decide)]; rfl
theorem opp_int (d : Nat) : (d : Int) + 1 - 2 * (d : Int).fmod 2 = (opp d : Nat) := by
  rw [fmod2]
  unfold opp
  split <;> omega
structure Gr (g : List (List Nat)) (e : Nat) : Prop where
  perm : g.flatten.Perm (List.range (2 * e))
  n : g.length <= 60
  e : e <= 120
theorem Gr.nd {g : List (List Nat)} {e : Nat} (h : Gr g e) : g.flatten.Nodup := (h.perm.nodup_iff).2 List.nodup_range
theorem Gr.mem {g : List (List Nat)} {e d : Nat} (h : Gr g e) : d ∈ g.flatten ↔ d < 2 * e := by rw [h.perm.mem_iff, List.mem_range]
theorem Gr.len {g : List (List Nat)} {e : Nat} (h : Gr g e) : g.flatten.length = 2 * e := by rw [h.perm.length_eq, List.length_range]
theorem Gr.row {g : List (List Nat)} {e : Nat} (h : Gr g e) {pre post : List (List Nat)} {r : List Nat} (hg : g = pre ++ r :: post) : r.length <= 240 := by
  have h1 := h.len
  have h2 := h.e
  rw [hg] at h1
  simp only [List.flatten_append, List.flatten_cons, List.length_append] at h1
  omega
def tailOf (g : List (List Nat)) (d : Nat) : Nat := g.findIdx fun r => decide (d ∈ r)
theorem tail_at {d : Nat} {r : List Nat} {post : List (List Nat)} (hd : d ∈ r) : ∀ {pre : List (List Nat)}, (pre ++ r :: post).flatten.Nodup -> tailOf (pre ++ r :: post) d = pre.length
  | [], _ => by simp [tailOf, List.findIdx_cons, hd]
  | a :: pre, h => by
    have h1 : d ∉ a := by
      intro ha
      simp only [List.cons_append, List.flatten_cons] at h
      have := (List.nodup_append.1 h).2.2 d ha d (by simp [hd])
      exact this rfl
    have h2 : (pre ++ r :: post).flatten.Nodup := by
      simp only [List.cons_append, List.flatten_cons] at h
      exact (List.nodup_append.1 h).2.1
    have ih := tail_at hd h2
    simp only [tailOf] at ih
    simp only [tailOf, List.cons_append, List.findIdx_cons, h1, decide_false, cond_false, ih, List.length_cons]
def tails (g : List (List Nat)) (e : Nat) : List Nat := (List.range (2 * e)).map (tailOf g)
theorem tails_get {g : List (List Nat)} {e d : Nat} (h : d < 2 * e) : (tails g e)[d]? = some (tailOf g d) := by
  simp [tails, List.getElem?_range h]
theorem Gr.lt {g : List (List Nat)} {e : Nat} (h : Gr g e) {pre post : List (List Nat)} {r : List Nat} (hg : g = pre ++ r :: post) {d : Nat} (hd : d ∈ r) : d < 2 * e := by
  refine h.mem.1 ?_
  rw [hg]
  simp [hd]
theorem opp_lt {d e : Nat} (h : d < 2 * e) : opp d < 2 * e := by
  unfold opp; split <;> omega
theorem opp_opp (d : Nat) : opp (opp d) = d := by
  unfold opp; split <;> split <;> omega
end Fs
namespace Fs
open PySem
def src (a b c : Int) : D := .lst [.int a, .int b, .int c]
def Sr (st : Sto) (l : Nat) (N : Int) : Prop := ∃ a b c, st[l]? = some (src a b c) /\ 0 <= b /\ b <= N
def Up (st st' : Sto) (l : Nat) (N : Int) : Prop := ∃ a b c, st' = st.set l (src a b c) /\ 0 <= b /\ b <= N
theorem Up.sr {st st' : Sto} {l : Nat} {N : Int} (h : Up st st' l N) (hl : l < st.length) : Sr st' l N := by
  obtain ⟨a, b, c, rfl, h1, h2⟩ := h
  exact ⟨a, b, c, by simp [hl], h1, h2⟩
theorem Up.trans {st st' st2 : Sto} {l : Nat} {N M : Int} (h : Up st st' l N) (h2 : Up st' st2 l M) : Up st st2 l M := by
  obtain ⟨a, b, c, rfl, _, _⟩ := h
  obtain ⟨a', b', c', rfl, h3, h4⟩ := h2
  exact ⟨a', b', c', by simp, h3, h4⟩
theorem Up.len {st st' : Sto} {l : Nat} {N : Int} (h : Up st st' l N) : st'.length = st.length := by
  obtain ⟨a, b, c, rfl, _, _⟩ := h
  simp
theorem Sr.lt {st : Sto} {l : Nat} {N : Int} (h : Sr st l N) : l < st.length := by
  obtain ⟨a, b, c, h, _⟩ := h
  exact (List.getElem?_eq_some_iff.1 h).1
theorem Sr.up {st : Sto} {l : Nat} {N : Int} (h : Sr st l N) : Up st st l N := by
  have hl := h.lt
  obtain ⟨a, b, c, h, h1, h2⟩ := h
  refine ⟨a, b, c, ?_, h1, h2⟩
  have : st[l] = src a b c := by
    rw [List.getElem?_eq_getElem hl] at h
    exact Option.some.inj h
  rw [<- this]; simp
theorem Sr.mono {st : Sto} {l : Nat} {N M : Int} (h : Sr st l N) (hNM : N <= M) : Sr st l M := by
  obtain ⟨a, b, c, h, h1, h2⟩ := h
  exact ⟨a, b, c, h, h1, by omega⟩
theorem Up.mono {st st' : Sto} {l : Nat} {N M : Int} (h : Up st st' l N) (hNM : N <= M) : Up st st' l M := by
  obtain ⟨a, b, c, h, h1, h2⟩ := h
  exact ⟨a, b, c, h, h1, by omega⟩
def primes : List Int := [2147483647, 2147483629, 2147483587, 2147483579, 2147483563, 2147483549, 2147483543, 2147483497, 2147483489, 2147483477, 2147483423]
theorem prime_at {k : Int} (h0 : 0 <= k) (h : k < 11) : ∃ q, L2.atI (primes.map D.int) k = some (.int q) /\ 2147483423 <= q /\ q <= 2147483647 := by
  have : k = 0 ∨ k = 1 ∨ k = 2 ∨ k = 3 ∨ k = 4 ∨ k = 5 ∨ k = 6 ∨ k = 7 ∨ k = 8 ∨ k = 9 ∨ k = 10 := by omega
  rcases this with rfl | rfl | rfl | rfl | rfl | rfl | rfl | rfl | rfl | rfl | rfl <;> exact ⟨_, rfl, by decide, by decide⟩
theorem k_next (n : Nat) {st : Sto} {l : Nat} {N m : Int} (hm : 0 < m) (hm2 : m < 2 ^ 20) (hN : N <= 2 ^ 30) (h : Sr st l N) : wp (call P (n + 1) F.zq13 [.ref l, .int m]) st (fun r s' => (∃ x : Int, r = .int x /\ 0 <= x /\ x < m) /\ Up st s' l (N + 1)) NX := by
  have hsl := sl_ge
  obtain ⟨a, b, c, hl, hb0, hb⟩ := h
  have hll : l < st.length := (List.getElem?_eq_some_iff.1 hl).1
  refine w_call (F := c_zq13) rfl rfl ?_
  unfold c_zq13
  have e0 : L2.atI [D.int a, D.int b, D.int c] 0 = some (.int a) := rfl
  have e1 : L2.atI [D.int a, D.int b, D.int c] 1 = some (.int b) := rfl
  have e2 : L2.atI [D.int a, D.int b, D.int c] 2 = some (.int c) := rfl
  have i1 : L2.ixN 3 1 = some 1 := rfl
  have i2 : L2.ixN 3 2 = some 2 := rfl
  have hl2 : st[l]? = some (.lst [.int a, .int b, .int c]) := hl
  have hmod : ∀ c : Int, 0 <= (c.fmod m) /\ c.fmod m < m := fun c => ⟨Int.fmod_nonneg_of_pos _ hm, Int.fmod_lt_of_pos _ hm⟩
  have hmlog : m.natAbs.log2 < 9000 := by
    by_cases h0 : m.natAbs = 0
    · rw [h0]; decide
    · have := (Nat.log2_lt (k := 20) h0).2 (by omega)
      omega
  simp! [hl2, e2, truth, i2]
  refine wb_of ?_ ?_
  · intro hc
    refine ⟨by omega, ⟨by omega, hmlog⟩, ?_⟩
    refine ⟨okP_set0 rfl, ?_⟩
    rw [rk_clean rfl]
    refine ⟨⟨_, rfl, hmod _⟩, a, b, c.fdiv m, ?_, hb0, by omega⟩
    rw [List.take_of_length_le (by simp)]; rfl
  · intro hc
    have hs : (st.set l (.lst [.int a, .int (b + 1), .int c]))[l]? = some (.lst [.int a, .int (b + 1), .int c]) := by simp [hll]
    have hs2 : ∀ r, (st.set l (.lst [.int a, .int (b + 1), .int c]) ++ r)[l]? = some (.lst [.int a, .int (b + 1), .int c]) := fun r => sgl hs
    have hpr : L2.atI (primes.map D.int) ((b + 1).fmod 11) = L2.atI (primes.map D.int) ((b + 1).fmod 11) := rfl
    obtain ⟨q, hq, hq1, hq2⟩ := prime_at (k := (b + 1).fmod 11) (Int.fmod_nonneg_of_pos _ (by decide)) (Int.fmod_lt_of_pos _ (by decide))
    have e1' : L2.atI [D.int a, D.int (b + 1), D.int c] 1 = some (.int (b + 1)) := rfl
    have e0' : L2.atI [D.int a, D.int (b + 1), D.int c] 0 = some (.int a) := rfl
    have hq' : L2.atI [D.int 2147483647, D.int 2147483629, D.int 2147483587, D.int 2147483579, D.int 2147483563, D.int 2147483549, D.int 2147483543, D.int 2147483497, D.int 2147483489, D.int 2147483477, D.int 2147483423] ((b + 1).fmod 11) = some (.int q) := hq
    have sg0' : ∀ x, (st.set l (.lst [.int a, .int (b + 1), .int c]) ++ [x])[st.length]? = some x := fun x => by
      have := sg0 (st := st.set l (.lst [.int a, .int (b + 1), .int c])) (c := x) (r := [])
      rwa [List.length_set] at this
    simp! [hl2, e1, i1, la_lst (xs := [D.int 2147483647, D.int 2147483629, D.int 2147483587, D.int 2147483579, D.int 2147483563, D.int 2147483549, D.int 2147483543, D.int 2147483497]) rfl, hs2, hs, List.length_set, sg0', e1', e0', hq']
    have hf1 := Int.fmod_nonneg_of_pos a (b := q) (by omega)
    have hf2 := Int.fmod_lt_of_pos a (b := q) (by omega)
    refine ⟨by omega, by omega, by omega, by decide, by omega, ?_, ⟨by decide, by decide, by omega⟩, by omega, ⟨by decide, by decide⟩, by omega, okP_set rfl, ?_⟩
    · have h1 : (b + 1).natAbs.log2 < 500000 := log_lt (k := 32) (by omega) (by decide)
      have h2 : (Int.natAbs 7919).log2 = 12 := by decide
      omega
    · rw [rk_clean rfl]
      refine ⟨⟨_, rfl, hmod _⟩, a, b + 1, c, ?_, by omega, by omega⟩
      rw [take_set]; rfl
theorem rk_valc {s : Sto} {b : Nat} {a x y : Int} : rback s b (src a x y) = some (src a x y) := rk_val (xs := [.int a, .int x, .int y]) rfl
theorem k_source (n : Nat) {st : Sto} {l k : Nat} {ns : List Int} (hk : k < 8) (hns : ns.length <= 63) (h : st[l]? = some (.frl (zv ns))) :
    wp (call P (n + 1) F.zq12 [.ref l, .int k]) st (fun r s' => (∃ a b c, r = src a b c /\ 0 <= b /\ b <= 24) /\ s' = st) NX := by
  have hsl := sl_ge
  refine w_call (F := c_zq12) rfl rfl ?_
  unfold c_zq12
  simp! []
  refine ⟨by omega, ?_⟩
  rw [eq_nilF h]
  simp! [Option.map_some, truth]
  have h10 : (0 : Int) <= 18 /\ (18 : Int) <= 1000000 /\ (Int.natAbs 10) < 2 ^ 64 := by decide
  have h1018 : (10 : Int) ^ (Int.toNat 18) = 1000000000000000000 := by decide
  have hlog : (Int.natAbs 3).log2 + (Int.natAbs (k : Int)).log2 < 1000000 := by
    have h1 : (Int.natAbs (k : Int)).log2 < 500000 := log_lt (k := 10) (by omega) (by decide)
    have h2 : (Int.natAbs 3).log2 = 1 := by decide
    omega
  by_cases hn0 : ns = []
  · subst hn0
    simp! [List.isEmpty_nil, truth]
    refine ⟨hlog, h10, by omega, okP_self, ?_⟩
    have := rk_valc (s := st) (b := st.length) (a := 1) (x := 3 * (k : Int)) (y := 0)
    rw [src] at this
    rw [this]
    exact ⟨⟨1, 3 * (k : Int), 0, rfl, by omega, by omega⟩, by simp⟩
  · have hpos : 0 < ns.length := List.length_pos_iff.2 hn0
    have hz : (zv ns).length = ns.length := by simp
    have hm1 : 0 <= (k : Int).fmod (ns.length : Int) := Int.fmod_nonneg_of_pos _ (by omega)
    have hm2 : (k : Int).fmod (ns.length : Int) < (ns.length : Int) := Int.fmod_lt_of_pos _ (by omega)
    have hne : ns.isEmpty = false := by simpa using hn0
    rw [hne]
    simp! [h, leC_frl, hz, truth]
    refine ⟨by omega, ?_⟩
    generalize (k : Int).fmod (ns.length : Int) = j at *
    obtain ⟨i, rfl⟩ : ∃ i : Nat, j = (i : Int) := ⟨j.toNat, by omega⟩
    have hi : (zv ns)[i]? = some (.int (ns[i]'(by omega))) := by
      rw [List.getElem?_map, List.getElem?_eq_getElem (by omega)]; rfl
    simp! [atI_nat, hi]
    generalize ns[i] = a
    refine ⟨hlog, h10, ?_⟩
    rw [h1018]
    refine wb_of ?_ ?_
    · intro _
      refine ⟨h10, ⟨by decide, by decide⟩, by omega, okP_self, ?_⟩
      have := rk_valc (s := st) (b := st.length) (a := a) (x := 3 * (k : Int)) (y := a.fdiv 1000000000000000000)
      rw [src] at this
      rw [this]
      exact ⟨⟨a, 3 * (k : Int), _, rfl, by omega, by omega⟩, by simp⟩
    · intro _
      refine ⟨by omega, okP_self, ?_⟩
      have := rk_valc (s := st) (b := st.length) (a := a) (x := 3 * (k : Int)) (y := 0)
      rw [src] at this
      rw [this]
      exact ⟨⟨a, 3 * (k : Int), 0, rfl, by omega, by omega⟩, by simp⟩
end Fs
namespace Fs
open PySem
section
theorem k_count (n : Nat) {g : List (List Nat)} (hg : g.length <= sizeLine) (st : Sto) : wp (call P (n + 1) F.zq3 [.tup (tv g)]) st (fun r s' => r = .int (g.flatten.length : Nat) /\ s' = st) NX := by
  refine w_call (F := c_zq3) rfl rfl ?_
  unfold c_zq3
  simp! [la_tup tv_purs]
  refine w_lcm g _ (fun r => .int (r.length : Nat)) hg ?_ ?_
  · intro r _
    simp! [la_tup nv_purs, nv_len]
  · simp! [lInt_lst, optL_len, sum_len]
    rw [rk_clean rfl]
    exact ⟨okP_self, rfl, by simp⟩
theorem k_isidx (n : Nat) {d m : Nat} (h : d < m) (st : Sto) : wp (call P (n + 1) F.zq0 [.int d, .int m]) st (fun r s' => r = .bl true /\ s' = st) NX := by
  refine w_call (F := c_zq0) rfl rfl ?_
  unfold c_zq0
  have h1 : decide ((0 : Int) <= (d : Int)) = true := by simp
  have h2 : decide ((d : Int) < (m : Int)) = true := by simp; exact h
  simp! [truth, h1, h2]
  refine ⟨okP_self, ?_⟩
  rw [rk_clean rfl]
  exact ⟨rfl, by simp⟩
theorem k_fault (n : Nat) {g : List (List Nat)} {e : Nat} (h : Gr g e) (st : Sto) : wp (call P (n + 2) F.zq1 [.tup (tv g)]) st (fun r s' => r = .non /\ s' = st) NX := by
  have hsl := sl_ge
  have hn := h.n
  have he := h.e
  refine w_call (F := c_zq1) rfl rfl ?_
  unfold c_zq1
  simp! [la_tup tv_purs]
  have h1 : decide ((60 : Int) < ((tv g).length : Nat)) = false := by simp [tv_len]; omega
  simp! [truth, h1]
  refine w_lcm g _ (fun r => .bl true) (by omega) ?_ ?_
  · intro r _
    simp! [la_tup nv_purs]
  have h2 : (g.map fun _ => true).all id = true := by simp
  simp! [lBl_lst, optL_bl, h2, truth]
  refine w_lcm g _ (fun r => .int (r.length : Nat)) (by omega) ?_ ?_
  · intro r _
    simp! [la_tup nv_purs, nv_len]
  have h3 : decide ((2 : Int) * 120 < ((2 * e : Nat) : Int)) = false := by simp; omega
  have h4 : (((2 * e : Nat) : Int).fmod 2) = 0 := by rw [fmod2]; simp
  have h5 : (Int.natAbs 2).log2 + (Int.natAbs 120).log2 < 1000000 := by decide
  have h6 : eqD st (.int 0) (.int 1) = some false := rfl
  simp! [lInt_lst, optL_len, sum_len, h.len, h3, h4, h6, truth]
  refine ⟨h5, by decide, ?_⟩
  rw [rngL1 (by omega)]
  simp! []
  refine w_dcm (f := fun _ => .bl true) (List.range (2 * e)) _ List.nodup_range (fun _ => rfl) (by simp; omega) ?_ ?_
  · intro c _
    simp! []
    rw [kd_key]
    simp! []
  rw [la_dic (kd_pur fun _ => rfl)]
  simp! []
  refine w_forP g _ (fun pre σ s => (∃ a b, σ = [some (.tup (tv g)), a, some (.int (2 * e : Nat)), some (.ref st.length), b]) /\ ∃ t : List Nat, s = st ++ [.dic (kd (fun _ => .bl true) t)] /\ t.Nodup /\ ∀ d, d ∈ t ↔ d < 2 * e /\ d ∉ pre.flatten) ⟨⟨_, _, rfl⟩, _, rfl, List.nodup_range, by simp⟩ ?_ ?_
  · rintro pre r post σ s hgs ⟨⟨a, b, rfl⟩, t, rfl, ht, htd⟩
    simp! [la_tup nv_purs]
    refine w_forP r _ (fun pr σ s => (∃ b, σ = [some (.tup (tv g)), some (.tup (nv r)), some (.int (2 * e : Nat)), some (.ref st.length), b]) /\ ∃ t : List Nat, s = st ++ [.dic (kd (fun _ => .bl true) t)] /\ t.Nodup /\ ∀ d, d ∈ t ↔ d < 2 * e /\ d ∉ pre.flatten /\ d ∉ pr) ⟨⟨_, rfl⟩, t, rfl, ht, by simpa using htd⟩ ?_ ?_
    · rintro pr d po σ s hr ⟨⟨c, rfl⟩, t, rfl, ht, htd⟩
      have hdr : d ∈ r := by rw [hr]; simp
      have hd := h.lt hgs hdr
      have hnd := h.nd
      rw [hgs] at hnd
      simp only [List.flatten_append, List.flatten_cons] at hnd
      have hn1 := List.nodup_append.1 hnd
      have hdt : d ∈ t := by
        refine (htd d).2 ⟨hd, ?_, ?_⟩
        · intro hm
          exact hn1.2.2 d hm d (by simp [hdr]) rfl
        · have hn2 := (List.nodup_append.1 hn1.2.1).1
          rw [hr] at hn2
          have hn3 := (List.nodup_append.1 hn2).2.2
          intro hm
          exact hn3 d hm d (by simp) rfl
      simp! []
      refine wp_nx (k_isidx (n := n) hd _) ?_
      rintro d' s2 ⟨rfl, rfl⟩
      have hin : inD (st ++ [.dic (kd (fun _ => .bl true) t)]) (.int (d : Int)) (.ref st.length) = some true := by
        rw [kd_isIn (f := fun _ => .bl true) (L := t) sg0]
        simp [hdt]
      simp! [truth, hin, Option.map_some]
      rw [kd_key]
      simp! []
      rw [kd_get, if_pos hdt, kd_del]
      refine ⟨rfl, kd_ok, ?_⟩
      simp! []
      refine ⟨⟨_, rfl⟩, _, rfl, ht.erase d, ?_⟩
      intro x
      rw [ht.mem_erase_iff, htd]
      simp only [List.mem_append, List.mem_singleton]
      constructor
      · rintro ⟨h1, h2, h3, h4⟩
        exact ⟨h2, h3, fun q => q.elim h4 h1⟩
      · rintro ⟨h1, h2, h3⟩
        exact ⟨fun q => h3 (.inr q), h1, h2, fun q => h3 (.inl q)⟩
    · rintro σ s ⟨⟨c, rfl⟩, t, rfl, ht, htd⟩
      simp! []
      refine ⟨⟨_, _, rfl⟩, t, rfl, ht, ?_⟩
      intro x
      rw [htd]
      simp
  · rintro σ s ⟨⟨a, b, rfl⟩, t, rfl, ht, htd⟩
    simp! []
    refine ⟨okP_app, ?_⟩
    rw [rk_clean rfl]
    exact ⟨rfl, take0⟩
theorem k_check (n : Nat) {g : List (List Nat)} {e : Nat} (h : Gr g e) (st : Sto) : wp (call P (n + 3) F.zq2 [.tup (tv g)]) st (fun r s' => r = .non /\ s' = st) NX := by
  refine w_call (F := c_zq2) rfl rfl ?_
  unfold c_zq2
  simp! [la_tup tv_purs]
  refine wp_nx (k_fault (n := n) h st) ?_
  rintro d s' ⟨rfl, rfl⟩
  simp! [isD, isNon, Option.map_some, truth]
  exact ⟨okP_self, by simp⟩
end
end Fs
namespace Fs
open PySem
theorem k_mixed0 (n : Nat) {st X : Sto} {l : Nat} {N : Int} {L : List Nat} {d : D} (hN : N + L.length <= 2 ^ 30) (hL : L.length < 1000) (h : Sr st l N) (hd : seqv (st ++ X) d = some (nv L)) :
    wp (exL (P.tbl (n + 1)) c_zq14.body [some (.ref l), some d, none, none]) (st ++ X) (lv st (fun r s' => (∃ L', r = .lst (nv L') /\ L'.Perm L) /\ Up st s' l (N + L.length)) NX) NX := by
  have hsl := sl_ge
  have hll := h.lt
  unfold c_zq14
  simp! [hd, la_lst nv_purs]
  refine ⟨by omega, by omega, ?_⟩
  refine w_wh (fun k σ s => ∃ (R F : List Nat) (st2 : Sto), σ = [some (.ref l), some d, some (.ref (st.length + X.length)), some (.ref (st.length + X.length + 1))] /\ s = st2 ++ (X ++ [.lst (nv R), .lst (nv F)]) /\ Up st st2 l (N + F.length) /\ (F ++ R).Perm L /\ k = R.length) ?_ wfuel L.length _ _ ?_ (by rw [show wfuel = 1000000 from rfl]; omega)
  · rintro k σ s ⟨R, F, st2, rfl, rfl, hu, hp, rfl⟩
    have hlen := hu.len
    have hpl : F.length + R.length = L.length := by have := hp.length_eq; simpa using this
    rw [<- hlen]
    simp! []
    refine ⟨by omega, ?_⟩
    rw [eq_nil (W := R) tA]
    simp! [Option.map_some, truth]
    cases R with
    | nil =>
      simp! [List.isEmpty_nil]
      obtain ⟨a, b, c, rfl, h1, h2⟩ := hu
      rw [List.length_set] at *
      refine ⟨okP_set rfl, ?_⟩
      have hg : (st.set l (src a b c) ++ (X ++ [.lst (nv []), .lst (nv F)]))[st.length + X.length + 1]? = some (.lst (nv F)) := by
        have := tB (st := st.set l (src a b c)) (X := X) (a := .lst (nv [])) (b := .lst (nv F)) (r := [])
        rwa [List.length_set] at this
      rw [rk_set_lst (by omega) hg nv_clean, take_set]
      refine ⟨⟨F, rfl, by simpa using hp⟩, a, b, c, rfl, h1, ?_⟩
      simp at hpl
      omega
    | cons r0 R0 =>
      have hsr : Sr (st2 ++ (X ++ [.lst (nv (r0 :: R0)), .lst (nv F)])) l (N + F.length) := by
        obtain ⟨a, b, c, h0, h1, h2⟩ := hu.sr hll
        exact ⟨a, b, c, sgl h0, h1, h2⟩
      have hne : (r0 :: R0).isEmpty = false := rfl
      rw [hne]
      simp! [tA, tB, nv_len]
      rw [List.length_cons] at hpl
      refine ⟨by omega, rfl, ?_⟩
      refine wp_nx (k_next (n := n) (m := ((R0.length + 1 : Nat) : Int)) (by omega) (by omega) (by omega) hsr) ?_
      rintro y s3 ⟨⟨x, rfl, hx0, hx1⟩, a, b, c, rfl, hb0, hb1⟩
      have hst2 : ∃ c', st2[l]? = some c' := ⟨_, List.getElem?_eq_getElem (by omega)⟩
      obtain ⟨c', hc'⟩ := hst2
      rw [ssl hc']
      have hlen3 : (st2.set l (src a b c)).length = st2.length := by simp
      rw [<- hlen3]
      have hk : ((4 : Nat) == 5) = false := rfl
      simp! [tA, tB, hk, nv_len]
      refine ⟨by omega, ?_⟩
      rw [seqIdx hx0 hx1]
      simp! [nv_get]
      have hxl : x.toNat < (r0 :: R0).length := by rw [List.length_cons]; omega
      rw [List.getElem?_eq_getElem hxl]
      simp! [Option.map_some, tAs, nv_erase, tB, tBs, nv_len]
      rw [<- nv_one, <- nv_app]
      refine ⟨by omega, ((r0 :: R0).eraseIdx x.toNat).length, ?_, (r0 :: R0).eraseIdx x.toNat, F ++ [(r0 :: R0)[x.toNat]], st2.set l (src a b c), rfl, ?_, ?_, rfl⟩
      · rw [List.length_eraseIdx_of_lt hxl]; simp
      · refine hu.trans ⟨a, b, c, rfl, hb0, ?_⟩
        simp; omega
      · have h1 := erase_perm (List.getElem?_eq_getElem hxl)
        rw [List.append_assoc]
        exact (List.Perm.append_left F h1.symm).trans hp
  · refine ⟨L, [], st, rfl, rfl, ?_, by simp, rfl⟩
    simpa using h.up
theorem k_mixedL (n : Nat) {st : Sto} {l : Nat} {N : Int} {L : List Nat} (hN : N + L.length <= 2 ^ 30) (hL : L.length < 1000) (h : Sr st l N) :
    wp (call P (n + 2) F.zq14 [.ref l, .lst (nv L)]) st (fun r s' => (∃ L', r = .lst (nv L') /\ L'.Perm L) /\ Up st s' l (N + L.length)) NX := by
  refine w_call (F := c_zq14) rfl rfl ?_
  have e : lands [.ref l, .lst (nv L)] st = ([.ref l, .ref st.length], st ++ [.lst (nv L)]) := by
    simp only [lands, la_ref, la_lst nv_purs]
  rw [e]
  exact k_mixed0 n hN hL h (by simp only [seqv, sg0])
end Fs
namespace Fs
open PySem
def rg (n : Nat) (f : Nat -> D) : List D := (List.range n).map f
theorem rg_len {n : Nat} {f : Nat -> D} : (rg n f).length = n := by simp [rg]
theorem rg_get {n i : Nat} {f : Nat -> D} (h : i < n) : (rg n f)[i]? = some (f i) := by
  simp only [rg, List.getElem?_map, List.getElem?_range h, Option.map_some]
theorem rg_at {n i : Nat} {f : Nat -> D} (h : i < n) : L2.atI (rg n f) (i : Int) = some (f i) := by
  rw [atI_nat, rg_get h]
theorem rngL1' {b : Nat} (h : b <= 2 ^ 20) : rngL [.int (b : Nat)] = some ((List.range b).map fun i => .int ((i : Nat) : Int)) := rngL1 h
section
variable {T : Tbl} {σ : Env} {s : Sto} {E : D -> Sto -> Prop} {Q : D -> Sto -> Prop} {QF : Fl -> Sto -> Prop} {γ : Type}
theorem w_forPC {g : D -> Env -> M Env} {b : Env -> M Fl} {l : Nat} (L : List γ) (h : γ -> D) (I : List γ -> Env -> Sto -> Prop) (h0 : I [] σ s)
    (hc : ∀ p σ s, I p σ s -> s[l]? = some (.lst (L.map h)))
    (hb : ∀ pre c post σ s, L = pre ++ c :: post -> I pre σ s -> wp (g (h c) σ) s (fun σ1 s1 => wp (b σ1) s1 (tq (I (pre ++ [c])) QF) NX) NX)
    (hq : ∀ σ s, I L σ s -> QF (.nx σ) s) : wp (forLoop (.one (.cell l)) g b ((It.one (.cell l)).len s + 1) 0 σ) s QF E := by
  refine w_forAux (L.map h) (fun i σ s => i <= L.length /\ I (L.take i) σ s) ?_ ?_ ?_ _ 0 σ s ⟨Nat.zero_le _, by simpa using h0⟩ (Nat.zero_le _) ?_
  · rintro i σ s ⟨_, hI⟩
    simp only [It.next, Src.at, hc _ _ _ hI]
  · rintro i d σ s ⟨hi, hI⟩ e
    rw [List.getElem?_map] at e
    cases e2 : L[i]? with
    | none => rw [e2] at e; cases e
    | some c =>
      rw [e2] at e
      cases e
      have hi2 : i < L.length := (List.getElem?_eq_some_iff.1 e2).1
      have := hb (L.take i) c _ σ s (split_at e2) hI
      refine wp_nx this fun σ1 s1 h1 => wp_nx h1 fun f s2 h2 => ?_
      rw [<- take_snoc e2] at h2
      cases f <;> first
        | exact ⟨hi2, h2⟩
        | exact h2
  · rintro σ s ⟨_, hI⟩
    rw [List.length_map, List.take_length] at hI
    exact hq σ s hI
  · simp only [It.len, Src.len, hc _ _ _ h0, List.length_map]; omega
end
theorem okP_of : ∀ {st s2 : Sto} {b : Nat}, (∀ (l : Nat) (c : D), st[l]? = some c -> ∃ c', s2[l]? = some c' /\ (c = c' ∨ cellCl b c' = true)) -> okPre st s2 b = true
  | [], s2, b, _ => by cases s2 <;> rfl
  | c :: st, [], b, h => by
    obtain ⟨c', h1, _⟩ := h 0 c rfl
    simp at h1
  | c :: st, d :: s2, b, h => by
    have ih := okP_of (st := st) (s2 := s2) (b := b) fun l x hx => h (l + 1) x (by simpa using hx)
    obtain ⟨c', h1, h2⟩ := h 0 c rfl
    have : d = c' := by simpa using h1
    subst this
    simp only [okPre, ih, Bool.and_true, Bool.or_eq_true, decide_eq_true_eq]
    exact h2
structure Rws (s : Sto) (o : Nat) (p : Nat -> Nat) (m : Nat) (c : Nat -> List D) : Prop where
  top : s[o]? = some (.lst (rg m fun i => .ref (p i)))
  row : ∀ i, i < m -> s[p i]? = some (.lst (c i))
  inj : ∀ i j, i < m -> j < m -> p i = p j -> i = j
  off : ∀ i, i < m -> p i ≠ o
theorem Rws.congr {s s' : Sto} {o m : Nat} {p : Nat -> Nat} {c : Nat -> List D} (h : Rws s o p m c) (h1 : s'[o]? = s[o]?) (h2 : ∀ i, i < m -> s'[p i]? = s[p i]?) : Rws s' o p m c :=
  ⟨h1.trans h.top, fun i hi => (h2 i hi).trans (h.row i hi), h.inj, h.off⟩
theorem Rws.cg {s : Sto} {o m : Nat} {p : Nat -> Nat} {c c' : Nat -> List D} (h : Rws s o p m c) (h2 : ∀ i, i < m -> c i = c' i) : Rws s o p m c' :=
  ⟨h.top, fun i hi => by rw [h.row i hi, h2 i hi], h.inj, h.off⟩
theorem Rws.lt {s : Sto} {o m : Nat} {p : Nat -> Nat} {c : Nat -> List D} (h : Rws s o p m c) {i : Nat} (hi : i < m) : p i < s.length := (List.getElem?_eq_some_iff.1 (h.row i hi)).1
theorem Rws.olt {s : Sto} {o m : Nat} {p : Nat -> Nat} {c : Nat -> List D} (h : Rws s o p m c) : o < s.length := (List.getElem?_eq_some_iff.1 h.top).1
mutual
def D.fc : D -> Bool
  | .non | .bl _ | .int _ | .str _ => true
  | .tup xs => D.fcs xs
  | .lst xs => D.fcs xs
  | _ => false
def D.fcs : List D -> Bool
  | [] => true
  | x :: xs => D.fc x && D.fcs xs
end
mutual
theorem rb_fc {g : Nat -> List Nat -> Option (D × List Nat)} {b : Nat} : ∀ {d : D} {vis : List Nat}, d.fc = true -> rbD g b d vis = some (d, vis)
  | .non, vis, _ => by simp only [rbD]
  | .bl _, vis, _ => by simp only [rbD]
  | .int _, vis, _ => by simp only [rbD]
  | .str _, vis, _ => by simp only [rbD]
  | .tup xs, vis, h => by simp only [D.fc] at h; simp only [rbD, rbs_fc h]; rfl
  | .lst xs, vis, h => by simp only [D.fc] at h; simp only [rbD, rbs_fc h]; rfl
  | .ref _, vis, h => by simp [D.fc] at h
  | .frl _, vis, h => by simp [D.fc] at h
  | .dic _, vis, h => by simp [D.fc] at h
  | .set _, vis, h => by simp [D.fc] at h
  | .exc _ _, vis, h => by simp [D.fc] at h
  | .lam _ _, vis, h => by simp [D.fc] at h
theorem rbs_fc {g : Nat -> List Nat -> Option (D × List Nat)} {b : Nat} : ∀ {ds : List D} {vis : List Nat}, D.fcs ds = true -> rbDs g b ds vis = some (ds, vis)
  | [], vis, _ => by simp only [rbDs]
  | d :: ds, vis, h => by
    simp only [D.fcs, Bool.and_eq_true] at h
    simp only [rbDs, rb_fc h.1, Option.bind_some, rbs_fc h.2, Option.map_some]
end
theorem take_eq {st s2 : Sto} (hl : st.length <= s2.length) (h : ∀ l : Nat, l < st.length -> s2[l]? = st[l]?) : s2.take st.length = st := by
  refine List.ext_getElem? fun l => ?_
  rw [List.getElem?_take]
  by_cases hl2 : l < st.length
  · rw [if_pos hl2, h l hl2]
  · rw [if_neg hl2, List.getElem?_eq_none (by omega)]
theorem okP_eq {st s2 : Sto} {b : Nat} (h : ∀ l : Nat, l < st.length -> s2[l]? = st[l]?) : okPre st s2 b = true :=
  okP_of fun l c hc => ⟨c, (h l (List.getElem?_eq_some_iff.1 hc).1).trans hc, .inl rfl⟩
structure Sq (st s : Sto) (l : Nat) (N : Int) : Prop where
  lt : l < st.length
  le : st.length <= s.length
  up : Up st (s.take st.length) l N
theorem Sq.sr {st s : Sto} {l : Nat} {N : Int} (h : Sq st s l N) : Sr s l N := by
  obtain ⟨a, b, c, h1, h2, h3⟩ := h.up.sr h.lt
  refine ⟨a, b, c, ?_, h2, h3⟩
  rw [List.getElem?_take, if_pos h.lt] at h1
  exact h1
theorem Sq.start {st : Sto} {l : Nat} {N : Int} (h : Sr st l N) : Sq st st l N := ⟨h.lt, Nat.le_refl _, by rw [List.take_length]; exact h.up⟩
theorem Sq.next {st s s' : Sto} {l : Nat} {N M : Int} (h : Sq st s l N) (h2 : Up s s' l M) : Sq st s' l M := by
  obtain ⟨a, b, c, rfl, h3, h4⟩ := h2
  refine ⟨h.lt, by rw [List.length_set]; exact h.le, ?_⟩
  rw [List.take_set]
  obtain ⟨a', b', c', h5, _, _⟩ := h.up
  rw [h5, List.set_set]
  exact ⟨a, b, c, rfl, h3, h4⟩
theorem Sq.set {st s : Sto} {l q : Nat} {N : Int} {c : D} (h : Sq st s l N) (hq : st.length <= q) : Sq st (s.set q c) l N := by
  refine ⟨h.lt, by rw [List.length_set]; exact h.le, ?_⟩
  rw [List.take_set, List.set_eq_of_length_le (by rw [List.length_take]; omega)]
  exact h.up
theorem Sq.app {st s r : Sto} {l : Nat} {N : Int} (h : Sq st s l N) : Sq st (s ++ r) l N := by
  refine ⟨h.lt, by rw [List.length_append]; have := h.le; omega, ?_⟩
  rw [List.take_append_of_le_length h.le]
  exact h.up
theorem Sq.mono {st s : Sto} {l : Nat} {N M : Int} (h : Sq st s l N) (hM : N <= M) : Sq st s l M := ⟨h.lt, h.le, h.up.mono hM⟩
theorem Sq.fin {st s : Sto} {l : Nat} {N : Int} (h : Sq st s l N) : okPre st s st.length = true := by
  obtain ⟨a, b, c, h5, _, _⟩ := h.up
  refine okP_of fun i x hx => ?_
  have hi : i < st.length := (List.getElem?_eq_some_iff.1 hx).1
  have h6 : s[i]? = (st.set l (src a b c))[i]? := by
    rw [<- h5, List.getElem?_take, if_pos hi]
  by_cases hil : i = l
  · subst hil
    refine ⟨src a b c, ?_, .inr rfl⟩
    rw [h6]; simp [hi]
  · refine ⟨x, ?_, .inl rfl⟩
    rw [h6, List.getElem?_set_ne (fun q => hil q.symm)]
    exact hx
theorem Rws.set {s : Sto} {o m : Nat} {p : Nat -> Nat} {c : Nat -> List D} (h : Rws s o p m c) {i : Nat} (hi : i < m) (x : List D) : Rws (s.set (p i) (.lst x)) o p m fun j => if j = i then x else c j := by
  refine ⟨?_, fun j hj => ?_, h.inj, h.off⟩
  · rw [List.getElem?_set_ne (h.off i hi)]; exact h.top
  · by_cases hji : j = i
    · subst hji
      have := h.lt hi
      rw [if_pos rfl]
      simp [this]
    · rw [if_neg hji, List.getElem?_set_ne (fun q => hji (h.inj _ _ hi hj q).symm)]
      exact h.row j hj
theorem Rws.far {s : Sto} {o m l : Nat} {p : Nat -> Nat} {c : Nat -> List D} {x : D} (h : Rws s o p m c) (h1 : l ≠ o) (h2 : ∀ i, i < m -> l ≠ p i) : Rws (s.set l x) o p m c :=
  h.congr (List.getElem?_set_ne h1) fun i hi => List.getElem?_set_ne (h2 i hi)
theorem Rws.app {s r : Sto} {o m : Nat} {p : Nat -> Nat} {c : Nat -> List D} (h : Rws s o p m c) : Rws (s ++ r) o p m c :=
  h.congr (by rw [List.getElem?_append_left h.olt]) fun i hi => by rw [List.getElem?_append_left (h.lt hi)]
def On (st s : Sto) : Prop := st.length <= s.length /\ ∀ l : Nat, l < st.length -> s[l]? = st[l]?
theorem On.refl {st : Sto} : On st st := ⟨Nat.le_refl _, fun _ _ => rfl⟩
theorem On.app {st s r : Sto} (h : On st s) : On st (s ++ r) := ⟨by rw [List.length_append]; have := h.1; omega, fun l hl => by rw [List.getElem?_append_left (by have := h.1; omega), h.2 l hl]⟩
theorem On.set {st s : Sto} {q : Nat} {c : D} (h : On st s) (hq : st.length <= q) : On st (s.set q c) := ⟨by rw [List.length_set]; exact h.1, fun l hl => by rw [List.getElem?_set_ne (by omega), h.2 l hl]⟩
theorem On.fin {st s : Sto} (h : On st s) : okPre st s st.length = true := okP_eq h.2
theorem On.take {st s : Sto} (h : On st s) : s.take st.length = st := take_eq h.1 h.2
theorem On.up {st s s' : Sto} {l : Nat} {N : Int} (h : On st s) (hl : st.length <= l) (hu : Up s s' l N) : On st s' := by
  obtain ⟨a, b, c, rfl, _, _⟩ := hu
  exact h.set hl
theorem Sr.app {s r : Sto} {l : Nat} {N : Int} (h : Sr s l N) : Sr (s ++ r) l N := by
  obtain ⟨a, b, c, h0, h1, h2⟩ := h
  exact ⟨a, b, c, sgl h0, h1, h2⟩
section
variable {T : Tbl} {σ : Env} {s : Sto} {E : D -> Sto -> Prop} {Q : D -> Sto -> Prop} {QF : Fl -> Sto -> Prop} {γ : Type}
theorem w_forPEC {g : D -> Env -> M Env} {b : Env -> M Fl} {l : Nat} (L : List γ) (h : γ -> D) (I : List γ -> Env -> Sto -> Prop) (h0 : I [] σ s)
    (hc : ∀ p σ s, I p σ s -> s[l]? = some (.lst (L.map h)))
    (hb : ∀ pre c post σ s, L = pre ++ c :: post -> I pre σ s -> wp (g (.tup [.int (pre.length : Nat), h c]) σ) s (fun σ1 s1 => wp (b σ1) s1 (tq (I (pre ++ [c])) QF) NX) NX)
    (hq : ∀ σ s, I L σ s -> QF (.nx σ) s) : wp (forLoop (.enum 0 (.cell l)) g b ((It.enum 0 (.cell l)).len s + 1) 0 σ) s QF E := by
  refine w_forAux (numb 0 (L.map h)) (fun i σ s => i <= L.length /\ I (L.take i) σ s) ?_ ?_ ?_ _ 0 σ s ⟨Nat.zero_le _, by simpa using h0⟩ (Nat.zero_le _) ?_
  · rintro i σ s ⟨hi, hI⟩
    have hcc := hc _ _ _ hI
    have h1 := enum_next (k := 0) (xs := L.map h) (i := i) (s := s) (by simpa using hi)
    rw [<- h1]
    simp only [It.next, Src.at, Src.len, hcc]
    cases (L.map h)[i]? <;> rfl
  · rintro i d σ s ⟨hi, hI⟩ e
    rw [numb_get, List.getElem?_map] at e
    cases e2 : L[i]? with
    | none => rw [e2] at e; cases e
    | some c =>
      rw [e2] at e
      cases e
      have hi2 : i < L.length := (List.getElem?_eq_some_iff.1 e2).1
      have := hb (L.take i) c _ σ s (split_at e2) hI
      rw [List.length_take, Nat.min_eq_left (Nat.le_of_lt hi2)] at this
      rw [Int.zero_add]
      refine wp_nx this fun σ1 s1 h1 => wp_nx h1 fun f s2 h2 => ?_
      rw [<- take_snoc e2] at h2
      cases f <;> first
        | exact ⟨hi2, h2⟩
        | exact h2
  · rintro σ s ⟨_, hI⟩
    rw [numb_len, List.length_map, List.take_length] at hI
    exact hq σ s hI
  · rw [numb_len]
    have hcc := hc _ _ _ h0
    simp only [It.len, Src.len, hcc, List.length_map]; omega
theorem b_addLL {xs ys : List D} : wp (binD .add (.lst xs) (.lst ys)) s Q E = (xs.length + ys.length <= sizeLine /\ Q (.lst (xs ++ ys)) s) := by
  by_cases h : xs.length + ys.length <= sizeLine
  · simp only [wp_def, binD, lstv_lst, if_pos h]
    exact propext ⟨fun q => ⟨h, q⟩, fun q => q.2⟩
  · simp only [wp_def, binD, lstv_lst, if_neg h]
    exact propext ⟨False.elim, fun q => h q.1⟩
theorem sl_ref {l : Nat} {lo hi : Option Int} : wp (slcD (.ref l) lo hi) s Q E = og (lpC s[l]?) (fun xs => Q (.lst (cutD xs lo hi)) s) := by
  simp only [wp_def, slcD, lstv_ref]
  cases lpC s[l]? <;> rfl
end
theorem in_ref {s : Sto} {v l : Nat} {S : List Nat} (h : s[l]? = some (.lst (nv S))) : inD s (.int (v : Nat)) (.ref l) = some (decide (v ∈ S)) := by
  have h1 : toP false s 66 (.int (v : Nat)) = some (.int (v : Int)) := rfl
  have h2 : optL (toP false s 65) (nv S) = some (pn S) := toP_nv (k := 64)
  have h3 : SeqAt.shaped (.int (v : Int)) = true := by simp [SeqAt.shaped, PyData.canLay0, PyData.depth]
  have h4 : SeqAt.shaped (.list (pn S)) = true := by
    have hd := pn_depth S
    have hd2 : PyData.depth (.list (pn S)) <= 64 := by simp only [PyData.depth]; omega
    simp [SeqAt.shaped, PyData.canLay0, pn_lay, hd2]
  have h5 : inD s (.int (v : Nat)) (.ref l) = some ((pn S).any fun z => PyData.eqv z (.int (v : Int))) := by
    simp only [inD, dicv, seqv, h, h1, h2]
    rw [if_pos ⟨h3, h4⟩]
  rw [h5]
  congr 1
  clear h1 h2 h3 h4 h5 h
  induction S with
  | nil => rfl
  | cons a S ih =>
    rw [pn_cons, List.any_cons, ih]
    have e : PyData.eqv (.int (a : Int)) (.int (v : Int)) = decide (a = v) := by
      simp only [PyData.eqv]
      by_cases h : a = v
      · subst h; simp
      · have : ((a : Int) == (v : Int)) = false := by
          rw [beq_eq_false_iff_ne]; omega
        rw [this, decide_eq_false h]
    rw [e]
    by_cases h : a = v
    · subst h; simp
    · have h2 : v ≠ a := fun q => h q.symm
      simp [h, h2]
theorem nv_flat {S : List Nat} : (nv S).all flatD = true := by
  simp [nv, flatD]
theorem in_tup {s : Sto} {v : Nat} {S : List Nat} : inD s (.int (v : Nat)) (.tup (nv S)) = some (decide (v ∈ S)) := by
  have h1 : inD s (.int (v : Nat)) (.tup (nv S)) = if flatD (.int (v : Nat)) = true /\ (nv S).all flatD = true then some ((nv S).any fun z => eqF z (.int (v : Nat))) else none := by
    simp only [inD, dicv]
  rw [h1, if_pos ⟨rfl, nv_flat⟩]
  clear h1
  congr 1
  simp only [nv, List.any_map]
  induction S with
  | nil => rfl
  | cons a S ih =>
    rw [List.any_cons, ih]
    have e : eqF (.int (a : Nat)) (.int (v : Nat)) = decide ((a : Nat) = v) := by
      simp only [eqF]
      by_cases h : a = v
      · subst h; simp
      · have : ((a : Int) == (v : Int)) = false := by
          rw [beq_eq_false_iff_ne]; omega
        rw [this, decide_eq_false h]
    show (eqF (.int (a : Nat)) (.int (v : Nat)) || decide (v ∈ S)) = _
    rw [e]
    by_cases h : a = v
    · subst h; simp
    · have h2 : v ≠ a := fun q => h q.symm
      simp [h, h2]
end Fs
namespace Fs
open PySem
section
inductive Cx (R : Nat -> Nat -> Prop) : Nat -> Nat -> Prop where
  | refl (u : Nat) : Cx R u u
  | fwd {u v w : Nat} : Cx R u v -> R v w -> Cx R u w
  | bwd {u v w : Nat} : Cx R u v -> R w v -> Cx R u w
end
section
variable {R : Nat -> Nat -> Prop}
theorem Cx.trans {u v w : Nat} (h : Cx R u v) (h2 : Cx R v w) : Cx R u w := by
  induction h2 with
  | refl => exact h
  | fwd _ r ih => exact .fwd ih r
  | bwd _ r ih => exact .bwd ih r
theorem Cx.symm {u v : Nat} (h : Cx R u v) : Cx R v u := by
  induction h with
  | refl => exact .refl _
  | fwd _ r ih => exact (Cx.bwd (.refl _) r).trans ih
  | bwd _ r ih => exact (Cx.fwd (.refl _) r).trans ih
end
section
open Classical in
noncomputable def cls (R : Nat -> Nat -> Prop) (n m : Nat) : List Nat := (List.range n).filter fun v => decide (Cx R m v)
theorem k_opp (n : Nat) (d : Nat) (st : Sto) : wp (call P (n + 1) F.zq5 [.int d]) st (fun r s' => r = .int (opp d : Nat) /\ s' = st) NX := by
  refine w_call (F := c_zq5) rfl rfl ?_
  unfold c_zq5
  simp! []
  refine ⟨by decide, ?_, okP_self, ?_⟩
  · have h1 : (d : Int).fmod 2 = 0 ∨ (d : Int).fmod 2 = 1 := by rw [fmod2]; omega
    rcases h1 with h1 | h1 <;> rw [h1] <;> decide
  · rw [rk_clean rfl, opp_int]
    exact ⟨rfl, by simp⟩
end
section
variable {st J r : Sto} {a b c p w x : D}
end
section
end
end Fs
namespace Fs
open PySem
section
variable {T : Tbl} {σ : Env} {s : Sto} {E : D -> Sto -> Prop} {Q : D -> Sto -> Prop} {QF : Fl -> Sto -> Prop} {γ : Type}
theorem me_upd {o d : D} : meD .update o [d] = mUpdate o d := rfl
theorem kd_puts {f : Nat -> D} : ∀ {M L : List Nat}, M.Nodup -> (∀ k, k ∈ M -> k ∉ L) -> (kd f M).foldl (fun a p => dput p.1 p.2 a) (kd f L) = kd f (L ++ M)
  | [], L, _, _ => by simp [kd]
  | a :: M, L, nd, h => by
    obtain ⟨n1, n2⟩ := List.nodup_cons.1 nd
    show (kd f M).foldl (fun a p => dput p.1 p.2 a) (dput (ik a) (f a) (kd f L)) = _
    rw [kd_put (h a (by simp)), kd_puts n2 fun k hk z => ?_]
    · simp
    · rcases List.mem_append.1 z with z | z
      · exact h k (List.mem_cons_of_mem _ hk) z
      · have : k = a := by simpa using z
        exact n1 (this ▸ hk)
theorem m_upd {l : Nat} {f : Nat -> D} {L M : List Nat} (h : s[l]? = some (.dic (kd f L))) (hM : M ≠ []) (hn : M.Nodup) (hd : ∀ k, k ∈ M -> k ∉ L) (hp : ∀ k, (f k).pur = true) (hz : L.length + M.length <= sizeLine) :
    wp (mUpdate (.ref l) (.dic (kd f M))) s Q E = Q .non (s.set l (.dic (kd f (L ++ M)))) := by
  rw [wp_def]
  have e : mUpdate (.ref l) (.dic (kd f M)) s = .ok .non (s.set l (.dic (kd f (L ++ M)))) := by
    simp only [mUpdate, dcell, h, frD, opt, gd]
    have e1 : (!(kd f M).isEmpty) = true := by cases M with
      | nil => exact absurd rfl hM
      | cons a M => rfl
    have e2 : ((kd f M).all fun p => D.pur p.2 && (kyK p.1 && okKeys p.1 (kd f L))) = true := by
      rw [List.all_eq_true]
      intro p hp2
      obtain ⟨a, ha, rfl⟩ := List.mem_map.1 hp2
      show (D.pur (f a) && (kyK (ik a) && okKeys (ik a) (kd f L))) = true
      rw [hp a, kd_ok]; rfl
    rw [e1, e2, kd_len, kd_len, decide_eq_true hz, kd_puts hn hd]
    simp
  rw [e]; exact propext Iff.rfl
end
end Fs
namespace Cy
variable {f : Nat -> Nat}
def fi (f : Nat -> Nat) : Nat -> Nat -> Nat
  | 0, s => s
  | k + 1, s => f (fi f k s)
def it (f : Nat -> Nat) (s k : Nat) : List Nat := (List.range k).map fun i => fi f i s
theorem it_len {s k : Nat} : (it f s k).length = k := by simp [it]
theorem it_zero {s : Nat} : it f s 0 = [] := rfl
theorem it_succ {s k : Nat} : it f s (k + 1) = it f s k ++ [fi f k s] := by simp [it, List.range_succ]
theorem it_mem {s k x : Nat} : x ∈ it f s k ↔ ∃ i, i < k /\ fi f i s = x := by simp [it]
theorem it_get {s k i : Nat} (h : i < k) : (it f s k)[i]? = some (fi f i s) := by simp [it, h]
theorem fi_add {s : Nat} : ∀ {a b : Nat}, fi f (a + b) s = fi f a (fi f b s)
  | 0, b => by simp [fi]
  | a + 1, b => by
    have : a + 1 + b = (a + b) + 1 := by omega
    rw [this]
    simp only [fi, fi_add (a := a)]
def Cyc (f : Nat -> Nat) (w : List Nat) : Prop := ∃ s k, 0 < k /\ w = it f s k /\ fi f k s = s /\ w.Nodup
structure Tu (f : Nat -> Nat) (N : Nat) : Prop where
  lt : ∀ x, x < N -> f x < N
  inj : ∀ x y, x < N -> y < N -> f x = f y -> x = y
def Cl (f : Nat -> Nat) (N : Nat) (S : List Nat) : Prop := ∀ x, x < N -> (f x ∈ S ↔ x ∈ S)
variable {N : Nat}
theorem Tu.fi (h : Tu f N) {s : Nat} (hs : s < N) : ∀ k, fi f k s < N
  | 0 => hs
  | k + 1 => h.lt _ (Tu.fi h hs k)
theorem Cl.fi {S : List Nat} (h : Tu f N) (c : Cl f N S) {s : Nat} (hs : s < N) (hn : s ∉ S) : ∀ k, Cy.fi f k s ∉ S
  | 0 => hn
  | k + 1 => fun z => Cl.fi h c hs hn k ((c _ (h.fi hs k)).1 z)
theorem it_inj {s k i j : Nat} (nd : (it f s k).Nodup) (hi : i < k) (hj : j < k) (e : fi f i s = fi f j s) : i = j := by
  have h1 := it_get (f := f) (s := s) hi
  have h2 := it_get (f := f) (s := s) hj
  rw [e] at h1
  exact (List.getElem?_inj (by rw [it_len]; exact hi) nd).1 (h1.trans h2.symm)
theorem stop {S : List Nat} (h : Tu f N) (c : Cl f N S) {s k : Nat} (hs : s < N) (hn : s ∉ S) (nd : (it f s k).Nodup) (z : fi f k s ∈ S ++ it f s k) : 0 < k /\ fi f k s = s := by
  rcases List.mem_append.1 z with z | z
  · exact absurd z (c.fi h hs hn k)
  · obtain ⟨j, hj, e⟩ := it_mem.1 z
    refine ⟨by omega, ?_⟩
    cases j with
    | zero => exact e.symm
    | succ j =>
      obtain ⟨k', rfl⟩ : ∃ k', k = k' + 1 := ⟨k - 1, by omega⟩
      have e2 : fi f j s = fi f k' s := h.inj _ _ (h.fi hs j) (h.fi hs k') e
      have := it_inj nd (by omega) (by omega) e2
      omega
theorem go {S : List Nat} {s k : Nat} (nd : (it f s k).Nodup) (z : fi f k s ∉ S ++ it f s k) : (it f s (k + 1)).Nodup := by
  rw [it_succ]
  refine List.nodup_append.2 ⟨nd, by simp, ?_⟩
  intro a ha b hb e
  rw [List.mem_singleton] at hb
  subst hb; subst e
  exact z (List.mem_append_right _ ha)
theorem sub_len : ∀ {L M : List Nat}, L.Nodup -> (∀ x, x ∈ L -> x ∈ M) -> L.length <= M.length
  | [], M, _, _ => Nat.zero_le _
  | a :: L, M, nd, h => by
    obtain ⟨nd1, nd2⟩ := List.nodup_cons.1 nd
    have ha := h a (List.mem_cons_self ..)
    have h2 := sub_len (L := L) (M := M.erase a) nd2 fun x hx => (List.mem_erase_of_ne (fun (e : x = a) => nd1 (e ▸ hx))).2 (h x (List.mem_cons_of_mem _ hx))
    rw [List.length_erase_of_mem ha] at h2
    have : 0 < M.length := List.length_pos_of_mem ha
    simp only [List.length_cons]; omega
theorem it_bound (h : Tu f N) {s k : Nat} (hs : s < N) (nd : (it f s k).Nodup) : k <= N := by
  have := sub_len (M := List.range N) nd fun x hx => by
    obtain ⟨i, _, rfl⟩ := it_mem.1 hx
    exact List.mem_range.2 (h.fi hs i)
  rw [it_len, List.length_range] at this
  exact this
theorem closed {S : List Nat} (h : Tu f N) (c : Cl f N S) {s k : Nat} (hs : s < N) (hk : 0 < k) (e : fi f k s = s) : Cl f N (S ++ it f s k) := by
  intro x hx
  constructor
  · intro z
    rcases List.mem_append.1 z with z | z
    · exact List.mem_append_left _ ((c x hx).1 z)
    · refine List.mem_append_right _ ?_
      obtain ⟨j, hj, e2⟩ := it_mem.1 z
      cases j with
      | zero =>
        obtain ⟨k', rfl⟩ : ∃ k', k = k' + 1 := ⟨k - 1, by omega⟩
        have e3 : f (fi f k' s) = f x := Eq.trans e (Eq.trans rfl e2)
        exact it_mem.2 ⟨k', by omega, h.inj _ _ (h.fi hs k') hx e3⟩
      | succ j => exact it_mem.2 ⟨j, by omega, h.inj _ _ (h.fi hs j) hx e2⟩
  · intro z
    rcases List.mem_append.1 z with z | z
    · exact List.mem_append_left _ ((c x hx).2 z)
    · refine List.mem_append_right _ ?_
      obtain ⟨j, hj, rfl⟩ := it_mem.1 z
      by_cases hjk : j + 1 < k
      · exact it_mem.2 ⟨j + 1, hjk, rfl⟩
      · have : j + 1 = k := by omega
        refine it_mem.2 ⟨0, hk, ?_⟩
        have e2 : f (fi f j s) = fi f (j + 1) s := rfl
        rw [e2, this, e]; rfl
theorem disj {S : List Nat} (h : Tu f N) (c : Cl f N S) {s k : Nat} (hs : s < N) (hn : s ∉ S) (nd : (it f s k).Nodup) (ns : S.Nodup) : (S ++ it f s k).Nodup := by
  refine List.nodup_append.2 ⟨ns, nd, ?_⟩
  intro a ha b hb e
  subst e
  obtain ⟨j, _, rfl⟩ := it_mem.1 hb
  exact c.fi h hs hn j ha
inductive FW (f : Nat -> Nat) : List (List Nat) -> Nat -> Prop
  | zero : FW f [] 0
  | seen {W : List (List Nat)} {n : Nat} : FW f W n -> n ∈ W.flatten -> FW f W (n + 1)
  | next {W : List (List Nat)} {n k : Nat} : FW f W n -> n ∉ W.flatten -> 0 < k -> fi f k n = n -> (it f n k).Nodup -> FW f (W ++ [it f n k]) (n + 1)
theorem per_uniq {s k j : Nat} (hk : 0 < k) (hj : 0 < j) (ek : fi f k s = s) (ej : fi f j s = s) (nk : (it f s k).Nodup) (nj : (it f s j).Nodup) : k = j := by
  rcases Nat.lt_trichotomy k j with h | h | h
  · have := it_inj (i := k) (j := 0) nj h hj ek
    omega
  · exact h
  · have := it_inj (i := j) (j := 0) nk h hk ej
    omega
theorem FW.uniq : ∀ {n : Nat} {W W' : List (List Nat)}, FW f W n -> FW f W' n -> W = W'
  | 0, _, _, .zero, .zero => rfl
  | n + 1, _, _, .seen h1 m1, .seen h2 m2 => h1.uniq h2
  | n + 1, _, _, .seen h1 m1, .next h2 m2 _ _ _ => by have := h1.uniq h2; subst this; exact absurd m1 m2
  | n + 1, _, _, .next h1 m1 _ _ _, .seen h2 m2 => by have := h1.uniq h2; subst this; exact absurd m2 m1
  | n + 1, _, _, .next h1 m1 k1 e1 n1, .next h2 m2 k2 e2 n2 => by
    have := h1.uniq h2
    subst this
    rw [per_uniq k1 k2 e1 e2 n1 n2]
structure Fc (f : Nat -> Nat) (N : Nat) (W : List (List Nat)) (n : Nat) : Prop where
  cyc : ∀ w, w ∈ W -> Cyc f w
  cl : Cl f N W.flatten
  nd : W.flatten.Nodup
  lt : ∀ x, x ∈ W.flatten -> x < N
  all : ∀ x, x < n -> x ∈ W.flatten
  fw : FW f W n
theorem Fc.zero : Fc f N [] 0 := ⟨by simp, fun x _ => by simp, by simp, by simp, by simp, .zero⟩
theorem Fc.seen {W : List (List Nat)} {n : Nat} (h : Fc f N W n) (hn : n ∈ W.flatten) : Fc f N W (n + 1) :=
  ⟨h.cyc, h.cl, h.nd, h.lt, fun x hx => by
    by_cases e : x = n
    · rw [e]; exact hn
    · exact h.all x (by omega), h.fw.seen hn⟩
theorem Fc.next {W : List (List Nat)} {n k : Nat} (t : Tu f N) (h : Fc f N W n) (hN : n < N) (hn : n ∉ W.flatten) (hk : 0 < k) (e : fi f k n = n) (nd : (it f n k).Nodup) : Fc f N (W ++ [it f n k]) (n + 1) := by
  have hf : (W ++ [it f n k]).flatten = W.flatten ++ it f n k := by simp
  refine ⟨fun w hw => ?_, ?_, ?_, fun x hx => ?_, fun x hx => ?_, h.fw.next hn hk e nd⟩
  · rcases List.mem_append.1 hw with hw | hw
    · exact h.cyc w hw
    · rw [List.mem_singleton] at hw
      exact ⟨n, k, hk, hw, e, by rw [hw]; exact nd⟩
  · rw [hf]; exact closed t h.cl hN hk e
  · rw [hf]; exact disj t h.cl hN hn nd h.nd
  · rw [hf] at hx
    rcases List.mem_append.1 hx with hx | hx
    · exact h.lt x hx
    · obtain ⟨j, _, rfl⟩ := it_mem.1 hx
      exact t.fi hN j
  · rw [hf]
    by_cases e2 : x = n
    · subst e2
      exact List.mem_append_right _ (it_mem.2 ⟨0, hk, rfl⟩)
    · exact List.mem_append_left _ (h.all x (by omega))
theorem Cyc.ne {w : List Nat} (h : Cyc f w) : w ≠ [] := by
  obtain ⟨s, k, hk, rfl, _, _⟩ := h
  intro e
  have := congrArg List.length e
  rw [it_len] at this
  simp at this; omega
end Cy
namespace Fs
open PySem Cy
def nx (r : List Nat) (d : Nat) : Nat := r.getD ((r.idxOf d + 1) % r.length) 0
def rowOf (B : List (List Nat)) (d : Nat) : List Nat := B.getD (tailOf B d) []
def phi (B : List (List Nat)) (e : Nat) : Nat := nx (rowOf B (opp e)) (opp e)
def Dr (B : List (List Nat)) (m : Nat) : Prop := B.flatten.Perm (List.range (2 * m))
theorem Dr.nd {B : List (List Nat)} {m : Nat} (h : Dr B m) : B.flatten.Nodup := (h.nodup_iff).2 List.nodup_range
theorem Dr.mem {B : List (List Nat)} {m d : Nat} (h : Dr B m) : d ∈ B.flatten ↔ d < 2 * m := by rw [h.mem_iff, List.mem_range]
theorem Dr.len {B : List (List Nat)} {m : Nat} (h : Dr B m) : B.flatten.length = 2 * m := by rw [h.length_eq, List.length_range]
theorem flat_split {B : List (List Nat)} {d : Nat} (h : d ∈ B.flatten) : ∃ pre r post, B = pre ++ r :: post /\ d ∈ r := by
  obtain ⟨r, hr, hd⟩ := List.mem_flatten.1 h
  obtain ⟨pre, post, e⟩ := List.append_of_mem hr
  exact ⟨pre, r, post, e, hd⟩
theorem row_nd {pre post : List (List Nat)} {r : List Nat} (h : (pre ++ r :: post).flatten.Nodup) : r.Nodup := by
  rw [List.flatten_append, List.flatten_cons] at h
  exact (List.nodup_append.1 (List.nodup_append.1 h).2.1).1
theorem row_at {pre post : List (List Nat)} {r : List Nat} {d : Nat} (h : (pre ++ r :: post).flatten.Nodup) (hd : d ∈ r) : rowOf (pre ++ r :: post) d = r := by
  unfold rowOf
  rw [tail_at hd h, List.getD_eq_getElem?_getD, List.getElem?_append_right (Nat.le_refl _), Nat.sub_self]
  rfl
theorem phi_at {pre post : List (List Nat)} {r : List Nat} {d : Nat} (h : (pre ++ r :: post).flatten.Nodup) (hd : d ∈ r) : phi (pre ++ r :: post) (opp d) = nx r d := by
  unfold phi
  rw [opp_opp, row_at h hd]
theorem nx_get {r : List Nat} {i d : Nat} (nd : r.Nodup) (h : r[i]? = some d) : r[(i + 1) % r.length]? = some (nx r d) := by
  obtain ⟨hi, hd⟩ := List.getElem?_eq_some_iff.1 h
  have e : r.idxOf d = i := by
    have h2 : r.idxOf d < r.length := List.idxOf_lt_length_of_mem (by rw [<- hd]; exact List.getElem_mem _)
    have h3 : r[r.idxOf d]? = some d := by rw [List.getElem?_eq_getElem h2, List.getElem_idxOf]
    exact (List.getElem?_inj h2 nd).1 (h3.trans h.symm)
  have hl : (i + 1) % r.length < r.length := Nat.mod_lt _ (by omega)
  unfold nx
  rw [e, List.getD_eq_getElem?_getD, List.getElem?_eq_getElem hl]
  rfl
theorem nx_mem {r : List Nat} {d : Nat} (nd : r.Nodup) (h : d ∈ r) : nx r d ∈ r := by
  obtain ⟨i, hi⟩ := List.mem_iff_getElem?.1 h
  exact List.mem_iff_getElem?.2 ⟨_, nx_get nd hi⟩
theorem mod_inj {n i j : Nat} (hi : i < n) (hj : j < n) (h : (i + 1) % n = (j + 1) % n) : i = j := by
  rcases Nat.lt_or_ge (i + 1) n with h1 | h1 <;> rcases Nat.lt_or_ge (j + 1) n with h2 | h2
  · rw [Nat.mod_eq_of_lt h1, Nat.mod_eq_of_lt h2] at h; omega
  · have : j + 1 = n := by omega
    rw [Nat.mod_eq_of_lt h1, this, Nat.mod_self] at h; omega
  · have : i + 1 = n := by omega
    rw [Nat.mod_eq_of_lt h2, this, Nat.mod_self] at h; omega
  · omega
theorem nx_inj {r : List Nat} {d e : Nat} (nd : r.Nodup) (hd : d ∈ r) (he : e ∈ r) (h : nx r d = nx r e) : d = e := by
  obtain ⟨i, hi⟩ := List.mem_iff_getElem?.1 hd
  obtain ⟨j, hj⟩ := List.mem_iff_getElem?.1 he
  have h1 := nx_get nd hi
  have h2 := nx_get nd hj
  rw [h] at h1
  have hil := (List.getElem?_eq_some_iff.1 hi).1
  have hjl := (List.getElem?_eq_some_iff.1 hj).1
  have e1 : (i + 1) % r.length = (j + 1) % r.length := (List.getElem?_inj (Nat.mod_lt _ (by omega)) nd).1 (h1.trans h2.symm)
  have := mod_inj hil hjl e1
  subst this
  rw [hi] at hj
  exact Option.some.inj hj
theorem same_row {B : List (List Nat)} {x : Nat} (nd : B.flatten.Nodup) {pre post pre2 post2 : List (List Nat)} {r r2 : List Nat} (h : B = pre ++ r :: post) (h2 : B = pre2 ++ r2 :: post2) (hx : x ∈ r) (hx2 : x ∈ r2) : r = r2 := by
  have e1 : rowOf B x = r := by rw [h]; exact row_at (h ▸ nd) hx
  have e2 : rowOf B x = r2 := by rw [h2]; exact row_at (h2 ▸ nd) hx2
  exact e1.symm.trans e2
theorem Dr.tu {B : List (List Nat)} {m : Nat} (h : Dr B m) : Tu (phi B) (2 * m) := by
  have key : ∀ x, x < 2 * m -> ∃ pre r post, B = pre ++ r :: post /\ opp x ∈ r /\ phi B x = nx r (opp x) := by
    intro x hx
    obtain ⟨pre, r, post, e, hd⟩ := flat_split ((h.mem).2 (opp_lt hx))
    refine ⟨pre, r, post, e, hd, ?_⟩
    have := phi_at (e ▸ h.nd) hd
    rw [opp_opp, <- e] at this
    exact this
  have ndr : ∀ {pre r post}, B = pre ++ r :: post -> r.Nodup := fun e => row_nd (e ▸ h.nd)
  refine ⟨fun x hx => ?_, fun x y hx hy e => ?_⟩
  · obtain ⟨pre, r, post, e, hd, e2⟩ := key x hx
    rw [e2, <- h.mem, e]
    simp only [List.flatten_append, List.flatten_cons, List.mem_append]
    exact .inr (.inl (nx_mem (ndr e) hd))
  · obtain ⟨pre, r, post, e1, hd1, p1⟩ := key x hx
    obtain ⟨pre2, r2, post2, e2, hd2, p2⟩ := key y hy
    rw [p1, p2] at e
    have m1 := nx_mem (ndr e1) hd1
    have m2 := nx_mem (ndr e2) hd2
    rw [e] at m1
    have := same_row h.nd e1 e2 m1 m2
    subst this
    have h3 := nx_inj (ndr e1) hd1 hd2 e
    have h4 := congrArg opp h3
    rw [opp_opp, opp_opp] at h4
    exact h4
def ib (r : List Nat) (d c : Nat) : List Nat := r.take (r.idxOf c) ++ d :: r.drop (r.idxOf c)
def put (B : List (List Nat)) (d c : Nat) : List (List Nat) := B.set (tailOf B c) (ib (rowOf B c) d c)
theorem ib_perm {r : List Nat} {d c : Nat} : (ib r d c).Perm (d :: r) := by
  unfold ib
  refine List.perm_middle.trans ?_
  rw [List.take_append_drop]
theorem put_len {B : List (List Nat)} {d c : Nat} : (put B d c).length = B.length := by simp [put]
theorem set_perm {B : List (List Nat)} {i : Nat} {r r' new : List Nat} (h : B[i]? = some r) (p : r'.Perm (new ++ r)) : (B.set i r').flatten.Perm (new ++ B.flatten) := by
  obtain ⟨hi, hr⟩ := List.getElem?_eq_some_iff.1 h
  have e : B = B.take i ++ r :: B.drop (i + 1) := by
    rw [<- hr, List.getElem_cons_drop, List.take_append_drop]
  have e2 : B.set i r' = B.take i ++ r' :: B.drop (i + 1) := List.set_eq_take_append_cons_drop .. |>.trans (by rw [if_pos hi])
  rw [e2]
  conv => rhs; rw [e]
  simp only [List.flatten_append, List.flatten_cons]
  refine ((p.append_right _).append_left _).trans ?_
  rw [List.append_assoc, <- List.append_assoc, <- List.append_assoc new]
  exact (List.perm_append_comm.append_right _)
theorem put_perm {B : List (List Nat)} {m d c : Nat} (h : Dr B m) (hc : c < 2 * m) : (put B d c).flatten.Perm (d :: B.flatten) := by
  obtain ⟨pre, r, post, e, hd⟩ := flat_split ((h.mem).2 hc)
  have e1 : rowOf B c = r := by rw [e]; exact row_at (e ▸ h.nd) hd
  have e2 : tailOf B c = pre.length := by rw [e]; exact tail_at hd (e ▸ h.nd)
  unfold put
  rw [e1, e2]
  exact set_perm (new := [d]) (r := r) (by rw [e, List.getElem?_append_right (Nat.le_refl _), Nat.sub_self]; rfl) ib_perm
theorem range2 {m : Nat} : List.range (2 * (m + 1)) = List.range (2 * m) ++ [2 * m, 2 * m + 1] := by
  have : 2 * (m + 1) = 2 * m + 1 + 1 := by omega
  rw [this, List.range_succ, List.range_succ, List.append_assoc]; rfl
inductive Bld : List (List Nat) -> Nat -> Prop
  | nil : Bld [] 0
  | node {B m} : Bld B m -> Bld (B ++ [[]]) m
  | leaf0 {B m i} : Bld B m -> B[i]? = some [] -> Bld (B.set i [2 * m] ++ [[2 * m + 1]]) (m + 1)
  | loop0 {B m i} : Bld B m -> B[i]? = some [] -> Bld (B.set i [2 * m, 2 * m + 1]) (m + 1)
  | leaf {B m c} : Bld B m -> c < 2 * m -> Bld (put B (2 * m) c ++ [[2 * m + 1]]) (m + 1)
  | edge {B m c x w} : Bld B m -> c < 2 * m -> Cyc (phi B) w -> c ∈ w -> x ∈ w -> Bld (put (put B (2 * m + 1) x) (2 * m) c) (m + 1)
theorem Cyc.lt {f : Nat -> Nat} {N : Nat} {w : List Nat} (h : Tu f N) (c : Cyc f w) {a : Nat} (ha : a ∈ w) (haN : a < N) : ∀ x, x ∈ w -> x < N := by
  obtain ⟨s, k, hk, rfl, e, nd⟩ := c
  obtain ⟨i, hi, rfl⟩ := it_mem.1 ha
  have hs : s < N := by
    have h1 := h.fi haN (k - i)
    rw [<- fi_add] at h1
    have : k - i + i = k := by omega
    rw [this, e] at h1
    exact h1
  intro x hx
  obtain ⟨j, _, rfl⟩ := it_mem.1 hx
  exact h.fi hs j
theorem Bld.dr {B : List (List Nat)} {m : Nat} (h : Bld B m) : Dr B m := by
  unfold Dr
  induction h with
  | nil => exact List.Perm.refl _
  | node _ ih => simpa using ih
  | @leaf0 B m i _ hi ih =>
    rw [List.flatten_append, range2]
    have := set_perm (new := [2 * m]) (r' := [2 * m]) hi (by simp)
    refine (this.append_right _).trans ?_
    show ([2 * m] ++ B.flatten ++ [2 * m + 1]).Perm _
    refine (((ih.append_left [2 * m]).append_right [2 * m + 1])).trans ?_
    refine (List.perm_append_comm.append_right [2 * m + 1]).trans ?_
    rw [List.append_assoc]; exact List.Perm.refl _
  | @loop0 B m i _ hi ih =>
    rw [range2]
    have := set_perm (new := [2 * m, 2 * m + 1]) (r' := [2 * m, 2 * m + 1]) hi (by simp)
    refine this.trans ((ih.append_left _).trans List.perm_append_comm)
  | @leaf B m c _ hc ih =>
    rw [List.flatten_append, range2]
    refine ((put_perm ih hc).append_right _).trans ?_
    show ([2 * m] ++ B.flatten ++ [2 * m + 1]).Perm _
    refine (((ih.append_left [2 * m]).append_right [2 * m + 1])).trans ?_
    refine (List.perm_append_comm.append_right [2 * m + 1]).trans ?_
    rw [List.append_assoc]; exact List.Perm.refl _
  | @edge B m c x w _ hc hw hcw hxw ih =>
    have hx : x < 2 * m := Cyc.lt (Dr.tu ih) hw hcw hc x hxw
    have p1 : (put B (2 * m + 1) x).flatten.Perm ((2 * m + 1) :: B.flatten) := put_perm ih hx
    have nd1 : (put B (2 * m + 1) x).flatten.Nodup := p1.nodup_iff.2 (List.nodup_cons.2 ⟨fun z => by have := (Dr.mem ih).1 z; omega, Dr.nd ih⟩)
    have hc1 : c ∈ (put B (2 * m + 1) x).flatten := p1.mem_iff.2 (List.mem_cons_of_mem _ ((Dr.mem ih).2 hc))
    have p2 : (put (put B (2 * m + 1) x) (2 * m) c).flatten.Perm ((2 * m) :: (put B (2 * m + 1) x).flatten) := by
      obtain ⟨pre, r, post, e, hd⟩ := flat_split hc1
      have e1 : rowOf (put B (2 * m + 1) x) c = r := by rw [e]; exact row_at (e ▸ nd1) hd
      have e2 : tailOf (put B (2 * m + 1) x) c = pre.length := by rw [e]; exact tail_at hd (e ▸ nd1)
      show ((put B (2 * m + 1) x).set (tailOf (put B (2 * m + 1) x) c) (ib (rowOf (put B (2 * m + 1) x) c) (2 * m) c)).flatten.Perm _
      rw [e1, e2]
      exact set_perm (new := [2 * m]) (r := r) (by rw [e, List.getElem?_append_right (Nat.le_refl _), Nat.sub_self]; rfl) ib_perm
    rw [range2]
    refine p2.trans ((List.Perm.cons _ p1).trans ?_)
    exact (ih.append_left [2 * m, 2 * m + 1]).trans List.perm_append_comm
end Fs
namespace Fs
open PySem
section
variable {T : Tbl} {σ : Env} {s : Sto} {QF : Fl -> Sto -> Prop} {E : D -> Sto -> Prop}
end
end Fs
namespace Fs
open PySem Cy
def RL (s : Sto) (o : Nat) (p : Nat -> Nat) (B : List (List Nat)) : Prop := Rws s o p B.length fun i => nv (B.getD i [])
theorem at_split {B : List (List Nat)} {i : Nat} (h : i < B.length) : B = B.take i ++ B.getD i [] :: B.drop (i + 1) := by
  have e : B.getD i [] = B[i] := by rw [List.getD_eq_getElem?_getD, List.getElem?_eq_getElem h]; rfl
  rw [e, List.getElem_cons_drop, List.take_append_drop]
theorem opp_inj {a b : Nat} (h : opp a = opp b) : a = b := by
  have := congrArg opp h
  rwa [opp_opp, opp_opp] at this
theorem map_opp_nd : ∀ {L : List Nat}, L.Nodup -> (L.map opp).Nodup
  | [], _ => by simp
  | a :: L, h => by
    obtain ⟨h1, h2⟩ := List.nodup_cons.1 h
    rw [List.map_cons]
    refine List.nodup_cons.2 ⟨fun z => ?_, map_opp_nd h2⟩
    obtain ⟨b, hb, e⟩ := List.mem_map.1 z
    exact h1 (opp_inj e ▸ hb)
abbrev fD (B : List (List Nat)) (e : Nat) : D := .int ((phi B e : Nat) : Int)
theorem nx_at {r : List Nat} {i d : Nat} (nd : r.Nodup) (h : r[i]? = some d) : L2.atI (nv r) ((((i : Nat) : Int) + 1).fmod ((r.length : Nat) : Int)) = some (D.int ((nx r d : Nat) : Int)) := by
  have e : (((i : Nat) : Int) + 1).fmod (((r.length : Nat) : Int)) = (((i + 1) % r.length : Nat) : Int) := by
    have : ((i : Nat) : Int) + 1 = ((i + 1 : Nat) : Int) := by omega
    rw [this, Int.fmod_eq_emod_of_nonneg _ (by omega)]; rfl
  rw [e, atI_nat, nv_get, nx_get nd h]
  rfl
structure Ws (s : Sto) (qs : List Nat) (W : List (List Nat)) : Prop where
  len : qs.length = W.length
  cell : ∀ (i q : Nat) (w : List Nat), qs[i]? = some q -> W[i]? = some w -> s[q]? = some (.lst (nv w))
theorem Ws.nil {s : Sto} : Ws s [] [] := ⟨rfl, fun i q w h => by simp at h⟩
theorem Ws.snoc {s : Sto} {qs : List Nat} {W : List (List Nat)} {q : Nat} {w : List Nat} (h : Ws s qs W) (hq : s[q]? = some (.lst (nv w))) : Ws s (qs ++ [q]) (W ++ [w]) := by
  refine ⟨by simp [h.len], fun i q' w' h1 h2 => ?_⟩
  by_cases hi : i < qs.length
  · rw [List.getElem?_append_left hi] at h1
    rw [List.getElem?_append_left (by rw [<- h.len]; exact hi)] at h2
    exact h.cell i q' w' h1 h2
  · rw [List.getElem?_append_right (by omega)] at h1
    rw [List.getElem?_append_right (by rw [<- h.len]; omega), <- h.len] at h2
    have h3 : i - qs.length = 0 := by
      have := (List.getElem?_eq_some_iff.1 h1).1
      simp at this; omega
    rw [h3] at h1 h2
    cases h1; cases h2
    exact hq
theorem Ws.congr {s s' : Sto} {qs : List Nat} {W : List (List Nat)} (h : Ws s qs W) (e : ∀ q, q ∈ qs -> s'[q]? = s[q]?) : Ws s' qs W :=
  ⟨h.len, fun i q w h1 h2 => (e q (List.mem_iff_getElem?.2 ⟨i, h1⟩)).trans (h.cell i q w h1 h2)⟩
theorem rbC_lst {s : Sto} {b n l : Nat} {vis : List Nat} {xs : List D} (h1 : vis.contains l = false) (h2 : s[l]? = some (.lst xs)) : rbC s b (n + 1) l vis = (rbDs (rbC s b n) b xs (l :: vis)).map fun r => (.lst r.1, r.2) := by
  conv => lhs; unfold rbC
  simp only [h1, h2, rbD]
theorem rbD_ref {g : Nat -> List Nat -> Option (D × List Nat)} {b l : Nat} {vis : List Nat} (h : b <= l) : rbD g b (.ref l) vis = g l vis := by
  have hlt : decide (l < b) = false := decide_eq_false (by omega)
  simp only [rbD, hlt]
theorem rbs_refs {s : Sto} {b n : Nat} : ∀ {qs : List Nat} {W : List (List Nat)} {vis : List Nat}, Ws s qs W -> qs.Nodup -> (∀ q, q ∈ qs -> q ∉ vis /\ b <= q) -> rbDs (rbC s b (n + 1)) b (qs.map .ref) vis = some (W.map fun w => .lst (nv w), qs.reverse ++ vis)
  | [], W, vis, h, _, _ => by
    have : W = [] := List.length_eq_zero_iff.1 h.len.symm
    subst this
    simp [rbDs]
  | q :: qs, W, vis, h, nd, hv => by
    cases W with
    | nil => have := h.len; simp at this
    | cons w W =>
      obtain ⟨n1, n2⟩ := List.nodup_cons.1 nd
      obtain ⟨v1, v2⟩ := hv q (List.mem_cons_self ..)
      have hc := h.cell 0 q w rfl rfl
      have h2 : Ws s qs W := ⟨by have := h.len; simpa using this, fun i q' w' e1 e2 => h.cell (i + 1) q' w' (by simpa using e1) (by simpa using e2)⟩
      have ih := rbs_refs (s := s) (b := b) (n := n) (vis := q :: vis) h2 n2 fun x hx => by
        obtain ⟨x1, x2⟩ := hv x (List.mem_cons_of_mem _ hx)
        refine ⟨fun z => ?_, x2⟩
        rcases List.mem_cons.1 z with rfl | z
        · exact n1 hx
        · exact x1 z
      have hct : vis.contains q = false := by simpa using v1
      rw [List.map_cons, rbDs, rbD_ref v2, rbC_lst hct hc, rbs_clean nv_clean]
      simp only [Option.map_some, Option.bind_some, ih]
      simp
theorem rk_refs {s : Sto} {b g : Nat} {qs : List Nat} {W : List (List Nat)} (hg : s[g]? = some (.lst (qs.map .ref))) (hb : b <= g) (h : Ws s qs W) (nd : qs.Nodup) (hv : ∀ q, q ∈ qs -> q ≠ g /\ b <= q) :
    rback s b (.ref g) = some (.lst (W.map fun w => .lst (nv w))) := by
  have h2 := rbs_refs (s := s) (b := b) (n := 6) (vis := [g]) h nd fun q hq => ⟨by simpa using (hv q hq).1, (hv q hq).2⟩
  have h0 : ([] : List Nat).contains g = false := rfl
  unfold rback
  rw [rbD_ref hb, rbC_lst h0 hg, h2]
  rfl
theorem srt_dict {s : Sto} {l N : Nat} {f : Nat -> D} {L : List Nat} (h : s[l]? = some (.dic (kd f L))) (hp : L.Perm (List.range N)) (h1 : N < 64) {Q : D -> Sto -> Prop} {E : D -> Sto -> Prop} :
    wp (fSorted (.ref l)) s Q E = Q (.lst (nv (List.range N))) s := by
  have e1 : lInt s (.ref l) = none := by simp only [lInt, seqv, h]
  have e2 : lTups s (.ref l) = none := by simp only [lTups, seqv, h]
  have e3 : dInts s (.ref l) = some (toZ L) := by
    simp only [dInts, dicv, h]
    clear h hp
    induction L with
    | nil => rfl
    | cons a L ih =>
      have : kd f (a :: L) = (ik a, f a) :: kd f L := rfl
      rw [this]
      simp only [optL, ih]; rfl
  have hl : L.length = N := by rw [hp.length_eq, List.length_range]
  have hz : decide ((toZ L).length < 64) = true := by
    have : (toZ L).length = N := by simp [toZ, hl]
    rw [this]; simp [h1]
  have hs := sort_nat (P := L) (q := List.range N) (hp.nodup_iff.2 List.nodup_range) List.pairwise_lt_range fun v => hp.mem_iff
  simp only [wp_def, fSorted, e1, e2, e3, hz, gd, ret, wr, hs]
theorem set_idem {s : Sto} {i : Nat} {d : D} (h : s[i]? = some d) : s.set i d = s := by
  refine List.ext_getElem? fun j => ?_
  by_cases e : i = j
  · subst e
    rw [List.getElem?_set_self (List.getElem?_eq_some_iff.1 h).1, h]
  · rw [List.getElem?_set_ne e]
theorem len_flat : ∀ {W : List (List Nat)}, (∀ w, w ∈ W -> w ≠ []) -> W.length <= W.flatten.length
  | [], _ => Nat.le_refl _
  | w :: W, h => by
    have h1 := len_flat (W := W) fun x hx => h x (List.mem_cons_of_mem _ hx)
    have h2 : 0 < w.length := List.length_pos_iff.2 (h w (List.mem_cons_self ..))
    simp only [List.flatten_cons, List.length_append, List.length_cons]; omega
section
variable {s : Sto} {i : Nat} {w S : D}
def cA (s : Sto) (i : Nat) (w S : D) : Sto := (s ++ [w]).set i S
theorem cA_i (h : i < s.length) : (cA s i w S)[i]? = some S := by
  unfold cA; rw [List.getElem?_set_self (by simp; omega)]
theorem cA_e (h : i < s.length) : (cA s i w S)[s.length]? = some w := by
  unfold cA; rw [List.getElem?_set_ne (by omega)]; simp
theorem cA_o (h : i < s.length) {j : Nat} (h1 : j ≠ i) (h2 : j < s.length) : (cA s i w S)[j]? = s[j]? := by
  unfold cA; rw [List.getElem?_set_ne (Ne.symm h1), List.getElem?_append_left h2]
theorem cA_se (h : i < s.length) {w' : D} : (cA s i w S).set s.length w' = cA s i w' S := by
  unfold cA
  rw [List.set_comm _ _ (by omega)]
  congr 1
  rw [List.set_append_right _ _ (Nat.le_refl _), Nat.sub_self]; rfl
theorem cA_si {S' : D} : (cA s i w S).set i S' = cA s i w S' := by
  unfold cA; rw [List.set_set]
theorem cA_len : (cA s i w S).length = s.length + 1 := by simp [cA]
end
theorem walks_go {n m o : Nat} {p : Nat -> Nat} {B : List (List Nat)} {s : Sto} (h : RL s o p B) (hB : Dr B m) (hm0 : 0 < m) (hm : m <= 31) (hb : B.length <= 60) :
    wp (exL (P.tbl n) c_zq15.body [some (.ref o), none, none, none, none, none, none, none, none]) s (lv s (fun r s' => (∃ W, r = .lst (W.map fun w => .lst (nv w)) /\ Fc (phi B) (2 * m) W (2 * m)) /\ s' = s) NX) NX := by
  have hsl := sl_ge
  unfold c_zq15
  have ht := h.top
  have hol := h.olt
  have hnd := hB.nd
  simp! [la_dic0, la_lst0, sgl ht]
  refine ⟨by omega, by omega, by omega, ?_⟩
  refine w_forPC (l := o) (List.range B.length) (fun i => .ref (p i)) (fun pre σ s2 => (∃ x4 x5 x6, σ = [some (.ref o), some (.ref s.length), some (.ref (s.length + 1)), some (.ref (s.length + 2)), x4, x5, x6, none, none]) /\ s2 = s ++ [.dic (kd (fD B) ((B.take pre.length).flatten.map opp)), .lst [], .lst []]) ⟨⟨_, _, _, rfl⟩, by simp [kd]⟩ ?_ ?_ ?_
  · rintro pre σ s2 ⟨_, rfl⟩
    exact sgl ht
  · rintro pre i post σ s2 hL ⟨⟨x4, x5, x6, rfl⟩, rfl⟩
    obtain ⟨_, hi, hpl⟩ := range_split hL
    rw [hpl]
    have hr := h.row i hi
    have hB' := at_split hi
    have hndr : (B.getD i []).Nodup := row_nd (hB' ▸ hnd)
    have hpi := h.lt hi
    simp! [sgl hr]
    refine w_forPEC (l := p i) (B.getD i []) (fun (d : Nat) => .int (d : Int)) (fun pr σ s2 => (∃ x5 x6, σ = [some (.ref o), some (.ref s.length), some (.ref (s.length + 1)), some (.ref (s.length + 2)), some (.ref (p i)), x5, x6, none, none]) /\ s2 = s ++ [.dic (kd (fD B) ((B.take i).flatten.map opp ++ pr.map opp)), .lst [], .lst []]) ⟨⟨_, _, rfl⟩, by simp⟩ ?_ ?_ ?_
    · rintro pr σ s2 ⟨_, rfl⟩
      exact sgl hr
    · rintro pr d po σ s2 hr2 ⟨⟨x5, x6, rfl⟩, rfl⟩
      have hg : (B.getD i [])[pr.length]? = some d := by
        rw [hr2, List.getElem?_append_right (Nat.le_refl _), Nat.sub_self]; rfl
      have hdr : d ∈ B.getD i [] := List.mem_iff_getElem?.2 ⟨_, hg⟩
      have hv : D.int ((nx (B.getD i []) d : Nat) : Int) = fD B (opp d) := by
        have := phi_at (hB' ▸ hnd) hdr
        rw [<- hB'] at this
        show _ = D.int _
        rw [this]
      have hnew : opp d ∉ (B.take i).flatten.map opp ++ pr.map opp := by
        have h1 : ((B.take i).flatten ++ pr ++ (d :: po ++ (B.drop (i + 1)).flatten)).Nodup := by
          have h2 := hnd
          rw [hB', List.flatten_append, List.flatten_cons, hr2] at h2
          simpa using h2
        rw [<- List.map_append]
        intro z
        obtain ⟨y, hy, e⟩ := List.mem_map.1 z
        have := opp_inj e
        subst this
        exact (List.nodup_append.1 h1).2.2 _ hy _ (by simp) rfl
      have hlen : ((B.take i).flatten.map opp ++ pr.map opp).length <= 2 * m := by
        have h1 := hB.len
        rw [hB', List.flatten_append, List.flatten_cons, hr2] at h1
        simp only [List.length_append, List.length_cons, List.length_map] at h1 ⊢
        omega
      simp! [sgl hr, nv_len, nx_at hndr hg]
      rw [opp_int, hv, kd_key]
      have hne : 0 < (B.getD i []).length := List.length_pos_of_mem hdr
      have hlg : (Int.natAbs 2).log2 + ((d : Int).fmod 2).natAbs.log2 < 1000000 := by
        rw [fmod2]
        rcases Nat.mod_two_eq_zero_or_one d with e | e <;> rw [e] <;> decide
      simp! []
      rw [kd_put (f := fD B) hnew]
      refine ⟨by omega, by decide, hlg, ⟨kd_ok, by rw [kd_len]; omega⟩, ⟨_, _, rfl⟩, by simp⟩
    · rintro σ s2 ⟨⟨x5, x6, rfl⟩, rfl⟩
      simp! []
      refine ⟨⟨_, _, _, rfl⟩, ?_⟩
      have : B.take (i + 1) = B.take i ++ [B.getD i []] := by
        rw [List.take_succ, List.getElem?_eq_getElem hi]
        simp [List.getD, List.getElem?_eq_getElem hi]
      rw [<- hpl] at this ⊢
      rw [this]
      simp
  · rintro σ s2 ⟨⟨x4, x5, x6, rfl⟩, rfl⟩
    have hK : (B.flatten.map opp).Perm (List.range (2 * m)) := by
      refine (List.perm_ext_iff_of_nodup (map_opp_nd hnd) List.nodup_range).2 fun x => ?_
      rw [List.mem_range]
      constructor
      · intro z
        obtain ⟨y, hy, rfl⟩ := List.mem_map.1 z
        exact opp_lt (hB.mem.1 hy)
      · intro z
        exact List.mem_map.2 ⟨opp x, hB.mem.2 (opp_lt z), opp_opp x⟩
    have hlr : (List.range B.length).length = B.length := List.length_range
    rw [hlr, List.take_length]
    generalize hKe : B.flatten.map opp = K at *
    have hT := hB.tu
    simp! [srt_dict (l := s.length) (N := 2 * m) sg0 hK (by omega)]
    have hOn0 : On s (s ++ [.dic (kd (fD B) K), .lst [], .lst []]) := On.refl.app
    have i0 : (s ++ [.dic (kd (fD B) K), .lst [], .lst []] : Sto)[s.length]? = some (.dic (kd (fD B) K)) := sg0
    have i1 : (s ++ [.dic (kd (fD B) K), .lst [], .lst []] : Sto)[s.length + 1]? = some (.lst []) := sg1
    have i2 : (s ++ [.dic (kd (fD B) K), .lst [], .lst []] : Sto)[s.length + 2]? = some (.lst []) := sg2
    generalize (s ++ [.dic (kd (fD B) K), .lst [], .lst []] : Sto) = s0 at *
    refine w_forP (List.range (2 * m)) _ (fun pre σ s2 => ∃ (W : List (List Nat)) (qs : List Nat), (∃ x4 x5 x6 x7 x8, σ = [some (.ref o), some (.ref s.length), some (.ref (s.length + 1)), some (.ref (s.length + 2)), x4, x5, x6, x7, x8]) /\ On s s2 /\ s2[s.length]? = some (.dic (kd (fD B) K)) /\ s2[s.length + 1]? = some (.lst (qs.map .ref)) /\ s2[s.length + 2]? = some (.lst (nv W.flatten)) /\ Ws s2 qs W /\ qs.Nodup /\ (∀ q, q ∈ qs -> s.length + 3 <= q /\ q < s2.length) /\ Fc (phi B) (2 * m) W pre.length) ⟨[], [], ⟨_, _, _, _, _, rfl⟩, hOn0, i0, i1, i2, Ws.nil, by simp, by simp, Fc.zero⟩ ?_ ?_
    · rintro pre j post σ s2 hL ⟨W, qs, ⟨x4, x5, x6, x7, x8, rfl⟩, hO, h0, h1, h2, hW, hq1, hq2, hF⟩
      obtain ⟨_, hj, hpl⟩ := range_split hL
      rw [hpl] at hF
      have hlt2 : s.length + 2 < s2.length := (List.getElem?_eq_some_iff.1 h2).1
      have eA : s2 ++ [.lst (nv [])] = cA s2 (s.length + 2) (.lst (nv (it (phi B) j 0))) (.lst (nv (W.flatten ++ it (phi B) j 0))) := by
        unfold cA
        rw [it_zero, List.append_nil, List.set_append_left _ _ (by omega)]
        congr 1
        exact (set_idem h2).symm
      simp! [la_lst0]
      have eA2 : s2 ++ [D.lst []] = cA s2 (s.length + 2) (.lst (nv (it (phi B) j 0))) (.lst (nv (W.flatten ++ it (phi B) j 0))) := eA
      rw [eA2]
      refine ⟨by omega, by omega, ?_⟩
      refine w_wh (fun kk σ s3 => ∃ k, kk = 2 * m + 1 - k /\ k <= 2 * m /\ σ = [some (.ref o), some (.ref s.length), some (.ref (s.length + 1)), some (.ref (s.length + 2)), x4, x5, some (.int ((fi (phi B) k j : Nat) : Int)), some (.int (j : Nat)), some (.ref s2.length)] /\ s3 = cA s2 (s.length + 2) (.lst (nv (it (phi B) j k))) (.lst (nv (W.flatten ++ it (phi B) j k))) /\ (it (phi B) j k).Nodup /\ (0 < k -> j ∉ W.flatten)) ?_ wfuel (2 * m + 1) _ _ ?_ (by rw [show wfuel = 1000000 from rfl]; omega)
      · rintro kk σ s3 ⟨k, rfl, hk, rfl, rfl, hnd2, hjW⟩
        have hfi := hT.fi hj k
        have hfK : fi (phi B) k j ∈ K := hK.mem_iff.2 (List.mem_range.2 hfi)
        have hlen2 : (W.flatten ++ it (phi B) j k).length <= 4 * m := by
          rw [List.length_append, it_len]
          have := sub_len (M := List.range (2 * m)) hF.nd fun x hx => List.mem_range.2 (hF.lt x hx)
          rw [List.length_range] at this
          omega
        simp! [in_ref (cA_i hlt2), Option.map_some, truth]
        by_cases hin : fi (phi B) k j ∈ W.flatten ++ it (phi B) j k
        · have e1 : (!decide (fi (phi B) k j ∈ W.flatten ++ it (phi B) j k)) = false := by simp [hin]
          rw [e1]
          simp! [eq_nil (cA_e hlt2), Option.map_some, truth]
          have hOA : On s (cA s2 (s.length + 2) (.lst (nv (it (phi B) j k))) (.lst (nv (W.flatten ++ it (phi B) j k)))) := by
            unfold cA
            exact (hO.app).set (by omega)
          cases k with
          | zero =>
            have hjin : j ∈ W.flatten := by
              have : fi (phi B) 0 j = j := rfl
              rw [this, it_zero, List.append_nil] at hin
              exact hin
            simp! [it_zero, List.isEmpty_nil]
            have g2 := cA_i (w := .lst (nv [])) (S := .lst (nv (W.flatten ++ []))) hlt2
            rw [List.append_nil] at g2 ⊢
            refine ⟨by omega, W, qs, ⟨_, _, _, _, _, rfl⟩, ?_, ?_, ?_, g2, hW.congr fun q hq => cA_o hlt2 (by have := hq2 q hq; omega) (hq2 q hq).2, hq1, fun q hq => ⟨(hq2 q hq).1, by rw [cA_len]; have := (hq2 q hq).2; omega⟩, ?_⟩
            · rw [it_zero, List.append_nil] at hOA; exact hOA
            · rw [cA_o hlt2 (by omega) (by omega)]; exact h0
            · rw [cA_o hlt2 (by omega) (by omega)]; exact h1
            · rw [hpl]; exact hF.seen hjin
          | succ k =>
            have hjn := hjW (by omega)
            obtain ⟨hk0, hst⟩ := stop hT hF.cl hj hjn hnd2 hin
            have hem : (it (phi B) j (k + 1)).isEmpty = false := by
              rw [it_succ]; simp
            have g1 := cA_o (w := .lst (nv (it (phi B) j (k + 1)))) (S := .lst (nv (W.flatten ++ it (phi B) j (k + 1)))) hlt2 (j := s.length + 1) (by omega) (by omega)
            rw [h1] at g1
            have hqlen : qs.length <= 4 * m := by
              have a1 := len_flat (W := W) fun w hw => (hF.cyc w hw).ne
              have a2 := hW.len
              rw [List.length_append] at hlen2
              omega
            simp! [hem, g1]
            generalize hc : cA s2 (s.length + 2) (.lst (nv (it (phi B) j (k + 1)))) (.lst (nv (W.flatten ++ it (phi B) j (k + 1)))) = s4 at *
            have hl4 : s4.length = s2.length + 1 := by rw [<- hc, cA_len]
            have c0 : s4[s.length]? = some (.dic (kd (fD B) K)) := by rw [<- hc, cA_o hlt2 (by omega) (by omega)]; exact h0
            have c2 : s4[s.length + 2]? = some (.lst (nv (W.flatten ++ it (phi B) j (k + 1)))) := by rw [<- hc]; exact cA_i hlt2
            have ce : s4[s2.length]? = some (.lst (nv (it (phi B) j (k + 1)))) := by rw [<- hc]; exact cA_e hlt2
            have co : ∀ q, s.length + 3 <= q -> q < s2.length -> s4[q]? = s2[q]? := fun q z1 z2 => by rw [<- hc]; exact cA_o hlt2 (by omega) z2
            have hset : ∀ (x : D) q, q ≠ s.length + 1 -> (s4.set (s.length + 1) x)[q]? = s4[q]? := fun x q z => List.getElem?_set_ne (Ne.symm z)
            refine ⟨by omega, by simp; omega, W ++ [it (phi B) j (k + 1)], qs ++ [s2.length], ⟨_, _, _, _, _, rfl⟩, hOA.set (by omega), (hset _ _ (by omega)).trans c0, ?_, ?_, Ws.snoc (hW.congr fun q hq => ?_) ?_, ?_, ?_, ?_⟩
            · rw [List.getElem?_set_self (by omega)]; simp
            · rw [hset _ _ (by omega), c2]; simp
            · have := hq2 q hq
              rw [hset _ _ (by omega)]
              exact co q this.1 this.2
            · rw [hset _ _ (by omega)]; exact ce
            · refine List.nodup_append.2 ⟨hq1, by simp, ?_⟩
              intro a ha b hb2 e
              rw [List.mem_singleton] at hb2
              have := hq2 a ha
              omega
            · intro q hq
              rw [List.length_set, hl4]
              rcases List.mem_append.1 hq with hq | hq
              · have := hq2 q hq; omega
              · rw [List.mem_singleton] at hq; omega
            · rw [hpl]
              exact hF.next hT hj hjn hk0 hst hnd2
        · have e1 : (!decide (fi (phi B) k j ∈ W.flatten ++ it (phi B) j k)) = true := by simp [hin]
          rw [e1]
          have hnd3 := go hnd2 hin
          have hkb := it_bound hT hj hnd3
          have g0 : ∀ w S, (cA s2 (s.length + 2) w S)[s.length]? = some (.dic (kd (fD B) K)) := fun w S => by rw [cA_o hlt2 (by omega) (by omega)]; exact h0
          simp! [cA_e hlt2, cA_se hlt2, cA_i hlt2, cA_si, g0, kd_okI, if_true]
          have e5 : ∀ L : List Nat, nv L ++ [D.int ((fi (phi B) k j : Nat) : Int)] = nv (L ++ [fi (phi B) k j]) := fun L => by rw [nv_app]; rfl
          rw [kd_get, if_pos hfK, e5, e5]
          simp! []
          refine ⟨by omega, by rw [nv_len, it_len]; omega, by rw [nv_len]; omega, 2 * m + 1 - (k + 1), by omega, k + 1, rfl, hkb, rfl, by rw [it_succ], hnd3, fun _ => ?_⟩
          by_cases hk0 : 0 < k
          · exact hjW hk0
          · intro z
            have : k = 0 := by omega
            subst this
            exact hin (List.mem_append_left _ z)
      · refine ⟨0, by omega, by omega, rfl, rfl, by simp [it_zero], by omega⟩
    · rintro σ s2 ⟨W, qs, ⟨x4, x5, x6, x7, x8, rfl⟩, hO, h0, h1, h2, hW, hq1, hq2, hF⟩
      simp! []
      refine ⟨hO.fin, ?_⟩
      rw [rk_refs h1 (by omega) hW hq1 fun q hq => by have := hq2 q hq; omega]
      rw [List.length_range] at hF
      exact ⟨⟨W, rfl, hF⟩, hO.take⟩
theorem k_walks (n : Nat) {m o : Nat} {p : Nat -> Nat} {B : List (List Nat)} {s : Sto} (h : RL s o p B) (hB : Dr B m) (hm0 : 0 < m) (hm : m <= 31) (hb : B.length <= 60) :
    wp (call P (n + 1) F.zq15 [.ref o]) s (fun r s' => (∃ W, r = .lst (W.map fun w => .lst (nv w)) /\ Fc (phi B) (2 * m) W (2 * m)) /\ s' = s) NX := by
  refine w_call (F := c_zq15) rfl rfl ?_
  have e : lands [.ref o] s = ([.ref o], s) := lands_pur rfl
  rw [e]
  exact walks_go h hB hm0 hm hb
end Fs
namespace Fs
open PySem Cy
def succs (g : List (List Nat)) (e : Nat) : List Nat := (List.range (2 * e)).map (phi g)
theorem succs_get {g : List (List Nat)} {e d : Nat} (h : d < 2 * e) : (succs g e)[d]? = some (phi g d) := by simp [succs, h]
theorem k_succ (n : Nat) {g : List (List Nat)} {e : Nat} (h : Gr g e) (st : Sto) : wp (call P (n + 2) F.zq6 [.tup (tv g)]) st (fun r s' => r = .lst (nv (succs g e)) /\ s' = st) NX := by
  have hsl := sl_ge
  have hn := h.n
  have he := h.e
  refine w_call (F := c_zq6) rfl rfl ?_
  unfold c_zq6
  simp! [la_tup tv_purs]
  refine ⟨by decide, ?_⟩
  refine wp_nx (k_count (n := n) (by omega) st) ?_
  rintro d s' ⟨rfl, rfl⟩
  rw [h.len]
  simp! []
  refine ⟨⟨rfl, by omega, by omega, by simp; omega⟩, ?_⟩
  rw [rep_nv, Int.toNat_natCast, la_lst nv_purs]
  simp! []
  refine w_forP g _ (fun pre σ s => (∃ a b c, σ = [some (.tup (tv g)), some (.ref s'.length), a, b, c]) /\ ∃ t : List Nat, s = s' ++ [.lst (nv t)] /\ t.length = 2 * e /\ ∀ d, d ∈ pre.flatten -> t[opp d]? = some (phi g (opp d))) ⟨⟨_, _, _, rfl⟩, _, rfl, List.length_replicate, by simp⟩ ?_ ?_
  · rintro pre r post σ s hgs ⟨⟨a, b, c, rfl⟩, t, rfl, ht, htd⟩
    have rnd : r.Nodup := row_nd (hgs ▸ h.nd)
    simp! [la_tup nv_purs]
    refine w_forPE r _ (fun pr σ s => (∃ b c, σ = [some (.tup (tv g)), some (.ref s'.length), some (.tup (nv r)), b, c]) /\ ∃ t : List Nat, s = s' ++ [.lst (nv t)] /\ t.length = 2 * e /\ ∀ d, d ∈ pre.flatten ∨ d ∈ pr -> t[opp d]? = some (phi g (opp d))) ⟨⟨_, _, rfl⟩, t, rfl, ht, by simpa using htd⟩ ?_ ?_
    · rintro pr d po σ s hr ⟨⟨b, c, rfl⟩, t, rfl, ht, htd⟩
      have hdr : d ∈ r := by rw [hr]; simp
      have hd := h.lt hgs hdr
      have hrl := h.row hgs
      have hi : r[pr.length]? = some d := by rw [hr, List.getElem?_append_right (Nat.le_refl _), Nat.sub_self]; rfl
      have hne : 0 < r.length := List.length_pos_of_mem hdr
      have hph : phi g (opp d) = nx r d := by rw [hgs]; exact phi_at (hgs ▸ h.nd) hdr
      simp! [nv_len]
      refine ⟨by omega, ?_⟩
      simp! [nx_at rnd hi]
      refine wp_nx (k_opp (n := n) d _) ?_
      rintro y s2 ⟨rfl, rfl⟩
      have ho := opp_lt hd
      simp! []
      rw [nv_len, ixN_nat (by omega)]
      simp! []
      rw [nv_set]
      refine ⟨⟨_, _, rfl⟩, _, rfl, by simpa using ht, ?_⟩
      intro x hx
      by_cases hxd : x = d
      · subst hxd
        rw [List.getElem?_set_self (by omega), hph]
      · rw [List.getElem?_set_ne (fun q => hxd (opp_inj q.symm))]
        refine htd x ?_
        simp only [List.mem_append, List.mem_singleton] at hx
        rcases hx with hx | hx | hx
        · exact .inl hx
        · exact .inr hx
        · exact absurd hx hxd
    · rintro σ s ⟨⟨b, c, rfl⟩, t, rfl, ht, htd⟩
      simp! []
      refine ⟨⟨_, _, _, rfl⟩, t, rfl, ht, ?_⟩
      intro x hx
      refine htd x ?_
      simpa using hx
  · rintro σ s ⟨⟨a, b, c, rfl⟩, t, rfl, ht, htd⟩
    simp! []
    have hT : t = succs g e := by
      refine List.ext_getElem? fun i => ?_
      by_cases hi : i < 2 * e
      · have := htd (opp i) (h.mem.2 (opp_lt hi))
        rw [opp_opp] at this
        rw [this, succs_get hi]
      · rw [List.getElem?_eq_none (by omega), List.getElem?_eq_none (by simp [succs]; omega)]
    subst hT
    refine ⟨okP_app, ?_⟩
    rw [rk_lst (Nat.le_refl _) sg0 nv_clean]
    exact ⟨rfl, take0⟩
end Fs
namespace Fs
open PySem Cy
theorem eq_tup0 {s : Sto} {r : List Nat} : eqD s (.tup (nv r)) (.tup []) = some r.isEmpty := by
  have h1 : toP false s 66 (.tup (nv r)) = some (.tuple (pn r)) := by rw [toP_tup, toP_nv]; rfl
  have h0 : toP false s 66 (.tup []) = some (.tuple []) := rfl
  have h2 : SeqAt.shaped (.tuple (pn r)) = true := by
    have h := pn_depth r
    have hd : PyData.depth (.tuple (pn r)) <= 64 := by simp only [PyData.depth]; omega
    simp [SeqAt.shaped, PyData.canLay0, pn_lay, hd]
  have h3 : SeqAt.shaped (.tuple []) = true := by decide
  simp only [eqD, h1, h0]
  rw [if_pos ⟨h2, h3⟩]
  cases r with
  | nil => simp [pn_nil, pn_cons, PyData.eqv, PyData.eqvAll]
  | cons a r => simp [pn_nil, pn_cons, PyData.eqv, PyData.eqvAll]
section
variable {s : Sto} {E : D -> Sto -> Prop} {Q : List (Ky × D) -> Sto -> Prop}
theorem w_dcmC {turn : D -> M (Option (Ky × D))} {f : Nat -> D} {l : Nat} (L : List Nat) (h : Nat -> D) (hn : L.Nodup) (hf : ∀ d, (f d).pur = true) (hx : L.length <= sizeLine) (hc : s[l]? = some (.lst (L.map h)))
    (hb : ∀ c ∈ L, wp (turn (h c)) s (fun o s1 => o = some (ik c, f c) /\ s1 = s) NX)
    (hq : Q (kd f L) s) : wp (dcLoop (.one (.cell l)) turn ((It.one (.cell l)).len s + 1) 0 []) s Q E :=
  w_dcAux L h hn hf hx (fun i => by simp [It.next, Src.at, hc]) hb hq _ 0 (Nat.zero_le _) (by
    have : (It.one (.cell l)).len s = L.length := by simp [It.len, Src.len, hc]
    rw [this]; omega)
end
def emps (g : List (List Nat)) : List (List Nat) := g.filter (·.isEmpty)
theorem emps_tv {g : List (List Nat)} : (emps g).map (fun _ => D.tup []) = tv (emps g) := by
  unfold tv
  refine List.map_congr_left fun r hr => ?_
  have : r.isEmpty = true := (List.mem_filter.1 hr).2
  cases r with
  | nil => rfl
  | cons a r => cases this
theorem tv_snoc {F : List (List Nat)} {w : List Nat} : tv F ++ [.tup (nv w)] = tv (F ++ [w]) := by simp [tv]
theorem fc_len {f : Nat -> Nat} {N n : Nat} {W : List (List Nat)} (h : Fc f N W n) : W.length <= N := by
  have a1 := len_flat (W := W) fun w hw => (h.cyc w hw).ne
  have a2 := sub_len (M := List.range N) h.nd fun x hx => List.mem_range.2 (h.lt x hx)
  rw [List.length_range] at a2
  omega
theorem k_faces (n : Nat) {g : List (List Nat)} {e : Nat} (h : Gr g e) (st : Sto) :
    wp (call P (n + 3) F.zq7 [.tup (tv g)]) st (fun r s' => (∃ W, r = .tup (tv (emps g ++ W)) /\ Fc (phi g) (2 * e) W (2 * e)) /\ s' = st) NX := by
  have hsl := sl_ge
  have hn := h.n
  have he := h.e
  have hT : Tu (phi g) (2 * e) := Dr.tu h.perm
  refine w_call (F := c_zq7) rfl rfl ?_
  unfold c_zq7
  simp! [la_tup tv_purs]
  refine wp_nx (k_succ (n := n) h st) ?_
  rintro d s ⟨rfl, rfl⟩
  have hel : (emps g).length <= g.length := List.length_filter_le ..
  have hsL : (succs g e).length = 2 * e := by simp [succs]
  simp! [la_lst nv_purs]
  refine ⟨by omega, ?_⟩
  refine w_lcf g _ (fun r => r.isEmpty) (fun _ => .tup []) (by omega) ?_ ?_
  · intro r hr
    simp! [la_tup nv_purs, eq_tup0, Option.map_some, truth]
    refine ⟨by omega, ?_⟩
    cases r.isEmpty
    · simp! []
      rfl
    · simp! []
      exact ⟨by omega, rfl⟩
  rw [show List.filter (fun r => r.isEmpty) g = emps g from rfl, emps_tv]
  simp! [la_lst tv_purs, sg0, nv_len, hsL]
  rw [rngL1 (by omega)]
  simp! []
  have l0 : (s ++ [.lst (nv (succs g e)), .dic [], .lst (tv (emps g))] : Sto)[s.length]? = some (.lst (nv (succs g e))) := sg0
  have l1 : (s ++ [.lst (nv (succs g e)), .dic [], .lst (tv (emps g))] : Sto)[s.length + 1]? = some (.dic []) := sg1
  have l2 : (s ++ [.lst (nv (succs g e)), .dic [], .lst (tv (emps g))] : Sto)[s.length + 2]? = some (.lst (tv (emps g))) := sg2
  have hO : On s (s ++ [.lst (nv (succs g e)), .dic [], .lst (tv (emps g))]) := On.refl.app
  generalize (s ++ [.lst (nv (succs g e)), .dic [], .lst (tv (emps g))] : Sto) = s0 at *
  refine w_forP (List.range (2 * e)) _ (fun pre σ s2 => ∃ W : List (List Nat), (∃ x4 x5 x6 x7, σ = [some (.tup (tv g)), some (.ref s.length), some (.ref (s.length + 1)), some (.ref (s.length + 2)), x4, x5, x6, x7]) /\ On s s2 /\ s2[s.length]? = some (.lst (nv (succs g e))) /\ s2[s.length + 1]? = some (.dic (kd (fun _ => .bl true) W.flatten)) /\ s2[s.length + 2]? = some (.lst (tv (emps g ++ W))) /\ Fc (phi g) (2 * e) W pre.length) ⟨[], ⟨_, _, _, _, rfl⟩, hO, l0, l1, by rw [List.append_nil]; exact l2, Fc.zero⟩ ?_ ?_
  · rintro pre j post σ s2 hL ⟨W, ⟨x4, x5, x6, x7, rfl⟩, hO, h0, h1, h2, hF⟩
    obtain ⟨_, hj, hpl⟩ := range_split hL
    have hpl2 : (pre ++ [j]).length = j + 1 := by simp [hpl]
    rw [hpl] at hF
    rw [hpl2]
    have hlt2 : s.length + 2 < s2.length := (List.getElem?_eq_some_iff.1 h2).1
    have hWl := fc_len hF
    simp! []
    rw [kd_isIn (f := fun _ => .bl true) (L := W.flatten) h1]
    simp! [Option.map_some, truth]
    by_cases hin : j ∈ W.flatten
    · have e1 : (!decide (j ∈ W.flatten)) = false := by simp [hin]
      rw [e1]
      simp! []
      exact ⟨W, ⟨_, _, _, _, rfl⟩, hO, h0, h1, h2, hF.seen hin⟩
    · have e1 : (!decide (j ∈ W.flatten)) = true := by simp [hin]
      rw [e1]
      simp! [h0, atI_nat, nv_get, succs_get hj, Option.map_some, la_lst (xs := [.int (j : Int)]) rfl]
      refine ⟨by omega, by omega, ?_⟩
      have hAp : ∀ (i : Nat) (c : D), i < s2.length -> ∀ x : D, s2[i]? = some c -> (s2 ++ [x])[i]? = some c := fun i c _ x hc => sgl hc
      refine w_wh (fun kk σ s3 => ∃ k, kk = 2 * e + 1 - k /\ 1 <= k /\ k <= 2 * e /\ σ = [some (.tup (tv g)), some (.ref s.length), some (.ref (s.length + 1)), some (.ref (s.length + 2)), x4, some (.int (j : Nat)), some (.ref s2.length), some (.int ((fi (phi g) k j : Nat) : Int))] /\ s3 = s2 ++ [.lst (nv (it (phi g) j k))] /\ (it (phi g) j k).Nodup) ?_ wfuel (2 * e) _ _ ?_ (by rw [show wfuel = 1000000 from rfl]; omega)
      · rintro kk σ s3 ⟨k, rfl, hk1, hk, rfl, rfl, hnd⟩
        have hfi := hT.fi hj k
        have g0 : (s2 ++ [D.lst (nv (it (phi g) j k))])[s2.length]? = some (.lst (nv (it (phi g) j k))) := sg0
        simp! [eq_int, Option.map_some, truth]
        by_cases hst : fi (phi g) k j = j
        · have e2 : (!decide ((fi (phi g) k j : Int) = (j : Int))) = false := by simp [hst]
          rw [e2]
          have hdis : ∀ x, x ∈ it (phi g) j k -> x ∉ W.flatten := fun x hx hW => by
            have := disj hT hF.cl hj hin hnd hF.nd
            exact (List.nodup_append.1 this).2.2 x hW x hx rfl
          have hdl : W.flatten.length <= 2 * e := by
            have := sub_len (M := List.range (2 * e)) hF.nd fun x hx => List.mem_range.2 (hF.lt x hx)
            rwa [List.length_range] at this
          have hitl : (it (phi g) j k).length = k := it_len
          have h1' : (s2 ++ [D.lst (nv (it (phi g) j k))])[s.length + 1]? = some (.dic (kd (fun _ => .bl true) W.flatten)) := sgl h1
          have h2' : (s2 ++ [D.lst (nv (it (phi g) j k))])[s.length + 2]? = some (.lst (tv (emps g ++ W))) := sgl h2
          simp! [knd_ref, h1', kC_dic, g0]
          refine w_dcmC (l := s2.length) (f := fun _ => .bl true) (it (phi g) j k) (fun d => .int (d : Int)) hnd (fun _ => rfl) (by omega) g0 ?_ ?_
          · intro c hc
            simp! []
            rw [kd_key]
            rfl
          · have hMne : it (phi g) j k ≠ [] := fun z => by
              have := congrArg List.length z
              rw [it_len] at this
              simp at this; omega
            have h0' : (s2 ++ [D.lst (nv (it (phi g) j k))])[s.length]? = some (.lst (nv (succs g e))) := sgl h0
            have hl3 : (s2 ++ [D.lst (nv (it (phi g) j k))]).length = s2.length + 1 := by simp
            have hO3 : On s (s2 ++ [D.lst (nv (it (phi g) j k))]) := hO.app
            rw [me_upd, m_upd h1' hMne hnd hdis (fun _ => rfl) (by omega), h1', kC_dic]
            refine ⟨rfl, ?_⟩
            generalize s2 ++ [D.lst (nv (it (phi g) j k))] = s3 at *
            have ho : ∀ (i : Nat) (c x : D), i ≠ s.length + 1 -> s3[i]? = some c -> (s3.set (s.length + 1) x)[i]? = some c := fun i c x hi hc => by rw [List.getElem?_set_ne (Ne.symm hi)]; exact hc
            have f0 := ho s.length _ (.dic (kd (fun _ => .bl true) (W.flatten ++ it (phi g) j k))) (by omega) h0'
            have f2 := ho (s.length + 2) _ (.dic (kd (fun _ => .bl true) (W.flatten ++ it (phi g) j k))) (by omega) h2'
            have fe := ho s2.length _ (.dic (kd (fun _ => .bl true) (W.flatten ++ it (phi g) j k))) (by omega) g0
            have f1 : (s3.set (s.length + 1) (.dic (kd (fun _ => .bl true) (W.flatten ++ it (phi g) j k))))[s.length + 1]? = some (.dic (kd (fun _ => .bl true) (W.flatten ++ it (phi g) j k))) := List.getElem?_set_self (by omega)
            have hO4 : On s (s3.set (s.length + 1) (.dic (kd (fun _ => .bl true) (W.flatten ++ it (phi g) j k)))) := hO3.set (by omega)
            have hl4 : (s3.set (s.length + 1) (.dic (kd (fun _ => .bl true) (W.flatten ++ it (phi g) j k)))).length = s2.length + 1 := by rw [List.length_set, hl3]
            generalize s3.set (s.length + 1) (.dic (kd (fun _ => .bl true) (W.flatten ++ it (phi g) j k))) = s4 at *
            rw [f2, kC_lst, seqv_ref, fe, sqC_lst]
            refine ⟨rfl, ?_⟩
            simp! [la_tup nv_purs]
            rw [tv_snoc, List.append_assoc]
            refine ⟨by rw [tv_len, List.length_append]; omega, W ++ [it (phi g) j k], ⟨_, _, _, _, rfl⟩, hO4.set (by omega), ?_, ?_, ?_, hF.next hT hj hin hk1 hst hnd⟩
            · rw [List.getElem?_set_ne (by omega)]; exact f0
            · rw [List.getElem?_set_ne (by omega), f1]; simp
            · rw [List.getElem?_set_self (by omega)]
        · have e2 : (!decide ((fi (phi g) k j : Int) = (j : Int))) = true := by simp; omega
          rw [e2]
          have hni : fi (phi g) k j ∉ W.flatten ++ it (phi g) j k := fun z => hst (stop hT hF.cl hj hin hnd z).2
          have hnd3 := go hnd hni
          have hkb := it_bound hT hj hnd3
          have h0' : ∀ x : D, (s2 ++ [x])[s.length]? = some (.lst (nv (succs g e))) := fun x => sgl h0
          have g1 : ∀ x y : D, (s2 ++ [x]).set s2.length y = s2 ++ [y] := fun x y => by simp
          have e5 : nv (it (phi g) j k) ++ [D.int ((fi (phi g) k j : Nat) : Int)] = nv (it (phi g) j (k + 1)) := by rw [it_succ, nv_app]; rfl
          simp! [knd_ref, g0, kC_lst]
          rw [e5]
          simp! [h0', atI_nat, nv_get, succs_get hfi, Option.map_some]
          exact ⟨by omega, by rw [nv_len, it_len]; omega, 2 * e + 1 - (k + 1), by omega, k + 1, rfl, by omega, hkb, rfl, rfl, hnd3⟩
      · exact ⟨1, by omega, by omega, by omega, rfl, rfl, by simp [it]⟩
  · rintro σ s2 ⟨W, ⟨x4, x5, x6, x7, rfl⟩, hO, h0, h1, h2, hF⟩
    simp! [seqv_ref, h2, sqC_lst]
    refine ⟨hO.fin, ?_⟩
    rw [rk_clean gv_clean]
    rw [List.length_range] at hF
    exact ⟨⟨W, rfl, hF⟩, hO.take⟩
end Fs
namespace Fs
open PySem Cy
theorem fc_perm {f : Nat -> Nat} {N : Nat} (h : Fc f N W N) : W.flatten.Perm (List.range N) :=
  (List.perm_ext_iff_of_nodup h.nd List.nodup_range).2 fun x => ⟨fun z => List.mem_range.2 (h.lt x z), fun z => h.all x (List.mem_range.1 z)⟩
theorem emps_nil {g : List (List Nat)} : ∀ w, w ∈ emps g -> w = [] := fun w hw => by
  have : w.isEmpty = true := (List.mem_filter.1 hw).2
  simpa using this
theorem k_faceof (n : Nat) {g : List (List Nat)} {e : Nat} (h : Gr g e) (st : Sto) : wp (call P (n + 4) F.zq8 [.tup (tv g)]) st (fun r s' => (∃ W, Fc (phi g) (2 * e) W (2 * e) /\ r = .lst (nv (tails (emps g ++ W) e))) /\ s' = st) NX := by
  have hsl := sl_ge
  have hn := h.n
  have he := h.e
  refine w_call (F := c_zq8) rfl rfl ?_
  unfold c_zq8
  simp! [la_tup tv_purs]
  refine ⟨by decide, ?_⟩
  refine wp_nx (k_count (n := n + 2) (by omega) st) ?_
  rintro d s' ⟨rfl, rfl⟩
  rw [h.len]
  simp! []
  refine ⟨⟨rfl, by omega, by omega, by simp; omega⟩, ?_⟩
  rw [rep_nv, Int.toNat_natCast, la_lst nv_purs]
  simp! []
  refine wp_nx (k_faces (n := n) h _) ?_
  rintro d s1 ⟨⟨W, rfl, hW⟩, rfl⟩
  have hWl := fc_len hW
  have hel : (emps g).length <= g.length := List.length_filter_le ..
  have fem : (emps g).flatten = [] := by
    rw [List.flatten_eq_nil_iff]; exact emps_nil
  have fpm : (emps g ++ W).flatten.Perm (List.range (2 * e)) := by
    rw [List.flatten_append, fem, List.nil_append]; exact fc_perm hW
  have fnd : (emps g ++ W).flatten.Nodup := fpm.nodup_iff.2 List.nodup_range
  have flt : ∀ d, d ∈ (emps g ++ W).flatten ↔ d < 2 * e := fun d => by rw [fpm.mem_iff, List.mem_range]
  have hFl : (emps g ++ W).length <= 300 := by rw [List.length_append]; omega
  generalize hFe : emps g ++ W = F at *
  simp! []
  refine w_forPE F (fun r => .tup (nv r)) (fun pre σ s => (∃ a b c, σ = [some (.tup (tv g)), some (.ref s'.length), a, b, c]) /\ ∃ t : List Nat, s = s' ++ [.lst (nv t)] /\ t.length = 2 * e /\ ∀ d, d ∈ pre.flatten -> t[d]? = some (tailOf F d)) ⟨⟨_, _, _, rfl⟩, _, rfl, List.length_replicate, by simp⟩ ?_ ?_
  · rintro pre r post σ s hgs ⟨⟨a, b, c, rfl⟩, t, rfl, ht, htd⟩
    simp! [la_tup nv_purs]
    refine w_forP r _ (fun pr σ s => (∃ c, σ = [some (.tup (tv g)), some (.ref s'.length), some (.int (pre.length : Nat)), some (.tup (nv r)), c]) /\ ∃ t : List Nat, s = s' ++ [.lst (nv t)] /\ t.length = 2 * e /\ ∀ d, d ∈ pre.flatten ∨ d ∈ pr -> t[d]? = some (tailOf F d)) ⟨⟨_, rfl⟩, t, rfl, ht, by simpa using htd⟩ ?_ ?_
    · rintro pr d po σ s hr ⟨⟨c, rfl⟩, t, rfl, ht, htd⟩
      have hdr : d ∈ r := by rw [hr]; simp
      have hd : d < 2 * e := (flt d).1 (List.mem_flatten.2 ⟨r, by rw [hgs]; simp, hdr⟩)
      have htl : tailOf F d = pre.length := by rw [hgs]; exact tail_at hdr (hgs ▸ fnd)
      simp! []
      rw [nv_len, ixN_nat (by omega)]
      simp! []
      rw [nv_set]
      refine ⟨⟨_, rfl⟩, _, rfl, by simpa using ht, ?_⟩
      intro x hx
      by_cases hxd : x = d
      · subst hxd
        rw [List.getElem?_set_self (by omega), htl]
      · rw [List.getElem?_set_ne (fun q => hxd q.symm)]
        refine htd x ?_
        simp only [List.mem_append, List.mem_singleton] at hx
        rcases hx with hx | hx | hx
        · exact .inl hx
        · exact .inr hx
        · exact absurd hx hxd
    · rintro σ s ⟨⟨c, rfl⟩, t, rfl, ht, htd⟩
      simp! []
      refine ⟨⟨_, _, _, rfl⟩, t, rfl, ht, ?_⟩
      intro x hx
      refine htd x ?_
      simpa using hx
  · rintro σ s ⟨⟨a, b, c, rfl⟩, t, rfl, ht, htd⟩
    simp! []
    have hT : t = tails F e := by
      refine List.ext_getElem? fun i => ?_
      by_cases hi : i < 2 * e
      · rw [htd i ((flt i).2 hi), tails_get hi]
      · rw [List.getElem?_eq_none (by omega), List.getElem?_eq_none (by simp [tails]; omega)]
    subst hT
    refine ⟨okP_app, ?_⟩
    rw [rk_lst (Nat.le_refl _) sg0 nv_clean]
    exact ⟨⟨W, hW, by rw [hFe]⟩, take0⟩
end Fs
namespace Pf
def sm : Nat -> (Nat -> Rat) -> Rat
  | 0, _ => 0
  | n + 1, f => sm n f + f n
def sg (n : Nat) : Rat := if n % 2 = 0 then 1 else -1
section
variable {V : Type}
def pf (w : V -> V -> Rat) : Nat -> List V -> Rat
  | _, [] => 1
  | 0, _ :: _ => 0
  | n + 1, v :: L => sm L.length (fun k => sg k * (match L[k]? with
      | some x => w v x
      | none => 0) * pf w n (L.eraseIdx k))
def at' (w : V -> V -> Rat) (v : V) (o : Option V) : Rat := match o with
  | some x => w v x
  | none => 0
def pfs (w : V -> V -> Rat) (L : List V) : Rat := pf w L.length L
end
end Pf
namespace Pf
section
variable {V : Type} {w : V -> V -> Rat}
def two (L : List V) (k j : Nat) : List V := (L.eraseIdx k).eraseIdx (if j < k then j else j - 1)
def G2 (w : V -> V -> Rat) (x y : V) (L : List V) (k j : Nat) : Rat := if j = k then 0 else - sg k * (if j < k then sg j else - sg j) * at' w x L[k]? * at' w y L[j]? * pfs w (two L k j)
end
end Pf
namespace Pf
section
variable {V : Type} {w : V -> V -> Rat}
end
section
variable {V : Type} (w : V -> V -> Rat) (a b : V)
variable {w a b}
end
end Pf
namespace Pf
section
variable {V : Type} {w : V -> V -> Rat} {a b : V}
end
end Pf
namespace Pf
section
variable {V : Type} {w : V -> V -> Rat}
end
end Pf
namespace Pf
abbrev rw0 (f : Nat -> Nat -> Int) : Nat -> Nat -> Rat := fun i j => (f i j : Rat)
abbrev rdv (f : Nat -> Nat -> Int) (d : Int) : Nat -> Nat -> Rat := fun i j => (f i j : Rat) / (d : Rat)
structure Iv (N : Nat) (w0 : Nat -> Nat -> Int) (m : Nat) (R : Nat -> Nat -> Int) (d s : Int) (I rest : List Nat) : Prop where
  len : rest.length = m
  dn : d ≠ 0
  sk : ∀ i j, R i j = - R j i
  all : pfs (rw0 w0) (List.range N) = (s : Rat) * pfs (rw0 w0) (I ++ rest)
  sub : ∀ S : List Nat, (∀ i, i ∈ S -> i < m) -> (d : Rat) * pfs (rdv R d) S = pfs (rw0 w0) (I ++ S.map fun i => rest.getD i 0)
variable {N m : Nat} {w0 R R' : Nat -> Nat -> Int} {d s : Int} {I rest : List Nat}
end Pf
namespace Pf
variable {N m : Nat} {w0 R R' : Nat -> Nat -> Int} {d s : Int} {I rest : List Nat}
end Pf
namespace Pf
end Pf
namespace Pf
end Pf
namespace Pf
def Fb (D A : Nat) (q : Rat) : Prop := 0 < D /\ ∃ z : Int, q * (D : Rat) = (z : Rat) /\ z.natAbs <= A
theorem Fb.mul {D E A B : Nat} {p q : Rat} (h : Fb D A p) (h2 : Fb E B q) : Fb (D * E) (A * B) (p * q) := by
  obtain ⟨hD, z, hz, hA⟩ := h
  obtain ⟨hE, y, hy, hB⟩ := h2
  refine ⟨Nat.mul_pos hD hE, z * y, ?_, ?_⟩
  · have : ((z * y : Int) : Rat) = (z : Rat) * (y : Rat) := by simp
    have c : ((D * E : Nat) : Rat) = (D : Rat) * (E : Rat) := by simp
    rw [this, <- hz, <- hy, c]; grind
  · rw [Int.natAbs_mul]
    exact Nat.mul_le_mul hA hB
def Bd (B x : Rat) : Prop := -B <= x /\ x <= B
theorem mul_nn {a b : Rat} (ha : 0 <= a) (hb : 0 <= b) : 0 <= a * b := Rat.mul_nonneg ha hb
theorem Bd.mul {A B x y : Rat} (h : Bd A x) (h2 : Bd B y) : Bd (A * B) (x * y) := by
  obtain ⟨a1, a2⟩ := h
  obtain ⟨b1, b2⟩ := h2
  have p1 := mul_nn (a := A - x) (b := B + y) (by grind) (by grind)
  have p2 := mul_nn (a := A + x) (b := B - y) (by grind) (by grind)
  have p3 := mul_nn (a := A - x) (b := B - y) (by grind) (by grind)
  have p4 := mul_nn (a := A + x) (b := B + y) (by grind) (by grind)
  constructor <;> grind
end Pf
namespace Fs
open PySem Pf
section
variable {T : Tbl} {σ : Env} {s : Sto} {E : D -> Sto -> Prop} {Q : D -> Sto -> Prop} {QF : Fl -> Sto -> Prop} {γ : Type}
def fr (q : Rat) : D := .tup [.int q.num, .int ((q.den : Nat) : Int)]
def Lg (k : Nat) (a : Int) : Prop := a.natAbs < 2 ^ k
theorem Lg.mul {j k : Nat} {a b : Int} (h : Lg j a) (h2 : Lg k b) : Lg (j + k) (a * b) := by
  unfold Lg at *
  rw [Int.natAbs_mul, Nat.pow_add]
  exact Nat.mul_lt_mul'' h h2
def fw1 (n : Nat) (f : Nat -> Rat) : List D := rg n fun j => fr (f j)
def mt (n : Nat) (M : Nat -> Nat -> Rat) : List D := rg n fun i => .tup (fw1 n (M i))
theorem ofS_ok (x : String) : PyData.strOk (Str.ofString x) = true := by
  have h := cpsOfBytes_string x
  simp only [PyData.strOk, Str.ofString]
  rw [h, List.all_toArray, List.all_eq_true]
  intro c hc
  obtain ⟨ch, _, rfl⟩ := List.mem_map.1 hc
  rw [decide_eq_true_eq]
  have h2 := ch.valid
  have h3 : ch.toNat = ch.val.toNat := rfl
  rw [h3]
  rcases h2 with h2 | h2
  · have : ch.val.toNat < 0xD800 := h2
    omega
  · exact h2.2
theorem app_ok {a b : Str} (h : PyData.strOk a = true) (h2 : PyData.strOk b = true) : PyData.strOk (a ++ b) = true := by
  have e : (a ++ b).cps = a.cps ++ b.cps := rfl
  simp only [PyData.strOk] at *
  rw [e, Array.all_append, h, h2]; rfl
theorem join_ok {s : Str} (h : PyData.strOk s = true) : ∀ {L : List Str}, (∀ x, x ∈ L -> PyData.strOk x = true) -> PyData.strOk (s.join L) = true
  | [], _ => by simp only [Str.join]; decide +kernel
  | [a], hL => by simp only [Str.join]; exact hL a (by simp)
  | a :: b :: L, hL => by
    have ih := join_ok h (L := b :: L) fun x hx => hL x (List.mem_cons_of_mem _ hx)
    simp only [Str.join]
    exact app_ok (app_ok (hL a (by simp)) h) ih
theorem tupT_ok {L : List Str} (hL : ∀ x, x ∈ L -> PyData.strOk x = true) : PyData.strOk (tupleText L) = true := by
  simp only [tupleText]
  exact app_ok (app_ok (ofS_ok _) (join_ok (ofS_ok _) hL)) (ofS_ok _)
theorem shownAll_map : ∀ {L : List PyData}, PyData.shownAll L = L.map PyData.shown
  | [] => by simp [PyData.shownAll]
  | a :: L => by simp [PyData.shownAll, shownAll_map]
def rt (g : List (List Nat)) : Str := (PyData.tuple (pt g)).shown
end
end Fs
namespace Fs
open PySem
structure Smd (k d : Nat) (x : PyData) : Prop where
  sh : x.leavesShort 8 = true
  w : x.weight <= k
  ok : x.showable = true
  nd : x.hasDict = false
  dp : x.depth <= d
  st : PyData.strOk x.shown = true
theorem Smd.all {k d : Nat} : ∀ {xs : List PyData}, (∀ x, x ∈ xs -> Smd k d x) -> PyData.leavesShortAll 8 xs = true /\ PyData.weightAll xs <= (k + 1) * xs.length /\ PyData.showableAll xs = true /\ PyData.hasDictAll xs = false /\ PyData.depthAll xs <= d
  | [], _ => by simp [PyData.leavesShortAll, PyData.weightAll, PyData.showableAll, PyData.hasDictAll, PyData.depthAll]
  | a :: xs, h => by
    obtain ⟨h1, h2, h3, h4, h5⟩ := Smd.all (xs := xs) fun x hx => h x (List.mem_cons_of_mem _ hx)
    have ha := h a (by simp)
    have hw := ha.w
    have hd := ha.dp
    refine ⟨?_, ?_, ?_, ?_, ?_⟩
    · simp only [PyData.leavesShortAll, h1, ha.sh, Bool.and_self]
    · simp only [PyData.weightAll, List.length_cons, Nat.mul_add]; omega
    · simp only [PyData.showableAll, h3, ha.ok, Bool.and_self]
    · simp only [PyData.hasDictAll, h4, ha.nd, Bool.or_self]
    · simp only [PyData.depthAll]; omega
theorem textFrom_ok : ∀ {L : List Str} {k : Nat} {acc : Str}, PyData.strOk acc = true -> (∀ x, x ∈ L -> PyData.strOk x = true) -> PyData.strOk (textFrom k acc L) = true
  | [], k, acc, h, _ => h
  | t :: r, k, acc, h, hL => by
    have h1 : PyData.strOk (acc ++ (if k > 0 then ", " else "" : String) ++ t) = true := app_ok (app_ok h (ofS_ok _)) (hL t (by simp))
    exact textFrom_ok (L := r) (k := k + 1) h1 fun x hx => hL x (List.mem_cons_of_mem _ hx)
theorem listT_ok {L : List Str} (hL : ∀ x, x ∈ L -> PyData.strOk x = true) : PyData.strOk (listText L) = true := by
  simp only [listText]
  exact app_ok (textFrom_ok (ofS_ok _) hL) (ofS_ok _)
theorem Smd.sts {k d : Nat} {xs : List PyData} (h : ∀ x, x ∈ xs -> Smd k d x) : ∀ x, x ∈ PyData.shownAll xs -> PyData.strOk x = true := fun x hx => by
  rw [shownAll_map] at hx
  obtain ⟨y, hy, rfl⟩ := List.mem_map.1 hx
  exact (h y hy).st
theorem Smd.tup {k d m : Nat} {xs : List PyData} (h : ∀ x, x ∈ xs -> Smd k d x) (hm : xs.length <= m) : Smd ((k + 1) * m) (d + 1) (.tuple xs) := by
  obtain ⟨h1, h2, h3, h4, h5⟩ := Smd.all h
  refine ⟨by simp only [PyData.leavesShort]; exact h1, ?_, by simp only [PyData.showable]; exact h3, by simp only [PyData.hasDict]; exact h4, by simp only [PyData.depth]; omega, by simp only [PyData.shown]; exact tupT_ok (Smd.sts h)⟩
  simp only [PyData.weight]
  exact Nat.le_trans h2 (Nat.mul_le_mul_left _ hm)
theorem Smd.lst {k d m : Nat} {xs : List PyData} (h : ∀ x, x ∈ xs -> Smd k d x) (hm : xs.length <= m) : Smd ((k + 1) * m) (d + 1) (.list xs) := by
  obtain ⟨h1, h2, h3, h4, h5⟩ := Smd.all h
  refine ⟨by simp only [PyData.leavesShort]; exact h1, ?_, by simp only [PyData.showable]; exact h3, by simp only [PyData.hasDict]; exact h4, by simp only [PyData.depth]; omega, by simp only [PyData.shown]; exact listT_ok (Smd.sts h)⟩
  simp only [PyData.weight]
  exact Nat.le_trans h2 (Nat.mul_le_mul_left _ hm)
theorem ints_short : ∀ d : Nat, d < 801 -> (PyData.int ((d : Int) - 400)).shown.length <= 8 /\ (PyData.int ((d : Int) - 400)).weight <= 12 /\ (PyData.int ((d : Int) - 400)).showable = true := by decide +kernel
theorem Smd.int {i : Int} (h : i.natAbs <= 400) : Smd 12 0 (.int i) := by
  obtain ⟨d, hd, rfl⟩ : ∃ d : Nat, d < 801 /\ i = (d : Int) - 400 := ⟨(i + 400).toNat, by omega, by omega⟩
  obtain ⟨h1, h2, h3⟩ := ints_short d hd
  exact ⟨by simp only [PyData.leavesShort]; exact decide_eq_true h1, h2, h3, by simp only [PyData.hasDict], by simp only [PyData.depth]; omega, by simp only [PyData.shown]; exact ofS_ok _⟩
end Fs
namespace Fs
open PySem
structure Smb (k d : Nat) (x : PyData) : Prop where
  sh : x.leavesShort 420 = true
  w : x.bulk <= k
  ok : x.showable = true
  nd : x.hasDict = false
  dp : x.depth <= d
  st : PyData.strOk x.shown = true
theorem Smb.mono {k k' d d' : Nat} {x : PyData} (h : Smb k d x) (hk : k <= k') (hd : d <= d') : Smb k' d' x := ⟨h.sh, Nat.le_trans h.w hk, h.ok, h.nd, Nat.le_trans h.dp hd, h.st⟩
theorem Smb.all {k d : Nat} : ∀ {xs : List PyData}, (∀ x, x ∈ xs -> Smb k d x) -> PyData.leavesShortAll 420 xs = true /\ PyData.bulkAll xs <= (k + 1) * xs.length /\ PyData.showableAll xs = true /\ PyData.hasDictAll xs = false /\ PyData.depthAll xs <= d
  | [], _ => by simp [PyData.leavesShortAll, PyData.bulkAll, PyData.showableAll, PyData.hasDictAll, PyData.depthAll]
  | a :: xs, h => by
    obtain ⟨h1, h2, h3, h4, h5⟩ := Smb.all (xs := xs) fun x hx => h x (List.mem_cons_of_mem _ hx)
    have ha := h a (by simp)
    have hw := ha.w
    have hd := ha.dp
    refine ⟨?_, ?_, ?_, ?_, ?_⟩
    · simp only [PyData.leavesShortAll, h1, ha.sh, Bool.and_self]
    · simp only [PyData.bulkAll, List.length_cons, Nat.mul_add]; omega
    · simp only [PyData.showableAll, h3, ha.ok, Bool.and_self]
    · simp only [PyData.hasDictAll, h4, ha.nd, Bool.or_self]
    · simp only [PyData.depthAll]; omega
theorem Smb.sts {k d : Nat} {xs : List PyData} (h : ∀ x, x ∈ xs -> Smb k d x) : ∀ x, x ∈ PyData.shownAll xs -> PyData.strOk x = true := fun x hx => by
  rw [shownAll_map] at hx
  obtain ⟨y, hy, rfl⟩ := List.mem_map.1 hx
  exact (h y hy).st
theorem Smb.tup {k d m : Nat} {xs : List PyData} (h : ∀ x, x ∈ xs -> Smb k d x) (hm : xs.length <= m) : Smb ((k + 1) * m) (d + 1) (.tuple xs) := by
  obtain ⟨h1, h2, h3, h4, h5⟩ := Smb.all h
  refine ⟨by simp only [PyData.leavesShort]; exact h1, ?_, by simp only [PyData.showable]; exact h3, by simp only [PyData.hasDict]; exact h4, by simp only [PyData.depth]; omega, by simp only [PyData.shown]; exact tupT_ok (Smb.sts h)⟩
  simp only [PyData.bulk]
  exact Nat.le_trans h2 (Nat.mul_le_mul_left _ hm)
theorem Smb.lst {k d m : Nat} {xs : List PyData} (h : ∀ x, x ∈ xs -> Smb k d x) (hm : xs.length <= m) : Smb ((k + 1) * m) (d + 1) (.list xs) := by
  obtain ⟨h1, h2, h3, h4, h5⟩ := Smb.all h
  refine ⟨by simp only [PyData.leavesShort]; exact h1, ?_, by simp only [PyData.showable]; exact h3, by simp only [PyData.hasDict]; exact h4, by simp only [PyData.depth]; omega, by simp only [PyData.shown]; exact listT_ok (Smb.sts h)⟩
  simp only [PyData.bulk]
  exact Nat.le_trans h2 (Nat.mul_le_mul_left _ hm)
theorem log_small {i : Int} (h : i.natAbs < 2 ^ 400) : i.natAbs.log2 < 400 := by
  by_cases hz : i.natAbs = 0
  · rw [hz]; decide
  · exact (Nat.log2_lt hz).2 h
theorem int_text {i : Int} (h : i.natAbs < 2 ^ 400) : (PyData.int i).shown.length <= 401 := by
  show (Str.ofString (toString i)).length <= 401
  rw [ofString_length]
  exact int_text_length_le (k := 400) (by decide) (log_small h)
theorem Smb.int {i : Int} (h : i.natAbs < 2 ^ 400) : Smb 0 0 (.int i) := by
  refine ⟨?_, Nat.le_refl _, ?_, by simp only [PyData.hasDict], by simp only [PyData.depth]; omega, by simp only [PyData.shown]; exact ofS_ok _⟩
  · simp only [PyData.leavesShort]
    exact decide_eq_true (Nat.le_trans (int_text h) (by decide))
  · simp only [PyData.showable]
    refine decide_eq_true ?_
    have := log_small h
    omega
theorem Smb.repr {k d : Nat} {x : PyData} (h : Smb k d x) (hk : k <= 30000) (hd : d <= 60) : x.showable = true /\ x.shown.length <= sizeLine /\ x.depth <= 60 /\ x.hasDict = false := by
  refine ⟨h.ok, ?_, Nat.le_trans h.dp hd, h.nd⟩
  have := PyData.shown_le_bulk 420 (by decide) x h.sh
  have hw := h.w
  rw [sizeLine_eq]
  omega
theorem Smb.pn {L : List Nat} {m : Nat} (h : ∀ d, d ∈ L -> d <= 400) (hm : L.length <= m) : Smb m 1 (.tuple (pn L)) :=
  (Smb.tup (k := 0) (d := 0) (fun x hx => by
    obtain ⟨d, hd, rfl⟩ := List.mem_map.1 hx
    refine Smb.int ?_
    have := h d hd
    have h9 : 400 < 2 ^ 400 := Nat.lt_of_lt_of_le (show 400 < 2 ^ 9 by decide) (Nat.pow_le_pow_right (by decide) (by decide))
    show d < _
    omega) (by simpa [Fs.pn] using hm)).mono (by omega) (by omega)
end Fs
namespace Fs
open PySem
end Fs
namespace Fs
open PySem
def cr (rows : List (List Nat)) : Sto := rows.map fun r => D.lst (nv r)
theorem cr_len {rows : List (List Nat)} : (cr rows).length = rows.length := by simp [cr]
def refs (b k : Nat) : List D := (List.range k).map fun i => D.ref (b + i)
theorem refs_len {b k : Nat} : (refs b k).length = k := by simp [refs]
theorem refs_succ {b k : Nat} : refs b (k + 1) = .ref b :: refs (b + 1) k := by
  simp only [refs, List.range_succ_eq_map, List.map_cons, List.map_map, Nat.add_zero]
  congr 1
  refine List.map_congr_left fun i _ => ?_
  simp only [Function.comp]
  congr 1; omega
def rows0 (k : Nat) : List D := List.replicate k (.lst [])
def nb (k : Nat) : List (List Nat) := List.replicate k []
theorem lands_rows : ∀ {k : Nat} {s : Sto}, lands (rows0 k) s = (refs s.length k, s ++ cr (nb k))
  | 0, s => by simp [lands, refs, cr, rows0, nb]
  | k + 1, s => by
    have ih := fun s => lands_rows (k := k) (s := s)
    simp only [rows0, nb] at ih ⊢
    rw [List.replicate_succ]
    simp only [lands, la_lst0, ih, List.length_append, List.length_cons, List.length_nil, Nat.zero_add]
    rw [refs_succ, List.replicate_succ]
    simp [cr, nv]
theorem land_rows {k : Nat} {s : Sto} : land (.lst (rows0 k)) s = (.ref (s.length + k), s ++ (cr (nb k) ++ [.lst (refs s.length k)])) := by
  simp only [land, lands_rows]
  simp [cr_len, nb]
section
variable {st r : Sto} {rows : List (List Nat)} {k j : Nat} {a : D}
theorem rA (hk : rows.length = k) : (st ++ (cr rows ++ a :: r))[st.length + k]? = some a := by
  rw [List.getElem?_append_right (by omega)]
  rw [List.getElem?_append_right (by rw [cr_len]; omega)]
  simp [cr_len, hk]
theorem rR {row : List Nat} (h : rows[j]? = some row) : (st ++ (cr rows ++ r))[st.length + j]? = some (.lst (nv row)) := by
  have hj : j < rows.length := (List.getElem?_eq_some_iff.1 h).1
  rw [List.getElem?_append_right (by omega), List.getElem?_append_left (by rw [cr_len]; omega)]
  simp [cr, h]
theorem rS {row : List Nat} (hj : j < rows.length) : (st ++ (cr rows ++ r)).set (st.length + j) (.lst (nv row)) = st ++ (cr (rows.set j row) ++ r) := by
  rw [List.set_append_right _ _ (by omega), List.set_append_left _ _ (by rw [cr_len]; omega)]
  simp [cr, List.map_set]
end
theorem row_len {rows : List (List Nat)} {j : Nat} {row : List Nat} (h : rows[j]? = some row) : row.length <= rows.flatten.length := by
  have h1 := split_at h
  conv => rhs; rw [h1]
  simp only [List.flatten_append, List.flatten_cons, List.length_append]
  omega
theorem flat_set {rows : List (List Nat)} {j d : Nat} {row : List Nat} (h : rows[j]? = some row) : (rows.set j (row ++ [d])).flatten.Perm (rows.flatten ++ [d]) := by
  have h1 := split_at h
  have hj : j < rows.length := (List.getElem?_eq_some_iff.1 h).1
  have h2 : rows.set j (row ++ [d]) = rows.take j ++ (row ++ [d]) :: rows.drop (j + 1) := by
    rw [List.set_eq_take_append_cons_drop, if_pos hj]
  rw [h2]
  conv => rhs; rw [h1]
  simp only [List.flatten_append, List.flatten_cons, List.append_assoc]
  refine List.Perm.append_left _ (List.Perm.append_left _ ?_)
  simpa using (List.perm_append_comm (l₁ := [d]) (l₂ := (rows.drop (j + 1)).flatten))
theorem k_any (n : Nat) {st : Sto} {l m k : Nat} {N : Int} (hm : 1 <= m) (hm2 : m <= 10) (hk : k <= 12) (hN : N + 100 <= 2 ^ 30) (h : Sr st l N) :
    wp (call P (n + 3) F.zq20 [.ref l, .int m, .int k]) st (fun r s' => (∃ g e, r = .tup (tv g) /\ Gr g e /\ 1 <= g.length /\ g.length <= m /\ e <= k) /\ Up st s' l (N + 100)) NX := by
  have hsl := sl_ge
  have hll := h.lt
  refine w_call (F := c_zq20) rfl rfl ?_
  unfold c_zq20
  simp! []
  refine wp_nx (k_next (n := n + 1) (by omega) (by omega) (by omega) h) ?_
  rintro y s1 ⟨⟨x, rfl, hx0, hx1⟩, hu1⟩
  obtain ⟨a, rfl⟩ : ∃ a : Nat, x = (a : Int) := ⟨x.toNat, by omega⟩
  simp! []
  have e1 : (1 : Int) + (a : Int) = ((a + 1 : Nat) : Int) := by omega
  rw [e1, rngL1 (by omega)]
  simp! []
  refine w_lcm (List.range (a + 1)) _ (fun _ => .lst []) (by simp; omega) ?_ ?_
  · intro c _
    simp! []
    omega
  have e2 : (List.range (a + 1)).map (fun _ => D.lst []) = rows0 (a + 1) := by simp [List.map_const', rows0]
  rw [e2]
  simp! [land_rows]
  have hs1 := hu1.sr hll
  have hl1 := hu1.len
  have hs2 : Sr (s1 ++ (cr (nb (a + 1)) ++ [.lst (refs s1.length (a + 1))])) l (N + 1) := by
    obtain ⟨p, q, r, h0, h1, h2⟩ := hs1
    exact ⟨p, q, r, sgl h0, h1, h2⟩
  have e3 : ((k : Int) + 1) = ((k + 1 : Nat) : Int) := by omega
  rw [e3]
  refine wp_nx (k_next (n := n + 1) (m := ((k + 1 : Nat) : Int)) (by omega) (by omega) (by omega) hs2) ?_
  rintro y s2 ⟨⟨x, rfl, hx0, hx1⟩, hu2⟩
  obtain ⟨e, rfl⟩ : ∃ a : Nat, x = (a : Int) := ⟨x.toNat, by omega⟩
  simp! []
  have e4 : (2 : Int) * (e : Int) = ((2 * e : Nat) : Int) := by omega
  rw [e4]
  have hlog : (Int.natAbs 2).log2 + (Int.natAbs (e : Int)).log2 < 1000000 := by
    have h1 : (Int.natAbs (e : Int)).log2 < 500000 := log_lt (k := 10) (by omega) (by decide)
    have h2 : (Int.natAbs 2).log2 = 1 := by decide
    omega
  refine ⟨hlog, by simp [rgOk]; omega, ?_⟩
  rw [rngN_nv, Int.toNat_natCast]
  obtain ⟨p, q, r, rfl, hq0, hq1⟩ := hu2
  have hc1 : ∃ c', s1[l]? = some c' := ⟨_, List.getElem?_eq_getElem (by omega)⟩
  obtain ⟨c', hc'⟩ := hc1
  rw [ssl hc']
  have hu3 : Up st (s1.set l (src p q r)) l (N + 1 + 1) := hu1.trans ⟨p, q, r, rfl, hq0, hq1⟩
  have hl3 := hu3.len
  have hl4 : s1.length = (s1.set l (src p q r)).length := by simp
  rw [hl4]
  generalize s1.set l (src p q r) = s3 at *
  have hs3 : Sr (s3 ++ (cr (nb (a + 1)) ++ [.lst (refs s3.length (a + 1))])) l (N + 1 + 1) := by
    obtain ⟨p, q, r, h0, h1, h2⟩ := hu3.sr hll
    exact ⟨p, q, r, sgl h0, h1, h2⟩
  refine wp_nx (k_mixedL (n := n) (L := List.range (2 * e)) (by simp; omega) (by simp; omega) hs3) ?_
  rintro y s4 ⟨⟨L', rfl, hL'⟩, hu4⟩
  have hLl : L'.length = 2 * e := by rw [hL'.length_eq]; simp
  obtain ⟨p, q, r, rfl, hq0, hq1⟩ := hu4
  have hc1 : ∃ c', s3[l]? = some c' := ⟨_, List.getElem?_eq_getElem (by omega)⟩
  obtain ⟨c', hc'⟩ := hc1
  rw [ssl hc']
  have hu5 : Up st (s3.set l (src p q r)) l (N + 1 + 1 + (List.range (2 * e)).length) := hu3.trans ⟨p, q, r, rfl, hq0, hq1⟩
  have hl5 : s3.length = (s3.set l (src p q r)).length := by simp
  rw [hl5]
  generalize s3.set l (src p q r) = s5 at *
  simp! []
  refine w_forP L' _ (fun pre σ s => (∃ x5 x6, σ = [some (.ref l), some (.int m), some (.int k), some (.ref (s5.length + (a + 1))), x5, x6, none]) /\ ∃ (rows : List (List Nat)) (s6 : Sto), s = s6 ++ (cr rows ++ [.lst (refs s5.length (a + 1))]) /\ Up st s6 l (N + 2 + 2 * e + pre.length) /\ rows.length = a + 1 /\ rows.flatten.Perm pre) ⟨⟨_, _, rfl⟩, nb (a + 1), s5, rfl, hu5.mono (by simp; omega), by simp [nb], by simp [nb]⟩ ?_ ?_
  · rintro pre d post σ s hLs ⟨⟨x5, x6, rfl⟩, rows, s6, rfl, hu6, hrl, hrp⟩
    have hpl : pre.length + (post.length + 1) = 2 * e := by rw [<- hLl, hLs]; simp
    have hl6 := hu6.len
    have hl56 : s5.length = s6.length := by omega
    rw [hl56]
    simp! [rA hrl, refs_len]
    have hs6 : Sr (s6 ++ (cr rows ++ [.lst (refs s6.length (a + 1))])) l (N + 2 + 2 * e + pre.length) := by
      obtain ⟨p, q, r, h0, h1, h2⟩ := hu6.sr hll
      exact ⟨p, q, r, sgl h0, h1, h2⟩
    refine wp_nx (k_next (n := n + 1) (m := ((a + 1 : Nat) : Int)) (by omega) (by omega) (by omega) hs6) ?_
    rintro y s7 ⟨⟨x, rfl, hx0, hx1⟩, hu7⟩
    obtain ⟨j, rfl⟩ : ∃ a : Nat, x = (a : Int) := ⟨x.toNat, by omega⟩
    obtain ⟨p, q, r, rfl, hq0, hq1⟩ := hu7
    have hc1 : ∃ c', s6[l]? = some c' := ⟨_, List.getElem?_eq_getElem (by omega)⟩
    obtain ⟨c', hc'⟩ := hc1
    rw [ssl hc']
    have hu8 : Up st (s6.set l (src p q r)) l (N + 2 + 2 * e + pre.length + 1) := hu6.trans ⟨p, q, r, rfl, hq0, hq1⟩
    have hl8 : s6.length = (s6.set l (src p q r)).length := by simp
    rw [hl8]
    generalize s6.set l (src p q r) = s8 at *
    have hj : j < rows.length := by omega
    have hrow : rows[j]? = some rows[j] := List.getElem?_eq_getElem hj
    have hrefs : (refs s8.length (a + 1))[j]? = some (.ref (s8.length + j)) := by
      simp only [refs, List.getElem?_map]
      rw [List.getElem?_range (by omega)]; rfl
    simp! [rA hrl, atI_nat, hrefs, rR hrow, nv_len, rS hj]
    have hrj := row_len hrow
    rw [hrp.length_eq] at hrj
    rw [<- nv_one, <- nv_app, rS hj]
    refine ⟨by omega, ⟨_, _, rfl⟩, _, s8, rfl, hu8.mono (by simp; omega), by simp [hrl], ?_⟩
    exact (flat_set hrow).trans (List.Perm.append_right _ hrp)
  · rintro σ s ⟨⟨x5, x6, rfl⟩, rows, s6, rfl, hu6, hrl, hrp⟩
    have hl6 := hu6.len
    have hl56 : s5.length = s6.length := by omega
    rw [hl56]
    simp! [rA hrl]
    refine w_lcmC (l := s6.length + (a + 1)) (List.range (a + 1)) (fun i => .ref (s6.length + i)) (fun i => .tup (nv (rows.getD i []))) (by simp; omega) (rA hrl) ?_ ?_
    · intro i hi
      have hi := List.mem_range.1 hi
      have hrow : rows[i]? = some (rows.getD i []) := by
        rw [List.getElem?_eq_getElem (by omega)]
        simp [List.getD, List.getElem?_eq_getElem (show i < rows.length by omega)]
      simp! [seqv, rR hrow]
    · simp! [seqv]
      have hrows : (List.range (a + 1)).map (fun i => D.tup (nv (rows.getD i []))) = tv rows := by
        refine List.ext_getElem? fun i => ?_
        rw [tv_get, List.getElem?_map]
        by_cases hi : i < a + 1
        · rw [List.getElem?_range hi, List.getElem?_eq_getElem (show i < rows.length by omega)]
          simp [List.getD, List.getElem?_eq_getElem (show i < rows.length by omega)]
        · rw [List.getElem?_eq_none (by simpa using hi), List.getElem?_eq_none (by omega)]; rfl
      rw [hrows]
      obtain ⟨p, q, r, rfl, hq0, hq1⟩ := hu6
      refine ⟨okP_set rfl, ?_⟩
      rw [rk_clean gv_clean, take_set]
      refine ⟨⟨rows, e, rfl, ⟨hrp.trans hL', by omega, by omega⟩, by omega, by omega, by omega⟩, p, q, r, rfl, hq0, by omega⟩
end Fs
namespace Fs
open PySem
end Fs
namespace Fs
open PySem
section
variable {T : Tbl} {s : Sto} {Q E : D -> Sto -> Prop}
theorem kn_tup {xs : List D} : kndD s (.tup xs) = 3 := rfl
theorem pn_idxT {r : List Nat} {c : Nat} (h : c ∈ r) : (pn r).findIdx? (fun z => PyData.eqv z (.int (c : Int))) = some (r.idxOf c) := by
  induction r with
  | nil => cases h
  | cons a r ih =>
    have e : PyData.eqv (.int (a : Int)) (.int (c : Int)) = decide (a = c) := by
      simp only [PyData.eqv]
      by_cases h : a = c
      · subst h; simp
      · have : ((a : Int) == (c : Int)) = false := by rw [beq_eq_false_iff_ne]; omega
        rw [this, decide_eq_false h]
    have pc : pn (a :: r) = .int (a : Int) :: pn r := rfl
    rw [pc, List.findIdx?_cons, e, List.idxOf_cons]
    by_cases hac : a = c
    · subst hac; simp
    · have h2 : c ∈ r := by
        rcases List.mem_cons.1 h with q | q
        · exact absurd q.symm hac
        · exact q
      rw [ih h2]
      have : (a == c) = false := by simpa using hac
      simp [hac, this]
theorem sh_pnT {r : List Nat} : SeqAt.shaped (.list (pn r)) = true := by
  have hd := pn_depth r
  have hd2 : PyData.depth (.list (pn r)) <= 64 := by simp only [PyData.depth]; omega
  simp [SeqAt.shaped, PyData.canLay0, pn_lay, hd2]
theorem sh_int {i : Int} : SeqAt.shaped (.int i) = true := by simp [SeqAt.shaped, PyData.canLay0, PyData.depth]
theorem m_indexT {c : Nat} {r : List Nat} (hc : c ∈ r) : wp (meD .index (.tup (nv r)) [.int (c : Nat)]) s Q E = Q (.int ((r.idxOf c : Nat) : Int)) s := by
  show wp (mIndex (.tup (nv r)) (.int (c : Nat))) s Q E = _
  have h1 : dats s (.tup (nv r)) = some (pn r) := by
    simp only [dats, seqv]
    exact toP_nv (k := 64)
  have h2 : toP false s 66 (.int (c : Nat)) = some (.int (c : Int)) := rfl
  have h5 : decide (SeqAt.shaped (.int (c : Int)) = true /\ SeqAt.shaped (.list (pn r)) = true) = true := decide_eq_true ⟨sh_int, sh_pnT⟩
  simp only [wp_def, mIndex, h1, h2, opt, h5, gd, pn_idxT hc]
  exact propext Iff.rfl
end
end Fs
namespace Fs
open PySem Cy
theorem row_flt {g : List (List Nat)} {e d : Nat} (h : Gr g e) (hd : d < 2 * e) : g.filter (fun r => decide (opp d ∈ r)) = [rowOf g (opp d)] /\ opp d ∈ rowOf g (opp d) /\ (rowOf g (opp d)).Nodup /\ (rowOf g (opp d)).length <= 240 := by
  have hm : opp d ∈ g.flatten := h.mem.2 (by unfold opp; split <;> omega)
  obtain ⟨r, hr, hdr⟩ := List.mem_flatten.1 hm
  obtain ⟨pre, post, hg⟩ := List.append_of_mem hr
  have hnd := h.nd
  have hrow : rowOf g (opp d) = r := by rw [hg]; exact row_at (hg ▸ hnd) hdr
  rw [hrow]
  have hl := h.row hg
  rw [hg] at hnd
  simp only [List.flatten_append, List.flatten_cons] at hnd
  obtain ⟨n1, n2, n3⟩ := List.nodup_append.1 hnd
  obtain ⟨n4, n5, n6⟩ := List.nodup_append.1 n2
  refine ⟨?_, hdr, n4, hl⟩
  rw [hg, List.filter_append, List.filter_cons]
  have a1 : pre.filter (fun r => decide (opp d ∈ r)) = [] := List.filter_eq_nil_iff.2 fun q hq z => n3 _ (List.mem_flatten.2 ⟨q, hq, of_decide_eq_true z⟩) _ (List.mem_append_left _ hdr) rfl
  have a2 : post.filter (fun r => decide (opp d ∈ r)) = [] := List.filter_eq_nil_iff.2 fun q hq z => n6 _ hdr _ (List.mem_flatten.2 ⟨q, hq, of_decide_eq_true z⟩) rfl
  rw [a1, a2, decide_eq_true hdr]
  rfl
theorem two_nx {r : List Nat} {d : Nat} (hd : d ∈ r) (nd : r.Nodup) : (r ++ r)[r.idxOf d + 1]? = some (nx r d) := by
  have hi : r.idxOf d < r.length := List.idxOf_lt_length_iff.2 hd
  have h1 : r[r.idxOf d]? = some d := by rw [List.getElem?_eq_getElem hi, List.getElem_idxOf]
  rw [<- nx_get nd h1]
  by_cases hq : r.idxOf d + 1 < r.length
  · rw [List.getElem?_append_left hq, Nat.mod_eq_of_lt hq]
  · have : r.idxOf d + 1 = r.length := by omega
    rw [this, List.getElem?_append_right (Nat.le_refl _), Nat.sub_self, Nat.mod_self]
theorem k_behind (n : Nat) {g : List (List Nat)} {e d : Nat} (h : Gr g e) (hd : d < 2 * e) (st : Sto) :
    wp (call P (n + 1) F.zq21 [.tup (tv g), .int (d : Nat)]) st (fun r s' => r = .int (phi g d : Nat) /\ s' = st) NX := by
  have hsl := sl_ge
  have hn := h.n
  obtain ⟨h1, h2, h3, h4⟩ := row_flt h hd
  refine w_call (F := c_zq21) rfl rfl ?_
  unfold c_zq21
  simp! [la_tup tv_purs]
  rw [opp_int]
  have hlg := @Int.fmod_lt_of_pos (d : Int) 2 (by decide)
  have hlg0 := @Int.fmod_nonneg_of_pos (d : Int) 2 (by decide)
  refine ⟨by decide, ?_, ?_⟩
  · have : ((d : Int).fmod 2).natAbs < 2 := by omega
    have e1 : ((d : Int).fmod 2).natAbs.log2 <= 1 := by
      have : ((d : Int).fmod 2).natAbs = 0 ∨ ((d : Int).fmod 2).natAbs = 1 := by omega
      rcases this with e | e <;> rw [e] <;> decide
    have e2 : (Int.natAbs 2).log2 = 1 := by decide
    omega
  refine w_lcf g _ (fun r => decide (opp d ∈ r)) (fun r => .tup (nv r)) (by omega) ?_ ?_
  · intro r hr
    simp! [la_tup nv_purs, in_tup, Option.map_some, truth]
    cases decide (opp d ∈ r)
    · simp! []
      rfl
    · simp! []
      rfl
  rw [h1]
  have e0 : L2.atI [D.tup (nv (rowOf g (opp d)))] 0 = some (.tup (nv (rowOf g (opp d)))) := rfl
  have e1 : L2.atI (nv (rowOf g (opp d)) ++ nv (rowOf g (opp d))) (((rowOf g (opp d)).idxOf (opp d) : Nat) + 1 : Int) = some (.int ((phi g d : Nat) : Int)) := by
    have e2 : (((rowOf g (opp d)).idxOf (opp d) : Nat) + 1 : Int) = (((rowOf g (opp d)).idxOf (opp d) + 1 : Nat) : Int) := by omega
    rw [e2, atI_nat, <- nv_app, nv_get, two_nx h2 h3]
    rfl
  have el : (nv (rowOf g (opp d))).length = (rowOf g (opp d)).length := nv_len
  rw [show List.map (fun r => D.tup (nv r)) [rowOf g (opp d)] = [D.tup (nv (rowOf g (opp d)))] from rfl, e0]
  simp! [la_tup nv_purs, kn_tup, m_indexT h2, e1]
  exact ⟨by omega, okP_self, rfl, by simp⟩
end Fs
namespace Fs
open PySem
section
variable {s : Sto} {E : D -> Sto -> Prop} {γ : Type}
theorem w_lcfC {turn : D -> M (Option D)} {Q : List D -> Sto -> Prop} {l : Nat} (L : List γ) (h : γ -> D) (p : γ -> Bool) (k : γ -> D) (hx : L.length <= sizeLine) (hc : s[l]? = some (.lst (L.map h)))
    (hb : ∀ c ∈ L, wp (turn (h c)) s (fun o s1 => o = (if p c then some (k c) else none) /\ s1 = s) NX)
    (hq : Q ((L.filter p).map k) s) : wp (lcLoop (.one (.cell l)) turn ((It.one (.cell l)).len s + 1) 0 []) s Q E := by
  refine w_lcAux (L.map h) (fun i a s' => i <= L.length /\ s' = s /\ a = ((L.take i).filter p).map k) ?_ ?_ ?_ _ 0 [] s ⟨Nat.zero_le _, rfl, by simp⟩ (Nat.zero_le _) ?_
  · rintro i a s' ⟨_, rfl, _⟩
    simp only [It.next, Src.at, hc]
  · rintro i d a s' ⟨hi, rfl, rfl⟩ e
    rw [List.getElem?_map] at e
    cases e2 : L[i]? with
    | none => rw [e2] at e; cases e
    | some c =>
      rw [e2] at e
      cases e
      have hi2 : i < L.length := (List.getElem?_eq_some_iff.1 e2).1
      have hal : (((L.take i).filter p).map k).length < sizeLine := by
        rw [List.length_map]
        have h1 := List.length_filter_le p (L.take i)
        have h2 := List.length_take_le i L
        omega
      refine wp_nx (hb c (List.mem_of_getElem? e2)) ?_
      rintro o s1 ⟨rfl, rfl⟩
      cases hp : p c with
      | true =>
        refine ⟨hal, hi2, rfl, ?_⟩
        rw [take_snoc e2, List.filter_append, List.map_append]
        simp [hp]
      | false =>
        refine ⟨hi2, rfl, ?_⟩
        rw [take_snoc e2, List.filter_append, List.map_append]
        simp [hp]
  · rintro a s' ⟨_, rfl, rfl⟩
    rw [List.length_map, List.take_length]
    exact hq
  · simp only [It.len, Src.len, hc]; omega
end
end Fs
namespace Fs
open PySem Cy
def cyW1 : Sx := .asg (.nm 4) (.lst [.sub (.loc 1) (.con (.int 0))])
def cyW2 : Sx := .whl (.val (.cmp .ne (.call F.zq21 [.loc 0, .sub (.loc 4) (.neg (.con (.int 1)))]) (.sub (.loc 4) (.con (.int 0))))) [.xpr (.me .append (.loc 4) [.call F.zq21 [.loc 0, .sub (.loc 4) (.neg (.con (.int 1)))]])]
def cyW3 : Sx := .asg (.nm 1) (.lc [5] (.val (.loc 1)) (.nm 5) [.val (.cmp .nin (.loc 5) (.loc 4))] (.loc 5))
def cyW4 : Sx := .xpr (.me .append (.loc 2) [.bi .tuple [.loc 4]])
def cyS2 : Sx := .whl (.val (.cmp .ne (.loc 1) (.lst []))) [cyW1, cyW2, cyW3, cyW4]
def cyS3 : Sx := .ret (.bi .tuple [.loc 2])
theorem cy_body : c_zq22.body = [.asg (.tup [.nm 1, .nm 2]) (.tup [.bi .sorted [.bi .suml [.lc [3] (.val (.loc 0)) (.nm 3) [] (.bi .list [.loc 3]), .lst []]], .bin .mul (.lst [.tup []]) (.me .count (.loc 0) [.tup []])]), cyS2, cyS3] := rfl
section
variable {s : Sto} {E Q : D -> Sto -> Prop} {T : Tbl}
theorem lst_rows {g : List (List Nat)} : optL (lstv s) (g.map fun r => D.lst (nv r)) = some (g.map nv) := by
  induction g with
  | nil => rfl
  | cons a g ih => simp only [List.map_cons, optL, ih, lstv]
theorem w_suml {g : List (List Nat)} : wp (biD T .suml [.lst (g.map fun r => D.lst (nv r)), .lst []]) s Q E = (g.flatten.length <= sizeLine /\ Q (.lst (nv g.flatten)) s) := by
  have e1 : (g.map nv).flatten = nv g.flatten := by
    induction g with
    | nil => rfl
    | cons a g ih => simp [ih, nv]
  show wp (fSuml (.lst (g.map fun r => D.lst (nv r))) (.lst [])) s Q E = _
  have e2 : (lstv s (.lst (g.map fun r => D.lst (nv r)))).bind (optL (lstv s)) = some (g.map nv) := lst_rows
  rw [wp_def]
  simp only [fSuml, e2, opt, gd, ret, e1, nv_len]
  by_cases hz : g.flatten.length <= sizeLine
  · rw [decide_eq_true hz]; simp only [ret, wr, hz, true_and]
  · rw [decide_eq_false hz]; simp only [bad, wr, hz, false_and]
theorem srt_nvP {L : List Nat} {N : Nat} (h : L.Perm (List.range N)) : wp (fSorted (.lst (nv L))) s Q E = Q (.lst (nv (List.range N))) s := by
  have e1 : lInt s (.lst (nv L)) = some (toZ L) := by
    simp only [lInt, seqv]
    clear h
    induction L with
    | nil => rfl
    | cons a L ih => simp only [nv, List.map_cons, optL, intv] at ih ⊢; rw [ih]
  rw [srt_ints e1, sort_nat (h.nodup_iff.2 List.nodup_range) List.pairwise_lt_range fun v => h.mem_iff]
end
theorem cnt_emp {s : Sto} {Q E : D -> Sto -> Prop} {g : List (List Nat)} : wp (meD .count (.tup (tv g)) [.tup []]) s Q E = Q (.int (((emps g).length : Nat) : Int)) s := by
  show wp (mCount (.tup (tv g)) (.tup [])) s Q E = _
  have h1 : dats s (.tup (tv g)) = some (pt g) := by
    simp only [dats, seqv]
    exact toP_tv (k := 63)
  have h2 : toP false s 66 (.tup []) = some (.tuple []) := rfl
  have hsh : SeqAt.shaped (.list (pt g)) = true := by
    have h := pt_depth g
    have hd : PyData.depth (.list (pt g)) <= 64 := by simp only [PyData.depth]; omega
    simp [SeqAt.shaped, PyData.canLay0, pt_lay, hd]
  have h5 : decide (SeqAt.shaped (.tuple []) = true /\ SeqAt.shaped (.list (pt g)) = true) = true := decide_eq_true ⟨by decide, hsh⟩
  have h6 : (pt g).countP (fun z => PyData.eqv z (.tuple [])) = (emps g).length := by
    unfold emps
    clear h1 h2 h5 hsh
    induction g with
    | nil => rfl
    | cons a g ih =>
      rw [pt_cons, List.countP_cons, List.filter_cons, ih]
      cases a with
      | nil => simp [pn_nil, PyData.eqv, PyData.eqvAll]
      | cons x a => simp [pn_cons, PyData.eqv, PyData.eqvAll]
  simp only [wp_def, mCount, h1, h2, opt, h5, gd, h6]
  exact propext Iff.rfl
end Fs
namespace Fs
open PySem Cy
theorem fc_adv {f : Nat -> Nat} {N : Nat} {W : List (List Nat)} : ∀ {k n : Nat}, Fc f N W n -> (∀ x, x < n + k -> x ∈ W.flatten) -> Fc f N W (n + k)
  | 0, n, h, _ => h
  | k + 1, n, h, ha => by
    have h1 := fc_adv (k := k) h fun x hx => ha x (by omega)
    exact h1.seen (ha (n + k) (by omega))
def lfo (W : List (List Nat)) (N : Nat) : List Nat := (List.range N).filter fun x => decide (x ∉ W.flatten)
theorem lfo_cons {f : Nat -> Nat} {W : List (List Nat)} {N n j : Nat} {r : List Nat} (h : Fc f N W n) (e : lfo W N = j :: r) : j < N /\ j ∉ W.flatten /\ Fc f N W j := by
  have hm : j ∈ lfo W N := by rw [e]; simp
  obtain ⟨h1, h2⟩ := List.mem_filter.1 hm
  have hj := List.mem_range.1 h1
  have hn := of_decide_eq_true h2
  have hp : (lfo W N).Pairwise (· < ·) := List.pairwise_lt_range.sublist List.filter_sublist
  have hall : ∀ x, x < j -> x ∈ W.flatten := fun x hx => by
    apply Classical.byContradiction
    intro hc
    have : x ∈ lfo W N := List.mem_filter.2 ⟨List.mem_range.2 (by omega), decide_eq_true hc⟩
    rw [e] at this hp
    rcases List.mem_cons.1 this with rfl | hr
    · omega
    · have := (List.pairwise_cons.1 hp).1 x hr
      omega
  have hnj : n <= j := by
    apply Classical.byContradiction
    intro hc
    exact hn (h.all j (by omega))
  refine ⟨hj, hn, ?_⟩
  obtain ⟨k, rfl⟩ : ∃ k, j = n + k := ⟨j - n, by omega⟩
  exact fc_adv h hall
theorem lfo_nil {f : Nat -> Nat} {W : List (List Nat)} {N n : Nat} (h : Fc f N W n) (hn : n <= N) (e : lfo W N = []) : Fc f N W N := by
  obtain ⟨k, rfl⟩ : ∃ k, N = n + k := ⟨N - n, by omega⟩
  refine fc_adv h fun x hx => ?_
  apply Classical.byContradiction
  intro hc
  have : x ∈ lfo W (n + k) := List.mem_filter.2 ⟨List.mem_range.2 hx, decide_eq_true hc⟩
  rw [e] at this
  cases this
theorem lfo_step {W : List (List Nat)} {N : Nat} {w : List Nat} : (lfo W N).filter (fun x => decide (x ∉ w)) = lfo (W ++ [w]) N := by
  unfold lfo
  rw [List.filter_filter]
  refine List.filter_congr fun x _ => ?_
  rw [List.flatten_append, List.flatten_singleton]
  by_cases h1 : x ∈ W.flatten <;> by_cases h2 : x ∈ w <;> simp [h1, h2]
theorem lfo_lt {W : List (List Nat)} {N j : Nat} {w r : List Nat} (e : lfo W N = j :: r) (hj : j ∈ w) : (lfo (W ++ [w]) N).length < (lfo W N).length := by
  rw [<- lfo_step, e, List.filter_cons, decide_eq_false (by simpa using hj)]
  have := List.length_filter_le (fun x => decide (x ∉ w)) r
  simp only [List.length_cons, Bool.false_eq_true, if_false]
  omega
theorem atI_last {xs : List D} {x : D} : L2.atI (xs ++ [x]) (-1) = some x := by
  have e : L2.ixN (xs ++ [x]).length (-1) = some xs.length := by
    unfold L2.ixN
    simp
    try omega
  unfold L2.atI
  rw [e]
  simp
theorem k_cycles (n : Nat) {g : List (List Nat)} {e : Nat} (h : Gr g e) (st : Sto) :
    wp (call P (n + 2) F.zq22 [.tup (tv g)]) st (fun r s' => (∃ W, r = .tup (tv (emps g ++ W)) /\ Fc (phi g) (2 * e) W (2 * e)) /\ s' = st) NX := by
  have hsl := sl_ge
  have hn := h.n
  have he := h.e
  have hT : Tu (phi g) (2 * e) := Dr.tu h.perm
  have hel : (emps g).length <= g.length := List.length_filter_le ..
  have hfl := h.len
  refine w_call (F := c_zq22) rfl rfl ?_
  have e0 : lands [.tup (tv g)] st = ([.tup (tv g)], st) := lands_pur (by simp only [D.purs, D.pur, tv_purs, Bool.and_self])
  have er : List.replicate (c_zq22.ns - c_zq22.np) (none : Option D) = [none, none, none, none, none] := rfl
  rw [er, e0, cy_body]
  simp! []
  refine w_lcm g (fun r => D.tup (nv r)) (fun r => D.lst (nv r)) (by omega) ?_ ?_
  · intro r hr
    simp! [la_tup nv_purs, seqv]
  simp! [w_suml, srt_nvP h.perm, kn_tup, cnt_emp]
  have e1 : rep (((emps g).length : Nat) : Int).toNat [D.tup []] = tv (emps g) := by
    rw [Int.toNat_natCast, <- emps_tv]
    generalize emps g = X
    induction X with
    | nil => rfl
    | cons a X ih => rw [List.length_cons, List.map_cons, <- ih]; rfl
  rw [e1, la_lst nv_purs, la_lst tv_purs]
  refine ⟨by omega, by omega, by omega, by omega, by omega, ⟨rfl, by omega, by omega, by omega⟩, by omega, ?_⟩
  unfold cyS2
  simp! []
  refine w_wh (fun kk σ s => ∃ (W : List (List Nat)) (m q : Nat) (x3 x4 x5 : Option D), kk = (lfo W (2 * e)).length /\ Fc (phi g) (2 * e) W m /\ m <= 2 * e /\ σ = [some (.tup (tv g)), some (.ref q), some (.ref (st.length + 1)), x3, x4, x5] /\ q ≠ st.length + 1 /\
      On st s /\ s[q]? = some (.lst (nv (lfo W (2 * e)))) /\ s[st.length + 1]? = some (.lst (tv (emps g ++ W)))) ?_ wfuel (lfo [] (2 * e)).length _ _ ⟨[], 0, st.length, none, none, none, rfl, .zero, by omega, rfl, by omega, On.refl.app, ?_, ?_⟩ ?_
  · rintro kk σ s ⟨W, m, q, x3, x4, x5, rfl, fc, hm, rfl, hq, hO, h1, h2⟩
    have hll : (lfo W (2 * e)).length <= 2 * e := by
      have := List.length_filter_le (fun x => decide (x ∉ W.flatten)) (List.range (2 * e))
      rwa [List.length_range] at this
    have hlq : q < s.length := (List.getElem?_eq_some_iff.1 h1).1
    have hl2 : st.length + 1 < s.length := (List.getElem?_eq_some_iff.1 h2).1
    simp! [eq_nil h1, Option.map_some, truth]
    cases hL : lfo W (2 * e) with
    | nil =>
      refine ⟨by omega, ?_⟩
      rw [show (!([] : List Nat).isEmpty) = false from rfl, wb_f]
      unfold cyS3
      simp! [seqv_ref, h2, sqC_lst]
      refine ⟨hO.fin, ?_⟩
      rw [rk_clean gv_clean]
      exact ⟨⟨W, rfl, lfo_nil fc hm hL⟩, hO.take⟩
    | cons j r =>
      obtain ⟨hj, hjn, fj⟩ := lfo_cons fc hL
      refine ⟨by omega, ?_⟩
      rw [show (!(j :: r).isEmpty) = true from rfl, wb_t]
      refine ⟨by simp, ?_⟩
      unfold cyW1
      rw [hL] at h1 hll
      have a0 : L2.atI (nv (j :: r)) 0 = some (.int (j : Int)) := by
        rw [show (0 : Int) = ((0 : Nat) : Int) from rfl, atI_nat]; rfl
      simp! [h1, a0, la_lst (xs := [.int (j : Int)]) rfl]
      refine ⟨by omega, ?_⟩
      unfold cyW2
      simp! []
      refine w_wh (fun kk σ s3 => ∃ k, kk = 2 * e + 1 - k /\ k < 2 * e + 1 /\ σ = [some (.tup (tv g)), some (.ref q), some (.ref (st.length + 1)), x3, some (.ref s.length), x5] /\ s3 = s ++ [.lst (nv (it (phi g) j (k + 1)))] /\ (it (phi g) j (k + 1)).Nodup) ?_ wfuel (2 * e + 1 - 0) _ _ ⟨0, rfl, by omega, rfl, rfl, by simp [it]⟩ (by show _ < 1000000; omega)
      rintro kk σ s3 ⟨k, rfl, hk, rfl, rfl, hnd⟩
      have g0 : (s ++ [D.lst (nv (it (phi g) j (k + 1)))])[s.length]? = some (.lst (nv (it (phi g) j (k + 1)))) := sg0
      have hfk := hT.fi hj k
      have el : L2.atI (nv (it (phi g) j (k + 1))) (-1) = some (.int ((fi (phi g) k j : Nat) : Int)) := by
        rw [it_succ, nv_app]; exact atI_last
      have ez : L2.atI (nv (it (phi g) j (k + 1))) 0 = some (.int (j : Int)) := by
        rw [show (0 : Int) = ((0 : Nat) : Int) from rfl, atI_nat, nv_get, it_get (by omega)]; rfl
      have hfs : phi g (fi (phi g) k j) = fi (phi g) (k + 1) j := rfl
      simp! [g0, el]
      refine wp_nx (k_behind (n := n) h hfk _) ?_
      rintro y s4 ⟨rfl, rfl⟩
      rw [hfs]
      simp! [g0, ez, eq_int, Option.map_some, truth]
      by_cases hst : fi (phi g) (k + 1) j = j
      · have e2 : (!decide (((fi (phi g) (k + 1) j : Nat) : Int) = (j : Int))) = false := by simp [hst]
        rw [e2, wb_f]
        unfold cyW3
        have h1' : (s ++ [D.lst (nv (it (phi g) j (k + 1)))])[q]? = some (.lst (nv (j :: r))) := sgl h1
        have h2' : (s ++ [D.lst (nv (it (phi g) j (k + 1)))])[st.length + 1]? = some (.lst (tv (emps g ++ W))) := sgl h2
        simp! [h1']
        refine w_lcfC (j :: r) (fun (d : Nat) => .int (d : Int)) (fun x => decide (x ∉ it (phi g) j (k + 1))) (fun (d : Nat) => .int (d : Int)) (by omega) h1' ?_ ?_
        · intro c hc
          simp! [in_ref g0, Option.map_some, truth]
          by_cases hci : c ∈ it (phi g) j (k + 1)
          · rw [decide_eq_true hci, decide_eq_false (by simpa using hci)]
            simp! []
            rfl
          · rw [decide_eq_false hci, decide_eq_true hci]
            simp! []
            rfl
        · have e3 : (List.filter (fun x => decide (x ∉ it (phi g) j (k + 1))) (j :: r)).map (fun (d : Nat) => D.int (d : Int)) = nv (lfo (W ++ [it (phi g) j (k + 1)]) (2 * e)) := by
            rw [<- hL, lfo_step]; rfl
          rw [e3]
          have hjm : j ∈ it (phi g) j (k + 1) := it_mem.2 ⟨0, by omega, rfl⟩
          have hlt := lfo_lt hL hjm
          have fn := fj.next hT hj hjn (by omega) hst hnd
          have hWl := fc_len fc
          have g0' : ∀ x : D, (s ++ [D.lst (nv (it (phi g) j (k + 1))), x])[s.length]? = some (.lst (nv (it (phi g) j (k + 1)))) := fun x => sg0
          have g1' : ∀ x : D, (s ++ [D.lst (nv (it (phi g) j (k + 1))), x])[s.length + 1]? = some x := fun x => sg1
          have g2' : ∀ x : D, (s ++ [D.lst (nv (it (phi g) j (k + 1))), x])[st.length + 1]? = some (.lst (tv (emps g ++ W))) := fun x => sgl h2
          unfold cyW4
          simp! [la_lst nv_purs, knd_ref, g2', kC_lst, seqv_ref, g0', sqC_lst, la_tup nv_purs]
          rw [tv_snoc, List.append_assoc]
          have hO2 : On st (s ++ [D.lst (nv (it (phi g) j (k + 1))), D.lst (nv (lfo (W ++ [it (phi g) j (k + 1)]) (2 * e)))]) := hO.app
          refine ⟨by rw [tv_len, List.length_append]; omega, _, by rw [hL] at hlt; simp only [List.length_cons] at hlt ⊢; exact hlt, W ++ [it (phi g) j (k + 1)], j + 1, s.length + 1, _, _, _, rfl, fn, by omega, rfl, by omega, hO2.set (by omega), ?_, ?_⟩
          · rw [List.getElem?_set_ne (by omega)]; exact g1' _
          · rw [List.getElem?_set_self (by simp; omega)]
      · have e2 : (!decide (((fi (phi g) (k + 1) j : Nat) : Int) = (j : Int))) = true := by simp; omega
        rw [e2, wb_t]
        have hni : fi (phi g) (k + 1) j ∉ W.flatten ++ it (phi g) j (k + 1) := fun z => hst (stop hT fj.cl hj hjn hnd z).2
        have hnd3 := go hnd hni
        have hkb := it_bound hT hj hnd3
        have e5 : nv (it (phi g) j (k + 1)) ++ [D.int ((fi (phi g) (k + 1) j : Nat) : Int)] = nv (it (phi g) j (k + 1 + 1)) := by rw [it_succ (k := k + 1), nv_app]; rfl
        simp! [knd_ref, g0, kC_lst, el]
        refine ⟨by omega, ?_⟩
        refine wp_nx (k_behind (n := n) h hfk _) ?_
        rintro y s4 ⟨rfl, rfl⟩
        rw [hfs]
        simp! [knd_ref, g0, kC_lst]
        rw [e5]
        exact ⟨by rw [nv_len, it_len]; omega, 2 * e + 1 - (k + 1), by omega, k + 1, rfl, by omega, rfl, hnd3⟩
  · have e9 : lfo [] (2 * e) = List.range (2 * e) := List.filter_eq_self.2 fun x _ => by simp
    rw [e9]; exact sg0
  · rw [List.append_nil]; exact sg1
  · show (lfo [] (2 * e)).length < 1000000
    have := List.length_filter_le (fun x => decide (x ∉ ([] : List (List Nat)).flatten)) (List.range (2 * e))
    rw [List.length_range] at this
    unfold lfo
    omega
end Fs
namespace Fs
open PySem Cy
section
variable {g : List (List Nat)} {e : Nat}
theorem k_facesQ (n : Nat) (h : Gr g e) (st : Sto) : wp (call P (n + 4) F.zq10 [.tup (tv g)]) st (fun r s' => (∃ W, r = .tup (tv (emps g ++ W)) /\ Fc (phi g) (2 * e) W (2 * e)) /\ s' = st) NX := by
  refine w_call (F := c_zq10) rfl rfl ?_
  unfold c_zq10
  simp! [la_tup tv_purs]
  refine wp_nx (k_check (n := n) h st) ?_
  rintro y s ⟨rfl, rfl⟩
  refine wp_nx (k_faces (n := n) h s) ?_
  rintro y s2 ⟨⟨W, rfl, fc⟩, rfl⟩
  refine ⟨okP_self, ?_⟩
  rw [rk_clean gv_clean]
  exact ⟨⟨W, rfl, fc⟩, by simp⟩
theorem k_needdN (n : Nat) (h : Gr g e) {d : Nat} (hd : d < 2 * e) (st : Sto) : wp (call P (n + 2) F.zq4 [.tup (tv g), .int (d : Nat)]) st (fun r s' => r = .non /\ s' = st) NX := by
  refine w_call (F := c_zq4) rfl rfl ?_
  unfold c_zq4
  simp! [la_tup tv_purs]
  refine wp_nx (k_count (n := n) (by have := h.n; have := sl_ge; omega) st) ?_
  rintro y s ⟨rfl, rfl⟩
  rw [h.len]
  refine wp_nx (k_isidx (n := n) hd s) ?_
  rintro y s2 ⟨rfl, rfl⟩
  simp! [truth]
  exact ⟨okP_self, by simp⟩
theorem k_succN (n : Nat) (h : Gr g e) {d : Nat} (hd : d < 2 * e) (st : Sto) : wp (call P (n + 4) F.zq9 [.tup (tv g), .int (d : Nat)]) st (fun r s' => r = .int (phi g d : Nat) /\ s' = st) NX := by
  refine w_call (F := c_zq9) rfl rfl ?_
  unfold c_zq9
  simp! [la_tup tv_purs]
  refine wp_nx (k_check (n := n) h st) ?_
  rintro y s ⟨rfl, rfl⟩
  refine wp_nx (k_needdN (n := n + 1) h hd s) ?_
  rintro y s2 ⟨rfl, rfl⟩
  refine wp_nx (k_succ (n := n + 1) h s2) ?_
  rintro y s3 ⟨rfl, rfl⟩
  have e1 : L2.atI (nv (succs g e)) (d : Int) = some (.int (phi g d : Nat)) := by rw [atI_nat, nv_get, succs_get hd]; rfl
  simp! [e1]
  exact ⟨okP_self, rfl, by simp⟩
theorem k_findex (n : Nat) (h : Gr g e) {d : Nat} (hd : d < 2 * e) (st : Sto) : wp (call P (n + 5) F.zq11 [.tup (tv g), .int (d : Nat)]) st (fun r s' => (∃ W, Fc (phi g) (2 * e) W (2 * e) /\ r = .int (tailOf (emps g ++ W) d : Nat)) /\ s' = st) NX := by
  refine w_call (F := c_zq11) rfl rfl ?_
  unfold c_zq11
  simp! [la_tup tv_purs]
  refine wp_nx (k_check (n := n + 1) h st) ?_
  rintro y s ⟨rfl, rfl⟩
  refine wp_nx (k_needdN (n := n + 2) h hd s) ?_
  rintro y s2 ⟨rfl, rfl⟩
  refine wp_nx (k_faceof (n := n) h s2) ?_
  rintro y s3 ⟨⟨W, fc, rfl⟩, rfl⟩
  have e1 : L2.atI (nv (tails (emps g ++ W) e)) (d : Int) = some (.int (tailOf (emps g ++ W) d : Nat)) := by
    rw [atI_nat, nv_get]; unfold tails; simp [hd]
  simp! [e1]
  exact ⟨okP_self, ⟨W, fc, rfl⟩, by simp⟩
end
end Fs
namespace Fs
open PySem
theorem eq_tvE {s : Sto} {l : Nat} {X : List (List Nat)} (h : s[l]? = some (.lst (tv X))) : eqD s (.ref l) (.lst []) = some X.isEmpty := by
  have h1 : toP false s 66 (.ref l) = some (.list (pt X)) := by rw [toP_ref h, toP_tv]; rfl
  have h0 : toP false s 66 (.lst []) = some (.list []) := rfl
  have h2 : SeqAt.shaped (.list (pt X)) = true := by
    have h := pt_depth X
    have hd : PyData.depth (.list (pt X)) <= 64 := by simp only [PyData.depth]; omega
    simp [SeqAt.shaped, PyData.canLay0, pt_lay, hd]
  have h3 : SeqAt.shaped (.list []) = true := by decide
  simp only [eqD, h1, h0]
  rw [if_pos ⟨h2, h3⟩]
  cases X with
  | nil => simp [pt_nil, PyData.eqv, PyData.eqvAll]
  | cons a X => simp [pt_cons, PyData.eqv, PyData.eqvAll]
theorem tv_getE {L : List (List Nat)} {j : Nat} : (tv L)[j]? = (L[j]?).map fun r => D.tup (nv r) := by simp [tv]
theorem tv_erase {L : List (List Nat)} {j : Nat} : (tv L).eraseIdx j = tv (L.eraseIdx j) := by
  simp only [tv, List.eraseIdx_eq_take_drop_succ, List.map_append, List.map_take, List.map_drop]
theorem erase_permW {L : List (List Nat)} {j : Nat} {v : List Nat} (h : L[j]? = some v) : L.Perm (v :: L.eraseIdx j) := by
  obtain ⟨hj, rfl⟩ := List.getElem?_eq_some_iff.1 h
  rw [List.eraseIdx_eq_take_drop_succ]
  conv => lhs; rw [<- List.take_append_drop j L, List.drop_eq_getElem_cons hj]
  exact List.perm_middle
theorem tv_one1 {r : List Nat} : tv [r] = [.tup (nv r)] := rfl
theorem tv_app2 {A B : List (List Nat)} : tv (A ++ B) = tv A ++ tv B := by simp [tv]
theorem k_mixedW0 (n : Nat) {st X : Sto} {l : Nat} {N : Int} {L : List (List Nat)} {d : D} (hN : N + L.length <= 2 ^ 30) (hL : L.length <= 2 ^ 16) (h : Sr st l N) (hd : seqv (st ++ X) d = some (tv L)) :
    wp (exL (P.tbl (n + 1)) c_zq14.body [some (.ref l), some d, none, none]) (st ++ X) (lv st (fun r s' => (∃ L', r = .lst (tv L') /\ L'.Perm L) /\ Up st s' l (N + L.length)) NX) NX := by
  have hsl := sl_ge
  have hll := h.lt
  unfold c_zq14
  simp! [hd, la_lst tv_purs]
  refine ⟨by omega, by omega, ?_⟩
  refine w_wh (fun k σ s => ∃ (R F : List (List Nat)) (st2 : Sto), σ = [some (.ref l), some d, some (.ref (st.length + X.length)), some (.ref (st.length + X.length + 1))] /\ s = st2 ++ (X ++ [.lst (tv R), .lst (tv F)]) /\ Up st st2 l (N + F.length) /\ (F ++ R).Perm L /\ k = R.length) ?_ wfuel L.length _ _ ?_ (by rw [show wfuel = 1000000 from rfl]; omega)
  · rintro k σ s ⟨R, F, st2, rfl, rfl, hu, hp, rfl⟩
    have hlen := hu.len
    have hpl : F.length + R.length = L.length := by have := hp.length_eq; simpa using this
    rw [<- hlen]
    simp! []
    refine ⟨by omega, ?_⟩
    rw [eq_tvE (X := R) tA]
    simp! [Option.map_some, truth]
    cases R with
    | nil =>
      simp! [List.isEmpty_nil]
      obtain ⟨a, b, c, rfl, h1, h2⟩ := hu
      rw [List.length_set] at *
      refine ⟨okP_set rfl, ?_⟩
      have hg : (st.set l (src a b c) ++ (X ++ [.lst (tv []), .lst (tv F)]))[st.length + X.length + 1]? = some (.lst (tv F)) := by
        have := tB (st := st.set l (src a b c)) (X := X) (a := .lst (tv [])) (b := .lst (tv F)) (r := [])
        rwa [List.length_set] at this
      rw [rk_set_lst (by omega) hg tv_clean, take_set]
      refine ⟨⟨F, rfl, by simpa using hp⟩, a, b, c, rfl, h1, ?_⟩
      simp at hpl
      omega
    | cons r0 R0 =>
      have hsr : Sr (st2 ++ (X ++ [.lst (tv (r0 :: R0)), .lst (tv F)])) l (N + F.length) := by
        obtain ⟨a, b, c, h0, h1, h2⟩ := hu.sr hll
        exact ⟨a, b, c, sgl h0, h1, h2⟩
      have hne : (r0 :: R0).isEmpty = false := rfl
      rw [hne]
      simp! [tA, tB, tv_len]
      rw [List.length_cons] at hpl
      refine ⟨by omega, rfl, ?_⟩
      refine wp_nx (k_next (n := n) (m := ((R0.length + 1 : Nat) : Int)) (by omega) (by omega) (by omega) hsr) ?_
      rintro y s3 ⟨⟨x, rfl, hx0, hx1⟩, a, b, c, rfl, hb0, hb1⟩
      have hst2 : ∃ c', st2[l]? = some c' := ⟨_, List.getElem?_eq_getElem (by omega)⟩
      obtain ⟨c', hc'⟩ := hst2
      rw [ssl hc']
      have hlen3 : (st2.set l (src a b c)).length = st2.length := by simp
      rw [<- hlen3]
      have hk : ((4 : Nat) == 5) = false := rfl
      simp! [tA, tB, hk, tv_len]
      refine ⟨by omega, ?_⟩
      rw [seqIdx hx0 hx1]
      simp! [tv_getE]
      have hxl : x.toNat < (r0 :: R0).length := by rw [List.length_cons]; omega
      rw [List.getElem?_eq_getElem hxl]
      simp! [Option.map_some, la_tup nv_purs, tAs, tv_erase, tB, tBs, tv_len]
      rw [<- tv_one1, <- tv_app2]
      refine ⟨by omega, ((r0 :: R0).eraseIdx x.toNat).length, ?_, (r0 :: R0).eraseIdx x.toNat, F ++ [(r0 :: R0)[x.toNat]], st2.set l (src a b c), rfl, ?_, ?_, rfl⟩
      · rw [List.length_eraseIdx_of_lt hxl]; simp
      · refine hu.trans ⟨a, b, c, rfl, hb0, ?_⟩
        simp; omega
      · have h1 := erase_permW (List.getElem?_eq_getElem hxl)
        rw [List.append_assoc]
        exact (List.Perm.append_left F h1.symm).trans hp
  · refine ⟨L, [], st, rfl, rfl, ?_, by simp, rfl⟩
    simpa using h.up
end Fs
namespace Fs
open PySem Cy
theorem cyc_nx {f : Nat -> Nat} {w : List Nat} {i d : Nat} (h : Cyc f w) (hi : w[i]? = some d) : nx w d = f d := by
  obtain ⟨s, k, hk, rfl, e, nd⟩ := h
  have hil := (List.getElem?_eq_some_iff.1 hi).1
  rw [it_len] at hil
  rw [it_get hil] at hi
  have hd : fi f i s = d := Option.some.inj hi
  have h1 := nx_get nd (it_get (f := f) (s := s) hil)
  rw [it_len, hd] at h1
  by_cases hq : i + 1 < k
  · rw [Nat.mod_eq_of_lt hq, it_get hq] at h1
    have := Option.some.inj h1
    rw [<- this, <- hd]; rfl
  · have : i + 1 = k := by omega
    rw [this, Nat.mod_self, it_get hk] at h1
    have h2 := Option.some.inj h1
    rw [<- h2, <- hd]
    show fi f 0 s = fi f (i + 1) s
    rw [this, e]; rfl
def Hds (W : List (List Nat)) : Prop := W.Pairwise fun a b => ∃ x y u v, a = x :: u /\ b = y :: v /\ x < y
theorem fw_hds {f : Nat -> Nat} {W : List (List Nat)} {n : Nat} (h : FW f W n) : Hds W /\ ∀ w, w ∈ W -> ∃ x u, w = x :: u /\ x < n := by
  induction h with
  | zero => exact ⟨.nil, by simp⟩
  | seen _ _ ih => exact ⟨ih.1, fun w hw => let ⟨x, u, e, hx⟩ := ih.2 w hw; ⟨x, u, e, by omega⟩⟩
  | @next W n k _ hn hk _ _ ih =>
    have e1 : it f n k = n :: (it f n k).tail := by
      obtain ⟨k, rfl⟩ : ∃ j, k = j + 1 := ⟨k - 1, by omega⟩
      unfold it
      rw [List.range_succ_eq_map]; rfl
    refine ⟨?_, fun w hw => ?_⟩
    · refine List.pairwise_append.2 ⟨ih.1, by simp, fun a ha b hb => ?_⟩
      rw [List.mem_singleton.1 hb]
      obtain ⟨x, u, e, hx⟩ := ih.2 a ha
      exact ⟨x, n, u, _, e, e1, hx⟩
    · rcases List.mem_append.1 hw with hw | hw
      · obtain ⟨x, u, e, hx⟩ := ih.2 w hw
        exact ⟨x, u, e, by omega⟩
      · rw [List.mem_singleton.1 hw]
        exact ⟨n, _, e1, by omega⟩
theorem srt_hds : ∀ {W : List (List Nat)}, Hds W -> sortL (W.map toZ) = W.map toZ
  | [], _ => rfl
  | w :: W, h => by
    have h2 := List.pairwise_cons.1 h
    rw [List.map_cons]
    simp only [sortL]
    rw [srt_hds h2.2]
    cases W with
    | nil => rfl
    | cons v W =>
      obtain ⟨x, y, a, b, rfl, rfl, hxy⟩ := h2.1 v (by simp)
      simp only [List.map_cons, insL]
      have : lexL (toZ (x :: a)) (toZ (y :: b)) = true := by
        simp only [toZ, List.map_cons, lexL]
        rw [if_neg (by omega)]
        exact decide_eq_true (by omega)
      simp only [toZ, List.map_cons] at this
      rw [if_pos this]
theorem srt_emp : ∀ {E W : List (List Nat)}, (∀ r, r ∈ E -> r = []) -> (∀ w, w ∈ W -> w ≠ []) -> Hds W -> sortL ((E ++ W).map toZ) = (E ++ W).map toZ
  | [], W, _, _, h => srt_hds h
  | r :: E, W, he, hw, h => by
    obtain rfl := he r (by simp)
    have hE : ∀ r, r ∈ E -> r = [] := fun q hq => he q (by simp [hq])
    rw [List.cons_append, List.map_cons]
    simp only [sortL]
    rw [srt_emp hE hw h]
    clear he
    induction E with
    | nil =>
      cases W with
      | nil => rfl
      | cons v W =>
        have := hw v (by simp)
        cases v with
        | nil => exact absurd rfl this
        | cons y v => simp [insL, lexL, toZ]
    | cons q E ih =>
      obtain rfl := hE q (by simp)
      have := ih fun r hr => hE r (by simp [hr])
      simp only [List.cons_append, List.map_cons, insL] at this ⊢
      rw [show lexL (toZ []) (toZ []) = false from rfl]
      simp only [Bool.false_eq_true, if_false]
      rw [this]
theorem lTups_tv {s : Sto} {X : List (List Nat)} : lTups s (.lst (tv X)) = some (X.map toZ) := by
  simp only [lTups, seqv]
  induction X with
  | nil => rfl
  | cons a X ih =>
    have e : tupI (.tup (nv a)) = some (toZ a) := by
      simp only [tupI]
      induction a with
      | nil => rfl
      | cons x a ih => simp only [nv, List.map_cons, optL, intv] at ih ⊢; rw [ih]
    simp only [tv, List.map_cons, optL, e] at ih ⊢
    rw [ih]
theorem srt_tvS {s : Sto} {Q E : D -> Sto -> Prop} {X : List (List Nat)} (h : sortL (X.map toZ) = X.map toZ) : wp (fSorted (.lst (tv X))) s Q E = Q (.lst (tv X)) s := by
  cases X with
  | nil =>
    have e1 : lInt s (.lst (tv [])) = some [] := rfl
    rw [srt_ints e1]; rfl
  | cons r R =>
    have e1 : lInt s (.lst (tv (r :: R))) = none := rfl
    have e2 := lTups_tv (s := s) (X := r :: R)
    rw [wp_def]
    simp only [fSorted, e1, e2, wr, h]
    have e3 : (List.map toZ (r :: R)).map (fun l => D.tup (l.map .int)) = tv (r :: R) := by
      rw [List.map_map]
      refine List.map_congr_left fun x _ => ?_
      show D.tup ((toZ x).map D.int) = D.tup (nv x)
      rw [nv_ints]
    rw [e3]
theorem eq_tvLL {s : Sto} {X : List (List Nat)} : eqD s (.lst (tv X)) (.lst (tv X)) = some true := by
  have h1 : toP false s 66 (.lst (tv X)) = some (.list (pt X)) := by rw [toP_lst, toP_tv]; rfl
  have h2 : SeqAt.shaped (.list (pt X)) = true := by
    have h := pt_depth X
    have hd : PyData.depth (.list (pt X)) <= 64 := by simp only [PyData.depth]; omega
    simp [SeqAt.shaped, PyData.canLay0, pt_lay, hd]
  simp only [eqD, h1]
  rw [if_pos ⟨h2, h2⟩]
  simp only [PyData.eqv, eqvAll_pt]
end Fs
namespace Fs
open PySem Cy
def lrB : List Sx := [.iff (.or2 (.val (.cmp .ne (.call F.zq9 [.loc 1, .loc 7]) (.sub (.loc 5) (.bin .mod (.bin .add (.loc 6) (.con (.int 1))) (.bi .len [.loc 5]))))) (.val (.cmp .ne (.call F.zq11 [.loc 1, .loc 7]) (.loc 4)))) [.ret (.con (.bl false))] [], .iff (.val (.cmp .ne (.call F.zq9 [.loc 1, .loc 7]) (.call F.zq21 [.loc 1, .loc 7]))) [.ret (.con (.bl false))] []]
def rS1 : Sx := .asg (.tup [.nm 2, .nm 3]) (.tup [.bi .repr [.loc 1], .call F.zq22 [.loc 1]])
def rS2 : Sx := .iff (.or2 (.val (.cmp .ne (.bi .repr [.call F.zq10 [.loc 1]]) (.bi .repr [.loc 3]))) (.val (.cmp .ne (.bi .list [.loc 3]) (.bi .sorted [.bi .list [.bin .add (.loc 3) (.tup [])]])))) [.ret (.con (.bl false))] []
def rS3 : Sx := .forr (.enum (.loc 3) 0) (.tup [.nm 4, .nm 5]) [.forr (.enum (.loc 5) 0) (.tup [.nm 6, .nm 7]) lrB]
def rS4 : Sx := .ret (.and2 (.cmp .eq (.call F.zq10 [.bi .tuple [.call F.zq14 [.loc 0, .loc 1]]]) (.loc 3)) (.cmp .eq (.bi .repr [.loc 1]) (.loc 2)))
theorem lr_body : c_zq23.body = [rS1, rS2, rS3, rS4] := rfl
section
variable {g : List (List Nat)} {e : Nat}
theorem eq_strK {s : Sto} {x : Str} (h : PyData.strOk x = true) : eqD s (.str x) (.str x) = some true := by
  have h1 : toP false s 66 (.str x) = some (.str x) := rfl
  have h2 : SeqAt.shaped (.str x) = true := by
    simp only [SeqAt.shaped, PyData.canLay0, PyData.depth]
    rw [h]; rfl
  simp only [eqD, h1]
  rw [if_pos ⟨h2, h2⟩]
  simp [PyData.eqv]
theorem smb_tv {X : List (List Nat)} {a b : Nat} (h : ∀ r, r ∈ X -> (∀ d, d ∈ r -> d <= 400) /\ r.length <= a) (hl : X.length <= b) : Smb ((a + 1) * b) 2 (.tuple (pt X)) := by
  refine (Smb.tup (k := a) (d := 1) (m := b) (fun x hx => ?_) (by simpa [Fs.pt] using hl))
  obtain ⟨r, hr, rfl⟩ := List.mem_map.1 hx
  exact Smb.pn (h r hr).1 (h r hr).2
theorem phi_perm {g' : List (List Nat)} (h : Gr g e) (p : g'.Perm g) {d : Nat} (hd : d < 2 * e) : phi g' d = phi g d := by
  have h' : Gr g' e := ⟨p.flatten.trans h.perm, by rw [p.length_eq]; exact h.n, h.e⟩
  obtain ⟨a1, a2, a3, _⟩ := row_flt h hd
  obtain ⟨b1, b2, b3, _⟩ := row_flt h' hd
  have p2 := p.filter (fun r => decide (opp d ∈ r))
  rw [a1, b1] at p2
  have : rowOf g' (opp d) = rowOf g (opp d) := by simpa using p2
  unfold phi
  rw [this]
theorem fi_congr {f f' : Nat -> Nat} {N : Nat} (t : Tu f N) (h : ∀ x, x < N -> f' x = f x) {s : Nat} (hs : s < N) : ∀ k, fi f' k s = fi f k s
  | 0 => rfl
  | k + 1 => by
    show f' (fi f' k s) = f (fi f k s)
    rw [fi_congr t h hs k, h _ (t.fi hs k)]
theorem it_congr {f f' : Nat -> Nat} {N : Nat} (t : Tu f N) (h : ∀ x, x < N -> f' x = f x) {s : Nat} (hs : s < N) (k : Nat) : it f' s k = it f s k :=
  List.map_congr_left fun i _ => fi_congr t h hs i
theorem fw_congr {f f' : Nat -> Nat} {N : Nat} (t : Tu f N) (h : ∀ x, x < N -> f' x = f x) : ∀ {n : Nat} {W : List (List Nat)}, n <= N -> FW f W n -> FW f' W n := by
  intro n W hn hw
  induction hw with
  | zero => exact .zero
  | seen _ hm ih => exact (ih (by omega)).seen hm
  | @next W n k _ hm hk he hnd ih =>
    have hs : n < N := by omega
    have e1 := it_congr t h hs k
    have := FW.next (k := k) (ih (by omega)) hm hk (by rw [fi_congr t h hs k]; exact he) (by rw [e1]; exact hnd)
    rwa [e1] at this
theorem emps_perm {g' : List (List Nat)} (p : g'.Perm g) : emps g' = emps g := by
  have h1 := p.filter (·.isEmpty)
  have h2 : ∀ X : List (List Nat), (∀ r, r ∈ X -> r = []) -> X = List.replicate X.length [] := fun X h => List.eq_replicate_iff.2 ⟨rfl, h⟩
  have h3 := h2 (emps g') emps_nil
  have h4 := h2 (emps g) emps_nil
  have h5 : (emps g').length = (emps g).length := h1.length_eq
  rw [h3, h4, h5]
theorem k_mixedTV (n : Nat) {st : Sto} {l : Nat} {N : Int} {L : List (List Nat)} (hN : N + L.length <= 2 ^ 30) (hL : L.length <= 2 ^ 16) (h : Sr st l N) :
    wp (call P (n + 2) F.zq14 [.ref l, .tup (tv L)]) st (fun r s' => (∃ L', r = .lst (tv L') /\ L'.Perm L) /\ Up st s' l (N + L.length)) NX := by
  refine w_call (F := c_zq14) rfl rfl ?_
  have e : lands [.ref l, .tup (tv L)] st = ([.ref l, .tup (tv L)], st ++ []) := by
    simp only [lands, la_ref, la_tup tv_purs, List.append_nil]
  rw [e]
  exact k_mixedW0 n hN hL h rfl
theorem k_right (n : Nat) {l : Nat} {N : Int} (h : Gr g e) (hg : g.length <= 8) (he : e <= 12) (hN : N + 100 <= 2 ^ 30) {st : Sto} (hS : Sr st l N) :
    wp (call P (n + 6) F.zq23 [.ref l, .tup (tv g)]) st (fun r s' => r = .bl true /\ Up st s' l (N + 100)) NX := by
  have hsl := sl_ge
  refine w_call (F := c_zq23) rfl rfl ?_
  have e0 : lands [.ref l, .tup (tv g)] st = ([.ref l, .tup (tv g)], st) := lands_pur (by simp only [D.purs, D.pur, tv_purs, Bool.and_self])
  have er : List.replicate (c_zq23.ns - c_zq23.np) (none : Option D) = [none, none, none, none, none, none] := rfl
  rw [er, e0, lr_body]
  have rowb : ∀ {X : List (List Nat)} {r : List Nat}, Dr X e -> r ∈ X -> (∀ d, d ∈ r -> d < 2 * e) /\ r.length <= 2 * e := fun {X r} hX hr =>
    ⟨fun d hd => hX.mem.1 (List.mem_flatten.2 ⟨r, hr, hd⟩), nodup_len (hX.nd.sublist (List.sublist_flatten_of_mem hr)) fun d hd => hX.mem.1 (List.mem_flatten.2 ⟨r, hr, hd⟩)⟩
  have sg : Smb 30000 5 (.tuple (pt g)) := (smb_tv (a := 40) (b := 32) (fun r hr => ⟨fun d hd => by have := (rowb h.perm hr).1 d hd; omega, by have := (rowb h.perm hr).2; omega⟩) (by omega)).mono (by decide) (by decide)
  have tg : ∀ s : Sto, toP false s 60 (.tup (tv g)) = some (.tuple (pt g)) := fun s => by rw [toP_tup, toP_tv]; rfl
  have rg := sg.repr (by omega) (by omega)
  unfold rS1
  simp! [tg, rg]
  refine wp_nx (k_cycles (n := n + 3) h st) ?_
  rintro y s ⟨⟨W, rfl, fc⟩, rfl⟩
  have dW : Dr W e := fc_perm fc
  have hel : (emps g).length <= g.length := List.length_filter_le ..
  have hWl := fc_len fc
  have dF : Dr (emps g ++ W) e := by
    have fem : (emps g).flatten = [] := by rw [List.flatten_eq_nil_iff]; exact emps_nil
    unfold Dr
    rw [List.flatten_append, fem, List.nil_append]; exact dW
  have sF : Smb 30000 5 (.tuple (pt (emps g ++ W))) := (smb_tv (a := 40) (b := 32) (fun r hr => ⟨fun d hd => by have := (rowb dF hr).1 d hd; omega, by have := (rowb dF hr).2; omega⟩) (by rw [List.length_append]; omega)).mono (by decide) (by decide)
  have tF : ∀ s : Sto, toP false s 60 (.tup (tv (emps g ++ W))) = some (.tuple (pt (emps g ++ W))) := fun s => by rw [toP_tup, toP_tv]; rfl
  have rF := sF.repr (by omega) (by omega)
  have hds := fw_hds fc.fw
  have hsrt : sortL ((emps g ++ W).map toZ) = (emps g ++ W).map toZ := srt_emp emps_nil (fun w hw => by obtain ⟨x, u, rfl, _⟩ := hds.2 w hw; simp) hds.1
  simp! [la_str, la_tup tv_purs]
  refine ⟨by omega, ?_⟩
  unfold rS2
  simp! []
  refine wp_nx (k_facesQ (n := n + 1) h s) ?_
  rintro y s1 ⟨⟨W', rfl, fc'⟩, rfl⟩
  obtain rfl := fc'.fw.uniq fc.fw
  have q0 : eqD s1 (.lst (tv (emps g ++ W'))) (.lst (tv (emps g ++ W'))) = some true := eq_tvLL
  simp! [tF, rF, eq_strK sF.st, Option.map_some, truth, seqv, List.append_nil, srt_tvS hsrt, q0]
  refine ⟨by omega, by rw [tv_len, List.length_append]; omega, ?_⟩
  have hT : Tu (phi g) (2 * e) := Dr.tu h.perm
  have hFl : (emps g ++ W').length <= 32 := by rw [List.length_append]; omega
  have hcyc : ∀ r, r ∈ emps g ++ W' -> ∀ i d : Nat, r[i]? = some d -> nx r d = phi g d := fun r hr i d hi => by
    rcases List.mem_append.1 hr with hr | hr
    · have hr0 := emps_nil r hr
      subst hr0
      cases hi
    · exact cyc_nx (fc'.cyc r hr) hi
  unfold rS3
  simp! []
  refine w_forPE (emps g ++ W') (fun r => .tup (nv r)) (fun pre σ s => (∃ a b c d, σ = [some (.ref l), some (.tup (tv g)), some (.str (PyData.tuple (pt g)).shown), some (.tup (tv (emps g ++ W'))), a, b, c, d]) /\ s = s1) ⟨⟨_, _, _, _, rfl⟩, rfl⟩ ?_ ?_
  · rintro pre r post σ s hF ⟨⟨a, b, c, d, rfl⟩, rfl⟩
    have hr : r ∈ emps g ++ W' := by rw [hF]; simp
    obtain ⟨hr1, hr2⟩ := rowb dF hr
    have rnd : r.Nodup := dF.nd.sublist (List.sublist_flatten_of_mem hr)
    simp! [la_tup nv_purs]
    refine w_forPE r (fun (d : Nat) => .int (d : Int)) (fun pr σ s2 => (∃ c d, σ = [some (.ref l), some (.tup (tv g)), some (.str (PyData.tuple (pt g)).shown), some (.tup (tv (emps g ++ W'))), some (.int (pre.length : Nat)), some (.tup (nv r)), c, d]) /\ s2 = s) ⟨⟨_, _, rfl⟩, rfl⟩ ?_ ?_
    · rintro pr x po σ s2 hrr ⟨⟨c, d, rfl⟩, rfl⟩
      have hxr : x ∈ r := by rw [hrr]; simp
      have hx := hr1 x hxr
      have hi : r[pr.length]? = some x := by rw [hrr, List.getElem?_append_right (Nat.le_refl _), Nat.sub_self]; rfl
      have hnx := hcyc r hr _ _ hi
      have hne : 0 < r.length := List.length_pos_of_mem hxr
      have htl : tailOf (emps g ++ W') x = pre.length := by rw [hF]; exact tail_at hxr (hF ▸ dF.nd)
      unfold lrB
      simp! []
      refine wp_nx (k_succN (n := n + 1) h hx s2) ?_
      rintro y s3 ⟨rfl, rfl⟩
      simp! [nv_len]
      refine ⟨by omega, ?_⟩
      rw [nx_at rnd hi, hnx]
      simp! [eq_int, Option.map_some, truth]
      rw [show (!decide True) = false by decide, wb_f]
      refine wp_nx (k_findex (n := n) h hx s3) ?_
      rintro y s4 ⟨⟨W2, fc2, rfl⟩, rfl⟩
      obtain rfl := fc2.fw.uniq fc'.fw
      rw [htl]
      simp! [eq_int, Option.map_some, truth]
      rw [show (!decide True) = false by decide, wb_f]
      refine wp_nx (k_succN (n := n + 1) h hx s4) ?_
      rintro y s5 ⟨rfl, rfl⟩
      refine wp_nx (k_behind (n := n + 4) h hx s5) ?_
      rintro y s6 ⟨rfl, rfl⟩
      simp! [eq_int, Option.map_some, truth]
      rw [show (!decide True) = false by decide, wb_f]
      exact ⟨_, _, rfl⟩
    · rintro σ s2 ⟨⟨c, d, rfl⟩, rfl⟩
      exact ⟨⟨_, _, _, _, rfl⟩, rfl⟩
  · rintro σ s2 ⟨⟨a, b, c, d, rfl⟩, rfl⟩
    unfold rS4
    simp! []
    refine wp_nx (k_mixedTV (n := n + 3) (L := g) (by omega) (by omega) hS) ?_
    rintro y s3 ⟨⟨g', rfl, pp⟩, hu⟩
    have h' : Gr g' e := ⟨pp.flatten.trans h.perm, by rw [pp.length_eq]; exact h.n, h.e⟩
    simp! [seqv]
    refine wp_nx (k_facesQ (n := n + 1) h' s3) ?_
    rintro y s4 ⟨⟨W2, rfl, fc2⟩, rfl⟩
    have f3 := fw_congr hT (fun x hx => phi_perm h pp hx) (Nat.le_refl _) fc'.fw
    obtain rfl := fc2.fw.uniq f3
    rw [emps_perm pp]
    simp! [eq_tv, tg, rg, eq_strK sg.st]
    obtain ⟨a, b, c, rfl, h1, h2⟩ := hu
    refine ⟨okP_set0 rfl, rfl, a, b, c, ?_, h1, by omega⟩
    rw [List.take_of_length_le (by simp)]
end
end Fs
namespace Fs
open PySem Cy
section
variable {T : Tbl} {σ : Env} {s : Sto} {E : D -> Sto -> Prop} {Q : D -> Sto -> Prop} {QF : Fl -> Sto -> Prop} {γ : Type}
theorem w_hitEC {turn : D -> M (Option D)} {Q : List D -> Sto -> Prop} {l t : Nat} (L : List γ) (h : γ -> D) (y : D) (hc : s[l]? = some (.lst (L.map h))) (hx : L.length <= sizeLine) (ht : t < L.length)
    (hb : ∀ i c, L[i]? = some c -> wp (turn (.tup [.int (i : Nat), h c])) s (fun o s1 => o = (if i = t then some y else none) /\ s1 = s) NX)
    (hq : Q [y] s) : wp (lcLoop (.enum 0 (.cell l)) turn ((It.enum 0 (.cell l)).len s + 1) 0 []) s Q E := by
  refine w_lcAux (numb 0 (L.map h)) (fun i a s' => i <= L.length /\ s' = s /\ a = if t < i then [y] else []) ?_ ?_ ?_ _ 0 [] s ⟨Nat.zero_le _, rfl, rfl⟩ (Nat.zero_le _) ?_
  · rintro i a s' ⟨hi, rfl, _⟩
    have h1 := enum_next (k := 0) (xs := L.map h) (i := i) (s := s') (by simpa using hi)
    rw [<- h1]
    simp only [It.next, Src.at, Src.len, hc]
    cases (L.map h)[i]? <;> (first | rfl | (simp only [wp_def] <;> rfl))
  · rintro i d a s' ⟨hi, rfl, rfl⟩ e
    rw [numb_get, List.getElem?_map] at e
    cases e2 : L[i]? with
    | none => rw [e2] at e; cases e
    | some c =>
      rw [e2] at e
      cases e
      have hi2 : i < L.length := (List.getElem?_eq_some_iff.1 e2).1
      rw [Int.zero_add]
      refine wp_nx (hb i c e2) ?_
      rintro o s1 ⟨rfl, rfl⟩
      by_cases hit : i = t
      · subst hit
        rw [if_pos rfl]
        simp only
        rw [if_neg (by omega), if_pos (by omega)]
        exact ⟨by simp; omega, hi2, trivial, rfl⟩
      · rw [if_neg hit]
        simp only
        refine ⟨hi2, trivial, ?_⟩
        by_cases h3 : t < i
        · rw [if_pos h3, if_pos (by omega)]
        · rw [if_neg h3, if_neg (by omega)]
  · rintro a s' ⟨_, rfl, rfl⟩
    have hl : (numb 0 (L.map h)).length = L.length := by rw [numb_len, List.length_map]
    rw [hl, if_pos ht]
    exact hq
  · rw [numb_len, List.length_map]
    simp only [It.len, Src.len, hc, List.length_map]; omega
theorem m_insert {l : Nat} {xs : List D} {i : Int} {d : D} (h : s[l]? = some (.lst xs)) : wp (mInsert (.ref l) (.int i) d) s Q E = ((0 <= i /\ i < 2 ^ 62 /\ xs.length < sizeLine) /\ Q .non ((land d s).2.set l (.lst (xs.take i.toNat ++ (land d s).1 :: xs.drop i.toNat)))) := by
  simp only [wp_def, mInsert, lcell, h, opt, intv]
  by_cases hg : 0 <= i /\ i < 2 ^ 62 /\ xs.length < sizeLine
  · have e : decide (0 <= i /\ i < 2 ^ 62 /\ xs.length < sizeLine) = true := decide_eq_true hg
    rw [e]
    exact propext ⟨fun q => ⟨hg, q⟩, fun q => q.2⟩
  · have e : decide (0 <= i /\ i < 2 ^ 62 /\ xs.length < sizeLine) = false := decide_eq_false hg
    rw [e]
    exact propext ⟨False.elim, fun q => hg q.1⟩
theorem m_extend {l : Nat} {xs ys : List D} {d : D} (h : s[l]? = some (.lst xs)) (h2 : lstv s d = some ys) : wp (mExtend (.ref l) d) s Q E = (xs.length + ys.length <= sizeLine /\ Q .non ((lands ys s).2.set l (.lst (xs ++ (lands ys s).1)))) := by
  simp only [wp_def, mExtend, lcell, h, opt, h2]
  by_cases hg : xs.length + ys.length <= sizeLine
  · have e : decide (xs.length + ys.length <= sizeLine) = true := decide_eq_true hg
    rw [e]
    exact propext ⟨fun q => ⟨hg, q⟩, fun q => q.2⟩
  · have e : decide (xs.length + ys.length <= sizeLine) = false := decide_eq_false hg
    rw [e]
    exact propext ⟨False.elim, fun q => hg q.1⟩
theorem pn_idx {r : List Nat} {c : Nat} (h : c ∈ r) : (pn r).findIdx? (fun z => PyData.eqv z (.int (c : Int))) = some (r.idxOf c) := by
  induction r with
  | nil => cases h
  | cons a r ih =>
    have e : PyData.eqv (.int (a : Int)) (.int (c : Int)) = decide (a = c) := by
      simp only [PyData.eqv]
      by_cases h : a = c
      · subst h; simp
      · have : ((a : Int) == (c : Int)) = false := by rw [beq_eq_false_iff_ne]; omega
        rw [this, decide_eq_false h]
    rw [pn_cons, List.findIdx?_cons, e, List.idxOf_cons]
    by_cases hac : a = c
    · subst hac; simp
    · have h2 : c ∈ r := by
        rcases List.mem_cons.1 h with q | q
        · exact absurd q.symm hac
        · exact q
      rw [ih h2]
      have : (a == c) = false := by simpa using hac
      simp [hac, this]
theorem m_index {l c : Nat} {r : List Nat} (h : s[l]? = some (.lst (nv r))) (hc : c ∈ r) : wp (mIndex (.ref l) (.int (c : Nat))) s Q E = Q (.int ((r.idxOf c : Nat) : Int)) s := by
  have h1 : dats s (.ref l) = some (pn r) := by
    simp only [dats, seqv, h]
    exact toP_nv (k := 64)
  have h2 : toP false s 66 (.int (c : Nat)) = some (.int (c : Int)) := rfl
  have h3 : SeqAt.shaped (.int (c : Int)) = true := by simp [SeqAt.shaped, PyData.canLay0, PyData.depth]
  have h4 : SeqAt.shaped (.list (pn r)) = true := by
    have hd := pn_depth r
    have hd2 : PyData.depth (.list (pn r)) <= 64 := by simp only [PyData.depth]; omega
    simp [SeqAt.shaped, PyData.canLay0, pn_lay, hd2]
  have h5 : decide (SeqAt.shaped (.int (c : Int)) = true /\ SeqAt.shaped (.list (pn r)) = true) = true := decide_eq_true ⟨h3, h4⟩
  simp only [wp_def, mIndex, h1, h2, opt, h5, gd, pn_idx hc]
  exact propext Iff.rfl
end
theorem me_index {o d : D} : meD .index o [d] = mIndex o d := rfl
theorem me_insert {o i d : D} : meD .insert o [i, d] = mInsert o i d := rfl
theorem me_extend {o d : D} : meD .extend o [d] = mExtend o d := rfl
theorem kn_lst {s : Sto} {q : Nat} {xs : List D} (h : s[q]? = some (.lst xs)) : kndD s (.ref q) = 4 := by simp only [kndD, h]
theorem atI0 {x : D} : L2.atI [x] 0 = some x := rfl
theorem q44 : ((4 : Nat) == 4) = true := rfl
theorem nv_cons {a : Nat} {L : List Nat} : nv (a :: L) = .int (a : Int) :: nv L := rfl
theorem clss_nv {b : Nat} {L : List Nat} : cellCl b (.lst (nv L)) = true := by
  show D.clss b (nv L) = true
  induction L with
  | nil => rfl
  | cons a L ih => rw [nv_cons]; simp only [D.clss, D.cls, ih, Bool.and_self]
theorem take_set0 {s : Sto} {i : Nat} {d : D} (h : i < s.length) : (s.set i d).take s.length = s.set i d := by
  rw [List.take_of_length_le]; simp
theorem tail_lt {B : List (List Nat)} {c : Nat} (h : c ∈ B.flatten) : tailOf B c < B.length := by
  unfold tailOf
  obtain ⟨r, hr, hc⟩ := List.mem_flatten.1 h
  exact List.findIdx_lt_length_of_exists ⟨r, hr, by simpa using hc⟩
theorem tail_row {B : List (List Nat)} {c : Nat} (h : c ∈ B.flatten) : c ∈ rowOf B c := by
  have h1 := tail_lt h
  have h2 : decide (c ∈ B[tailOf B c]) = true := List.findIdx_getElem (p := fun r => decide (c ∈ r)) (w := h1)
  unfold rowOf
  rw [List.getD_eq_getElem?_getD, List.getElem?_eq_getElem h1]
  exact of_decide_eq_true h2
theorem tail_uniq {B : List (List Nat)} {c i : Nat} (nd : B.flatten.Nodup) (hi : i < B.length) (h : c ∈ B.getD i []) : i = tailOf B c := by
  have e := at_split hi
  have := tail_at h (e ▸ nd)
  rw [<- e, List.length_take] at this
  omega
theorem put_go {n o d c : Nat} {p : Nat -> Nat} {B : List (List Nat)} {s : Sto} (h : RL s o p B) (nd : B.flatten.Nodup) (hc : c ∈ B.flatten) (hb : B.length <= 60) (hl : B.flatten.length <= 300) :
    wp (exL (P.tbl n) c_zq16.body [some (.ref o), some (.int (d : Nat)), some (.int (c : Nat)), none, none, none]) s (lv s (fun r s' => r = .non /\ s' = s.set (p (tailOf B c)) (.lst (nv (ib (rowOf B c) d c)))) NX) NX := by
  have hsl := sl_ge
  have htl := tail_lt hc
  have htr := tail_row hc
  unfold c_zq16
  have ht := h.top
  simp! [ht]
  refine w_hitEC (l := o) (t := tailOf B c) (List.range B.length) (fun i => .ref (p i)) (.int ((tailOf B c : Nat) : Int)) ht (by simp; omega) (by simpa using htl) ?_ ?_
  · intro i j hij
    have hi : i < B.length := by
      have := (List.getElem?_eq_some_iff.1 hij).1
      simpa using this
    rw [List.getElem?_range hi] at hij
    cases hij
    have hr := h.row i hi
    simp! [in_ref hr, truth]
    by_cases hit : i = tailOf B c
    · have : c ∈ B.getD i [] := by rw [hit]; exact htr
      rw [if_pos hit, decide_eq_true this]
      simp! []
      rw [hit]
    · have : c ∉ B.getD i [] := fun z => hit (tail_uniq nd hi z)
      rw [if_neg hit, decide_eq_false this]
      simp! []
  · have t1 : L2.atI (rg B.length fun i => D.ref (p i)) ((tailOf B c : Nat) : Int) = some (.ref (p (tailOf B c))) := rg_at htl
    have hr : s[p (tailOf B c)]? = some (.lst (nv (rowOf B c))) := h.row _ htl
    have hlt := (List.getElem?_eq_some_iff.1 hr).1
    have hil : (rowOf B c).idxOf c < (rowOf B c).length := List.idxOf_lt_length_of_mem htr
    have hrl : (rowOf B c).length <= 300 := by
      have e := at_split htl
      have h2 := congrArg (fun L : List (List Nat) => L.flatten.length) e
      simp only [List.flatten_append, List.flatten_cons, List.length_append] at h2
      show (B.getD (tailOf B c) []).length <= 300
      omega
    simp! [atI0, ht, t1, kn_lst hr, q44, me_index, m_index hr htr, me_insert, m_insert hr, Int.toNat_natCast]
    have e1 : (nv (rowOf B c)).take ((rowOf B c).idxOf c) ++ D.int (d : Int) :: (nv (rowOf B c)).drop ((rowOf B c).idxOf c) = nv (ib (rowOf B c) d c) := by
      unfold ib
      rw [nv_app, nv_cons]
      simp only [nv, List.map_take, List.map_drop]
    rw [e1]
    refine ⟨⟨by omega, by omega, by rw [nv_len]; omega⟩, ?_⟩
    exact ⟨okP_set0 clss_nv, take_set0 hlt⟩
theorem k_put (n : Nat) {o d c : Nat} {p : Nat -> Nat} {B : List (List Nat)} {s : Sto} (h : RL s o p B) (nd : B.flatten.Nodup) (hc : c ∈ B.flatten) (hb : B.length <= 60) (hl : B.flatten.length <= 300) :
    wp (call P (n + 1) F.zq16 [.ref o, .int (d : Nat), .int (c : Nat)]) s (fun r s' => r = .non /\ s' = s.set (p (tailOf B c)) (.lst (nv (ib (rowOf B c) d c)))) NX := by
  refine w_call (F := c_zq16) rfl rfl ?_
  have e : lands [.ref o, .int (d : Nat), .int (c : Nat)] s = ([.ref o, .int (d : Nat), .int (c : Nat)], s) := lands_pur rfl
  rw [e]
  exact put_go h nd hc hb hl
structure Bs (st s : Sto) (l o : Nat) (p : Nat -> Nat) (B : List (List Nat)) (N : Int) : Prop where
  sq : Sq st s l N
  rl : RL s o p B
  ob : st.length <= o
  pb : ∀ i, i < B.length -> st.length <= p i
section
variable {st s s' r : Sto} {l o m : Nat} {p : Nat -> Nat} {B : List (List Nat)} {N M : Int}
theorem Bs.app (h : Bs st s l o p B N) : Bs st (s ++ r) l o p B N := ⟨h.sq.app, Rws.app h.rl, h.ob, h.pb⟩
theorem Bs.mono (h : Bs st s l o p B N) (hM : N <= M) : Bs st s l o p B M := ⟨h.sq.mono hM, h.rl, h.ob, h.pb⟩
theorem Bs.up (h : Bs st s l o p B N) (hu : Up s s' l M) : Bs st s' l o p B M := by
  refine ⟨h.sq.next hu, ?_, h.ob, h.pb⟩
  obtain ⟨a, b, c, rfl, _, _⟩ := hu
  have hl := h.sq.lt
  exact Rws.far h.rl (by have := h.ob; omega) fun i hi => by have := h.pb i hi; omega
theorem Bs.put (h : Bs st s l o p B N) {i : Nat} {x : List Nat} (hi : i < B.length) : Bs st (s.set (p i) (.lst (nv x))) l o p (B.set i x) N := by
  refine ⟨h.sq.set (h.pb i hi), ?_, h.ob, fun j hj => h.pb j (by simpa using hj)⟩
  have h1 := Rws.set h.rl hi (nv x)
  unfold RL
  rw [List.length_set]
  refine h1.cg fun j hj => ?_
  by_cases e : j = i
  · subst e
    rw [if_pos rfl, List.getD_eq_getElem?_getD, List.getElem?_set_self hj]; rfl
  · rw [if_neg e, List.getD_eq_getElem?_getD, List.getD_eq_getElem?_getD, List.getElem?_set_ne (Ne.symm e)]
theorem Bs.push (h : Bs st s l o p B N) {x : List Nat} : Bs st ((s ++ [D.lst (nv x)]).set o (D.lst ((rg B.length fun i => D.ref (p i)) ++ [D.ref s.length]))) l o (fun i => if i < B.length then p i else s.length) (B ++ [x]) N := by
  have hol := Rws.olt h.rl
  have hsl : st.length <= s.length := h.sq.le
  refine ⟨(h.sq.app).set h.ob, ⟨?_, fun i hi => ?_, fun i j hi hj e => ?_, fun i hi => ?_⟩, h.ob, fun i hi => ?_⟩
  · rw [List.getElem?_set_self (by simp; omega)]
    have e : (B ++ [x]).length = B.length + 1 := by simp
    rw [e]
    unfold rg
    rw [List.range_succ, List.map_append]
    have e2 : (List.range B.length).map (fun i => D.ref (p i)) = (List.range B.length).map (fun i => D.ref (if i < B.length then p i else s.length)) := List.map_congr_left fun i hi => by rw [if_pos (List.mem_range.1 hi)]
    rw [e2]; simp
  · rw [List.length_append, List.length_singleton] at hi
    by_cases hb : i < B.length
    · rw [if_pos hb, List.getElem?_set_ne (Ne.symm (Rws.off h.rl i hb)), List.getElem?_append_left (Rws.lt h.rl hb), List.getD_eq_getElem?_getD, List.getElem?_append_left hb]
      have := Rws.row h.rl i hb
      rw [List.getD_eq_getElem?_getD] at this
      exact this
    · have : i = B.length := by omega
      subst this
      rw [if_neg hb, List.getElem?_set_ne (by omega), List.getD_eq_getElem?_getD, List.getElem?_append_right (Nat.le_refl _)]
      simp
  · rw [List.length_append, List.length_singleton] at hi hj
    by_cases h1 : i < B.length <;> by_cases h2 : j < B.length
    · simp only [h1, h2, if_true] at e
      exact Rws.inj h.rl i j h1 h2 e
    · simp only [h1, h2, if_true, if_false] at e
      have := Rws.lt h.rl h1
      omega
    · simp only [h1, h2, if_true, if_false] at e
      have := Rws.lt h.rl h2
      omega
    · omega
  · by_cases hb : i < B.length
    · simp only [hb, if_true]; exact Rws.off h.rl i hb
    · simp only [hb, if_false]; omega
  · by_cases hb : i < B.length
    · simp only [hb, if_true]; exact h.pb i hb
    · simp only [hb, if_false]; exact hsl
theorem Bs.cut (h : Bs st s l o p B N) {k : Nat} (hk : k <= s.length) (h0 : st.length <= k) (h1 : o < k) (h2 : ∀ i, i < B.length -> p i < k) : Bs st (s.take k) l o p B N := by
  refine ⟨⟨h.sq.lt, by rw [List.length_take]; omega, ?_⟩, Rws.congr h.rl ?_ fun i hi => ?_, h.ob, h.pb⟩
  · rw [List.take_take, Nat.min_eq_left h0]; exact h.sq.up
  · rw [List.getElem?_take, if_pos h1]
  · rw [List.getElem?_take, if_pos (h2 i hi)]
end
def lvX (st : Sto) (Q : D -> Sto -> Prop) : Fl -> Sto -> Prop := fun f s2 => match f with
  | .nx _ => (okPre st s2 st.length = true -> Q .non (s2.take st.length)) /\ (okPre st s2 st.length = false -> Q .non s2)
  | _ => False
theorem lvX_nx {st s2 : Sto} {Q : D -> Sto -> Prop} {d : Env} : lvX st Q (.nx d) s2 = ((okPre st s2 st.length = true -> Q .non (s2.take st.length)) /\ (okPre st s2 st.length = false -> Q .non s2)) := propext Iff.rfl
theorem w_callX {P : Pr} {n f : Nat} {ds : List D} {st : Sto} {F : Fn} {Q E : D -> Sto -> Prop} (hF : P.fns f = some F) (hl : ds.length = F.np)
    (h : wp (exL (P.tbl n) F.body ((lands ds st).1.map some ++ List.replicate (F.ns - F.np) none)) (lands ds st).2 (lvX st Q) NX) : wp (call P (n + 1) f ds) st Q E := by
  rw [wp_def, call_succ]
  unfold runF
  simp only [hF]
  simp only [decide_eq_true hl]
  simp only [wp_def] at h
  cases e : exL (P.tbl n) F.body ((lands ds st).1.map some ++ List.replicate (F.ns - F.np) none) (lands ds st).2 with
  | ok f s2 =>
    rw [e] at h
    simp only [wr] at h
    cases f with
    | nx σ =>
      obtain ⟨h1, h2⟩ := h
      simp only [outR, leaveD, rback, rbD]
      cases e2 : okPre st s2 st.length with
      | true => exact h1 e2
      | false => exact h2 e2
    | _ => exact h.elim
  | exc e s2 => rw [e] at h; exact h.elim
  | bad => rw [e] at h; exact h.elim
theorem okP_at : ∀ {st s2 : Sto} {b l : Nat} {c : D}, okPre st s2 b = true -> st[l]? = some c -> ∃ c', s2[l]? = some c' /\ (c = c' ∨ cellCl b c' = true)
  | [], s2, b, l, c, _, h => by simp at h
  | d :: st, [], b, l, c, h, _ => by simp [okPre] at h
  | d :: st, e :: s2, b, 0, c, h, h2 => by
    cases h2
    simp only [okPre, Bool.and_eq_true, Bool.or_eq_true, decide_eq_true_eq] at h
    exact ⟨e, rfl, h.1⟩
  | d :: st, e :: s2, b, l + 1, c, h, h2 => by
    simp only [okPre, Bool.and_eq_true] at h
    obtain ⟨c', h3, h4⟩ := okP_at (l := l) h.2 (by simpa using h2)
    exact ⟨c', by simpa using h3, h4⟩
end Fs
namespace Fs
open PySem Cy
theorem walks_lt {B : List (List Nat)} {m : Nat} {W : List (List Nat)} (h : Fc (phi B) (2 * m) W (2 * m)) : W.length <= 2 * m := by
  have a1 := len_flat (W := W) fun w hw => (h.cyc w hw).ne
  have a2 := sub_len (M := List.range (2 * m)) h.nd fun x hx => List.mem_range.2 (h.lt x hx)
  rw [List.length_range] at a2
  omega
def tlE : List Sx := [.iff (.val (.loc 3)) [.xpr (.me .append (.loc 1) [.lst [.sub (.loc 2) (.con (.int 1))]])] []]
def elE : List Sx := [.iff (.nt (.val (.loc 3))) [.asg (.nm 6) (.sub (.lc [6] (.val (.call F.zq15 [.loc 1])) (.nm 6) [.val (.cmp .inn (.loc 5) (.loc 6))] (.loc 6)) (.con (.int 0))), .xpr (.call F.zq16 [.loc 1, .sub (.loc 2) (.con (.int 1)), .sub (.loc 6) (.call F.zq13 [.loc 0, .bi .len [.loc 6]])])] [], .xpr (.call F.zq16 [.loc 1, .sub (.loc 2) (.con (.int 0)), .loc 5])]
theorem ae_body : c_zq17.body = .asg (.nm 4) (.call F.zq13 [.loc 0, .bi .len [.loc 1]]) :: .iff (.val (.cmp .eq (.sub (.loc 1) (.loc 4)) (.lst []))) [.xpr (.me .extend (.sub (.loc 1) (.loc 4)) [.ife (.val (.loc 3)) (.slc (.loc 2) none (some (.con (.int 1)))) (.loc 2)])] (.asg (.nm 5) (.sub (.sub (.loc 1) (.loc 4)) (.call F.zq13 [.loc 0, .bi .len [.sub (.loc 1) (.loc 4)]])) :: elE) :: tlE := rfl
theorem edge_go {n m o l pr c : Nat} {p : Nat -> Nat} {B : List (List Nat)} {st s : Sto} {N : Int} {x4 : Option D} {QF : Fl -> Sto -> Prop} (h : Bs st s l o p B N) (hB : Bld B m) (hm : m <= 30) (hb : B.length <= 59) (hc : c < 2 * m) (hN : N + 10 <= 2 ^ 30)
    (hp : s[pr]? = some (.lst (nv [2 * m, 2 * m + 1]))) (hpo : st.length <= pr) (hp1 : pr ≠ o) (hp2 : ∀ i, i < B.length -> pr ≠ p i)
    (hq : ∀ (s' : Sto) x6, (∃ w x, Cyc (phi B) w /\ c ∈ w /\ x ∈ w /\ Bs st s' l o p (put (put B (2 * m + 1) x) (2 * m) c) (N + 1)) -> s.length <= s'.length -> s'[pr]? = some (.lst (nv [2 * m, 2 * m + 1])) -> QF (.nx [some (.ref l), some (.ref o), some (.ref pr), some (.bl false), x4, some (.int (c : Nat)), x6]) s') :
    wp (exL (P.tbl (n + 2)) elE
      [some (.ref l), some (.ref o), some (.ref pr), some (.bl false), x4, some (.int (c : Nat)), none]) s QF NX := by
  have hsl := sl_ge
  have hD := hB.dr
  have hfl := hD.len
  unfold elE
  simp! [truth]
  refine wp_nx (k_walks (n := n + 1) h.rl hD (by omega) (by omega) (by omega)) ?_
  rintro y s' ⟨⟨W, rfl, hW⟩, rfl⟩
  have hcW : c ∈ W.flatten := hW.all c hc
  have hWl := walks_lt hW
  have so : ∀ {xs : List D} {s : Sto} {Q : Src -> Sto -> Prop} {E : D -> Sto -> Prop}, wp (srcOf (.lst xs)) s Q E = Q (.items xs) s := by
    intro xs s Q E
    simp only [wp_def, srcOf, wr]
  rw [so]
  refine w_lcM (W.map fun w => .lst (nv w)) (fun i a s2 => (∃ J, s2 = s' ++ J) /\ a.length <= i /\ ((a = [] /\ ∀ k w, k < i -> W[k]? = some w -> c ∉ w) ∨ ∃ q w, a[0]? = some (.ref q) /\ s2[q]? = some (.lst (nv w)) /\ w ∈ W /\ c ∈ w /\ s'.length <= q)) ⟨⟨[], by simp⟩, Nat.le_refl _, .inl ⟨rfl, fun k w z => absurd z (Nat.not_lt_zero _)⟩⟩ (fun i a s2 z => z.2.1) (by simp; omega) ?_ ?_
  · rintro i d a s2 ⟨⟨J, rfl⟩, hal, hA⟩ hd
    rw [List.getElem?_map] at hd
    cases hw : W[i]? with
    | none => rw [hw] at hd; cases hd
    | some w =>
      rw [hw] at hd
      cases hd
      have hwm : w ∈ W := List.mem_iff_getElem?.2 ⟨i, hw⟩
      have hcell : ((s' ++ J) ++ [D.lst (nv w)] : Sto)[(s' ++ J).length]? = some (.lst (nv w)) := sg0
      simp! [la_lst nv_purs]
      have e0 : (s' ++ (J ++ [D.lst (nv w)]) : Sto) = (s' ++ J) ++ [D.lst (nv w)] := by simp
      have e1 : s'.length + J.length = (s' ++ J).length := by simp
      rw [e0, e1, in_ref hcell]
      simp! [truth]
      refine wb_of ?_ ?_
      · intro hin
        have hin := of_decide_eq_true hin
        refine ⟨⟨J ++ [D.lst (nv w)], by simp⟩, by simp; omega, .inr ?_⟩
        rcases hA with ⟨rfl, _⟩ | ⟨q, w0, h1, h2, h3, h4, h5⟩
        · exact ⟨_, w, rfl, by simpa using hcell, hwm, hin, by simp⟩
        · refine ⟨q, w0, ?_, ?_, h3, h4, h5⟩
          · rw [List.getElem?_append_left (List.getElem?_eq_some_iff.1 h1).1]; exact h1
          · rw [e0]; exact sgl h2
      · intro hin
        have hin := of_decide_eq_false hin
        refine ⟨⟨J ++ [D.lst (nv w)], by simp⟩, by omega, ?_⟩
        rcases hA with ⟨rfl, hA⟩ | ⟨q, w0, h1, h2, h3, h4, h5⟩
        · refine .inl ⟨rfl, fun k w2 hk hw2 => ?_⟩
          by_cases hki : k = i
          · subst hki
            rw [hw] at hw2; cases hw2; exact hin
          · exact hA k w2 (by omega) hw2
        · exact .inr ⟨q, w0, h1, by rw [e0]; exact sgl h2, h3, h4, h5⟩
  · rintro a s2 ⟨⟨J, rfl⟩, hal, hA⟩
    rw [List.length_map] at hA
    obtain ⟨q, w, h1, h2, hwW, hcw, hql⟩ : ∃ q w, a[0]? = some (D.ref q) /\ (s' ++ J)[q]? = some (.lst (nv w)) /\ w ∈ W /\ c ∈ w /\ s'.length <= q := by
      rcases hA with ⟨_, hA⟩ | hA
      · obtain ⟨w, hw, hcw⟩ := List.mem_flatten.1 hcW
        obtain ⟨k, hk⟩ := List.mem_iff_getElem?.1 hw
        exact absurd hcw (hA k w (List.getElem?_eq_some_iff.1 hk).1 hk)
      · exact hA
    have a0 : L2.atI a 0 = some (.ref q) := by
      have := atI_nat (xs := a) (i := 0)
      exact this.trans h1
    have hcy := hW.cyc w hwW
    have hw0 : 0 < w.length := List.length_pos_of_mem hcw
    have hwl : w.length <= 2 * m := by
      have := sub_len (L := w) (M := List.range (2 * m)) (by obtain ⟨_, _, _, rfl, _, nd⟩ := hcy; exact nd) fun x hx => List.mem_range.2 (hW.lt x (List.mem_flatten.2 ⟨w, hwW, hx⟩))
      rwa [List.length_range] at this
    have hp3 : (s' ++ J)[pr]? = some (.lst (nv [2 * m, 2 * m + 1])) := sgl hp
    have hb2 := h.app (r := J)
    have hln : s'.length <= (s' ++ J).length := by simp
    generalize (s' ++ J : Sto) = s3 at *
    have p1 : L2.atI (nv [2 * m, 2 * m + 1]) 1 = some (.int ((2 * m + 1 : Nat) : Int)) := rfl
    have p0 : L2.atI (nv [2 * m, 2 * m + 1]) 0 = some (.int ((2 * m : Nat) : Int)) := rfl
    simp! [a0, hp3, p1, h2, nv_len]
    refine wp_nx (k_next (n := n + 1) (m := ((w.length : Nat) : Int)) (by omega) (by omega) (by omega) hb2.sq.sr) ?_
    rintro y s4 ⟨⟨x, rfl, hx0, hx1⟩, hu⟩
    have hb3 := hb2.up hu
    have hne : q ≠ l /\ pr ≠ l := by
      have a1 := h.sq.lt
      have a2 := h.sq.le
      omega
    obtain ⟨a1, b1, c1, rfl, _, _⟩ := hu
    obtain ⟨x, rfl⟩ : ∃ k : Nat, x = (k : Int) := ⟨x.toNat, by omega⟩
    have hxl : x < w.length := by omega
    have hq4 : (s3.set l (src a1 b1 c1))[q]? = some (.lst (nv w)) := by rw [List.getElem?_set_ne (Ne.symm hne.1)]; exact h2
    have hp4 : (s3.set l (src a1 b1 c1))[pr]? = some (.lst (nv [2 * m, 2 * m + 1])) := by rw [List.getElem?_set_ne (Ne.symm hne.2)]; exact hp3
    have hl4 : (s3.set l (src a1 b1 c1)).length = s3.length := List.length_set
    generalize (s3.set l (src a1 b1 c1)) = s4 at *
    have g1 : L2.atI (nv w) (x : Int) = some (.int ((w[x] : Nat) : Int)) := by
      rw [atI_nat, nv_get, List.getElem?_eq_getElem hxl]; rfl
    have hxw : w[x] ∈ w := List.getElem_mem _
    have hxm : w[x] < 2 * m := Cyc.lt hD.tu hcy hcw hc _ hxw
    simp! [hq4, g1]
    refine wp_nx (k_put (n := n + 1) hb3.rl hD.nd (hD.mem.2 hxm) (by omega) (by omega)) ?_
    rintro y s5 ⟨rfl, rfl⟩
    have htl := tail_lt (hD.mem.2 hxm)
    have hb4 := hb3.put (x := ib (rowOf B w[x]) (2 * m + 1) w[x]) htl
    have hp5 : (s4.set (p (tailOf B w[x])) (.lst (nv (ib (rowOf B w[x]) (2 * m + 1) w[x]))))[pr]? = some (.lst (nv [2 * m, 2 * m + 1])) := by
      rw [List.getElem?_set_ne (Ne.symm (hp2 _ htl))]; exact hp4
    have hl5 : (s4.set (p (tailOf B w[x])) (.lst (nv (ib (rowOf B w[x]) (2 * m + 1) w[x])))).length = s4.length := List.length_set
    generalize (s4.set (p (tailOf B w[x])) (.lst (nv (ib (rowOf B w[x]) (2 * m + 1) w[x])))) = s5 at *
    have hpe : B.set (tailOf B w[x]) (ib (rowOf B w[x]) (2 * m + 1) w[x]) = Fs.put B (2 * m + 1) w[x] := rfl
    rw [hpe] at hb4
    have pp := put_perm (d := 2 * m + 1) hD hxm
    have nd2 : (Fs.put B (2 * m + 1) w[x]).flatten.Nodup := pp.nodup_iff.2 (List.nodup_cons.2 ⟨fun z => by have := hD.mem.1 z; omega, hD.nd⟩)
    have hc2 : c ∈ (Fs.put B (2 * m + 1) w[x]).flatten := pp.mem_iff.2 (List.mem_cons_of_mem _ (hD.mem.2 hc))
    have hfl2 : (Fs.put B (2 * m + 1) w[x]).flatten.length <= 300 := by rw [pp.length_eq, List.length_cons]; omega
    have hlen2 : (Fs.put B (2 * m + 1) w[x]).length = B.length := put_len
    simp! [hp5, p0]
    refine wp_nx (k_put (n := n + 1) hb4.rl nd2 hc2 (by omega) hfl2) ?_
    rintro y s6 ⟨rfl, rfl⟩
    have htl2 := tail_lt hc2
    have hb5 := hb4.put (x := ib (rowOf (Fs.put B (2 * m + 1) w[x]) c) (2 * m) c) htl2
    refine hq _ _ ⟨w, w[x], hcy, hcw, hxw, hb5⟩ (by rw [List.length_set]; omega) ?_
    rw [List.getElem?_set_ne (Ne.symm (hp2 _ (by omega)))]; exact hp5
theorem cell_ref {b q : Nat} {L : List D} (h : b <= q) : cellCl b (.lst (L ++ [.ref q])) = false := by
  show D.clss b (L ++ [.ref q]) = false
  induction L with
  | nil =>
    have : decide (q < b) = false := decide_eq_false (by omega)
    simp [D.clss, D.cls, this]
  | cons a L ih => rw [List.cons_append]; simp only [D.clss, ih, Bool.and_false]
theorem leaf_go {n m o l pr c : Nat} {p : Nat -> Nat} {B : List (List Nat)} {st s : Sto} {N : Int} {x4 : Option D} {QF : Fl -> Sto -> Prop} (h : Bs st s l o p B N) (hB : Bld B m) (hm : m <= 30) (hb : B.length <= 59) (hc : c < 2 * m)
    (hp : s[pr]? = some (.lst (nv [2 * m, 2 * m + 1]))) (hp2 : ∀ i, i < B.length -> pr ≠ p i)
    (hq : ∀ (s' : Sto), Bs st s' l o p (put B (2 * m) c) N -> s.length <= s'.length -> s'[pr]? = some (.lst (nv [2 * m, 2 * m + 1])) -> QF (.nx [some (.ref l), some (.ref o), some (.ref pr), some (.bl true), x4, some (.int (c : Nat)), none]) s') :
    wp (exL (P.tbl (n + 2)) elE [some (.ref l), some (.ref o), some (.ref pr), some (.bl true), x4, some (.int (c : Nat)), none]) s QF NX := by
  have hD := hB.dr
  have hfl := hD.len
  unfold elE
  have p0 : L2.atI (nv [2 * m, 2 * m + 1]) 0 = some (.int ((2 * m : Nat) : Int)) := rfl
  simp! [truth, Bool.not_true, hp, p0]
  have hc2 := hD.mem.2 hc
  refine wp_nx (k_put (n := n + 1) h.rl hD.nd hc2 (by omega) (by omega)) ?_
  rintro y s6 ⟨rfl, rfl⟩
  have htl2 := tail_lt hc2
  have hb5 := h.put (x := ib (rowOf B c) (2 * m) c) htl2
  refine hq _ hb5 (by rw [List.length_set]; omega) ?_
  rw [List.getElem?_set_ne (Ne.symm (hp2 _ htl2))]; exact hp
theorem cut_one {a b : D} : cutD [a, b] none (some 1) = [a] := rfl
theorem k_addedge (n : Nat) {m o l : Nat} {p : Nat -> Nat} {B : List (List Nat)} {st s : Sto} {N : Int} {leaf : Bool} (h : Bs st s l o p B N) (hB : Bld B m) (hm : m <= 30) (hb : B.length <= 59) (hb0 : 0 < B.length) (hN : N + 20 <= 2 ^ 30) :
    wp (call P (n + 3) F.zq17 [.ref l, .ref o, .lst [.int ((2 * m : Nat) : Int), .int ((2 * m + 1 : Nat) : Int)], .bl leaf]) s (fun r s' => r = .non /\ ∃ p' B', Bs st s' l o p' B' (N + 3) /\ Bld B' (m + 1) /\ B'.length = B.length + (if leaf then 1 else 0)) NX := by
  have hsl := sl_ge
  have hD := hB.dr
  have hfl := hD.len
  have hll := h.sq.lt
  have hle := h.sq.le
  have hob := h.ob
  have hol := Rws.olt h.rl
  refine w_callX (F := c_zq17) rfl rfl ?_
  have hpur : D.purs (nv [2 * m, 2 * m + 1]) = true := nv_purs
  have e : lands [.ref l, .ref o, .lst [.int ((2 * m : Nat) : Int), .int ((2 * m + 1 : Nat) : Int)], .bl leaf] s = ([.ref l, .ref o, .ref s.length, .bl leaf], s ++ [.lst (nv [2 * m, 2 * m + 1])]) := by
    have e1 : ([.int ((2 * m : Nat) : Int), .int ((2 * m + 1 : Nat) : Int)] : List D) = nv [2 * m, 2 * m + 1] := rfl
    rw [e1]
    simp only [lands, la_ref, la_lst hpur]
    rfl
  rw [e]
  have hrep : List.replicate (c_zq17.ns - c_zq17.np) (none : Option D) = [none, none, none] := rfl
  rw [ae_body, hrep]
  have h1 := h.app (r := [.lst (nv [2 * m, 2 * m + 1])])
  have hp1 : (s ++ [.lst (nv [2 * m, 2 * m + 1])] : Sto)[s.length]? = some (.lst (nv [2 * m, 2 * m + 1])) := sg0
  have hl1 : (s ++ [.lst (nv [2 * m, 2 * m + 1])] : Sto).length = s.length + 1 := by simp
  have fin : ∀ (B2 : List (List Nat)) (s2 : Sto) (x4 x5 x6 : Option D), Bs st s2 l o p B2 (N + 3) -> B2.length = B.length -> s.length + 1 <= s2.length -> s2[s.length]? = some (.lst (nv [2 * m, 2 * m + 1])) ->
      (leaf = false -> Bld B2 (m + 1)) -> (leaf = true -> Bld (B2 ++ [[2 * m + 1]]) (m + 1)) ->
      wp (exL (P.tbl (n + 2)) tlE [some (.ref l), some (.ref o), some (.ref s.length), some (.bl leaf), x4, x5, x6]) s2
        (lvX s (fun r s' => r = .non /\ ∃ p' B', Bs st s' l o p' B' (N + 3) /\ Bld B' (m + 1) /\ B'.length = B.length + (if leaf then 1 else 0))) NX := by
    intro B2 s2 x4 x5 x6 hb2 hbl hs2 hp2 hf ht
    have htop := Rws.top hb2.rl
    unfold tlE
    cases leaf with
    | false =>
      simp! [truth, lvX_nx]
      refine ⟨fun _ => ⟨p, B2, hb2.cut (by omega) hle hol fun i hi => Rws.lt h.rl (by omega), hf rfl, by simp [hbl]⟩, fun _ => ⟨p, B2, hb2, hf rfl, by simp [hbl]⟩⟩
    | true =>
      have p1 : L2.atI (nv [2 * m, 2 * m + 1]) 1 = some (.int ((2 * m + 1 : Nat) : Int)) := rfl
      have la1 : land (.lst [.int ((2 * m + 1 : Nat) : Int)]) s2 = (.ref s2.length, s2 ++ [.lst (nv [2 * m + 1])]) := la_lst (xs := [.int ((2 * m + 1 : Nat) : Int)]) rfl
      simp! [truth, hp2, p1, htop, la1, rg_len, lvX_nx]
      have hpush := hb2.push (x := [2 * m + 1])
      have hd : okPre s ((s2 ++ [D.lst (nv [2 * m + 1])]).set o (D.lst ((rg B2.length fun i => D.ref (p i)) ++ [D.ref s2.length]))) s.length = true -> False := by
        intro z
        obtain ⟨c', e1, e2⟩ := okP_at z (Rws.top h.rl)
        rw [List.getElem?_set_self (by simp; omega)] at e1
        cases e1
        rcases e2 with e2 | e2
        · have := congrArg (fun d : D => match d with | .lst xs => xs.length | _ => 0) e2
          simp only [List.length_append, rg_len, List.length_singleton] at this
          omega
        · rw [cell_ref (by omega)] at e2; cases e2
      refine ⟨by omega, by omega, fun z => (hd z).elim, fun _ => ⟨_, _, hpush, ht rfl, by simp [hbl]⟩⟩
  have ht := Rws.top h1.rl
  simp! [ht, rg_len]
  refine wp_nx (k_next (n := n + 1) (m := ((B.length : Nat) : Int)) (by omega) (by omega) (by omega) h1.sq.sr) ?_
  rintro y s2 ⟨⟨x, rfl, hx0, hx1⟩, hu⟩
  have h2 := h1.up hu
  have hp2 : s2[s.length]? = some (.lst (nv [2 * m, 2 * m + 1])) := by
    obtain ⟨a, b, c, rfl, _, _⟩ := hu
    rw [List.getElem?_set_ne (by omega)]; exact hp1
  have hl2 : s2.length = s.length + 1 := by
    obtain ⟨a, b, c, rfl, _, _⟩ := hu
    rw [List.length_set]; exact hl1
  clear hu hp1 ht
  generalize hs1 : (s ++ [.lst (nv [2 * m, 2 * m + 1])] : Sto) = s1 at *
  obtain ⟨x, rfl⟩ : ∃ k : Nat, x = (k : Int) := ⟨x.toNat, by omega⟩
  have hx : x < B.length := by omega
  have t1 : L2.atI (rg B.length fun i => D.ref (p i)) (x : Int) = some (.ref (p x)) := rg_at hx
  have ht := Rws.top h2.rl
  have hr := Rws.row h2.rl x hx
  have hprp : ∀ i, i < B.length -> s.length ≠ p i := fun i hi => by have := Rws.lt h.rl hi; omega
  simp! [ht, t1, eq_nil hr, truth]
  refine ⟨by omega, wb_of ?_ ?_⟩
  · intro hem
    have hre : B.getD x [] = [] := by simpa using hem
    have hxB : B[x]? = some [] := by
      rw [List.getD_eq_getElem?_getD, List.getElem?_eq_getElem hx] at hre
      rw [List.getElem?_eq_getElem hx]
      simpa using hre
    rw [hre] at hr
    have hrow0 : s2[p x]? = some (.lst []) := hr
    simp! [kn_lst hr, q44, me_extend]
    cases leaf with
    | true =>
      have hcut : cutD (nv [2 * m, 2 * m + 1]) none (some 1) = nv [2 * m] := cut_one
      simp! [sl_ref, hp2, hcut]
      rw [m_extend hrow0 (ys := nv [2 * m]) lstv_lst, lands_pur nv_purs]
      refine ⟨by rw [hrow0]; rfl, by rw [nv_len]; simp; omega, ?_⟩
      have hb3 := h2.put (x := [2 * m]) hx
      rw [List.nil_append]
      refine fin _ _ _ _ _ (hb3.mono (by omega)) (by rw [List.length_set]) (by rw [List.length_set]; show s.length + 1 <= s2.length; omega) ?_ (fun z => by cases z) (fun _ => Bld.leaf0 hB hxB)
      rw [List.getElem?_set_ne (Ne.symm (hprp x hx))]; exact hp2
    | false =>
      simp! [hp2]
      have hlv : lstv s2 (.ref s.length) = some (nv [2 * m, 2 * m + 1]) := by simp only [lstv, hp2]
      rw [m_extend hrow0 hlv, lands_pur nv_purs]
      refine ⟨by rw [hrow0]; rfl, by rw [nv_len]; simp; omega, ?_⟩
      have hb3 := h2.put (x := [2 * m, 2 * m + 1]) hx
      rw [List.nil_append]
      refine fin _ _ _ _ _ (hb3.mono (by omega)) (by rw [List.length_set]) (by rw [List.length_set]; show s.length + 1 <= s2.length; omega) ?_ (fun _ => Bld.loop0 hB hxB) (fun z => by cases z)
      rw [List.getElem?_set_ne (Ne.symm (hprp x hx))]; exact hp2
  · intro hem
    have hre : B.getD x [] ≠ [] := by
      intro z; rw [z] at hem; cases hem
    have hrl : 0 < (B.getD x []).length := List.length_pos_iff.2 hre
    simp! [hr, nv_len]
    have hBx := at_split hx
    have hrlen : (B.getD x []).length <= 2 * m := by
      have q := congrArg (fun L : List (List Nat) => L.flatten.length) hBx
      simp only [List.flatten_append, List.flatten_cons, List.length_append] at q
      omega
    refine wp_nx (k_next (n := n + 1) (m := (((B.getD x []).length : Nat) : Int)) (by omega) (by omega) (by omega) h2.sq.sr) ?_
    rintro y s3 ⟨⟨y, rfl, hy0, hy1⟩, hu⟩
    have h3 := h2.up hu
    have hp3 : s3[s.length]? = some (.lst (nv [2 * m, 2 * m + 1])) := by
      obtain ⟨a, b, c, rfl, _, _⟩ := hu
      rw [List.getElem?_set_ne (by omega)]; exact hp2
    have hl3 : s3.length = s.length + 1 := by
      obtain ⟨a, b, c, rfl, _, _⟩ := hu
      rw [List.length_set]; exact hl2
    clear hu
    obtain ⟨y, rfl⟩ : ∃ k : Nat, y = (k : Int) := ⟨y.toNat, by omega⟩
    have hy : y < (B.getD x []).length := by omega
    have hr3 := Rws.row h3.rl x hx
    have g1 : L2.atI (nv (B.getD x [])) (y : Int) = some (.int (((B.getD x [])[y] : Nat) : Int)) := by
      rw [atI_nat, nv_get, List.getElem?_eq_getElem hy]; rfl
    have hcm : (B.getD x [])[y] < 2 * m := by
      have hmB : B.getD x [] ∈ B := by
        rw [List.getD_eq_getElem?_getD, List.getElem?_eq_getElem hx]
        exact List.getElem_mem _
      exact hD.mem.1 (List.mem_flatten.2 ⟨_, hmB, List.getElem_mem _⟩)
    generalize (B.getD x [])[y] = c at *
    simp! [hr3, g1]
    cases leaf with
    | true =>
      refine leaf_go h3 hB hm hb hcm hp3 hprp ?_
      intro s4 hb4 hl4 hp4
      simp! []
      exact fin _ _ _ _ _ (hb4.mono (by omega)) put_len (by omega) hp4 (fun z => by cases z) (fun _ => Bld.leaf hB hcm)
    | false =>
      refine edge_go h3 hB hm hb hcm (by omega) hp3 hle (by omega) hprp ?_
      rintro s4 x6 ⟨w, z, hcy, hcw, hzw, hb4⟩ hl4 hp4
      simp! []
      exact fin _ _ _ _ _ (hb4.mono (by omega)) (by rw [put_len, put_len]) (by omega) hp4 (fun _ => Bld.edge hB hcm hcy hcw hzw) (fun z => by cases z)
end Fs
namespace Fs
open PySem Cy
def pl (g : List (List Nat)) : List PyData := g.map fun r => PyData.list (pn r)
theorem pl_lay : ∀ L : List (List Nat), PyData.canLayAll0 (pl L) = true
  | [] => by simp [pl, PyData.canLayAll0]
  | a :: L => by
    have := pl_lay L
    simp only [pl] at this
    simp [pl, PyData.canLayAll0, PyData.canLay0, this, pn_lay]
theorem pl_depth : ∀ L : List (List Nat), PyData.depthAll (pl L) <= 2
  | [] => by simp [pl, PyData.depthAll]
  | a :: L => by
    have h1 := pl_depth L
    have h2 := pn_depth a
    simp only [pl, List.map_cons, PyData.depthAll, PyData.depth] at h1 ⊢
    omega
def rfs (p : Nat -> Nat) (R : List Nat) : List D := R.map fun i => D.ref (p i)
theorem rfs_len {p : Nat -> Nat} {R : List Nat} : (rfs p R).length = R.length := by simp [rfs]
theorem rfs_purs {p : Nat -> Nat} {R : List Nat} : D.purs (rfs p R) = true := by
  unfold rfs
  induction R with
  | nil => rfl
  | cons a R ih => rw [List.map_cons]; simp only [D.purs, D.pur, ih, Bool.and_self]
theorem rfs_app {p : Nat -> Nat} {R S : List Nat} : rfs p (R ++ S) = rfs p R ++ rfs p S := by simp [rfs]
theorem rfs_get {p : Nat -> Nat} {R : List Nat} {i : Nat} : (rfs p R)[i]? = R[i]?.map fun i => D.ref (p i) := by simp [rfs]
theorem rfs_erase {p : Nat -> Nat} {R : List Nat} {i : Nat} : (rfs p R).eraseIdx i = rfs p (R.eraseIdx i) := by
  unfold rfs
  induction R generalizing i with
  | nil => rfl
  | cons a R ih =>
    cases i with
    | zero => rfl
    | succ i => simp only [List.map_cons, List.eraseIdx_cons_succ, ih]
theorem toP_rfs {s : Sto} {p : Nat -> Nat} {row : Nat -> List Nat} : ∀ {R : List Nat}, (∀ i, i ∈ R -> s[p i]? = some (.lst (nv (row i)))) -> optL (toP false s 65) (rfs p R) = some (pl (R.map row))
  | [], _ => rfl
  | a :: R, h => by
    have h1 := toP_rfs (R := R) fun i hi => h i (List.mem_cons_of_mem _ hi)
    have h2 : toP false s 65 (.ref (p a)) = some (.list (pn (row a))) := by rw [toP_ref (h a (List.mem_cons_self ..)), toP_nv]; rfl
    unfold rfs at h1 ⊢
    rw [List.map_cons]
    simp only [optL, h2, h1]
    rfl
theorem eq_nilR {s : Sto} {l : Nat} {p : Nat -> Nat} {row : Nat -> List Nat} {R : List Nat} (h : s[l]? = some (.lst (rfs p R))) (hr : ∀ i, i ∈ R -> s[p i]? = some (.lst (nv (row i)))) : eqD s (.ref l) (.lst []) = some R.isEmpty := by
  have h1 : toP false s 66 (.ref l) = some (.list (pl (R.map row))) := by rw [toP_ref h, toP_rfs hr]; rfl
  have h0 : toP false s 66 (.lst []) = some (.list []) := rfl
  have h2 : SeqAt.shaped (.list (pl (R.map row))) = true := by
    have h := pl_depth (R.map row)
    have hd : PyData.depth (.list (pl (R.map row))) <= 64 := by simp only [PyData.depth]; omega
    simp [SeqAt.shaped, PyData.canLay0, pl_lay, hd]
  have h3 : SeqAt.shaped (.list []) = true := by decide
  simp only [eqD, h1, h0]
  rw [if_pos ⟨h2, h3⟩]
  cases R with
  | nil => simp [pl, PyData.eqv, PyData.eqvAll]
  | cons a W => simp [pl, PyData.eqv, PyData.eqvAll]
theorem rbs_low {g : Nat -> List Nat -> Option (D × List Nat)} {b : Nat} {p : Nat -> Nat} : ∀ {R : List Nat} {vis : List Nat}, (∀ i, i ∈ R -> p i < b) -> rbDs g b (rfs p R) vis = some (rfs p R, vis)
  | [], vis, _ => by simp [rfs, rbDs]
  | a :: R, vis, h => by
    have h1 := rbs_low (g := g) (R := R) (vis := vis) fun i hi => h i (List.mem_cons_of_mem _ hi)
    have h2 : decide (p a < b) = true := decide_eq_true (h a (List.mem_cons_self ..))
    unfold rfs at h1 ⊢
    rw [List.map_cons]
    simp only [rbDs, rbD, h2, h1, Option.bind_some, Option.map_some]
theorem rk_low {s : Sto} {b q : Nat} {p : Nat -> Nat} {R : List Nat} (hq : s[q]? = some (.lst (rfs p R))) (hb : b <= q) (h : ∀ i, i ∈ R -> p i < b) : rback s b (.ref q) = some (.lst (rfs p R)) := by
  have h0 : ([] : List Nat).contains q = false := rfl
  unfold rback
  rw [rbD_ref hb, rbC_lst h0 hq, rbs_low h]
  rfl
theorem k_mixedR (n : Nat) {st : Sto} {l o : Nat} {N : Int} {L : List Nat} {p : Nat -> Nat} {row : Nat -> List Nat} (hN : N + L.length <= 2 ^ 30) (hL : L.length < 1000) (h : Sr st l N) (ho : st[o]? = some (.lst (rfs p L))) (hr : ∀ i, i ∈ L -> st[p i]? = some (.lst (nv (row i))) /\ p i ≠ l) :
    wp (call P (n + 2) F.zq14 [.ref l, .ref o]) st (fun r s' => (∃ L', r = .lst (rfs p L') /\ L'.Perm L) /\ Up st s' l (N + L.length)) NX := by
  refine w_call (F := c_zq14) rfl rfl ?_
  have e : lands [.ref l, .ref o] st = ([.ref l, .ref o], st) := lands_pur rfl
  rw [e]
  have hsl := sl_ge
  have hll := h.lt
  unfold c_zq14
  have hd : seqv st (.ref o) = some (rfs p L) := by simp only [seqv, ho]
  simp! [hd, la_lst rfs_purs, la_lst0]
  refine ⟨by omega, by omega, ?_⟩
  have e0 : (D.lst [] : D) = .lst (rfs p []) := rfl
  rw [e0]
  refine w_wh (fun k σ s => ∃ (R F : List Nat) (st2 : Sto), σ = [some (.ref l), some (.ref o), some (.ref st.length), some (.ref (st.length + 1))] /\ s = st2 ++ [.lst (rfs p R), .lst (rfs p F)] /\ Up st st2 l (N + F.length) /\ (F ++ R).Perm L /\ k = R.length) ?_ wfuel L.length _ _ ?_ (by rw [show wfuel = 1000000 from rfl]; omega)
  · rintro k σ s ⟨R, F, st2, rfl, rfl, hu, hp, rfl⟩
    have hlen := hu.len
    have hpl : F.length + R.length = L.length := by have := hp.length_eq; simpa using this
    have hrow : ∀ i, i ∈ R -> (st2 ++ [D.lst (rfs p R), D.lst (rfs p F)] : Sto)[p i]? = some (.lst (nv (row i))) := fun i hi => by
      obtain ⟨h1, h2⟩ := hr i (hp.mem_iff.1 (List.mem_append_right _ hi))
      obtain ⟨a, b, c, rfl, _, _⟩ := hu
      refine sgl ?_
      rw [List.getElem?_set_ne (Ne.symm h2)]; exact h1
    have hlow : ∀ i, i ∈ F -> p i < st.length := fun i hi => by
      obtain ⟨h1, _⟩ := hr i (hp.mem_iff.1 (List.mem_append_left _ hi))
      exact (List.getElem?_eq_some_iff.1 h1).1
    rw [<- hlen]
    simp! []
    refine ⟨by omega, ?_⟩
    rw [eq_nilR (R := R) sg0 hrow]
    simp! [Option.map_some, truth]
    cases R with
    | nil =>
      simp! [List.isEmpty_nil]
      obtain ⟨a, b, c, rfl, h1, h2⟩ := hu
      rw [List.length_set] at *
      refine ⟨okP_set rfl, ?_⟩
      have hg : (st.set l (src a b c) ++ [D.lst (rfs p []), D.lst (rfs p F)])[st.length + 1]? = some (.lst (rfs p F)) := by
        have := sg1 (st := st.set l (src a b c)) (c := D.lst (rfs p [])) (d := D.lst (rfs p F)) (r := [])
        rwa [List.length_set] at this
      rw [rk_low hg (by omega) hlow, take_set]
      refine ⟨⟨F, rfl, by simpa using hp⟩, a, b, c, rfl, h1, ?_⟩
      simp at hpl
      omega
    | cons r0 R0 =>
      have hsr : Sr (st2 ++ [D.lst (rfs p (r0 :: R0)), D.lst (rfs p F)]) l (N + F.length) := by
        obtain ⟨a, b, c, h0, h1, h2⟩ := hu.sr hll
        exact ⟨a, b, c, sgl h0, h1, h2⟩
      have hne : (r0 :: R0).isEmpty = false := rfl
      rw [hne]
      simp! [rfs_len]
      rw [List.length_cons] at hpl
      refine ⟨by omega, rfl, ?_⟩
      refine wp_nx (k_next (n := n) (m := ((R0.length + 1 : Nat) : Int)) (by omega) (by omega) (by omega) hsr) ?_
      rintro y s3 ⟨⟨x, rfl, hx0, hx1⟩, a, b, c, rfl, hb0, hb1⟩
      have hst2 : ∃ c', st2[l]? = some c' := ⟨_, List.getElem?_eq_getElem (by omega)⟩
      obtain ⟨c', hc'⟩ := hst2
      rw [ssl hc']
      have hlen3 : (st2.set l (src a b c)).length = st2.length := by simp
      rw [<- hlen3]
      have hk : ((4 : Nat) == 5) = false := rfl
      simp! [hk, rfs_len]
      refine ⟨by omega, ?_⟩
      rw [seqIdx hx0 hx1]
      simp! [rfs_get]
      have hxl : x.toNat < (r0 :: R0).length := by rw [List.length_cons]; omega
      rw [List.getElem?_eq_getElem hxl]
      simp! [Option.map_some, rfs_erase, rfs_len]
      have e1 : rfs p F ++ [D.ref (p (r0 :: R0)[x.toNat])] = rfs p (F ++ [(r0 :: R0)[x.toNat]]) := by rw [rfs_app]; rfl
      rw [e1]
      refine ⟨by omega, ((r0 :: R0).eraseIdx x.toNat).length, ?_, (r0 :: R0).eraseIdx x.toNat, F ++ [(r0 :: R0)[x.toNat]], st2.set l (src a b c), rfl, ?_, ?_, rfl⟩
      · rw [List.length_eraseIdx_of_lt hxl]; simp
      · refine hu.trans ⟨a, b, c, rfl, hb0, ?_⟩
        simp; omega
      · have h1 := erase_perm (List.getElem?_eq_getElem hxl)
        rw [List.append_assoc]
        exact (List.Perm.append_left F h1.symm).trans hp
  · refine ⟨L, [], st, rfl, rfl, ?_, by simp, rfl⟩
    simpa using h.up
end Fs
namespace Fs
open PySem Cy
structure Dl (δ : Nat -> Nat) (m : Nat) : Prop where
  lt : ∀ d, d < 2 * m -> δ d < 2 * m
  inj : ∀ d e, d < 2 * m -> e < 2 * m -> δ d = δ e -> d = e
  op : ∀ d, d < 2 * m -> δ (opp d) = opp (δ d)
def shf (r : List Nat) (k : Nat) : List Nat := r.drop k ++ r.take k
def Ren (B : List (List Nat)) (m : Nat) (g : List (List Nat)) : Prop :=
  ∃ (δ : Nat -> Nat) (R : List Nat) (k : Nat -> Nat), Dl δ m /\ R.Perm (List.range B.length) /\ g = R.map fun i => (shf (B.getD i []) (k i)).map δ
theorem cut_from {r : List Nat} {k : Nat} (hk : k <= r.length) : cutD (nv r) (some (k : Int)) none = nv (r.drop k) := by
  unfold cutD
  rw [HT.sIx_nat, nv_len, Nat.min_eq_left hk]
  have e : HT.sIx r.length r.length none = r.length := rfl
  rw [e, List.take_of_length_le (by rw [List.length_drop, nv_len]; omega)]
  simp [nv]
theorem cut_to {r : List Nat} {k : Nat} (hk : k <= r.length) : cutD (nv r) none (some (k : Int)) = nv (r.take k) := by
  unfold cutD
  rw [HT.sIx_nat, nv_len, Nat.min_eq_left hk]
  have e : HT.sIx r.length 0 none = 0 := rfl
  rw [e]
  simp [nv]
theorem Sq.get {st s : Sto} {l : Nat} {N : Int} (h : Sq st s l N) {i : Nat} {c : D} (hc : st[i]? = some c) (hi : i ≠ l) : s[i]? = some c := by
  obtain ⟨a, b, e, h5, _, _⟩ := h.up
  have hi2 : i < st.length := (List.getElem?_eq_some_iff.1 hc).1
  have h6 : s[i]? = (st.set l (src a b e))[i]? := by rw [<- h5, List.getElem?_take, if_pos hi2]
  rw [h6, List.getElem?_set_ne (Ne.symm hi)]
  exact hc
theorem kd_cg {f g : Nat -> D} {L : List Nat} (h : ∀ d, d ∈ L -> f d = g d) : kd f L = kd g L := by
  unfold kd
  exact List.map_congr_left fun d hd => by rw [h d hd]
def Dk (O : List Nat) (δ : Nat -> Nat) (k : Nat) : Prop := ∀ j, j < k -> ∃ a t, O[j]? = some a /\ t < 2 /\ δ (2 * j) = 2 * a + t /\ δ (2 * j + 1) = 2 * a + 1 - t
def dN (δ : Nat -> Nat) (d : Nat) : D := .int ((δ d : Nat) : Int)
theorem la_dN {δ : Nat -> Nat} {d : Nat} {s : Sto} : land (dN δ d) s = (dN δ d, s) := la_int
theorem lg2n {x : Nat} (hx : x < 1000) : (Int.natAbs 2).log2 + (Int.natAbs (x : Int)).log2 < 1000000 := by
  have h1 : (Int.natAbs (x : Int)).log2 < 500000 := log_lt (k := 10) (by omega) (by decide)
  have h2 : (Int.natAbs 2).log2 = 1 := by decide
  omega
theorem dk_step {O : List Nat} {δ : Nat -> Nat} {k a t : Nat} (h : Dk O δ k) (ha : O[k]? = some a) (ht : t < 2) :
    Dk O (fun d => if d = 2 * k then 2 * a + t else if d = 2 * k + 1 then 2 * a + 1 - t else δ d) (k + 1) := by
  intro j hj
  by_cases e : j = k
  · subst e
    refine ⟨a, t, ha, ht, by simp, ?_⟩
    show (if 2 * j + 1 = 2 * j then _ else if 2 * j + 1 = 2 * j + 1 then _ else _) = _
    rw [if_neg (by omega), if_pos rfl]
  · obtain ⟨b, u, h1, h2, h3, h4⟩ := h j (by omega)
    refine ⟨b, u, h1, h2, ?_, ?_⟩
    · show (if 2 * j = 2 * k then _ else if 2 * j = 2 * k + 1 then _ else _) = _
      rw [if_neg (by omega), if_neg (by omega), h3]
    · show (if 2 * j + 1 = 2 * k then _ else if 2 * j + 1 = 2 * k + 1 then _ else _) = _
      rw [if_neg (by omega), if_neg (by omega), h4]
theorem range2s {k : Nat} : List.range (2 * (k + 1)) = List.range (2 * k) ++ [2 * k] ++ [2 * k + 1] := by rw [range2]; simp
theorem dk_dl {O : List Nat} {δ : Nat -> Nat} {m : Nat} (hO : O.Perm (List.range m)) (h : Dk O δ m) : Dl δ m := by
  have hl : O.length = m := by rw [hO.length_eq, List.length_range]
  have nd : O.Nodup := hO.nodup_iff.2 List.nodup_range
  have key : ∀ d, d < 2 * m -> ∃ j a t s, d = 2 * j + s /\ s < 2 /\ j < m /\ O[j]? = some a /\ t < 2 /\ a < m /\ δ d = 2 * a + (if s = 0 then t else 1 - t) /\ δ (opp d) = 2 * a + (if s = 0 then 1 - t else t) := by
    intro d hd
    obtain ⟨a, t, h1, h2, h3, h4⟩ := h (d / 2) (by omega)
    have ha : a < m := List.mem_range.1 (hO.mem_iff.1 (List.mem_of_getElem? h1))
    refine ⟨d / 2, a, t, d % 2, by omega, by omega, by omega, h1, h2, ha, ?_, ?_⟩
    · by_cases e : d % 2 = 0
      · have e2 : d = 2 * (d / 2) := by omega
        rw [if_pos e, <- h3, <- e2]
      · have e2 : d = 2 * (d / 2) + 1 := by omega
        rw [if_neg e]
        conv => lhs; rw [e2]
        rw [h4]; omega
    · unfold opp
      by_cases e : d % 2 = 0
      · have e2 : d + 1 = 2 * (d / 2) + 1 := by omega
        rw [if_pos e, if_pos e, e2, h4]; omega
      · have e2 : d - 1 = 2 * (d / 2) := by omega
        rw [if_neg e, if_neg e, e2, h3]
  refine ⟨fun d hd => ?_, fun d e hd he hde => ?_, fun d hd => ?_⟩
  · obtain ⟨j, a, t, s, _, hs, _, _, ht, ha, e1, _⟩ := key d hd
    rw [e1]; split <;> omega
  · obtain ⟨j, a, t, s, hds, hs, _, ho, ht, ha, e1, _⟩ := key d hd
    obtain ⟨j', a', t', s', hds', hs', _, ho', ht', ha', e1', _⟩ := key e he
    rw [e1, e1'] at hde
    have haa : a = a' := by
      revert hde; split <;> split <;> intro hde <;> omega
    subst haa
    have hjj : j = j' := (List.getElem?_inj (by omega) nd).1 (ho.trans ho'.symm)
    subst hjj
    rw [ho] at ho'
    obtain ⟨b, u, q1, q2, q3, q4⟩ := h j (by omega)
    have hd2 : δ d = δ e := by rw [e1, e1']; exact hde
    have hs2 : s = 0 ∨ s = 1 := by omega
    have hs3 : s' = 0 ∨ s' = 1 := by omega
    rcases hs2 with rfl | rfl <;> rcases hs3 with rfl | rfl <;> (try simp only [Nat.add_zero] at hds) <;> (try simp only [Nat.add_zero] at hds')
    · omega
    · rw [hds, hds', q3, q4] at hd2; omega
    · rw [hds, hds', q4, q3] at hd2; omega
    · omega
  · obtain ⟨j, a, t, s, _, hs, _, _, ht, ha, e1, e2⟩ := key d hd
    rw [e1, e2]
    unfold opp
    split <;> split <;> omega
theorem k_renum (n : Nat) {m o l : Nat} {p : Nat -> Nat} {B : List (List Nat)} {st : Sto} {N : Int} (hS : Sr st l N) (hR : RL st o p B) (hB : Dr B m) (hm : m <= 60) (hb : B.length <= 60) (hlo : l ≠ o) (hlp : ∀ i, i < B.length -> l ≠ p i) (hN : N + 1000 <= 2 ^ 30) :
    wp (call P (n + 3) F.zq18 [.ref l, .ref o, .int (m : Nat)]) st (fun r s' => (∃ g, r = .tup (tv g) /\ Ren B m g) /\ Up st s' l (N + 300)) NX := by
  have hsl := sl_ge
  have hll := hS.lt
  generalize hd : D.int ((m : Nat) : Int) = d
  refine w_call (F := c_zq18) rfl rfl ?_
  subst hd
  have e : lands [.ref l, .ref o, .int (m : Nat)] st = ([.ref l, .ref o, .int (m : Nat)], st) := lands_pur rfl
  rw [e]
  unfold c_zq18
  simp! []
  rw [Int.toNat_natCast, rngN_nv]
  refine ⟨rgOk_nat (by omega), ?_⟩
  refine wp_nx (k_mixedL (n := n) (by simp; omega) (by simp; omega) hS) ?_
  rintro y s1 ⟨⟨O, rfl, hO⟩, hu1⟩
  rw [List.length_range] at hu1
  have hl1 := hu1.len
  have hQ1 := ((Sq.start hS).next hu1)
  have hOl : O.length = m := by rw [hO.length_eq, List.length_range]
  simp! [la_lst nv_purs]
  refine ⟨by omega, ?_⟩
  rw [hl1]
  refine w_forPEC (l := st.length) O (fun i => .int ((i : Nat) : Int)) (fun pre σ s => ∃ x5 x6 x7 δ, σ = [some (.ref l), some (.ref o), some (.int (m : Nat)), some (.ref st.length), some (.ref (st.length + 1)), x5, x6, x7, none, none, none, none] /\ s[st.length]? = some (.lst (nv O)) /\ s[st.length + 1]? = some (.dic (kd (dN δ) (List.range (2 * pre.length)))) /\ Dk O δ pre.length /\ Sq st s l (N + 60 + pre.length)) ?_ ?_ ?_ ?_
  · refine ⟨_, _, _, fun _ => 0, rfl, ?_, ?_, fun j hj => by simp at hj, hQ1.app.mono (by simp; omega)⟩
    · rw [<- hl1]; exact sg0
    · rw [<- hl1]; exact sg1
  · rintro pre σ s ⟨x5, x6, x7, δ, rfl, h1, _⟩
    exact h1
  · rintro pre c post σ s hL ⟨x5, x6, x7, δ, rfl, h1, h2, hD, hQ⟩
    have hpl : pre.length < m := by rw [<- hOl, hL]; simp
    have hc : O[pre.length]? = some c := by rw [hL]; simp
    have hcm : c < m := List.mem_range.1 (hO.mem_iff.1 (List.mem_of_getElem? hc))
    have hsl2 : st.length <= s.length := hQ.le
    simp! []
    refine wp_nx (k_next (n := n + 1) (m := 2) (by omega) (by omega) (by omega) hQ.sr) ?_
    rintro y s2 ⟨⟨t, rfl, ht0, ht1⟩, hu2⟩
    obtain ⟨t, rfl⟩ : ∃ k : Nat, t = (k : Int) := ⟨t.toNat, by omega⟩
    have hQ2 := hQ.next hu2
    have h12 : s2[st.length]? = some (.lst (nv O)) := by
      obtain ⟨a, b, e, rfl, _, _⟩ := hu2
      rw [List.getElem?_set_ne (by omega)]; exact h1
    have h22 : s2[st.length + 1]? = some (.dic (kd (dN δ) (List.range (2 * pre.length)))) := by
      obtain ⟨a, b, e, rfl, _, _⟩ := hu2
      rw [List.getElem?_set_ne (by omega)]; exact h2
    have hlt : st.length + 1 < s2.length := (List.getElem?_eq_some_iff.1 h22).1
    have hlg : ∀ x : Nat, x < 100 -> (Int.natAbs 2).log2 + (Int.natAbs (x : Int)).log2 < 1000000 := fun x hx => lg2n (by omega)
    have ek : (2 : Int) * (pre.length : Int) = ((2 * pre.length : Nat) : Int) := by omega
    have ek1 : (2 : Int) * (pre.length : Int) + 1 = ((2 * pre.length + 1 : Nat) : Int) := by omega
    simp! [h22, kd_key]
    rw [ek]
    have hn1 : 2 * pre.length ∉ List.range (2 * pre.length) := by simp
    have hn2 : 2 * pre.length + 1 ∉ List.range (2 * pre.length) ++ [2 * pre.length] := by simp
    have hD' := dk_step hD hc (t := t) (by omega)
    generalize hδ : (fun d => if d = 2 * pre.length then 2 * c + t else if d = 2 * pre.length + 1 then 2 * c + 1 - t else δ d) = δ' at hD'
    have d1 : δ' (2 * pre.length) = 2 * c + t := by rw [<- hδ]; simp
    have d2 : δ' (2 * pre.length + 1) = 2 * c + 1 - t := by
      rw [<- hδ]
      show (if 2 * pre.length + 1 = 2 * pre.length then _ else if 2 * pre.length + 1 = 2 * pre.length + 1 then _ else _) = _
      rw [if_neg (by omega), if_pos rfl]
    have e0 : kd (dN δ) (List.range (2 * pre.length)) = kd (dN δ') (List.range (2 * pre.length)) := kd_cg fun d hd => by
      have := List.mem_range.1 hd
      unfold dN
      rw [<- hδ]
      show D.int ((δ d : Nat) : Int) = D.int ((((if d = 2 * pre.length then _ else if d = 2 * pre.length + 1 then _ else _) : Nat)) : Int)
      rw [if_neg (by omega), if_neg (by omega)]
    have v1 : D.int (2 * (c : Int) + (t : Int)) = dN δ' (2 * pre.length) := by unfold dN; rw [d1]; congr 1
    have v2 : D.int (2 * (c : Int) + 1 - (t : Int)) = dN δ' (2 * pre.length + 1) := by unfold dN; rw [d2]; congr 1; omega
    have ek2 : (((2 * pre.length : Nat) : Int) + 1) = ((2 * pre.length + 1 : Nat) : Int) := by omega
    rw [ek2, v1, v2, e0, kd_put hn1]
    have hg : ∀ c : D, (s2.set (st.length + 1) c)[st.length + 1]? = some c := fun c => by simp [hlt]
    rw [hg]
    simp! [kd_key, la_dN]
    rw [kd_put hn2, List.set_set]
    refine ⟨hlg c (by omega), hlg c (by omega), by omega, hlg _ (by omega), ⟨kd_ok, by rw [kd_len]; simp; omega⟩, hlg _ (by omega), ⟨kd_ok, by rw [kd_len]; simp; omega⟩, _, _, _, δ', rfl, ?_, ?_, hD', (hQ2.set (by omega)).mono (by omega)⟩
    · rw [List.getElem?_set_ne (by omega)]; exact h12
    · rw [hg, range2s]
  · rintro σ s ⟨x5, x6, x7, δ, rfl, h1, h2, hD, hQ⟩
    rw [hOl] at hD h2 hQ
    have hdl := dk_dl hO hD
    have hsl2 : st.length <= s.length := hQ.le
    have hs2 : st.length + 1 < s.length := (List.getElem?_eq_some_iff.1 h2).1
    simp! []
    refine ⟨by omega, ?_⟩
    have hQ2 := hQ.app (r := [D.lst []])
    have hR2 : s[o]? = some (.lst (rfs p (List.range B.length))) := hQ.get hR.top (Ne.symm hlo)
    refine wp_nx (k_mixedR (n := n) (L := List.range B.length) (p := p) (row := fun i => B.getD i []) (by simp; omega) (by simp; omega) hQ2.sr (sgl hR2) ?_) ?_
    · intro i hi
      have hi := List.mem_range.1 hi
      exact ⟨sgl (hQ.get (hR.row i hi) (Ne.symm (hlp i hi))), Ne.symm (hlp i hi)⟩
    rintro y s3 ⟨⟨L, rfl, hL⟩, hu3⟩
    rw [List.length_range] at hu3
    have hQ3 := hQ2.next hu3
    have hLl : L.length = B.length := by rw [hL.length_eq, List.length_range]
    have h13 : s3[st.length + 1]? = some (.dic (kd (dN δ) (List.range (2 * m)))) := by
      obtain ⟨a, b, e, rfl, _, _⟩ := hu3
      rw [List.getElem?_set_ne (by omega)]; exact sgl h2
    have h83 : s3[s.length]? = some (.lst (tv [])) := by
      obtain ⟨a, b, e, rfl, _, _⟩ := hu3
      rw [List.getElem?_set_ne (by omega)]; exact sg0
    have hl3 : s3.length = s.length + 1 := by rw [hu3.len]; simp
    simp! [so_lst]
    refine w_forP L (fun i => .ref (p i)) (fun pre σ s' => ∃ (x9 x10 : Option D) (k : Nat -> Nat), σ = [some (.ref l), some (.ref o), some (.int (m : Nat)), some (.ref st.length), some (.ref (st.length + 1)), x5, x6, x7, some (.ref s.length), x9, x10, none] /\ s'[st.length + 1]? = some (.dic (kd (dN δ) (List.range (2 * m)))) /\ s'[s.length]? = some (.lst (tv (pre.map fun i => (shf (B.getD i []) (k i)).map δ))) /\ Sq st s' l (N + 60 + m + B.length + pre.length)) ?_ ?_ ?_
    · exact ⟨_, _, fun _ => 0, rfl, h13, h83, hQ3.mono (by simp)⟩
    · rintro pre i post σ s' hLs ⟨x9, x10, k, rfl, g1, g2, hQ4⟩
      have hiL : i ∈ L := by rw [hLs]; simp
      have hi : i < B.length := List.mem_range.1 (hL.mem_iff.1 hiL)
      have hni : i ∉ pre := by
        have nd := hL.nodup_iff.2 List.nodup_range
        rw [hLs] at nd
        intro hm
        exact (List.nodup_append.1 nd).2.2 i hm i (List.mem_cons_self ..) rfl
      have hpre : pre.length < B.length := by rw [<- hLl, hLs]; simp
      have hr4 := hQ4.get (hR.row i hi) (Ne.symm (hlp i hi))
      have hrl : (B.getD i []).length <= 2 * m := by
        have q := congrArg (fun L : List (List Nat) => L.flatten.length) (at_split hi)
        have := hB.len
        simp only [List.flatten_append, List.flatten_cons, List.length_append] at q
        omega
      have hrm : ∀ d, d ∈ B.getD i [] -> d < 2 * m := fun d hd => by
        refine hB.mem.1 (List.mem_flatten.2 ⟨_, ?_, hd⟩)
        rw [List.getD_eq_getElem?_getD, List.getElem?_eq_getElem hi]
        exact List.getElem_mem _
      generalize hrow : B.getD i [] = r at *
      simp! [hr4, nv_len]
      refine wp_nx (k_next (n := n + 1) (m := ((r.length : Nat) : Int) + 1) (by omega) (by omega) (by omega) hQ4.sr) ?_
      rintro y s5 ⟨⟨t, rfl, ht0, ht1⟩, hu5⟩
      obtain ⟨t, rfl⟩ : ∃ k : Nat, t = (k : Int) := ⟨t.toNat, by omega⟩
      have htl : t <= r.length := by omega
      have hQ5 := hQ4.next hu5
      have hr5 : s5[p i]? = some (.lst (nv r)) := by
        have := hlp i hi
        obtain ⟨a, b, e, rfl, _, _⟩ := hu5
        rw [List.getElem?_set_ne this]; exact hr4
      have g15 : s5[st.length + 1]? = some (.dic (kd (dN δ) (List.range (2 * m)))) := by
        obtain ⟨a, b, e, rfl, _, _⟩ := hu5
        rw [List.getElem?_set_ne (by omega)]; exact g1
      have g25 : s5[s.length]? = some (.lst (tv (pre.map fun i => (shf (B.getD i []) (k i)).map δ))) := by
        obtain ⟨a, b, e, rfl, _, _⟩ := hu5
        rw [List.getElem?_set_ne (by omega)]; exact g2
      have hl5 : s.length < s5.length := (List.getElem?_eq_some_iff.1 g25).1
      simp! [g25, sl_ref, hr5, cut_from htl, cut_to htl, b_addLL, so_lst, nv_len]
      refine ⟨by simp; omega, ?_⟩
      rw [<- nv_app]
      refine w_lcm (r.drop t ++ r.take t) (fun d => .int ((d : Nat) : Int)) (dN δ) (by simp; omega) ?_ ?_
      · intro d hd
        have hdr : d ∈ r := by
          rcases List.mem_append.1 hd with z | z
          · exact List.mem_of_mem_drop z
          · exact List.mem_of_mem_take z
        have hdm := hrm d hdr
        simp! [g15, if_pos (kd_okI (f := dN δ) (L := List.range (2 * m)) (d := ((d : Nat) : Int)))]
        rw [show (Ky.k (.inl (d : Int))) = ik d from rfl, kd_get, if_pos (List.mem_range.2 hdm)]
        simp! []
      · have e1 : (r.drop t ++ r.take t).map (dN δ) = nv ((shf r t).map δ) := by
          show List.map (fun d => D.int ((δ d : Nat) : Int)) _ = _
          simp [nv, shf, Function.comp_def]
        rw [e1]
        simp! [seqv_lst, g25, la_tup nv_purs, tv_len]
        refine ⟨by simp; omega, _, _, fun j => if j = i then t else k j, rfl, ?_, ?_, ?_⟩
        · rw [List.getElem?_set_ne (by omega)]; exact g15
        · rw [List.getElem?_set_self hl5]
          have e2 : pre.map (fun j => (shf (B.getD j []) (if j = i then t else k j)).map δ) = pre.map fun j => (shf (B.getD j []) (k j)).map δ := List.map_congr_left fun j hj => by
            have : ¬ j = i := fun q => hni (q ▸ hj)
            rw [if_neg this]
          have e3 : [i].map (fun j => (shf (B.getD j []) (if j = i then t else k j)).map δ) = [(shf r t).map δ] := by simp only [List.map_cons, List.map_nil, if_true, hrow]
          rw [List.map_append, e2, e3]
          simp [tv]
        · exact (hQ5.set (by omega)).mono (by simp; omega)
    · rintro σ s' ⟨x9, x10, k, rfl, g1, g2, hQ4⟩
      simp! [seqv_ref, g2, sqC_lst]
      refine ⟨hQ4.fin, ?_⟩
      rw [rk_clean gv_clean]
      exact ⟨⟨_, rfl, δ, L, k, hdl, hL, rfl⟩, hQ4.up.mono (by omega)⟩
end Fs
namespace Fs
open PySem Cy
theorem eqv_rows {s : Sto} {o : Nat} {p : Nat -> Nat} {B : List (List Nat)} (h : RL s o p B) : eqD s (.ref o) (.lst []) = some B.isEmpty := by
  have h1 := eq_nilR (s := s) (l := o) (p := p) (row := fun i => B.getD i []) (R := List.range B.length) h.top fun i hi => h.row i (List.mem_range.1 hi)
  rw [h1]
  cases B <;> simp
theorem k_graph (n : Nat) {l a b : Nat} {st : Sto} {N : Int} (hS : Sr st l N) (ha0 : 0 < a) (ha : a <= 12) (hb : b <= 20) (hN : N + 2000 <= 2 ^ 30) :
    wp (call P (n + 4) F.zq19 [.ref l, .int (a : Nat), .int (b : Nat)]) st (fun r s' => (∃ B m g, r = .tup (tv g) /\ Bld B m /\ Ren B m g /\ B.length <= a /\ m <= b) /\ Up st s' l (N + 1000)) NX := by
  have hsl := sl_ge
  have hll := hS.lt
  generalize hd : D.int ((a : Nat) : Int) = d
  generalize hd2 : D.int ((b : Nat) : Int) = d2
  refine w_call (F := c_zq19) rfl rfl ?_
  subst hd hd2
  have e : lands [.ref l, .int (a : Nat), .int (b : Nat)] st = ([.ref l, .int (a : Nat), .int (b : Nat)], st) := lands_pur rfl
  rw [e]
  unfold c_zq19
  simp! []
  refine ⟨by omega, by omega, ?_⟩
  refine wp_nx (k_next (n := n + 2) (m := (a : Int) + (b : Int) + 1) (by omega) (by omega) (by omega) hS.app) ?_
  rintro y s1 ⟨⟨T, rfl, hT0, hT1⟩, hu1⟩
  obtain ⟨T, rfl⟩ : ∃ k : Nat, T = (k : Int) := ⟨T.toNat, by omega⟩
  have hB0 : Bs st s1 l st.length (fun _ => 0) [] (N + 1) := by
    have h0 : Bs st (st ++ [D.lst []]) l st.length (fun _ => 0) [] N := ⟨(Sq.start hS).app, ⟨sg0, fun i hi => absurd hi (Nat.not_lt_zero i), fun i j hi => absurd hi (Nat.not_lt_zero i), fun i hi => absurd hi (Nat.not_lt_zero i)⟩, Nat.le_refl _, fun i hi => absurd hi (Nat.not_lt_zero i)⟩
    exact h0.up hu1
  rw [rngL1 (show T <= 2 ^ 20 by omega)]
  simp! []
  refine w_forP (List.range T) _ (fun pre σ s => ∃ (x5 x6 : Option D) (p : Nat -> Nat) (B : List (List Nat)) (m : Nat), σ = [some (.ref l), some (.int (a : Nat)), some (.int (b : Nat)), some (.ref st.length), some (.int (m : Nat)), x5, x6] /\ Bs st s l st.length p B (N + 1 + 5 * pre.length) /\ Bld B m /\ B.length <= a /\ m <= b) ⟨_, _, _, [], 0, rfl, hB0.mono (by simp), .nil, by simp, by omega⟩ ?_ ?_
  · rintro pre k post σ s hr ⟨x5, x6, p, B, m, rfl, hB, hb1, hb2, hb3⟩
    obtain ⟨_, hk, hpl⟩ := range_split hr
    have hkT : k < T := by omega
    rw [hpl] at hB
    simp! []
    refine wp_nx (k_next (n := n + 2) (m := 16) (by omega) (by omega) (by omega) hB.sq.sr) ?_
    rintro y s2 ⟨⟨w, rfl, hw0, hw1⟩, hu2⟩
    have hB2 := hB.up hu2
    have ht := Rws.top hB2.rl
    simp! [eqv_rows hB2.rl, truth, ht, rg_len, eq_int]
    refine ⟨by omega, ?_⟩
    have hpush : B.length < a -> Bs st ((s2 ++ [D.lst []]).set st.length (D.lst ((rg B.length fun i => D.ref (p i)) ++ [D.ref s2.length]))) l st.length (fun i => if i < B.length then p i else s2.length) (B ++ [[]]) (N + 1 + 5 * ((pre.length + 1 : Nat) : Int)) := fun _ => (hB2.push (x := [])).mono (by omega)
    have hedge : ∀ (leaf : Bool), B ≠ [] -> m < b -> (leaf = true -> B.length < a) -> wp (call P (n + 3) F.zq17 [.ref l, .ref st.length, .lst [.int (2 * (m : Int)), .int (2 * (m : Int) + 1)], .bl leaf]) s2
        (fun x s => ∃ (x5 x6 : Option D) (p : Nat -> Nat) (B : List (List Nat)) (m_1 : Nat), [some (D.ref l), some (D.int (a : Nat)), some (D.int (b : Nat)), some (D.ref st.length), some (D.int ((m : Int) + 1)), some (D.int (k : Nat)), some (D.int w)] = [some (D.ref l), some (D.int (a : Nat)), some (D.int (b : Nat)), some (D.ref st.length), some (D.int (m_1 : Nat)), x5, x6] /\ Bs st s l st.length p B (N + 1 + 5 * ((pre.length + 1 : Nat) : Int)) /\ Bld B m_1 /\ B.length <= a /\ m_1 <= b) NX := by
      intro leaf hBn hmb hlf
      have hpos : 0 < B.length := List.length_pos_iff.2 hBn
      have em : (2 : Int) * (m : Int) = ((2 * m : Nat) : Int) := by omega
      have em1 : ((2 * m : Nat) : Int) + 1 = ((2 * m + 1 : Nat) : Int) := by omega
      rw [em, em1]
      refine wp_nx (k_addedge n hB2 hb1 (by omega) (by omega) hpos (by omega)) ?_
      rintro y s' ⟨rfl, p', B', h1, h2, h3⟩
      refine ⟨some (.int (k : Nat)), some (.int w), p', B', m + 1, by simp, h1.mono (by omega), h2, ?_, by omega⟩
      cases leaf with
      | true => have := hlf rfl; simp at h3; omega
      | false => simp at h3; omega
    refine wb_of ?_ ?_
    · intro he
      obtain rfl : B = [] := List.isEmpty_iff.1 he
      exact ⟨by omega, by simp; omega, _, _, _, [] ++ [[]], m, rfl, hpush (by simpa using ha0), .node hb1, by simp; omega, hb3⟩
    · intro he
      have hBn : B ≠ [] := fun z => by rw [z] at he; cases he
      refine wb_of ?_ ?_
      · intro _
        refine wb_of ?_ ?_
        · intro hc
          have hc := of_decide_eq_true hc
          exact ⟨by omega, by omega, _, _, _, B ++ [[]], m, rfl, hpush (by omega), .node hb1, by simp; omega, hb3⟩
        · intro hc
          have hc := of_decide_eq_false hc
          refine wb_of ?_ ?_
          · intro hmb
            have hmb := of_decide_eq_true hmb
            refine ⟨lg2n (by omega), lg2n (by omega), by omega, ?_⟩
            refine wb_of ?_ ?_
            · intro _
              refine wp_wrap (hedge _ hBn (by omega) fun z => ?_)
              have := of_decide_eq_true z
              omega
            · intro _
              exact wp_wrap (hedge _ hBn (by omega) fun z => by cases z)
          · intro _
            exact ⟨_, _, p, B, m, rfl, hB2.mono (by omega), hb1, hb2, hb3⟩
      · intro _
        refine wb_of ?_ ?_
        · intro hmb
          have hmb := of_decide_eq_true hmb
          refine ⟨lg2n (by omega), lg2n (by omega), by omega, ?_⟩
          refine wb_of ?_ ?_
          · intro _
            refine wp_wrap (hedge _ hBn (by omega) fun z => ?_)
            have := of_decide_eq_true z
            omega
          · intro _
            exact wp_wrap (hedge _ hBn (by omega) fun z => by cases z)
        · intro _
          exact ⟨_, _, p, B, m, rfl, hB2.mono (by omega), hb1, hb2, hb3⟩
  · rintro σ s ⟨x5, x6, p, B, m, rfl, hB, hb1, hb2, hb3⟩
    simp! []
    rw [List.length_range] at hB
    have hlo : l ≠ st.length := by omega
    have hlp : ∀ i, i < B.length -> l ≠ p i := fun i hi => by have := hB.pb i hi; omega
    refine wp_nx (k_renum (n := n) hB.sq.sr hB.rl hb1.dr (by omega) (by omega) hlo hlp (by omega)) ?_
    rintro y s' ⟨⟨g, rfl, hg⟩, hu⟩
    have hQ := hB.sq.next hu
    refine ⟨hQ.fin, ?_⟩
    rw [rk_clean gv_clean]
    exact ⟨⟨B, m, g, rfl, hb1, hg, hb2, hb3⟩, hQ.up.mono (by omega)⟩
end Fs
namespace Fs
open PySem Cy
theorem flat_pw {γ : Type} {f h : γ -> List Nat} : ∀ {L : List γ}, (∀ i, i ∈ L -> (f i).Perm (h i)) -> (L.map f).flatten.Perm (L.map h).flatten
  | [], _ => by simp
  | a :: L, e => by
    simp only [List.map_cons, List.flatten_cons]
    exact (e a (List.mem_cons_self ..)).append (flat_pw fun i hi => e i (List.mem_cons_of_mem _ hi))
theorem flat_ord {γ : Type} {f : γ -> List Nat} {L M : List γ} (h : L.Perm M) : (L.map f).flatten.Perm (M.map f).flatten := by
  induction h with
  | nil => exact List.Perm.refl _
  | cons a _ ih => simp only [List.map_cons, List.flatten_cons]; exact ih.append_left _
  | swap a b L =>
    simp only [List.map_cons, List.flatten_cons, <- List.append_assoc]
    exact (List.perm_append_comm).append_right _
  | trans _ _ i1 i2 => exact i1.trans i2
theorem shf_perm {r : List Nat} {k : Nat} : (shf r k).Perm r := by
  unfold shf
  refine List.perm_append_comm.trans ?_
  rw [List.take_append_drop]
theorem rows_of {B : List (List Nat)} : (List.range B.length).map (fun i => B.getD i []) = B := by
  refine List.ext_getElem? fun i => ?_
  rw [List.getElem?_map]
  by_cases hi : i < B.length
  · rw [List.getElem?_range hi, Option.map_some, List.getD_eq_getElem?_getD, List.getElem?_eq_getElem hi]; rfl
  · rw [List.getElem?_eq_none (by simpa using hi), List.getElem?_eq_none (by omega)]; rfl
theorem Dl.perm {δ : Nat -> Nat} {m : Nat} (h : Dl δ m) : ((List.range (2 * m)).map δ).Perm (List.range (2 * m)) := by
  have nd : ((List.range (2 * m)).map δ).Nodup := by
    refine List.pairwise_map.2 (List.Pairwise.imp_of_mem ?_ List.nodup_range)
    intro a b ha hb hab e
    exact hab (h.inj a b (List.mem_range.1 ha) (List.mem_range.1 hb) e)
  have hs : ∀ x, x ∈ (List.range (2 * m)).map δ -> x ∈ List.range (2 * m) := by
    intro x hx
    obtain ⟨d, hd, rfl⟩ := List.mem_map.1 hx
    exact List.mem_range.2 (h.lt d (List.mem_range.1 hd))
  refine (List.perm_ext_iff_of_nodup nd List.nodup_range).2 fun x => ⟨hs x, fun hx => ?_⟩
  refine Classical.byContradiction fun hn => ?_
  have h2 := sub_len (L := x :: (List.range (2 * m)).map δ) (M := List.range (2 * m)) (List.nodup_cons.2 ⟨hn, nd⟩) fun y hy => by
    rcases List.mem_cons.1 hy with rfl | hy
    · exact hx
    · exact hs y hy
  simp at h2
  omega
theorem Ren.len {B : List (List Nat)} {m : Nat} {g : List (List Nat)} (h : Ren B m g) : g.length = B.length := by
  obtain ⟨δ, R, k, _, hR, rfl⟩ := h
  rw [List.length_map, hR.length_eq, List.length_range]
theorem Ren.gr {B : List (List Nat)} {m : Nat} {g : List (List Nat)} (hB : Dr B m) (h : Ren B m g) (hb : B.length <= 60) (hm : m <= 120) : Gr g m := by
  refine ⟨?_, by rw [h.len]; exact hb, hm⟩
  obtain ⟨δ, R, k, hδ, hR, rfl⟩ := h
  refine (flat_pw (h := fun i => (B.getD i []).map δ) fun i _ => shf_perm.map δ).trans ?_
  refine (flat_ord hR).trans ?_
  have e : (List.range B.length).map (fun i => (B.getD i []).map δ) = B.map (List.map δ) := by
    conv => rhs; rw [<- rows_of (B := B)]
    rw [List.map_map]; rfl
  rw [e, <- List.map_flatten]
  exact (hB.map δ).trans hδ.perm
end Fs
namespace Fs
open PySem Cy
theorem K_law6 {n : Nat} : ∃ K : Nat, (if (if ((n : Nat) : Int) < 6 then ((n : Nat) : Int) else 6) > 1 then (if ((n : Nat) : Int) < 6 then ((n : Nat) : Int) else 6) else 1) = (K : Int) /\ K <= 6 := by
  refine ⟨(if (if ((n : Nat) : Int) < 6 then ((n : Nat) : Int) else 6) > 1 then (if ((n : Nat) : Int) < 6 then ((n : Nat) : Int) else 6) else 1).toNat, ?_, ?_⟩
  · split <;> split <;> omega
  · split <;> split <;> omega
theorem k_law {ns : List Int} (hns : ns.length <= 63) : wp (call P 7 F.law [.ref 0]) [.frl (zv ns)] (fun r s' => r = .bl true /\ s' = [.frl (zv ns)]) NX := by
  have hsl := sl_ge
  refine w_call (F := c_law) rfl rfl ?_
  have er : List.replicate (c_law.ns - c_law.np) (none : Option D) = [none, none] := rfl
  have e0 : lands [.ref 0] [D.frl (zv ns)] = ([.ref 0], [D.frl (zv ns)]) := rfl
  rw [er, e0]
  have h0 : ([D.frl (zv ns)] : Sto)[0]? = some (.frl (zv ns)) := rfl
  have hz : (zv ns).length = ns.length := by simp
  obtain ⟨K, hK, hK2⟩ := K_law6 (n := ns.length)
  unfold c_law
  simp! [leC_frl, hz, hK, rngL1' (show K <= 2 ^ 20 by omega)]
  refine w_forP (List.range K) _ (fun pre σ s => (∃ x1 x2, σ = [some (.ref 0), x1, x2]) /\ On [D.frl (zv ns)] s) ⟨⟨_, _, rfl⟩, On.refl⟩ ?_ ?_
  · rintro pre k post σ s hr ⟨⟨x1, x2, rfl⟩, hO⟩
    obtain ⟨_, hk, _⟩ := range_split hr
    have hs0 : s[0]? = some (.frl (zv ns)) := (hO.2 0 (by simp)).trans h0
    have hl1 : 1 <= s.length := hO.1
    simp! []
    refine wp_nx (k_source 5 (by omega) hns hs0) ?_
    rintro y s' ⟨⟨a, b, c, rfl, hb0, hb1⟩, rfl⟩
    have hla : land (src a b c) s' = (.ref s'.length, s' ++ [src a b c]) := la_lst (xs := [.int a, .int b, .int c]) rfl
    simp! [hla]
    have hO1 := hO.app (r := [src a b c])
    have hS1 : Sr (s' ++ [src a b c]) s'.length 36 := ⟨a, b, c, sg0, hb0, by omega⟩
    generalize (s' ++ [src a b c] : Sto) = s1 at *
    generalize hl : s'.length = l at *
    refine wp_nx (k_any (n := 3) (m := 6) (k := 9) (by omega) (by omega) (by omega) (by omega) hS1) ?_
    rintro y s2 ⟨⟨g, e, rfl, hg, hg1, hg8, he⟩, hu2⟩
    have hS2 := hu2.sr hS1.lt
    have hO2 := hO1.up hl1 hu2
    refine wp_nx (k_right (n := 0) hg (by omega) (by omega) (by omega) hS2) ?_
    rintro y s3 ⟨rfl, hu3⟩
    have hS3 := hu3.sr hS2.lt
    have hO3 := hO2.up hl1 hu3
    simp! [truth]
    refine wp_nx (k_graph (n := 2) (a := 6) (b := 9) hS3 (by omega) (by omega) (by omega) (by omega)) ?_
    rintro y s4 ⟨⟨B, m, g2, rfl, hB, hr2, hB6, hm9⟩, hu4⟩
    have hS4 := hu4.sr hS3.lt
    have hO4 := hO3.up hl1 hu4
    have hg2 := Ren.gr hB.dr hr2 (by omega) (by omega)
    have hgl := hr2.len
    refine wp_nx (k_right (n := 0) hg2 (by omega) (by omega) (by omega) hS4) ?_
    rintro y s5 ⟨rfl, hu5⟩
    simp! [truth]
    exact ⟨⟨_, _, rfl⟩, hO4.up hl1 hu5⟩
  · rintro σ s ⟨⟨x1, x2, rfl⟩, hO⟩
    have z0 : ∀ {X W : List (List Nat)}, Fc (phi X) (2 * 0) W (2 * 0) -> W = [] := fun fc => fc.fw.uniq .zero
    have g0 : Gr [] 0 := ⟨by simp, by simp, by omega⟩
    have g2 : Gr [[], []] 0 := ⟨by simp, by simp, by omega⟩
    have ea : (D.tup [] : D) = .tup (tv []) := rfl
    have eb : (D.tup [.tup (tv []), .tup (tv [])] : D) = .tup (tv [[], []]) := rfl
    simp! []
    rw [ea]
    refine ⟨by omega, ?_⟩
    refine wp_nx (k_facesQ (n := 2) g0 s) ?_
    rintro y s1 ⟨⟨W, rfl, fc⟩, rfl⟩
    obtain rfl := z0 fc
    rw [show emps [] ++ ([] : List (List Nat)) = [] from rfl]
    simp! [eq_tv]
    rw [eb]
    refine ⟨by omega, by omega, by omega, by omega, ?_⟩
    refine wp_nx (k_facesQ (n := 2) g2 s1) ?_
    rintro y s2 ⟨⟨W, rfl, fc2⟩, rfl⟩
    obtain rfl := z0 fc2
    rw [show emps [[], []] ++ ([] : List (List Nat)) = [[], []] from rfl]
    simp! [eq_tv]
    refine ⟨by omega, by omega, by omega, ?_⟩
    exact ⟨hO.fin, by rw [rk_clean rfl, og_s]; exact ⟨rfl, hO.take⟩⟩
end Fs
namespace Fs
open PySem PySem.Spec PyProof.Rows L2
theorem Wf.del {w : World} {K : PySem.W.Frag} {mg : Str -> Option Value} {a : Addr} (hL : LstInts K a) (X : Wf w K mg) : Wf w (kdel K a) mg := {
  f_all := X.f_all
  f_bool := X.f_bool
  f_enumerate := X.f_enumerate
  f_int := X.f_int
  f_isinstance := X.f_isinstance
  f_len := X.f_len
  f_list := X.f_list
  f_max := X.f_max
  f_min := X.f_min
  f_range := X.f_range
  f_repr := X.f_repr
  f_sorted := X.f_sorted
  f_sum := X.f_sum
  f_tuple := X.f_tuple
  q_MAX_EDGES := X.q_MAX_EDGES
  q_MAX_NODES := X.q_MAX_NODES
  d_zq0 := (let ⟨f, fd, D, hm⟩ := X.d_zq0; ⟨f, fd, FunD.del hL.at_ D, hm⟩)
  d_zq1 := (let ⟨f, fd, D, hm⟩ := X.d_zq1; ⟨f, fd, FunD.del hL.at_ D, hm⟩)
  d_zq2 := (let ⟨f, fd, D, hm⟩ := X.d_zq2; ⟨f, fd, FunD.del hL.at_ D, hm⟩)
  d_zq3 := (let ⟨f, fd, D, hm⟩ := X.d_zq3; ⟨f, fd, FunD.del hL.at_ D, hm⟩)
  d_zq4 := (let ⟨f, fd, D, hm⟩ := X.d_zq4; ⟨f, fd, FunD.del hL.at_ D, hm⟩)
  d_zq5 := (let ⟨f, fd, D, hm⟩ := X.d_zq5; ⟨f, fd, FunD.del hL.at_ D, hm⟩)
  d_zq6 := (let ⟨f, fd, D, hm⟩ := X.d_zq6; ⟨f, fd, FunD.del hL.at_ D, hm⟩)
  d_zq7 := (let ⟨f, fd, D, hm⟩ := X.d_zq7; ⟨f, fd, FunD.del hL.at_ D, hm⟩)
  d_zq8 := (let ⟨f, fd, D, hm⟩ := X.d_zq8; ⟨f, fd, FunD.del hL.at_ D, hm⟩)
  d_zq9 := (let ⟨f, fd, D, hm⟩ := X.d_zq9; ⟨f, fd, FunD.del hL.at_ D, hm⟩)
  d_zq10 := (let ⟨f, fd, D, hm⟩ := X.d_zq10; ⟨f, fd, FunD.del hL.at_ D, hm⟩)
  d_zq11 := (let ⟨f, fd, D, hm⟩ := X.d_zq11; ⟨f, fd, FunD.del hL.at_ D, hm⟩)
  d_zq12 := (let ⟨f, fd, D, hm⟩ := X.d_zq12; ⟨f, fd, FunD.del hL.at_ D, hm⟩)
  d_zq13 := (let ⟨f, fd, D, hm⟩ := X.d_zq13; ⟨f, fd, FunD.del hL.at_ D, hm⟩)
  d_zq14 := (let ⟨f, fd, D, hm⟩ := X.d_zq14; ⟨f, fd, FunD.del hL.at_ D, hm⟩)
  d_zq15 := (let ⟨f, fd, D, hm⟩ := X.d_zq15; ⟨f, fd, FunD.del hL.at_ D, hm⟩)
  d_zq16 := (let ⟨f, fd, D, hm⟩ := X.d_zq16; ⟨f, fd, FunD.del hL.at_ D, hm⟩)
  d_zq17 := (let ⟨f, fd, D, hm⟩ := X.d_zq17; ⟨f, fd, FunD.del hL.at_ D, hm⟩)
  d_zq18 := (let ⟨f, fd, D, hm⟩ := X.d_zq18; ⟨f, fd, FunD.del hL.at_ D, hm⟩)
  d_zq19 := (let ⟨f, fd, D, hm⟩ := X.d_zq19; ⟨f, fd, FunD.del hL.at_ D, hm⟩)
  d_zq20 := (let ⟨f, fd, D, hm⟩ := X.d_zq20; ⟨f, fd, FunD.del hL.at_ D, hm⟩)
  d_zq21 := (let ⟨f, fd, D, hm⟩ := X.d_zq21; ⟨f, fd, FunD.del hL.at_ D, hm⟩)
  d_zq22 := (let ⟨f, fd, D, hm⟩ := X.d_zq22; ⟨f, fd, FunD.del hL.at_ D, hm⟩)
  d_zq23 := (let ⟨f, fd, D, hm⟩ := X.d_zq23; ⟨f, fd, FunD.del hL.at_ D, hm⟩)
  d_law := (let ⟨f, fd, D, hm⟩ := X.d_law; ⟨f, fd, FunD.del hL.at_ D, hm⟩) }
theorem law_facts {w : World} {K : PySem.W.Frag} {mg : Str -> Option Value} {fa a : Addr} (X : Wf w K mg) (hfa : mg ("law" : Str) = some (.ref fa)) (hL : LstInts K a) :
    ∃ (fd : FuncData) (sp : Sp), (∀ (s : Shared) (u : Value), BindsTo s fd ⟨[u], []⟩ [("_law_script", u)]) /\
      (∀ (J : Hp) (ns : List Int), ns.length <= 63 -> Only J -> SqL (kdel K a) J a (ns.map V.int) -> sp [.ref a] J (fun v _ => v = .bl true) fun _ _ _ => False) /\
      ∀ base : Heap, (kdel K a).In base -> base.Ns mainGlobals mg -> FgOk pw w (kdel K a) mg base 9 fa fd ["_law_script"] sp := by
  have X2 := X.del hL
  obtain ⟨f, fd, FD, hm⟩ := X2.d_law
  have hff : f = fa := by
    have e := hfa.symm.trans hm
    cases e; rfl
  subst hff
  have hb := FunD.bindsA (ps := ["_law_script"]) FD fun _ _ _ _ _ _ us hl => match us, hl with | [_], _ => rfl
  refine ⟨fd, spI ⟨kdel K a, fun _ => 0, fun _ => none, none, fun _ => none⟩ (call P 7 F.law) 1, fun s u => hb s [u] rfl, ?_, ?_⟩
  · intro J ns hl hO hS
    refine sp_start rfl hO (by rw [kdel_at, if_pos rfl]) hS ?_
    obtain ⟨d, s', he, rfl, _⟩ := wp_run (k_law hl)
    exact ⟨s', he⟩
  · intro base _ _
    have E := ev_all (base := base) (Z := ⟨kdel K a, fun _ => 0, fun _ => none, none, fun _ => none⟩) rfl rfl X2 6
    obtain ⟨oc, od, dV, kV, doc, pm, an, cdv, ct, osl, e, lk, hc, _⟩ := FD.ex
    subst e
    exact fg_of lk hc (N := [("_law_script" : Str), ("_law_k" : Str), ("_law_source_here" : Str)]) ⟨rfl, rfl, rfl, by decide +kernel, rfl, by decide +kernel, by decide +kernel⟩ (fun vs H Q E ⟨hl, _⟩ => hl) fun A outer s H vs Q E2 hr hg h => ⟨_, bd_law rfl rfl E hr hg, enter_ok (F := c_law) rfl rfl h⟩
end Fs
open PySem PySem.W PySem.Calls PyProof.Rows
theorem PySem.Challenge.cw_flatsum_k06_faces_holds : PySem.Challenge.rw_flatsum_k06_faces.Holds := by
  w_on; o_law
  refine HandSHeadRun.head_any (r := OpenLaw.row PySem.Challenge.rw_flatsum_k06_faces) (q := view (OpenLaw.row PySem.Challenge.rw_flatsum_k06_faces).prog [33]) (H := Fs.hdH) (ob := Fs.hdO) (M := 3200) (loose := Fs.hdL) (d := HandSHeadRun.topDef (OpenLaw.row PySem.Challenge.rw_flatsum_k06_faces).prog 33) (kwd := []) Fs.hdE
    (by kernel_rfl) (fun s => by kernel_rfl) Fs.hd_run (by kernel_rfl) (by kernel_rfl) (by kernel_rfl) (by rfl) (by first | assumption | decide +kernel) (by decide +kernel) ⟨rfl, rfl, rfl, rfl, rfl, by decide +kernel⟩ ?hw ?hc
  case hw => w_witness2
  case hc =>
    refine Fs.walk_h2 (l := PySem.Challenge.rw_flatsum_k06_faces) (n := 63) (k := 9) (x := "_law_script") rfl (by decide) (by kernel_rfl) ⟨rfl, by decide, by decide⟩ ?F
    intro w mg fa h a vs Y G hmg0 hobj hvi
    obtain ⟨K, KX, c⟩ := Y
    have hmg : mg ("law" : PySem.Str) = some (.ref fa) := by
      have e : (HandSHeadRun.topDef (OpenLaw.row PySem.Challenge.rw_flatsum_k06_faces).prog 33).name = ("law" : PySem.Str) := by kernel_rfl
      rw [<- e]
      exact hmg0
    have hL : Fs.LstInts K a := fun o e => by
      have e2 := KX a o e
      rw [hobj] at e2
      cases e2
      exact ⟨_, _, rfl, by simpa using hvi⟩
    obtain ⟨fd, sp, h1, h2, h3⟩ := Fs.law_facts (w := w) (Fs.wf_of KX G c) hmg hL
    exact ⟨Fs.kdel K a, fd, sp, Fs.kdel_in KX, h1, h2, h3⟩
