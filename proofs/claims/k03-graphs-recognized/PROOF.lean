import PyProof.Rows.All
import Wide.All
import OpenK.AllK
import Wide.FinOn
import KE.KStateDown
import Lean
import PySem.Challenge.RW_flatsum_k03_graphs_recognized
import HandS.HeadHook1
import HandS.HeadHook2
import HandS.ExcField
import HandS.ExcIs
import KE.KIsAll
import HandS.Words
import HandS.Head0
import HandS.Head1
import HandS.Head2
import HandS.HeadEnd
import PyProof.ReprReads
import HandS.Base
import HandS.List
import HandS.Call
import HandS.Lambda
import HandS.Exc
import HandS.Wide
import HandS.TupAny
import HandS.TupMul
import HandS.Style
import HandS.Deep
import HandS.NoneIn
import HandS.Iter
import HandS.Comp
import HandS.Dict
import HandS.Small
import HandS.Flow
import HandS.TupSets
import HandS.SortOrd
import HandS.SetFor
import HandS.Set
import HandS.TupLen
import HandS.SortInts
import HandS.IsInst
import HandS.Text
import HandS.Conv
import HandS.WordsDict
import HandS.More
import PyProof.ReprRoads
import PyProof.Rows.NestShow
import PyProof.FactsAll.list_3
import PyProof.FactsAll.dict_3
import KE.GoesEnum
import HandS.DictComp
import HandS.Defaults
import HandS.TryMany
import PyProof.ExcBaseAll.RuntimeError
import PyProof.ExcBaseAll.ArithmeticError
import HandS.ExcInit
import HandS.WideBits
import KE.KExcIs
import HandS.EndTab
import HandS.SetKeys
import KE.GoesEnumKw
import PyProof.Rows.CallKw2
import HandS.MakeKw
import PyProof.Rows.Range3
import KE.KTryMore
import HandS.Sort
import PyProof.StrLaws
import PyProof.Rows.RegStrFacts
set_option Elab.async false
set_option linter.all false
set_option maxRecDepth 100000
set_option maxHeartbeats 0
namespace Fs
open PySem L2 PyProof.Rows PySem.Spec
def clsBody (s : Stmt) : List Stmt := match s with
  | .ClassDef _ _ _ b _ _ _ _ _ _ _ => b
  | _ => []
def aeBase : List Value := [.type "ArithmeticError", .type "Exception", .type "BaseException", .type "object"]
def reBase : List Value := [.type "RuntimeError", .type "Exception", .type "BaseException", .type "object"]
def rfsB (tl : List Value) : List Value -> Bool
  | .ref _ :: r => rfsB tl r
  | l => l == tl
def bss : List (String × List Value) := [("ValueError.__new__", [.type "ValueError", .type "Exception", .type "BaseException", .type "object"]), ("RuntimeError.__new__", reBase), ("ArithmeticError.__new__", [.type "ArithmeticError", .type "Exception", .type "BaseException", .type "object"])]
def bsB (n : String) (bm : List Value) : Bool := bss.any fun b => n == b.1 && rfsB b.2 bm
def oexB (K : PySem.W.Frag) (C : Addr) : Bool := (match K.lookup C with
  | some ⟨.type "type", _, .cls cd, sl⟩ => (match cd.mro, sl.toList with
    | .ref C' :: bm, [_, _, _, _, some (.builtin n), _] => C' == C && !cd.hasDel && cd.hasDict && bsB n bm
    | _, _ => false)
  | _ => false) && (He.eqO (PySem.W.findIn K (.ref C) "__setattr__") (some (some (.builtin "object.__setattr__"))) && (PySem.W.keepIn K (.ref C) && (decide (PySem.W.subIn K (.ref C) (.type "BaseException") = some true) && decide (PySem.W.typeIn K (.ref C) = some (.type "type")))))
def rexB (K : PySem.W.Frag) (C : Addr) : Bool := (PySem.W.excIn K C reBase "RuntimeError.__new__" || PySem.W.excIn K C aeBase "ArithmeticError.__new__") && (PySem.W.keepIn K (.ref C) && (decide (PySem.W.subIn K (.ref C) (.type "BaseException") = some true) && decide (PySem.W.typeIn K (.ref C) = some (.type "type"))))
abbrev AlE : Type := He.AlD × Bool
def exB (xs : List (Bool × Str)) (K : PySem.W.Frag) : Bool := xs.all fun x => if x.1 then (oexB K (He.ga K x.2) && xfB K (He.ga K x.2)) else rexB K (He.ga K x.2)
def lvE (g : Addr -> Option Obj) : Nat -> List Addr -> List Addr
  | 0, l => l
  | n + 1, l => l ++ lvE g n (l.flatMap fun a => match g a with
    | some o => He.refsD o
    | none => [])
end Fs
namespace Fs
open PySem L2 PyProof.Rows PySem.Spec
def icB (K : PySem.W.Frag) (C : Addr) : Bool := xfB K C && (decide (PySem.W.findIn K (.ref C) "__class__" = some (some (.builtin "object.__class__"))) && (decide (PySem.W.specialIn K (.builtin "object.__class__") "__get__" = some (some (.builtin "getset_descriptor.__get__"))) &&
  (decide (PySem.W.takesIn K (.builtin "object.__class__") = some true) && decide (PySem.W.mroIn K C (.type "object") = some true))))
def tabOf (K : PySem.W.Frag) (x : Str) : Option (Addr × Addr) := match K.lookup (He.ga K x) with
  | some ⟨_, _, .func fd, _⟩ => (match fd.code with
    | .ref c => (match K.lookup c with
      | some ⟨.type _, _, .fields vs, _⟩ => (match vs.getD 11 .none with
        | .ref P => some (c, P)
        | _ => none)
      | _ => none)
    | _ => none)
  | _ => none
def kbB (K : PySem.W.Frag) (x : Str × String × Bool) : Bool := decide (PySem.W.kitOne K (.ref (He.ga K x.1)) (.type x.2.1) = some x.2.2)
def smB (K : PySem.W.Frag) : Bool := match K.lookup sysModules with
  | some o => (match o.data with
    | .seq _ _ => false
    | _ => true)
  | none => false
def tab0 (o : Option Obj) : Bool := match o with
  | some ⟨.none, none, .fields vs, sl⟩ => vs.size == 0 && sl.size == 0
  | _ => false
def codeB (c P : Addr) (o : Option Obj) : Bool := match o with
  | some ⟨.type t, _, .fields vs, _⟩ => t == "code" && (vs.size > 18 && ((match vs.getD 11 .none with
    | .ref Q => Q == P
    | _ => false) && ((match vs.getD 18 .none with
    | .str _ _ => true
    | _ => false) && ((match vs.getD 7 .none with
    | .int _ _ => true
    | _ => false) && ((match vs.getD 9 .none with
    | .bool _ => true
    | _ => false) && ((match vs.getD 10 .none with
    | .int _ _ => true
    | _ => false) && c != P))))))
  | _ => false
def tbB (K Kt : PySem.W.Frag) (x : Str) : Bool := match tabOf K x with
  | some (c, P) => codeB c P (K.lookup c) && (tab0 (Kt.lookup P) && (K.lookup P).isNone)
  | none => false
def distB : List Addr -> Bool
  | [] => true
  | a :: r => r.all (fun b => a != b) && distB r
def tabsOf (K : PySem.W.Frag) (ts : List Str) : List (Addr × Addr) := ts.filterMap (tabOf K)
def noTab (p : Addr × Obj) : Bool := match p.2.data with
  | .fields vs => vs.size != 0
  | _ => true
def obsT2 (fa : List He.Fa) (fn : List He.DefD) (xs : List (Bool × Str)) (ic : List Str) (kb : List (Str × String × Bool)) (ts : List Str) (Kt : PySem.W.Frag) (K : PySem.W.Frag) : AlE :=
  (He.obsD fa fn K, smB K && (exB xs K && (ic.all (fun x => icB K (He.ga K x)) && (kb.all (kbB K) && (ts.all (tbB K Kt) && distB ((tabsOf K ts).map (·.2)))))))
def obsT3 (fa : List He.Fa) (fn : List He.DefD) (xs : List (Bool × Str)) (ic : List Str) (kb : List (Str × String × Bool)) (ts : List Str) (Kt : PySem.W.Frag) : AlE := obsT2 fa fn xs ic kb ts Kt (Kt.filter noTab)
def obsT (n : Nat) (fa : List He.Fa) (fn : List He.DefD) (xs : List (Bool × Str)) (ic : List Str) (kb : List (Str × String × Bool)) (ts : List Str) (g : Addr -> Option Obj) : AlE := obsT3 fa fn xs ic kb ts (He.frG g (lvE g n [mainGlobals] ++ [sysModules]))
theorem lk_mem {b : Addr} {o : Obj} : ∀ {l : PySem.W.Frag}, l.lookup b = some o -> (b, o) ∈ l
  | [], e => by cases e
  | (a, u) :: l, e => by
    rw [List.lookup_cons] at e
    split at e
    · rename_i q
      have : b = a := eq_of_beq q
      cases e
      rw [this]; exact List.mem_cons_self
    · exact List.mem_cons_of_mem _ (lk_mem e)
theorem filt_in {h : Heap} {l : List Addr} {p : Addr × Obj -> Bool} : PySem.W.Frag.In ((He.frG h.get? l).filter p) h := fun b o e => by
  have q := (List.mem_filter.mp (lk_mem e)).1
  unfold He.frG at q
  obtain ⟨a, _, e2⟩ := List.mem_filterMap.mp q
  cases hg : h.get? a with
  | none => rw [hg] at e2; cases e2
  | some u => rw [hg] at e2; cases e2; exact hg
def hookT (n : Nat) (fa : List He.Fa) (fn : List He.DefD) (xs : List (Bool × Str)) (ic : List Str) (kb : List (Str × String × Bool)) (ts : List Str) : PySem.W.Hook where
  α := AlE
  obs := fun s => obsT n fa fn xs ic kb ts s.heap.get?
  val := fun _ => (He.valD fn, true)
  says := fun _ h => ∃ K Kt : PySem.W.Frag, K.In h /\ Kt.In h /\ He.SaysD fa fn K /\ (smB K && (exB xs K && (ic.all (fun x => icB K (He.ga K x)) && (kb.all (kbB K) && (ts.all (tbB K Kt) && distB ((tabsOf K ts).map (·.2))))))) = true
  of := fun _ _ e => ⟨_, _, filt_in, He.frG_in, congrArg (fun z : AlE => z.1) e, congrArg (fun z : AlE => z.2) e⟩
  keeps := fun _ _ _ ⟨K, Kt, h1, h2, c⟩ k => ⟨K, Kt, PySem.W.Frag.In.keeps h1 k, PySem.W.Frag.In.keeps h2 k, c⟩
theorem obsT_eq {n : Nat} {fa : List He.Fa} {fn : List He.DefD} {xs : List (Bool × Str)} {ic : List Str} {kb : List (Str × String × Bool)} {ts : List Str} {g : Addr -> Option Obj} {s : Shared} (h : ∀ a, g a = s.heap.get? a) : obsT n fa fn xs ic kb ts g = (hookT n fa fn xs ic kb ts).obs s := by
  have e : g = s.heap.get? := funext h
  rw [e] <;> rfl
end Fs
namespace Fs
open PySem L2 PyProof.Rows PySem.Spec
abbrev pw : Program := PySem.Challenge.pw_flatsum_k03_graphs_recognized
def top (i : Nat) : Stmt := pw.main.body.getD i (.Pass ⟨0, 0, 0, 0⟩)
def mth (i j : Nat) : Stmt := (clsBody (top i)).getD j (.Pass ⟨0, 0, 0, 0⟩)
def dd (n : Str) (i : Nat) (d : List He.Dv := []) : He.DefD := ⟨(n, none), n, n, defArgs (top i), defBody (top i), defScope (top i), d, []⟩
def ddm (n : Str) (q : Str) (m : Stmt) : He.DefD := ⟨(n, some "__init__"), "__init__", q, defArgs m, defBody m, defScope m, [], []⟩
def fnL : List He.DefD := ([dd "is_index" 8, dd "graph_fault" 9, dd "is_graph" 10, dd "check_graph" 11, dd "_law_source" 13, dd "_law_next" 14, dd "_law_mixed" 15, dd "_law_any_graph" 16, dd "_law_told" 17, dd "_law_fault" 18, dd "_law_bent" 19, dd "_law_kinds" 20, dd "_law_right" 21, dd "_law_limits_right" 22, dd "law" 23, ddm "BadGraph" "BadGraph.__init__" (mth 4 0)] : List He.DefD)
def xsL : List (Bool × Str) := [(true, "BadGraph"), (false, "InvalidState"), (false, "LimitReached")]
def kbL : List (Str × String × Bool) := []
def icL : List Str := ["InvalidValue", "InvalidState", "LimitReached", "BadGraph"]
def tsL : List (Str × Str) := [("_law_right.<locals>.<lambda>", "_law_right")]
def faL : List He.Fa := ([.glo "is_index", .glo "graph_fault", .glo "is_graph", .glo "check_graph", .glo "_law_source", .glo "_law_next", .glo "_law_mixed", .glo "_law_any_graph", .glo "_law_told", .glo "_law_fault", .glo "_law_bent", .glo "_law_kinds", .glo "_law_right", .glo "_law_limits_right", .glo "law", .free "all", .free "bool", .free "int", .free "isinstance", .free "len", .free "list", .free "max", .free "min", .free "range", .free "repr", .free "sorted", .free "sum", .free "tuple", .int "MAX_EDGES" 120, .int "MAX_NODES" 60, .glo "InvalidValue", .glo "InvalidState", .glo "LimitReached", .glo "BadGraph", .exc "InvalidValue", .keep "InvalidState", .keep "LimitReached", .meth "BadGraph" "__init__", .exm "InvalidValue" "InvalidValue" true, .exm "InvalidValue" "InvalidState" false] : List He.Fa) ++ ([.exm "InvalidValue" "LimitReached" false, .exm "InvalidValue" "BadGraph" false, .exm "InvalidState" "InvalidValue" false, .exm "InvalidState" "InvalidState" true, .exm "InvalidState" "LimitReached" false, .exm "InvalidState" "BadGraph" false, .exm "LimitReached" "InvalidValue" false, .exm "LimitReached" "InvalidState" false, .exm "LimitReached" "LimitReached" true, .exm "LimitReached" "BadGraph" false, .exm "BadGraph" "InvalidValue" true, .exm "BadGraph" "InvalidState" false, .exm "BadGraph" "LimitReached" false, .exm "BadGraph" "BadGraph" true, .noat "BadGraph" "place"] : List He.Fa)
end Fs
namespace Fs
open PySem PySem.Spec PyProof.Rows L2
abbrev hdR : PySem.W.OpenRow := PySem.W.OpenLaw.row PySem.Challenge.rw_flatsum_k03_graphs_recognized
abbrev hdH : PySem.W.Hook := hookT 4 faL fnL xsL icL kbL (tsL.map (·.2))
def hdO (s : PySem.W.SharedT) : AlE := obsT 4 faL fnL xsL icL kbL (tsL.map (·.2)) (HandSHeadRun.getT s)
theorem hdE (s : PySem.W.SharedT) : hdO s = hdH.obs s.abs := obsT_eq (HandSHeadRun.getT_eq s)
def hdL : List Str := ([("__name__" : Str), ("InvalidValue" : Str), ("InvalidState" : Str), ("LimitReached" : Str), ("BadGraph" : Str), ("MAX_NODES" : Str), ("MAX_EDGES" : Str), ("is_index" : Str), ("graph_fault" : Str), ("is_graph" : Str), ("check_graph" : Str), ("_law_source" : Str), ("_law_next" : Str), ("_law_mixed" : Str), ("_law_any_graph" : Str), ("_law_told" : Str), ("_law_fault" : Str), ("_law_bent" : Str), ("_law_kinds" : Str), ("_law_right" : Str), ("_law_limits_right" : Str)] : List Str)
theorem hd_run (w : World) : HandSHeadRun.RunEq hdR (PySem.W.view hdR.prog [23]) hdH hdO 3200 hdL w := by
  intro os
  kernel_rfl
end Fs
namespace Fs
open PySem
inductive Ky where
  | k (a : L2.Key) | t (as : List L2.Key)
  deriving DecidableEq
inductive D where
  | non | bl (b : Bool) | int (i : Int) | str (s : Str)
  | tup (xs : List D)
  | ref (l : Nat)
  | lst (xs : List D)
  | frl (xs : List D)
  | dic (kvs : List (Ky × D))
  | set (xs : List Int)
  | exc (c : Nat) (fs : List D)
  | lam (f : Nat) (cs : List D)
  deriving Inhabited
abbrev Env := List (Option D)
abbrev Sto := List D
mutual
def D.eqb : D -> D -> Bool
  | .non, .non => true
  | .bl a, .bl b => a == b
  | .int a, .int b => decide (a = b)
  | .str a, .str b => decide (a = b)
  | .tup xs, .tup ys => D.eqbs xs ys
  | .ref a, .ref b => decide (a = b)
  | .lst xs, .lst ys => D.eqbs xs ys
  | .frl xs, .frl ys => D.eqbs xs ys
  | .dic xs, .dic ys => D.eqbk xs ys
  | .set xs, .set ys => decide (xs = ys)
  | .exc c xs, .exc d ys => decide (c = d) && D.eqbs xs ys
  | .lam a xs, .lam b ys => decide (a = b) && D.eqbs xs ys
  | _, _ => false
def D.eqbs : List D -> List D -> Bool
  | [], [] => true
  | x :: xs, y :: ys => D.eqb x y && D.eqbs xs ys
  | _, _ => false
def D.eqbk : List (Ky × D) -> List (Ky × D) -> Bool
  | [], [] => true
  | (k, x) :: xs, (j, y) :: ys => decide (k = j) && (D.eqb x y && D.eqbk xs ys)
  | _, _ => false
end
mutual
theorem D.eqb_of : ∀ {a b : D}, D.eqb a b = true -> a = b := by
  intro a b h
  cases a <;> cases b <;> simp only [D.eqb, Bool.and_eq_true, decide_eq_true_eq, beq_iff_eq, reduceCtorEq, Bool.false_eq_true] at h <;> first
    | rfl
    | exact congrArg _ h
    | exact congrArg _ (D.eqbs_of h)
    | exact congrArg _ (D.eqbk_of h)
    | (obtain ⟨h1, h2⟩ := h; rw [h1, D.eqbs_of h2])
theorem D.eqbs_of : ∀ {a b : List D}, D.eqbs a b = true -> a = b := by
  intro a b h
  cases a <;> cases b <;> simp only [D.eqbs, Bool.and_eq_true, reduceCtorEq, Bool.false_eq_true] at h
  · rfl
  · rw [D.eqb_of h.1, D.eqbs_of h.2]
theorem D.eqbk_of : ∀ {a b : List (Ky × D)}, D.eqbk a b = true -> a = b := by
  intro a b h
  cases a with
  | nil => cases b with
    | nil => rfl
    | cons q _ => obtain ⟨_, _⟩ := q; simp [D.eqbk] at h
  | cons p r => cases b with
    | nil => obtain ⟨_, _⟩ := p; simp [D.eqbk] at h
    | cons q s =>
      obtain ⟨k, x⟩ := p
      obtain ⟨j, y⟩ := q
      simp only [D.eqbk, Bool.and_eq_true, decide_eq_true_eq] at h
      rw [h.1, D.eqb_of h.2.1, D.eqbk_of h.2.2]
end
mutual
theorem D.eqb_self : ∀ a : D, D.eqb a a = true
  | .non => rfl
  | .bl b => by simp [D.eqb]
  | .int i => by simp [D.eqb]
  | .str s => by simp [D.eqb]
  | .tup xs => by simp only [D.eqb]; exact D.eqbs_self xs
  | .ref l => by simp [D.eqb]
  | .lst xs => by simp only [D.eqb]; exact D.eqbs_self xs
  | .frl xs => by simp only [D.eqb]; exact D.eqbs_self xs
  | .dic xs => by simp only [D.eqb]; exact D.eqbk_self xs
  | .set xs => by simp [D.eqb]
  | .exc c xs => by simp only [D.eqb, decide_true, Bool.true_and]; exact D.eqbs_self xs
  | .lam c xs => by simp only [D.eqb, decide_true, Bool.true_and]; exact D.eqbs_self xs
theorem D.eqbs_self : ∀ a : List D, D.eqbs a a = true
  | [] => rfl
  | x :: xs => by simp only [D.eqbs, D.eqb_self x, D.eqbs_self xs, Bool.and_self]
theorem D.eqbk_self : ∀ a : List (Ky × D), D.eqbk a a = true
  | [] => rfl
  | (k, x) :: xs => by simp only [D.eqbk, decide_true, D.eqb_self x, D.eqbk_self xs, Bool.and_self]
end
instance : DecidableEq D := fun a b => if h : D.eqb a b = true then .isTrue (D.eqb_of h) else .isFalse fun e => h (e ▸ D.eqb_self a)
end Fs
namespace Fs
open PySem
inductive R (α : Type) where
  | ok (a : α) (s : Sto) | exc (e : D) (s : Sto) | bad
abbrev M (α : Type) := Sto -> R α
def bnd {α β : Type} (m : M α) (f : α -> M β) : M β := fun s => match m s with
  | .ok a s' => f a s'
  | .exc e s' => .exc e s'
  | .bad => .bad
def ret {α : Type} (a : α) : M α := fun s => .ok a s
def bad {α : Type} : M α := fun _ => .bad
def opt {α β : Type} (o : Option α) (f : α -> M β) : M β := match o with
  | some a => f a
  | none => bad
def gd {α : Type} (b : Bool) (m : M α) : M α := match b with
  | true => m
  | false => bad
def noX {α : Type} (m : M α) : M α := fun s => match m s with
  | .ok a s' => .ok a s'
  | _ => .bad
mutual
def D.pur : D -> Bool
  | .non | .bl _ | .int _ | .str _ | .ref _ => true
  | .tup xs => D.purs xs
  | .exc _ xs => D.purs xs
  | _ => false
def D.purs : List D -> Bool
  | [] => true
  | x :: xs => D.pur x && D.purs xs
end
mutual
def land : D -> Sto -> D × Sto
  | .tup xs, st => let r := lands xs st; (.tup r.1, r.2)
  | .lst xs, st => let r := lands xs st; (.ref r.2.length, r.2 ++ [.lst r.1])
  | .frl xs, st => let r := lands xs st; (.ref r.2.length, r.2 ++ [.frl r.1])
  | .dic kvs, st => let r := landk kvs st; (.ref r.2.length, r.2 ++ [.dic r.1])
  | .set xs, st => (.ref st.length, st ++ [.set xs])
  | .lam n cs, st => (.ref st.length, st ++ [.lam n cs])
  | d, st => (d, st)
def lands : List D -> Sto -> List D × Sto
  | [], st => ([], st)
  | x :: xs, st => let r := land x st; let q := lands xs r.2; (r.1 :: q.1, q.2)
def landk : List (Ky × D) -> Sto -> List (Ky × D) × Sto
  | [], st => ([], st)
  | (k, x) :: xs, st => let r := land x st; let q := landk xs r.2; ((k, r.1) :: q.1, q.2)
end
def landM (d : D) : M D := fun st => let r := land d st; .ok r.1 r.2
mutual
def D.cls (b : Nat) : D -> Bool
  | .non | .bl _ | .int _ | .str _ => true
  | .ref l => decide (l < b)
  | .tup xs => D.clss b xs
  | .exc _ xs => D.clss b xs
  | _ => false
def D.clss (b : Nat) : List D -> Bool
  | [] => true
  | x :: xs => D.cls b x && D.clss b xs
def D.clsk (b : Nat) : List (Ky × D) -> Bool
  | [] => true
  | (_, x) :: xs => D.cls b x && D.clsk b xs
end
mutual
def D.pln : D -> Bool
  | .non | .bl _ | .int _ | .str _ => true
  | .tup xs => D.plns xs
  | _ => false
def D.plns : List D -> Bool
  | [] => true
  | x :: xs => D.pln x && D.plns xs
end
def cellCl (b : Nat) : D -> Bool
  | .lst xs => D.clss b xs
  | .frl xs => D.clss b xs
  | .dic kvs => D.clsk b kvs
  | .set _ => true
  | .lam _ _ => true
  | _ => false
mutual
def rbD (g : Nat -> List Nat -> Option (D × List Nat)) (b : Nat) : D -> List Nat -> Option (D × List Nat)
  | .ref l, vis => match decide (l < b) with
    | true => some (.ref l, vis)
    | false => g l vis
  | .tup xs, vis => (rbDs g b xs vis).map fun r => (.tup r.1, r.2)
  | .non, vis => some (.non, vis)
  | .bl c, vis => some (.bl c, vis)
  | .int i, vis => some (.int i, vis)
  | .str s, vis => some (.str s, vis)
  | .lst xs, vis => (rbDs g b xs vis).map fun r => (.lst r.1, r.2)
  | .dic xs, vis => (rbDk g b xs vis).map fun r => (.dic r.1, r.2)
  | .set xs, vis => some (.set xs, vis)
  | .exc c xs, vis => match D.clss b xs with
    | true => some (.exc c xs, vis)
    | false => none
  | .frl _, _ => none
  | .lam _ _, _ => none
def rbDs (g : Nat -> List Nat -> Option (D × List Nat)) (b : Nat) : List D -> List Nat -> Option (List D × List Nat)
  | [], vis => some ([], vis)
  | x :: xs, vis => (rbD g b x vis).bind fun r => (rbDs g b xs r.2).map fun q => (r.1 :: q.1, q.2)
def rbDk (g : Nat -> List Nat -> Option (D × List Nat)) (b : Nat) : List (Ky × D) -> List Nat -> Option (List (Ky × D) × List Nat)
  | [], vis => some ([], vis)
  | (k, x) :: xs, vis => (rbD g b x vis).bind fun r => (rbDk g b xs r.2).map fun q => ((k, r.1) :: q.1, q.2)
end
def rbC (st : Sto) (b : Nat) : Nat -> Nat -> List Nat -> Option (D × List Nat)
  | 0, _, _ => none
  | n + 1, l, vis => match vis.contains l with
    | true => none
    | false => match st[l]? with
      | some (.lst xs) => rbD (rbC st b n) b (.lst xs) (l :: vis)
      | some (.dic xs) => rbD (rbC st b n) b (.dic xs) (l :: vis)
      | some (.set xs) => some (.set xs, l :: vis)
      | _ => none
def rback (st : Sto) (b : Nat) (d : D) : Option D := (rbD (rbC st b 8) b d []).map (·.1)
def okPre : Sto -> Sto -> Nat -> Bool
  | [], _, _ => true
  | c :: cs, c' :: cs', b => (decide (c = c') || cellCl b c') && okPre cs cs' b
  | _ :: _, [], _ => false
def leaveD (st0 : Sto) (r : R D) : R D := match r with
  | .ok d st2 => match okPre st0 st2 st0.length, rback st2 st0.length d with
    | true, some d' => .ok d' (st2.take st0.length)
    | _, _ => .ok d st2
  | .exc e st2 => match okPre st0 st2 st0.length && D.cls st0.length e with
    | true => .exc e (st2.take st0.length)
    | false => .exc e st2
  | .bad => .bad
def seqv (st : Sto) : D -> Option (List D)
  | .tup xs => some xs
  | .lst xs => some xs
  | .ref l => match st[l]? with
    | some (.lst xs) => some xs
    | some (.frl xs) => some xs
    | _ => none
  | _ => none
def lstv (st : Sto) : D -> Option (List D)
  | .lst xs => some xs
  | .ref l => match st[l]? with
    | some (.lst xs) => some xs
    | _ => none
  | _ => none
def dicv (st : Sto) : D -> Option (List (Ky × D))
  | .dic xs => some xs
  | .ref l => match st[l]? with
    | some (.dic xs) => some xs
    | _ => none
  | _ => none
def optL {α β : Type} (f : α -> Option β) : List α -> Option (List β)
  | [] => some []
  | x :: xs => match f x with
    | some y => (match optL f xs with
      | some ys => some (y :: ys)
      | none => none)
    | none => none
def toP (dz : Bool) (st : Sto) : Nat -> D -> Option PyData
  | 0, _ => none
  | n + 1, d => match d with
    | .non => some .none
    | .bl b => some (.bool b)
    | .int i => some (.int i)
    | .str s => some (.str s)
    | .tup xs => (optL (toP dz st n) xs).map .tuple
    | .lst xs => (optL (toP dz st n) xs).map .list
    | .frl xs => (optL (toP dz st n) xs).map .list
    | .ref l => (match st[l]? with
      | some (.lst xs) => (optL (toP dz st n) xs).map .list
      | some (.frl xs) => (optL (toP dz st n) xs).map .list
      | some (.dic []) => if dz then some (.dict []) else none
      | _ => none)
    | .dic [] => if dz then some (.dict []) else none
    | _ => none
def flatD : D -> Bool
  | .non | .bl _ | .int _ | .str _ => true
  | _ => false
def eqF : D -> D -> Bool
  | .non, .non => true
  | .bl a, .bl b => a == b
  | .bl a, .int b => (if a then 1 else 0) == b
  | .int a, .bl b => a == (if b then 1 else 0)
  | .int a, .int b => a == b
  | .str a, .str b => a == b
  | _, _ => false
def intv : D -> Option Int
  | .int i => some i
  | _ => none
def blv : D -> Option Bool
  | .bl b => some b
  | _ => none
def keyOf : D -> Option Ky
  | .int i => some (.k (.inl i))
  | .str s => some (.k (.inr s))
  | _ => none
def dget (k : Ky) : List (Ky × D) -> Option D
  | [] => none
  | (j, v) :: r => if j = k then some v else dget k r
def dput (k : Ky) (v : D) : List (Ky × D) -> List (Ky × D)
  | [] => [(k, v)]
  | (j, x) :: r => if j = k then (j, v) :: r else (j, x) :: dput k v r
def ddel (k : Ky) : List (Ky × D) -> List (Ky × D)
  | [] => []
  | (j, x) :: r => if j = k then r else (j, x) :: ddel k r
def kyK : Ky -> Bool
  | .k _ => true
  | .t _ => false
def okKeys (k : Ky) (kvs : List (Ky × D)) : Bool := kvs.all fun p => kyK p.1 == kyK k
def truth (st : Sto) : D -> Option Bool
  | .non => some false
  | .bl b => some b
  | .int i => some (i != 0)
  | .str s => if s.length <= sizeLine then some ((s.length : Int) != 0) else none
  | .tup xs => some (!xs.isEmpty)
  | .lst xs => some (!xs.isEmpty)
  | .ref l => match st[l]? with
    | some (.lst xs) => some (!xs.isEmpty)
    | some (.frl xs) => some (!xs.isEmpty)
    | _ => none
  | _ => none
inductive Bop where
  | add | sub | mul | fdiv | mod | pow | shl | shr | band | bxor
  deriving DecidableEq
inductive Cop where
  | eq | ne | lt | le | gt | ge | isN | ntN | inn | nin
  deriving DecidableEq
def intOp (op : Bop) (i j : Int) : Option Int := match op with
  | .add => some (i + j)
  | .sub => some (i - j)
  | .mul => if i.natAbs.log2 + j.natAbs.log2 < 1000000 then some (i * j) else none
  | .fdiv => if j ≠ 0 /\ j.natAbs.log2 < 9000 then some (i.fdiv j) else none
  | .mod => if j ≠ 0 then some (i.fmod j) else none
  | .pow => if 0 <= j /\ j <= 1000000 /\ i.natAbs < 2 ^ 64 then some (i ^ j.toNat) else none
  | .shl => if 0 <= j /\ j <= 1000000 /\ i.natAbs < 2 ^ 64 then some (i * 2 ^ j.toNat) else none
  | .shr => if 0 <= j then some (i / 2 ^ j.toNat) else none
  | .band => some (Builtin.bitAnd i j)
  | .bxor => some (Builtin.bitXor i j)
def rep (k : Nat) (xs : List D) : List D := (List.replicate k xs).flatten
def binD (op : Bop) (a b : D) : M D := fun st => match a, b with
  | .int i, .int j => (match intOp op i j with
    | some r => .ok (.int r) st
    | none => .bad)
  | .str x, .str y => (match op with
    | .add => if x.length + y.length <= sizeLine then .ok (.str (x ++ y)) st else .bad
    | _ => .bad)
  | .tup xs, .tup ys => (match op with
    | .add => if xs.length + ys.length <= sizeLine then .ok (.tup (xs ++ ys)) st else .bad
    | _ => .bad)
  | .tup xs, .int k => (match op with
    | .mul => if D.purs xs = true /\ xs.isEmpty = false /\ 0 <= k /\ k <= 1000 /\ xs.length <= 1000 then .ok (.tup (rep k.toNat xs)) st else .bad
    | _ => .bad)
  | a, .int k => (match op, lstv st a with
    | .mul, some xs => if D.purs xs /\ k < 2 ^ 63 /\ -(2 ^ 63) <= k /\ xs.length * k.toNat <= sizeLine then .ok (.lst (rep k.toNat xs)) st else .bad
    | _, _ => .bad)
  | a, b => (match op, lstv st a, lstv st b with
    | .add, some xs, some ys => if xs.length + ys.length <= sizeLine then .ok (.lst (xs ++ ys)) st else .bad
    | _, _, _ => .bad)
def eqD (st : Sto) (a b : D) : Option Bool := match toP false st 66 a, toP false st 66 b with
  | some p, some q => if SeqAt.shaped p /\ SeqAt.shaped q then some (PyData.eqv p q) else none
  | _, _ => none
def inD (st : Sto) (x y : D) : Option Bool := match y with
  | .str s => (match x with
    | .str t => some (!(Builtin.Str.occurrences s t 0 s.length 1).isEmpty)
    | _ => none)
  | y => match dicv st y with
    | some kvs => (match keyOf x with
      | some k => if okKeys k kvs then some (dget k kvs).isSome else none
      | none => none)
    | none => match y with
      | .tup ys => if flatD x /\ ys.all flatD then some (ys.any fun z => eqF z x) else none
      | y => match seqv st y with
        | some ys => (match toP false st 66 x, optL (toP false st 65) ys with
          | some p, some qs => if SeqAt.shaped p /\ SeqAt.shaped (.list qs) then some (qs.any fun z => PyData.eqv z p) else none
          | _, _ => none)
        | none => none
def cmpI (op : Cop) (i j : Int) : Option Bool := match op with
  | .lt => some (decide (i < j))
  | .le => some (decide (i <= j))
  | .gt => some (decide (j < i))
  | .ge => some (decide (j <= i))
  | _ => none
def isNon : D -> Bool
  | .non => true
  | _ => false
def isD (a b : D) : Option Bool := match b with
  | .non => some (isNon a)
  | .bl c => (match a with
    | .bl d => some (d == c)
    | _ => none)
  | _ => none
def cmpD (op : Cop) (a b : D) (st : Sto) : Option Bool := match op with
  | .eq => eqD st a b
  | .ne => (eqD st a b).map (!·)
  | .isN => isD a b
  | .ntN => (isD a b).map (!·)
  | .inn => inD st a b
  | .nin => (inD st a b).map (!·)
  | op => match a, b with
    | .int i, .int j => cmpI op i j
    | _, _ => none
inductive Bi where
  | ssort | slen | suml | len | abs | min2 | max2 | min1 | max1 | sum | all | any | tuple | list | sorted | set | int | str | repr | reprE | dict | landB | mulE
  | isT (t : String) | isC (cs : List Nat) | lrng | trng
  deriving DecidableEq
inductive Me where
  | append | pop | popi | extend | insert | index | count | get | setdefault | update | values | split | join | partition | replace | replace3 | bitlen
  deriving DecidableEq
def insI (i : Int) : List Int -> List Int
  | [] => [i]
  | j :: r => if j <= i then j :: insI i r else i :: j :: r
def sortI : List Int -> List Int
  | [] => []
  | i :: r => insI i (sortI r)
def lexL : List Int -> List Int -> Bool
  | [], [] => false
  | [], _ :: _ => true
  | _ :: _, [] => false
  | x :: xs, y :: ys => if x = y then lexL xs ys else decide (x < y)
def insL (i : List Int) : List (List Int) -> List (List Int)
  | [] => [i]
  | j :: r => if lexL i j then i :: j :: r else j :: insL i r
def sortL : List (List Int) -> List (List Int)
  | [] => []
  | i :: r => insL i (sortL r)
def tupI : D -> Option (List Int)
  | .tup xs => optL intv xs
  | _ => none
def dedI : List Int -> List Int
  | [] => []
  | i :: r => if (dedI r).contains i then dedI r else i :: dedI r
def mn (xs : List Int) : Option Int := match xs with
  | [] => none
  | x :: r => some (r.foldl (fun a b => if b < a then b else a) x)
def mx (xs : List Int) : Option Int := match xs with
  | [] => none
  | x :: r => some (r.foldl (fun a b => if b > a then b else a) x)
def rngN (a c : Int) (n : Nat) : List D := (List.range n).map fun (i : Nat) => D.int (a + (i : Int) * c)
def rngL (ds : List D) : Option (List D) := match ds with
  | [.int b] => if -(2 ^ 62) <= b /\ b < 2 ^ 62 then some (rngN 0 1 b.toNat) else none
  | [.int a, .int b] => if -(2 ^ 62) <= a /\ a < 2 ^ 62 /\ -(2 ^ 62) <= b /\ b < 2 ^ 62 then some (rngN a 1 (b - a).toNat) else none
  | [.int a, .int b, .int c] => if c ≠ 0 /\ c.natAbs < 1073741824 /\ Builtin.Range.small a b c = true then some (rngN a c (Builtin.Range.rangeSize a b c).toNat) else none
  | _ => none
def rgOk (a b : Int) : Bool := decide (-(2 ^ 62) <= a /\ a < 2 ^ 62 /\ -(2 ^ 62) <= b /\ b < 2 ^ 62 /\ (b - a).toNat <= 2 ^ 24)
def isTy (st : Sto) (t : String) : D -> Option Bool
  | .non => some false
  | .bl _ => some (t == "bool" || t == "int")
  | .int _ => some (t == "int")
  | .str _ => some (t == "str")
  | .tup _ => some (t == "tuple")
  | .lst _ => some (t == "list")
  | .dic _ => some (t == "dict")
  | .ref l => match st[l]? with
    | some (.lst _) => some (t == "list")
    | some (.frl _) => some (t == "list")
    | some (.dic _) => some (t == "dict")
    | _ => none
  | _ => none
structure Tbl where
  fn : Nat -> List D -> M D
  fld : Nat -> Option Str
  anc : Nat -> Nat -> Bool
  act : Env -> M D
  tl : Nat -> Nat -> Nat -> Env -> M D
def keyI : Ky × D -> Option Int
  | (.k (.inl i), _) => some i
  | _ => none
def pairv : D -> Option (Ky × D)
  | .tup [k, v] => (keyOf k).map fun q => (q, v)
  | _ => none
def okInt (i : Int) : Bool := decide (i.natAbs.log2 < 1920)
def b1 (f : D -> M D) : List D -> M D
  | [d] => f d
  | _ => bad
def b2 (f : D -> D -> M D) : List D -> M D
  | [d, e] => f d e
  | _ => bad
def fLen (d : D) : M D := fun st => match d with
  | .str s => gd (decide (s.length <= sizeLine)) (ret (.int s.length)) st
  | d => match seqv st d with
    | some xs => .ok (.int xs.length) st
    | none => match dicv st d with
      | some kvs => .ok (.int kvs.length) st
      | none => .bad
def fAbs : D -> M D
  | .int i => ret (.int (if i < 0 then -i else i))
  | _ => bad
def fMin2 : D -> D -> M D
  | .int i, .int j => ret (.int (if j < i then j else i))
  | _, _ => bad
def fMax2 : D -> D -> M D
  | .int i, .int j => ret (.int (if j > i then j else i))
  | _, _ => bad
def lInt (st : Sto) (d : D) : Option (List Int) := match seqv st d with
  | some xs => (match d with
    | .tup _ => none
    | _ => optL intv xs)
  | none => none
def lBl (st : Sto) (d : D) : Option (List Bool) := match seqv st d with
  | some xs => (match d with
    | .tup _ => none
    | _ => optL blv xs)
  | none => none
def fMin1 (d : D) : M D := fun st => opt ((lInt st d).bind mn) (fun i => ret (.int i)) st
def fMax1 (d : D) : M D := fun st => opt ((lInt st d).bind mx) (fun i => ret (.int i)) st
def fSum (d : D) : M D := fun st => opt (lInt st d) (fun ns => ret (.int ns.sum)) st
def fAll (d : D) : M D := fun st => opt (lBl st d) (fun bs => ret (.bl (bs.all id))) st
def fAny (d : D) : M D := fun st => opt (lBl st d) (fun bs => ret (.bl (bs.any id))) st
def fTuple (d : D) : M D := fun st => opt (seqv st d) (fun xs => ret (.tup xs)) st
def fList (d : D) : M D := fun st => opt (seqv st d) (fun xs => ret (.lst xs)) st
def dInts (st : Sto) (d : D) : Option (List Int) := match dicv st d with
  | some kvs => optL keyI kvs
  | none => none
def lTups (st : Sto) (d : D) : Option (List (List Int)) := match seqv st d with
  | some xs => (match d with
    | .tup _ => none
    | _ => optL tupI xs)
  | none => none
def fSorted (d : D) : M D := fun st => match lInt st d with
  | some ns => .ok (.lst ((sortI ns).map .int)) st
  | none => match lTups st d with
    | some ls => .ok (.lst ((sortL ls).map fun l => .tup (l.map .int))) st
    | none => match dInts st d with
      | some ns => gd (decide (ns.length < 64)) (ret (.lst ((sortI ns).map .int))) st
      | none => match tupI d with
        | some ns => .ok (.lst ((sortI ns).map .int)) st
        | none => .bad
def fSsort (d : D) : M D := fun st => opt (lInt st d) (fun ns => gd (decide (ns.length < 64)) (ret (.lst ((sortI (dedI ns)).map .int)))) st
def fSlen (d : D) : M D := fun st => opt (lInt st d) (fun ns => gd (decide (ns.length < 64)) (ret (.int (dedI ns).length))) st
def fSuml : D -> D -> M D
  | d, .lst [] => fun st => opt ((lstv st d).bind (optL (lstv st))) (fun xss => gd (decide (xss.flatten.length <= sizeLine)) (ret (.lst xss.flatten))) st
  | _, _ => bad
def fMulE (a b : D) : M D := fun st => match a, b with
  | .tup xs, .int k => if D.purs xs = true /\ 0 <= k /\ k <= 1000 /\ xs.length <= 1000 then .ok (.tup (rep k.toNat xs)) st else .bad
  | _, _ => .bad
def fDict (d : D) : M D := fun st => opt ((lstv st d).bind (optL pairv)) (fun kvs => gd (kvs.all fun p => D.pur p.2) (ret (.dic (kvs.foldl (fun a p => dput p.1 p.2 a) [])))) st
def fInt : D -> M D
  | .bl c => ret (.int (if c then 1 else 0))
  | .int i => ret (.int i)
  | .str s => opt (PySem.intText? s) fun n => gd (decide (s.length <= 640)) (ret (.int n))
  | _ => bad
def fStr : D -> M D
  | .int i => gd (okInt i) (ret (.str (toString i)))
  | .str s => ret (.str s)
  | _ => bad
def fRepr (d : D) : M D := fun st => opt (toP false st 60 d) (fun p => gd (decide (p.showable = true /\ p.shown.length <= sizeLine /\ p.depth <= 60 /\ p.hasDict = false)) (ret (.str p.shown))) st
def fReprE (d : D) : M D := fun st => opt (toP true st 60 d) (fun p => gd (decide (p.showable = true /\ p.shown.length <= sizeLine /\ p.depth <= 60)) (ret (.str p.shown))) st
def fIsT (t : String) (d : D) : M D := fun st => opt (isTy st t d) (fun c => ret (.bl c)) st
def fIsC (T : Tbl) (cs : List Nat) : D -> M D
  | .exc c _ => ret (.bl (cs.any fun k => T.anc c k))
  | _ => bad
def fLrng : List D -> M D
  | [.int b] => gd (rgOk 0 b) (ret (.lst (rngN 0 1 b.toNat)))
  | [.int a, .int b] => gd (rgOk a b) (ret (.lst (rngN a 1 (b - a).toNat)))
  | _ => bad
def fTrng : List D -> M D
  | [.int b] => gd (rgOk 0 b) (ret (.tup (rngN 0 1 b.toNat)))
  | [.int a, .int b] => gd (rgOk a b) (ret (.tup (rngN a 1 (b - a).toNat)))
  | _ => bad
def biD (T : Tbl) (b : Bi) (ds : List D) : M D := match b with
  | .len => b1 fLen ds
  | .abs => b1 fAbs ds
  | .min2 => b2 fMin2 ds
  | .max2 => b2 fMax2 ds
  | .min1 => b1 fMin1 ds
  | .max1 => b1 fMax1 ds
  | .sum => b1 fSum ds
  | .all => b1 fAll ds
  | .any => b1 fAny ds
  | .tuple => b1 fTuple ds
  | .list => b1 fList ds
  | .sorted => b1 fSorted ds
  | .ssort => b1 fSsort ds
  | .slen => b1 fSlen ds
  | .suml => b2 fSuml ds
  | .dict => b1 fDict ds
  | .set => bad
  | .int => b1 fInt ds
  | .str => b1 fStr ds
  | .repr => b1 fRepr ds
  | .reprE => b1 fReprE ds
  | .landB => b1 landM ds
  | .mulE => b2 fMulE ds
  | .isT t => b1 (fIsT t) ds
  | .isC cs => b1 (fIsC T cs) ds
  | .lrng => fLrng ds
  | .trng => fTrng ds
def kndD (st : Sto) : D -> Nat
  | .str _ => 1
  | .int _ => 2
  | .tup _ => 3
  | .lst _ => 4
  | .dic _ => 5
  | .ref l => match st[l]? with
    | some (.lst _) => 4
    | some (.frl _) => 4
    | some (.dic _) => 5
    | _ => 0
  | _ => 0
def meK : Me -> Nat -> Bool
  | .append, k | .pop, k | .extend, k | .insert, k | .index, k | .count, k => k == 4
  | .popi, k => k == 4 || k == 5
  | .get, k | .setdefault, k | .update, k | .values, k => k == 5
  | .bitlen, k => k == 2
  | _, _ => false
def lcell (st : Sto) (f : Nat -> List D -> M D) : D -> M D
  | .ref l => match st[l]? with
    | some (.lst xs) => f l xs
    | _ => bad
  | _ => bad
def dcell (st : Sto) (f : Nat -> List (Ky × D) -> M D) : D -> M D
  | .ref l => match st[l]? with
    | some (.dic xs) => f l xs
    | _ => bad
  | _ => bad
def mAppend (o d : D) : M D := fun st => lcell st (fun l xs => gd (decide (xs.length < sizeLine)) fun st => let r := land d st; .ok .non (r.2.set l (.lst (xs ++ [r.1])))) o st
def mPop (o : D) : M D := fun st => lcell st (fun l xs => opt xs[xs.length - 1]? fun y => fun st => .ok y (st.set l (.lst xs.dropLast))) o st
def mPopi (o k : D) : M D := fun st => lcell st (fun l xs => opt (intv k) fun i => gd (decide (-(2 ^ 63) <= i /\ i < 2 ^ 63)) (opt (PySem.seqIndex? i xs.length) fun j => opt xs[j]? fun y => fun st => .ok y (st.set l (.lst (xs.eraseIdx j))))) o st
def mDpop (o k : D) : M D := fun st => dcell st (fun l kvs => opt (keyOf k) fun q => gd (okKeys q kvs) (opt (dget q kvs) fun y => fun st => .ok y (st.set l (.dic (ddel q kvs))))) o st
def mExtend (o d : D) : M D := fun st => lcell st (fun l xs => opt (lstv st d) fun ys => gd (decide (xs.length + ys.length <= sizeLine)) fun st => let r := lands ys st; .ok .non (r.2.set l (.lst (xs ++ r.1)))) o st
def mInsert (o i d : D) : M D := fun st => lcell st (fun l xs => opt (intv i) fun i => gd (decide (0 <= i /\ i < 2 ^ 62 /\ xs.length < sizeLine)) fun st => let r := land d st; .ok .non (r.2.set l (.lst (xs.take i.toNat ++ r.1 :: xs.drop i.toNat)))) o st
def dats (st : Sto) (o : D) : Option (List PyData) := match seqv st o with
  | some ys => optL (toP false st 65) ys
  | none => none
def mIndex (o d : D) : M D := fun st => opt (dats st o) (fun qs => opt (toP false st 66 d) fun p => gd (decide (SeqAt.shaped p = true /\ SeqAt.shaped (.list qs) = true)) (opt (qs.findIdx? fun z => PyData.eqv z p) fun j => ret (.int (j : Nat)))) st
def mCount (o d : D) : M D := fun st => opt (dats st o) (fun qs => opt (toP false st 66 d) fun p => gd (decide (SeqAt.shaped p = true /\ SeqAt.shaped (.list qs) = true)) (ret (.int (qs.countP fun z => PyData.eqv z p : Nat)))) st
def mGet (o k d : D) : M D := fun st => opt (dicv st o) (fun kvs => opt (keyOf k) fun q => gd (okKeys q kvs) (ret ((dget q kvs).getD d))) st
def mSetd (o k d : D) : M D := fun st => dcell st (fun l kvs => opt (keyOf k) fun q => gd (okKeys q kvs && decide (kvs.length < sizeLine)) (match dget q kvs with
  | some y => ret y
  | none => fun st => let r := land d st; .ok r.1 (r.2.set l (.dic (kvs ++ [(q, r.1)]))))) o st
def frD : D -> Option (List (Ky × D))
  | .dic ys => some ys
  | _ => none
def mUpdate (o d : D) : M D := fun st => dcell st (fun l kvs => opt (frD d) fun ys => gd (!ys.isEmpty && ys.all (fun p => D.pur p.2 && (kyK p.1 && okKeys p.1 kvs)) && decide (kvs.length + ys.length <= sizeLine)) fun st => .ok .non (st.set l (.dic (ys.foldl (fun a p => dput p.1 p.2 a) kvs)))) o st
def mValues (o : D) : M D := fun st => opt (dicv st o) (fun kvs => ret (.lst (kvs.map (·.2)))) st
def mBitlen : D -> M D
  | .int i => gd (decide (0 <= i)) (ret (.int (if i = 0 then 0 else i.natAbs.log2 + 1)))
  | _ => bad
def b0 (f : M D) : List D -> M D
  | [] => f
  | _ => bad
def meD (m : Me) (o : D) (ds : List D) : M D := match m with
  | .append => b1 (mAppend o) ds
  | .pop => b0 (mPop o) ds
  | .popi => fun st => match kndD st o with
    | 5 => b1 (mDpop o) ds st
    | _ => b1 (mPopi o) ds st
  | .extend => b1 (mExtend o) ds
  | .insert => b2 (mInsert o) ds
  | .index => b1 (mIndex o) ds
  | .count => b1 (mCount o) ds
  | .get => b2 (mGet o) ds
  | .setdefault => b2 (mSetd o) ds
  | .update => b1 (mUpdate o) ds
  | .values => b0 (mValues o) ds
  | .bitlen => b0 (mBitlen o) ds
  | _ => bad
def getI (a i : D) : M D := fun st => match i with
  | .int k => (match a with
    | .str z => if z.length <= sizeLine then (match L2.atI z.cps.toList k with
      | some c => .ok (.str ⟨#[c]⟩) st
      | none => .bad) else .bad
    | a => match seqv st a with
      | some xs => (match L2.atI xs k with
        | some y => .ok y st
        | none => .bad)
      | none => match dicv st a with
        | some kvs => if okKeys (.k (.inl k)) kvs then (match dget (.k (.inl k)) kvs with
          | some y => .ok y st
          | none => .bad) else .bad
        | none => .bad)
  | i => match keyOf i, dicv st a with
    | some q, some kvs => if okKeys q kvs then (match dget q kvs with
      | some y => .ok y st
      | none => .bad) else .bad
    | _, _ => .bad
def setI (o i d : D) : M Unit := fun st => match o with
  | .ref l => (match st[l]? with
    | some (.lst xs) => (match i with
      | .int k => (match L2.ixN xs.length k with
        | some j => (let r := land d st; .ok () (r.2.set l (.lst (xs.set j r.1))))
        | none => .bad)
      | _ => .bad)
    | some (.dic kvs) => (match keyOf i with
      | some q => if okKeys q kvs /\ kvs.length < sizeLine then (let r := land d st; .ok () (r.2.set l (.dic (dput q r.1 kvs)))) else .bad
      | none => .bad)
    | _ => .bad)
  | _ => .bad
def cutD (xs : List D) (lo hi : Option Int) : List D := (xs.drop (HT.sIx xs.length 0 lo)).take (HT.sIx xs.length xs.length hi - HT.sIx xs.length 0 lo)
def slcD (a : D) (lo hi : Option Int) : M D := fun st => match a with
  | .tup xs => .ok (.tup (cutD xs lo hi)) st
  | a => match lstv st a with
    | some xs => .ok (.lst (cutD xs lo hi)) st
    | none => .bad
def revD (a : D) : M D := fun st => match lstv st a with
  | some xs => .ok (.lst xs.reverse) st
  | none => .bad
end Fs
namespace Fs
open PySem
mutual
inductive Ex where
  | loc (i : Nat)
  | con (d : D)
  | bin (op : Bop) (a b : Ex)
  | neg (a : Ex)
  | nt (a : Cn)
  | cmp (op : Cop) (a b : Ex)
  | chn (o1 o2 : Cop) (a b c : Ex)
  | and2 (a b : Ex)
  | or2 (a b : Ex)
  | ife (c : Cn) (a b : Ex)
  | tup (es : List Ex)
  | lst (es : List Ex)
  | dct (kvs : List Kv)
  | sub (a i : Ex)
  | slc (a : Ex) (lo hi : Option Ex)
  | rev (a : Ex)
  | call (f : Nat) (es : List Ex)
  | callp (f : Nat) (es : List Ex) (perm : List (Sum Nat D))
  | tell (f q k : Nat)
  | act
  | bi (b : Bi) (es : List Ex)
  | me (m : Me) (o : Ex) (es : List Ex)
  | attr (e : Ex) (f : Str)
  | inP (neg : Bool) (i j k : Nat)
  | sbP (k i j : Nat)
  | mk (c : Nat) (es : List Ex)
  | lc (own : List Nat) (it : Ix) (tg : Tg) (ifs : List Cn) (e : Ex)
  | lc2 (own : List Nat) (it : Ix) (tg : Tg) (own2 : List Nat) (it2 : Ix) (tg2 : Tg) (e : Ex)
  | dc (own : List Nat) (it : Ix) (tg : Tg) (ifs : List Cn) (k v : Ex)
  | lci (own : List Nat) (i : Nat) (tg : Tg) (ifs : List Cn) (e : Ex)
  | dci (own : List Nat) (i : Nat) (tg : Tg) (ifs : List Cn) (k v : Ex)
inductive Cn where
  | nt (a : Cn)
  | and2 (a b : Cn)
  | or2 (a b : Cn)
  | ife (c a b : Cn)
  | val (e : Ex)
inductive Kv where
  | mk (k v : Ex)
inductive Ix where
  | val (e : Ex)
  | rng (es : List Ex)
  | enum (s : Ex) (k : Int)
  | zip (strict : Bool) (es : List Ex)
  | keys (e : Ex)
  | vals (e : Ex)
  | items (e : Ex)
inductive Tg where
  | nm (i : Nat)
  | tup (ts : List Tg)
  | sub (o i : Ex)
  | attr (o : Ex) (f : Str)
  | subP (k i j : Nat)
end
inductive Sx where
  | asg (t : Tg) (e : Ex)
  | aug (i : Nat) (op : Bop) (e : Ex)
  | xpr (e : Ex)
  | ret (e : Ex)
  | ret0
  | iff (c : Cn) (a b : List Sx)
  | forr (it : Ix) (t : Tg) (b : List Sx)
  | whl (c : Cn) (b : List Sx)
  | brk | cnt | pas
  | rse (c : Nat) (es : List Ex)
  | tri (b : List Sx) (hs : List (List Nat × Option Nat × List Sx))
inductive Src where
  | items (xs : List D)
  | cell (l : Nat)
inductive It where
  | one (s : Src) | enum (k : Int) (s : Src) | zip (strict : Bool) (ss : List Src)
def Src.at (s : Src) (i : Nat) (st : Sto) : Option (Option D) := match s with
  | .items xs => some xs[i]?
  | .cell l => match st[l]? with
    | some (.lst xs) => some xs[i]?
    | some (.frl xs) => some xs[i]?
    | _ => none
def Src.len (s : Src) (st : Sto) : Nat := match s with
  | .items xs => xs.length
  | .cell l => match st[l]? with
    | some (.lst xs) => xs.length
    | some (.frl xs) => xs.length
    | _ => 0
def allSome : List (Option D) -> Option (List D)
  | [] => some []
  | none :: _ => none
  | some d :: r => match allSome r with
    | some ds => some (d :: ds)
    | none => none
def zShort (strict : Bool) (os : List (Option D)) (ss : List Src) (i : Nat) (st : Sto) : Bool := !strict && (match os, ss with
  | [some _, none], [_, s2] => decide (s2.len st = i)
  | _, _ => false)
def It.next (t : It) (i : Nat) (st : Sto) : Option (Option D) := match t with
  | .one s => s.at i st
  | .enum k s => match s.at i st with
    | some (some d) => some (some (.tup [.int (k + (i : Nat)), d]))
    | some none => if s.len st = i then some none else none
    | none => none
  | .zip strict ss => match optL (fun s => Src.at s i st) ss with
    | some os => (match allSome os with
      | some ds => some (some (.tup ds))
      | none => if (os.all (·.isNone) && ss.all fun s => decide (s.len st = i)) = true then some none else (if zShort strict os ss i st = true then some none else none))
    | none => none
def It.len (t : It) (st : Sto) : Nat := match t with
  | .one s => s.len st
  | .enum _ s => s.len st
  | .zip _ ss => match ss with
    | [] => 0
    | s :: _ => s.len st
def keysD (kvs : List (Ky × D)) : Option (List D) := optL (fun p => match p.1 with
  | .k (.inl i) => some (.int i)
  | .k (.inr s) => some (.str s)
  | .t as => some (.tup (as.map fun a => match a with
    | .inl i => .int i
    | .inr s => .str s))) kvs
def srcOf (d : D) : M Src := fun st => match d with
  | .tup xs => .ok (.items xs) st
  | .lst xs => .ok (.items xs) st
  | .ref l => (match st[l]? with
    | some (.lst _) => .ok (.cell l) st
    | some (.frl _) => .ok (.cell l) st
    | _ => .bad)
  | _ => .bad
def mapM' {α β : Type} (f : α -> M β) : List α -> M (List β)
  | [] => ret []
  | x :: xs => bnd (f x) fun y => bnd (mapM' f xs) fun ys => ret (y :: ys)
def pkey (σ : Env) (i j : Nat) : Option Ky := match σ[i]?, σ[j]? with
  | some (some (.int a)), some (some (.int b)) => some (.t [.inl a, .inl b])
  | _, _ => none
def pdic (σ : Env) (k : Nat) (st : Sto) : Option (Nat × List (Ky × D)) := match σ[k]? with
  | some (some (.ref l)) => (match st[l]? with
    | some (.dic kvs) => if okKeys (.t []) kvs = true then some (l, kvs) else none
    | _ => none)
  | _ => none
def inPD (neg : Bool) (σ : Env) (i j k : Nat) : M D := fun st => opt (pkey σ i j) (fun q => opt (pdic σ k st) fun p => ret (.bl (if neg then !(dget q p.2).isSome else (dget q p.2).isSome))) st
def sbPD (σ : Env) (k i j : Nat) : M D := fun st => opt (pkey σ i j) (fun q => opt (pdic σ k st) fun p => opt (dget q p.2) fun v => ret v) st
def stPD (σ : Env) (k i j : Nat) (d : D) : M Env := fun st => opt (pkey σ i j) (fun q => opt (pdic σ k st) fun p => gd (decide (p.2.length < sizeLine)) fun st => .ok σ ((land d st).2.set p.1 (.dic (dput q (land d st).1 p.2)))) st
def wipe (σ : Env) (own : List Nat) : Env := own.foldr (fun i s => s.set i none) σ
def lcLoop (it : It) (turn : D -> Sto -> R (Option D)) : Nat -> Nat -> List D -> M (List D)
  | 0, _, _ => bad
  | n + 1, i, acc => fun st => match it.next i st with
    | none => .bad
    | some none => .ok acc st
    | some (some d) => match turn d st with
      | .ok (some y) st' => if acc.length < sizeLine then lcLoop it turn n (i + 1) (acc ++ [y]) st' else .bad
      | .ok none st' => lcLoop it turn n (i + 1) acc st'
      | _ => .bad
def vlsD (σ : Env) (i : Nat) (st : Sto) : Option (List (Ky × D)) := match σ[i]? with
  | some (some (.ref l)) => (match st[l]? with
    | some (.dic kvs) => if (okKeys (.k (.inl 0)) kvs && D.plns (kvs.map (·.2))) = true then some kvs else none
    | _ => none)
  | _ => none
def isoL (r : R (List D)) : M D := fun st => match r with
  | .ok ys [] => if D.plns ys = true then .ok (.lst ys) st else .bad
  | _ => .bad
def isoK (r : R (List (Ky × D))) : M D := fun st => match r with
  | .ok ys [] => if D.plns (ys.map (·.2)) = true then .ok (.dic ys) st else .bad
  | _ => .bad
def lcLoop2 (it : It) (turn : D -> List D -> Sto -> R (List D)) : Nat -> Nat -> List D -> M (List D)
  | 0, _, _ => bad
  | n + 1, i, acc => fun st => match it.next i st with
    | none => .bad
    | some none => .ok acc st
    | some (some d) => match turn d acc st with
      | .ok acc' st' => lcLoop2 it turn n (i + 1) acc' st'
      | _ => .bad
def dcLoop (it : It) (turn : D -> Sto -> R (Option (Ky × D))) : Nat -> Nat -> List (Ky × D) -> M (List (Ky × D))
  | 0, _, _ => bad
  | n + 1, i, acc => fun st => match it.next i st with
    | none => .bad
    | some none => .ok acc st
    | some (some d) => match turn d st with
      | .ok (some (k, y)) st' => if acc.length < sizeLine /\ okKeys k acc = true /\ D.pur y = true then dcLoop it turn n (i + 1) (dput k y acc) st' else .bad
      | .ok none st' => dcLoop it turn n (i + 1) acc st'
      | _ => .bad
def ofTup : D -> Sto -> Option (List D)
  | .tup xs, _ => some xs
  | .lst xs, _ => some xs
  | .ref l, st => match st[l]? with
    | some (.lst xs) => some xs
    | _ => none
  | _, _ => none
mutual
def ev (T : Tbl) : Ex -> Env -> M D
  | .loc i, σ => match σ[i]? with
    | some (some d) => ret d
    | _ => bad
  | .con d, _ => ret d
  | .bin op a b, σ => bnd (ev T a σ) fun x => bnd (ev T b σ) fun y => binD op x y
  | .neg a, σ => bnd (ev T a σ) fun x => opt (intv x) fun i => ret (.int (-i))
  | .nt a, σ => bnd (evT T a σ) fun c => ret (.bl (!c))
  | .cmp op a b, σ => bnd (ev T a σ) fun x => bnd (ev T b σ) fun y => fun st => opt (cmpD op x y st) (fun c => ret (.bl c)) st
  | .chn o1 o2 a b c, σ => bnd (ev T a σ) fun x => opt (intv x) fun i => bnd (ev T b σ) fun y => opt (intv y) fun j => opt (cmpI o1 i j) fun k => match k with
      | true => bnd (ev T c σ) fun z => opt (intv z) fun m => opt (cmpI o2 j m) fun r => ret (.bl r)
      | false => ret (.bl false)
  | .and2 a b, σ => bnd (ev T a σ) fun x => opt (blv x) fun c => match c with
    | true => ev T b σ
    | false => ret (.bl false)
  | .or2 a b, σ => bnd (ev T a σ) fun x => opt (blv x) fun c => match c with
    | true => ret (.bl true)
    | false => ev T b σ
  | .ife c a b, σ => bnd (evT T c σ) fun k => match k with
    | true => ev T a σ
    | false => ev T b σ
  | .tup es, σ => bnd (evs T es σ) fun ds => gd (decide (ds.length <= sizeLine)) (ret (.tup ds))
  | .lst es, σ => bnd (evs T es σ) fun ds => gd (decide (ds.length <= sizeLine)) (ret (.lst ds))
  | .dct kvs, σ => bnd (evkv T kvs σ) fun r => gd (match r with
    | [] => true
    | p :: _ => okKeys p.1 r && decide (r.length <= 15)) (ret (.dic (r.foldl (fun a p => dput p.1 p.2 a) [])))
  | .sub a i, σ => bnd (ev T a σ) fun x => bnd (ev T i σ) fun y => getI x y
  | .slc a lo hi, σ => bnd (ev T a σ) fun x => bnd (evo T lo σ) fun l => bnd (evo T hi σ) fun h => slcD x l h
  | .rev a, σ => bnd (ev T a σ) fun x => revD x
  | .call f es, σ => bnd (evs T es σ) fun ds => T.fn f ds
  | .callp f es perm, σ => bnd (evs T es σ) fun ds => opt (optL (fun p => match p with
      | .inl i => ds[i]?
      | .inr d => some d) perm) fun as => T.fn f as
  | .tell f q k, σ => T.tl f q k σ
  | .act, σ => T.act σ
  | .bi b es, σ => bnd (evs T es σ) fun ds => biD T b ds
  | .me m o es, σ => bnd (ev T o σ) fun x => fun st1 => gd (meK m (kndD st1 x)) (bnd (evs T es σ) fun ds => fun st2 => gd (kndD st1 x == kndD st2 x) (meD m x ds) st2) st1
  | .attr e f, σ => bnd (ev T e σ) fun x => match x with
    | .exc c [y] => gd (decide (T.fld c = some f)) (ret y)
    | _ => bad
  | .inP neg i j k, σ => inPD neg σ i j k
  | .sbP k i j, σ => sbPD σ k i j
  | .mk c es, σ => bnd (evs T es σ) fun ds => match T.fld c with
    | some _ => (match ds with
      | [d] => bnd (landM d) fun d' => ret (.exc c [d'])
      | _ => bad)
    | none => ret (.exc c [])
  | .lc own it tg ifs e, σ => bnd (evI T it σ) fun t => fun st =>
      bnd (lcLoop t (fun d => bnd (asgT T tg d (wipe σ own)) fun σ' => bnd (evTs T ifs σ') fun b => match b with
        | true => bnd (ev T e σ') fun y => ret (some y)
        | false => ret none) (t.len st + 1) 0 []) (fun ys => ret (.lst ys)) st
  | .lc2 own it tg own2 it2 tg2 e, σ => bnd (evI T it σ) fun t => fun st =>
      bnd (lcLoop2 t (fun d acc => bnd (asgT T tg d (wipe σ own)) fun σ' => bnd (evI T it2 σ') fun t2 => fun st2 =>
        lcLoop t2 (fun d2 => bnd (asgT T tg2 d2 (wipe σ' own2)) fun σ2 => bnd (ev T e σ2) fun y => ret (some y)) (t2.len st2 + 1) 0 acc st2) (t.len st + 1) 0 []) (fun ys => ret (.lst ys)) st
  | .dc own it tg ifs k v, σ => bnd (evI T it σ) fun t => fun st =>
      bnd (dcLoop t (fun d => bnd (asgT T tg d (wipe σ own)) fun σ' => bnd (evTs T ifs σ') fun b => match b with
        | true => bnd (ev T k σ') fun x => bnd (ev T v σ') fun y => opt (keyOf x) fun q => ret (some (q, y))
        | false => ret none) (t.len st + 1) 0 []) (fun ys => ret (.dic ys)) st
  | .lci own i tg ifs e, σ => fun st => opt (vlsD σ i st) (fun kvs => isoL (lcLoop (.one (.items (kvs.map (·.2)))) (fun d => bnd (asgT T tg d (wipe (List.replicate σ.length none) own)) fun σ' => bnd (evTs T ifs σ') fun b => match b with
        | true => bnd (ev T e σ') fun y => ret (some y)
        | false => ret none) (kvs.length + 1) 0 [] [])) st
  | .dci own i tg ifs k v, σ => fun st => opt (vlsD σ i st) (fun kvs => isoK (dcLoop (.one (.items (kvs.map (·.2)))) (fun d => bnd (asgT T tg d (wipe (List.replicate σ.length none) own)) fun σ' => bnd (evTs T ifs σ') fun b => match b with
        | true => bnd (ev T k σ') fun x => bnd (ev T v σ') fun y => opt (keyOf x) fun q => ret (some (q, y))
        | false => ret none) (kvs.length + 1) 0 [] [])) st
def evT (T : Tbl) : Cn -> Env -> M Bool
  | .nt a, σ => bnd (evT T a σ) fun c => ret (!c)
  | .and2 a b, σ => bnd (evT T a σ) fun c => match c with
    | true => evT T b σ
    | false => ret false
  | .or2 a b, σ => bnd (evT T a σ) fun c => match c with
    | true => ret true
    | false => evT T b σ
  | .ife c a b, σ => bnd (evT T c σ) fun k => match k with
    | true => evT T a σ
    | false => evT T b σ
  | .val e, σ => bnd (ev T e σ) fun x => fun st => opt (truth st x) ret st
def evs (T : Tbl) : List Ex -> Env -> M (List D)
  | [], _ => ret []
  | e :: es, σ => bnd (ev T e σ) fun x => bnd (evs T es σ) fun xs => ret (x :: xs)
def evTs (T : Tbl) : List Cn -> Env -> M Bool
  | [], _ => ret true
  | e :: es, σ => bnd (evT T e σ) fun c => match c with
    | true => evTs T es σ
    | false => ret false
def evo (T : Tbl) : Option Ex -> Env -> M (Option Int)
  | none, _ => ret none
  | some e, σ => bnd (ev T e σ) fun x => opt (intv x) fun i => ret (some i)
def evkv (T : Tbl) : List Kv -> Env -> M (List (Ky × D))
  | [], _ => ret []
  | .mk k v :: r, σ => bnd (ev T k σ) fun x => bnd (ev T v σ) fun y => opt (keyOf x) fun q => bnd (evkv T r σ) fun r => ret ((q, y) :: r)
def evI (T : Tbl) : Ix -> Env -> M It
  | .val e, σ => bnd (ev T e σ) fun x => bnd (srcOf x) fun s => ret (.one s)
  | .rng es, σ => bnd (evs T es σ) fun ds => opt (rngL ds) fun xs => ret (.one (.items xs))
  | .enum e k, σ => bnd (ev T e σ) fun x => bnd (srcOf x) fun s => ret (.enum k s)
  | .zip b es, σ => bnd (evs T es σ) fun ds => bnd (mapM' srcOf ds) fun ss => ret (.zip b ss)
  | .keys e, σ => bnd (ev T e σ) fun x => fun st => opt ((dicv st x).bind keysD) (fun ks => ret (.one (.items ks))) st
  | .vals e, σ => bnd (ev T e σ) fun x => fun st => opt (dicv st x) (fun kvs => ret (.one (.items (kvs.map (·.2))))) st
  | .items e, σ => bnd (ev T e σ) fun x => fun st => opt (dicv st x) (fun kvs => opt (keysD kvs) fun ks => ret (.one (.items ((ks.zip (kvs.map (·.2))).map fun p => .tup [p.1, p.2])))) st
def asgT (T : Tbl) : Tg -> D -> Env -> M Env
  | .nm i, d, σ => bnd (landM d) fun d' => ret (σ.set i (some d'))
  | .tup ts, d, σ => fun st => match ofTup d st with
    | some ds => asgTs T ts ds σ st
    | none => .bad
  | .sub o i, d, σ => bnd (ev T o σ) fun x => bnd (ev T i σ) fun y => bnd (setI x y d) fun _ => ret σ
  | .attr _ _, _, _ => bad
  | .subP k i j, d, σ => stPD σ k i j d
def asgTs (T : Tbl) : List Tg -> List D -> Env -> M Env
  | [], [], σ => ret σ
  | t :: ts, d :: ds, σ => bnd (asgT T t d σ) fun σ' => asgTs T ts ds σ'
  | _, _, _ => bad
end
end Fs
namespace Fs
open PySem
inductive Fl where
  | nx (σ : Env) | br (σ : Env) | ct (σ : Env) | rt (d : D) | ex (σ : Env) (e : D)
def lft {α : Type} (σ : Env) (m : M α) (f : α -> M Fl) : M Fl := fun s => match m s with
  | .ok a s' => f a s'
  | .exc e s' => .ok (.ex σ e) s'
  | .bad => .bad
def seqF (m : M Fl) (k : Env -> M Fl) : M Fl := fun s => match m s with
  | .ok (.nx σ) s' => k σ s'
  | .ok f s' => .ok f s'
  | _ => .bad
def whLoop (c : Env -> M Bool) (b : Env -> M Fl) : Nat -> Env -> M Fl
  | 0, _ => bad
  | n + 1, σ => lft σ (c σ) fun k => match k with
    | false => ret (.nx σ)
    | true => fun s => match b σ s with
      | .ok (.nx σ') s' => whLoop c b n σ' s'
      | .ok (.ct σ') s' => whLoop c b n σ' s'
      | .ok (.br σ') s' => .ok (.nx σ') s'
      | .ok f s' => .ok f s'
      | _ => .bad
def forLoop (it : It) (g : D -> Env -> M Env) (b : Env -> M Fl) : Nat -> Nat -> Env -> M Fl
  | 0, _, _ => bad
  | n + 1, i, σ => fun s => match it.next i s with
    | none => .bad
    | some none => .ok (.nx σ) s
    | some (some d) => match noX (g d σ) s with
      | .ok σ1 s1 => (match b σ1 s1 with
        | .ok (.nx σ') s' => forLoop it g b n (i + 1) σ' s'
        | .ok (.ct σ') s' => forLoop it g b n (i + 1) σ' s'
        | .ok (.br σ') s' => .ok (.nx σ') s'
        | .ok f s' => .ok f s'
        | _ => .bad)
      | _ => .bad
def wfuel : Nat := 1000000
def outS (i : Option Nat) (σ : Env) : Env := match i with
  | some j => σ.set j none
  | none => σ
def inS (i : Option Nat) (e : D) (σ : Env) : Env := match i with
  | some j => σ.set j (some e)
  | none => σ
def outF (i : Option Nat) (m : M Fl) : M Fl := fun s => match m s with
  | .ok (.nx σ) s' => .ok (.nx (outS i σ)) s'
  | .ok (.br σ) s' => .ok (.br (outS i σ)) s'
  | .ok (.ct σ) s' => .ok (.ct (outS i σ)) s'
  | .ok (.rt d) s' => .ok (.rt d) s'
  | _ => .bad
mutual
def exS (T : Tbl) : Sx -> Env -> M Fl
  | .asg t e, σ => lft σ (ev T e σ) fun x => bnd (noX (asgT T t x σ)) fun σ' => ret (.nx σ')
  | .aug i op e, σ => match (σ[i]?).getD none with
    | some x => lft σ (ev T e σ) fun y => lft σ (binD op x y) fun z => bnd (landM z) fun z' => ret (.nx (σ.set i (some z')))
    | none => bad
  | .xpr e, σ => lft σ (ev T e σ) fun _ => ret (.nx σ)
  | .ret e, σ => lft σ (ev T e σ) fun x => ret (.rt x)
  | .ret0, _ => ret (.rt .non)
  | .iff c a b, σ => lft σ (evT T c σ) fun k => match k with
    | true => exL T a σ
    | false => exL T b σ
  | .forr it t b, σ => lft σ (evI T it σ) fun w => fun s => forLoop w (fun d σ => asgT T t d σ) (fun σ => exL T b σ) (w.len s + 1) 0 σ s
  | .whl c b, σ => whLoop (fun σ => evT T c σ) (fun σ => exL T b σ) wfuel σ
  | .brk, σ => ret (.br σ)
  | .cnt, σ => ret (.ct σ)
  | .pas, σ => ret (.nx σ)
  | .rse c es, σ => lft σ (ev T (.mk c es) σ) fun x => ret (.ex σ x)
  | .tri b hs, σ => fun s => match exL T b σ s with
    | .ok (.ex σ' e) s' => exH T hs e σ' s'
    | r => r
def exL (T : Tbl) : List Sx -> Env -> M Fl
  | [], σ => ret (.nx σ)
  | x :: xs, σ => seqF (exS T x σ) fun σ' => exL T xs σ'
def exH (T : Tbl) : List (List Nat × Option Nat × List Sx) -> D -> Env -> M Fl
  | [], e, σ => ret (.ex σ e)
  | (cs, i, b) :: hs, e, σ => match e with
    | .exc c _ => (match cs.any fun k => T.anc c k with
      | true => outF i (exL T b (inS i e σ))
      | false => exH T hs e σ)
    | _ => bad
end
structure Fn where
  np : Nat
  ns : Nat
  body : List Sx
structure Pr where
  fns : Nat -> Option Fn
  fld : Nat -> Option Str
  anc : Nat -> Nat -> Bool
  lams : Nat -> Option (Str × Ex)
def outR (r : R Fl) : R D := match r with
  | .ok (.rt d) s => .ok d s
  | .ok (.nx _) s => .ok .non s
  | .ok (.ex _ e) s => .exc e s
  | _ => .bad
def runF (P : Pr) (T : Tbl) (f : Nat) (ds : List D) : M D := fun st => match P.fns f with
    | some F => (match decide (ds.length = F.np) with
      | true => leaveD st (outR (exL T F.body ((lands ds st).1.map some ++ List.replicate (F.ns - F.np) none) (lands ds st).2))
      | false => .bad)
    | none => .bad
def isTab (st : Sto) (q : Nat) (l : Option (Str × Ex)) : Bool := match st[q]?, l with
  | some (.lam 0 [.str n]), some p => decide (n = p.1)
  | _, _ => false
def actM (T : Tbl) (e : Option (Str × Ex)) (l : Nat) (σ : Env) (σ' : Env) : M D := match (σ'[0]? : Option (Option D)) with
  | some (some (.ref l')) => (match decide (l' = l), e with
    | true, some e => ev T e.2 σ
    | _, _ => bad)
  | _ => bad
def tellM (P : Pr) (T0 T : Tbl) (f q k : Nat) (σ : Env) : M D := fun st => match isTab st q (P.lams k) with
  | true => (match P.fns f with
    | some F => (match decide (F.np = 1) with
      | true => leaveD st (outR (exL { T with act := actM T0 (P.lams k) st.length σ } F.body (some (.ref st.length) :: List.replicate (F.ns - 1) none) (st ++ [.lam 1 []])))
      | false => .bad)
    | none => .bad)
  | false => .bad
def Pr.mk2 (P : Pr) (c : (Nat -> List D -> M D) × (Nat -> Nat -> Nat -> Env -> M D)) : Tbl := ⟨c.1, P.fld, P.anc, fun _ => bad, c.2⟩
def core (P : Pr) : Nat -> (Nat -> List D -> M D) × (Nat -> Nat -> Nat -> Env -> M D)
  | 0 => (fun _ _ => bad, fun _ _ _ _ => bad)
  | 1 => (runF P (P.mk2 (core P 0)), fun _ _ _ _ => bad)
  | n + 2 => (runF P (P.mk2 (core P (n + 1))), tellM P (P.mk2 (core P n)) (P.mk2 (core P (n + 1))))
def call (P : Pr) (n : Nat) : Nat -> List D -> M D := (core P n).1
def Pr.tbl (P : Pr) (n : Nat) : Tbl := ⟨call P n, P.fld, P.anc, fun _ => bad, (core P n).2⟩
theorem call_succ {P : Pr} {n f : Nat} {ds : List D} {st : Sto} : call P (n + 1) f ds st = runF P (P.tbl n) f ds st := by cases n <;> rfl
theorem tbl_tl {P : Pr} {n : Nat} : (P.tbl (n + 2)).tl = tellM P (P.tbl n) (P.tbl (n + 1)) := rfl
theorem tbl_tl0 {P : Pr} : (P.tbl 0).tl = fun _ _ _ _ => bad := rfl
theorem tbl_tl1 {P : Pr} : (P.tbl 1).tl = fun _ _ _ _ => bad := rfl
end Fs
namespace Fs
open PySem L2
structure Wc where
  K : PySem.W.Frag
  ca : Nat -> Addr
  fl : Nat -> Option Str
  gb : Option (List Addr × Hp)
  tb : Str -> Option Addr
def exoH (a C : Addr) (dx : Option Addr) : HO := .ext fun h => ∃ (oe : Obj) (vs : Array Value), h.get? a = some oe /\ oe.cls = .ref C /\ oe.dict = dx /\ oe.data = .fields vs
def HCell : HO -> Bool
  | .lst _ | .dK _ | .dT _ | .set _ _ => true
  | .frz _ (.lst _) | .frz _ (.ext _) | .tbl _ => true
  | _ => false
def RpL (Z : Wc) (H : Hp) (a : Addr) : Nat -> List D -> Prop
  | 0, [.str q] => Z.tb q = some a /\ LamX.TabS H a q
  | 1, [] => ∃ o φ, H a = some (.frz o (.ext φ))
  | _, _ => False
def Gb (Z : Wc) (ρ : List Addr) (H : Hp) : Prop := ∀ p, Z.gb = some p -> (∃ N, ρ = p.1 ++ N) /\ ∀ a o, p.2 a = some o -> HCell o = false -> H a = some o
section
variable (Z : Wc) (ρ : List Addr) (H : Hp)
mutual
def Rp : D -> V -> List Addr -> Prop
  | .non, v, F => v = .non /\ F = []
  | .bl b, v, F => v = .bl b /\ F = []
  | .int i, v, F => v = .int i /\ F = []
  | .str s, v, F => v = .str s /\ F = []
  | .tup ds, v, F => ∃ a vs, v = .ref a /\ SqT Z.K H a vs /\ Rps ds vs F
  | .ref l, v, F => ∃ a, ρ[l]? = some a /\ v = .ref a /\ F = []
  | .lst ds, v, F => ∃ a vs G, v = .ref a /\ H a = some (.lst vs) /\ Rps ds vs G /\ F = a :: G
  | .frl ds, v, F => ∃ a o vs G, v = .ref a /\ H a = some (.frz o (.lst vs)) /\ Rps ds vs G /\ F = a :: G
  | .dic kvs, v, F => ∃ a G, v = .ref a /\ F = a :: G /\
      ((∃ ws, H a = some (.dK ws) /\ RpK kvs ws G) ∨ ∃ ws, H a = some (.dT ws) /\ RpT kvs ws G)
  | .set xs, v, F => ∃ a S, v = .ref a /\ H a = some (.set S xs.length) /\ xs.Nodup /\ (∀ i, S i = xs.contains i) /\ F = [a]
  | .exc c fs, v, F => ∃ a dx, v = .ref a /\ H a = some (exoH a (Z.ca c) dx) /\ RpX (Z.fl c) dx fs /\ F = []
  | .lam n cs, v, F => ∃ a, v = .ref a /\ F = [a] /\ RpL Z H a n cs
def RpX (f : Option Str) (dx : Option Addr) : List D -> Prop
  | [] => f = none /\ dx = none
  | d :: r => r = [] /\ ∃ n x u, f = some n /\ dx = some x /\ H x = some (.xd [(n, u)]) /\ Rp d u []
def Rps : List D -> List V -> List Addr -> Prop
  | [], vs, F => vs = [] /\ F = []
  | d :: ds, vs, F => ∃ v ws F1 F2, vs = v :: ws /\ Rp d v F1 /\ Rps ds ws F2 /\ F = F1 ++ F2
def RpK : List (Ky × D) -> List (L2.Key × V) -> List Addr -> Prop
  | [], ws, F => ws = [] /\ F = []
  | (k, d) :: r, ws, F => ∃ j v ws' F1 F2, k = .k j /\ ws = (j, v) :: ws' /\ Rp d v F1 /\ RpK r ws' F2 /\ F = F1 ++ F2
def RpT : List (Ky × D) -> List (List L2.Key × V) -> List Addr -> Prop
  | [], ws, F => ws = [] /\ F = []
  | (k, d) :: r, ws, F => ∃ j v ws' F1 F2, k = .t j /\ ws = (j, v) :: ws' /\ Rp d v F1 /\ RpT r ws' F2 /\ F = F1 ++ F2
end
end
def isCell : D -> Bool
  | .lst _ | .frl _ | .dic _ | .set _ | .lam _ _ => true
  | _ => false
structure SR (Z : Wc) (ρ : List Addr) (st : Sto) (H : Hp) : Prop where
  len : ρ.length = st.length
  nd : ρ.Nodup
  kind : ∀ (l : Nat) (c : D), st[l]? = some c -> isCell c = true
  cell : ∀ (l : Nat) (c : D) (a : Addr), st[l]? = some c -> ρ[l]? = some a -> Rp Z ρ H c (.ref a) [a]
  gb : Gb Z ρ H
def ER (Z : Wc) (ρ : List Addr) (H : Hp) (env : Env) (σ : L2.St) : Prop :=
  env.length = σ.length /\ ∀ (i : Nat) (d : D), env[i]? = some (some d) -> ∃ v, σ[i]? = some (some v) /\ Rp Z ρ H d v []
def Stp (ρ : List Addr) (H : Hp) (ρ' : List Addr) (H' : Hp) (F : List Addr) : Prop :=
  ∃ N, ρ' = ρ ++ N /\ (N ++ F).Nodup /\ (∀ a ∈ N ++ F, H a = none) /\ ∀ a o, H a = some o -> a ∉ ρ -> H' a = some o
section
variable {Z : Wc} {ρ ρ' ρ₁ ρ₂ : List Addr} {H H' H₁ H₂ : Hp} {st st' st₁ : Sto} {F F' F₁ F₂ : List Addr}
theorem Rps.length : ∀ {ds : List D} {vs : List V} {F : List Addr}, Rps Z ρ H ds vs F -> ds.length = vs.length
  | [], vs, F, h => by obtain ⟨rfl, _⟩ := h; rfl
  | d :: ds, vs, F, h => by
    obtain ⟨v, ws, F1, F2, rfl, _, h2, _⟩ := h
    simp [Rps.length h2]
theorem RpL.hc {a : Addr} : ∀ {n : Nat} {cs : List D}, RpL Z H a n cs -> ∃ o, H a = some o /\ HCell o = true := by
  intro n cs h
  unfold RpL at h
  split at h
  · obtain ⟨_, ps, e, _⟩ := h; exact ⟨_, e, rfl⟩
  · obtain ⟨o, φ, e⟩ := h; exact ⟨_, e, rfl⟩
  · exact h.elim
theorem RpL.stay {a : Addr} (ht : ∀ a o, H a = some o -> HCell o = false -> H' a = some o) (hk : ∀ o, H a = some o -> H' a = some o) : ∀ {n : Nat} {cs : List D}, RpL Z H a n cs -> RpL Z H' a n cs := by
  intro n cs h
  unfold RpL at h ⊢
  split at h
  · obtain ⟨z, ps, e, t, k⟩ := h
    exact ⟨z, ps, hk _ e, t, fun pos cv z => let ⟨c, e1, e2⟩ := k pos cv z; ⟨c, e1, ht _ _ e2 rfl⟩⟩
  · obtain ⟨o, φ, e⟩ := h; exact ⟨o, φ, hk _ e⟩
  · exact h.elim
mutual
theorem Rp.there : ∀ {d : D} {v : V} {F : List Addr}, Rp Z ρ H d v F -> ∀ a ∈ F, H a ≠ none
  | .non, v, F, h, a, ha => by obtain ⟨_, rfl⟩ := h; cases ha
  | .bl b, v, F, h, a, ha => by obtain ⟨_, rfl⟩ := h; cases ha
  | .int i, v, F, h, a, ha => by obtain ⟨_, rfl⟩ := h; cases ha
  | .str s, v, F, h, a, ha => by obtain ⟨_, rfl⟩ := h; cases ha
  | .tup ds, v, F, h, a, ha => by obtain ⟨_, _, _, _, h3⟩ := h; exact Rps.there h3 a ha
  | .ref l, v, F, h, a, ha => by obtain ⟨_, _, _, rfl⟩ := h; cases ha
  | .lst ds, v, F, h, a, ha => by
    obtain ⟨b, vs, G, _, hb, h3, rfl⟩ := h
    rcases List.mem_cons.mp ha with rfl | ha
    · rw [hb]; exact nofun
    · exact Rps.there h3 a ha
  | .frl ds, v, F, h, a, ha => by
    obtain ⟨b, o, vs, G, _, hb, h3, rfl⟩ := h
    rcases List.mem_cons.mp ha with rfl | ha
    · rw [hb]; exact nofun
    · exact Rps.there h3 a ha
  | .dic kvs, v, F, h, a, ha => by
    obtain ⟨b, G, _, rfl, h3⟩ := h
    rcases h3 with ⟨ws, hb, h4⟩ | ⟨ws, hb, h4⟩
    · rcases List.mem_cons.mp ha with rfl | ha
      · rw [hb]; exact nofun
      · exact RpK.there h4 a ha
    · rcases List.mem_cons.mp ha with rfl | ha
      · rw [hb]; exact nofun
      · exact RpT.there h4 a ha
  | .set xs, v, F, h, a, ha => by
    obtain ⟨b, S, _, hb, _, _, rfl⟩ := h
    rcases List.mem_cons.mp ha with rfl | ha
    · rw [hb]; exact nofun
    · cases ha
  | .exc _ _, v, F, h, a, ha => by obtain ⟨_, _, _, _, _, rfl⟩ := h; cases ha
  | .lam n cs, v, F, h, a, ha => by
    obtain ⟨b, _, rfl, h3⟩ := h
    rcases List.mem_cons.mp ha with rfl | ha
    · obtain ⟨o, e, _⟩ := RpL.hc h3
      rw [e]; exact nofun
    · cases ha
theorem Rps.there : ∀ {ds : List D} {vs : List V} {F : List Addr}, Rps Z ρ H ds vs F -> ∀ a ∈ F, H a ≠ none
  | [], vs, F, h, a, ha => by obtain ⟨_, rfl⟩ := h; cases ha
  | d :: ds, vs, F, h, a, ha => by
    obtain ⟨v, ws, F1, F2, rfl, h1, h2, rfl⟩ := h
    rcases List.mem_append.mp ha with ha | ha
    · exact Rp.there h1 a ha
    · exact Rps.there h2 a ha
theorem RpK.there : ∀ {ds : List (Ky × D)} {vs : List (L2.Key × V)} {F : List Addr}, RpK Z ρ H ds vs F -> ∀ a ∈ F, H a ≠ none
  | [], vs, F, h, a, ha => by obtain ⟨_, rfl⟩ := h; cases ha
  | (k, d) :: ds, vs, F, h, a, ha => by
    obtain ⟨j, v, ws, F1, F2, _, rfl, h1, h2, rfl⟩ := h
    rcases List.mem_append.mp ha with ha | ha
    · exact Rp.there h1 a ha
    · exact RpK.there h2 a ha
theorem RpT.there : ∀ {ds : List (Ky × D)} {vs : List (List L2.Key × V)} {F : List Addr}, RpT Z ρ H ds vs F -> ∀ a ∈ F, H a ≠ none
  | [], vs, F, h, a, ha => by obtain ⟨_, rfl⟩ := h; cases ha
  | (k, d) :: ds, vs, F, h, a, ha => by
    obtain ⟨j, v, ws, F1, F2, _, rfl, h1, h2, rfl⟩ := h
    rcases List.mem_append.mp ha with ha | ha
    · exact Rp.there h1 a ha
    · exact RpT.there h2 a ha
end
theorem SqT.stay {K : PySem.W.Frag} (ht : ∀ a o, H a = some o -> HCell o = false -> H' a = some o) {a : Addr} {xs : List V} (h : SqT K H a xs) : SqT K H' a xs := by
  rcases h with h | h
  · refine .inl ?_
    rcases h with h | ⟨ob, h⟩
    · exact .inl (ht a _ h rfl)
    · exact .inr ⟨ob, ht a _ h rfl⟩
  · exact .inr h
mutual
theorem Rp.stay (hr : ∀ (l : Nat) (a : Addr), ρ[l]? = some a -> ρ'[l]? = some a) (ht : ∀ a o, H a = some o -> HCell o = false -> H' a = some o) : ∀ {d : D} {v : V} {F : List Addr}, (∀ a ∈ F, ∀ o, H a = some o -> H' a = some o) -> Rp Z ρ H d v F -> Rp Z ρ' H' d v F
  | .non, v, F, hk, h => h
  | .bl b, v, F, hk, h => h
  | .int i, v, F, hk, h => h
  | .str s, v, F, hk, h => h
  | .tup ds, v, F, hk, h => by
    obtain ⟨a, vs, e, h2, h3⟩ := h
    exact ⟨a, vs, e, SqT.stay ht h2, Rps.stay hr ht hk h3⟩
  | .ref l, v, F, hk, h => by
    obtain ⟨a, h1, e, f⟩ := h
    exact ⟨a, hr l a h1, e, f⟩
  | .lst ds, v, F, hk, h => by
    obtain ⟨a, vs, G, e, h2, h3, rfl⟩ := h
    exact ⟨a, vs, G, e, hk a List.mem_cons_self _ h2, Rps.stay hr ht (fun b hb => hk b (List.mem_cons_of_mem _ hb)) h3, rfl⟩
  | .frl ds, v, F, hk, h => by
    obtain ⟨a, o, vs, G, e, h2, h3, rfl⟩ := h
    exact ⟨a, o, vs, G, e, hk a List.mem_cons_self _ h2, Rps.stay hr ht (fun b hb => hk b (List.mem_cons_of_mem _ hb)) h3, rfl⟩
  | .dic kvs, v, F, hk, h => by
    obtain ⟨a, G, e, rfl, h3⟩ := h
    refine ⟨a, G, e, rfl, ?_⟩
    rcases h3 with ⟨ws, hb, h4⟩ | ⟨ws, hb, h4⟩
    · exact .inl ⟨ws, hk a List.mem_cons_self _ hb, RpK.stay hr ht (fun b hb => hk b (List.mem_cons_of_mem _ hb)) h4⟩
    · exact .inr ⟨ws, hk a List.mem_cons_self _ hb, RpT.stay hr ht (fun b hb => hk b (List.mem_cons_of_mem _ hb)) h4⟩
  | .set xs, v, F, hk, h => by
    obtain ⟨a, S, e, hb, n, z, rfl⟩ := h
    exact ⟨a, S, e, hk a List.mem_cons_self _ hb, n, z, rfl⟩
  | .exc c fs, v, F, hk, h => by
    obtain ⟨a, dx, e, h2, h3, f⟩ := h
    exact ⟨a, dx, e, ht a _ h2 rfl, RpX.stay hr ht h3, f⟩
  | .lam n cs, v, F, hk, h => by
    obtain ⟨a, e, rfl, h3⟩ := h
    exact ⟨a, e, rfl, RpL.stay ht (hk a List.mem_cons_self) h3⟩
theorem RpX.stay (hr : ∀ (l : Nat) (a : Addr), ρ[l]? = some a -> ρ'[l]? = some a) (ht : ∀ a o, H a = some o -> HCell o = false -> H' a = some o) {f : Option Str} {dx : Option Addr} : ∀ {ds : List D}, RpX Z ρ H f dx ds -> RpX Z ρ' H' f dx ds
  | [], h => h
  | d :: r, h => by
    obtain ⟨e, n, x, u, h1, h2, h3, h4⟩ := h
    exact ⟨e, n, x, u, h1, h2, ht x _ h3 rfl, Rp.stay hr ht (by simp) h4⟩
theorem Rps.stay (hr : ∀ (l : Nat) (a : Addr), ρ[l]? = some a -> ρ'[l]? = some a) (ht : ∀ a o, H a = some o -> HCell o = false -> H' a = some o) : ∀ {ds : List D} {vs : List V} {F : List Addr}, (∀ a ∈ F, ∀ o, H a = some o -> H' a = some o) -> Rps Z ρ H ds vs F -> Rps Z ρ' H' ds vs F
  | [], vs, F, hk, h => h
  | d :: ds, vs, F, hk, h => by
    obtain ⟨v, ws, F1, F2, rfl, h1, h2, rfl⟩ := h
    exact ⟨v, ws, F1, F2, rfl, Rp.stay hr ht (fun b hb => hk b (List.mem_append_left _ hb)) h1, Rps.stay hr ht (fun b hb => hk b (List.mem_append_right _ hb)) h2, rfl⟩
theorem RpK.stay (hr : ∀ (l : Nat) (a : Addr), ρ[l]? = some a -> ρ'[l]? = some a) (ht : ∀ a o, H a = some o -> HCell o = false -> H' a = some o) : ∀ {ds : List (Ky × D)} {vs : List (L2.Key × V)} {F : List Addr}, (∀ a ∈ F, ∀ o, H a = some o -> H' a = some o) -> RpK Z ρ H ds vs F -> RpK Z ρ' H' ds vs F
  | [], vs, F, hk, h => h
  | (k, d) :: ds, vs, F, hk, h => by
    obtain ⟨j, v, ws, F1, F2, e, rfl, h1, h2, rfl⟩ := h
    exact ⟨j, v, ws, F1, F2, e, rfl, Rp.stay hr ht (fun b hb => hk b (List.mem_append_left _ hb)) h1, RpK.stay hr ht (fun b hb => hk b (List.mem_append_right _ hb)) h2, rfl⟩
theorem RpT.stay (hr : ∀ (l : Nat) (a : Addr), ρ[l]? = some a -> ρ'[l]? = some a) (ht : ∀ a o, H a = some o -> HCell o = false -> H' a = some o) : ∀ {ds : List (Ky × D)} {vs : List (List L2.Key × V)} {F : List Addr}, (∀ a ∈ F, ∀ o, H a = some o -> H' a = some o) -> RpT Z ρ H ds vs F -> RpT Z ρ' H' ds vs F
  | [], vs, F, hk, h => h
  | (k, d) :: ds, vs, F, hk, h => by
    obtain ⟨j, v, ws, F1, F2, e, rfl, h1, h2, rfl⟩ := h
    exact ⟨j, v, ws, F1, F2, e, rfl, Rp.stay hr ht (fun b hb => hk b (List.mem_append_left _ hb)) h1, RpT.stay hr ht (fun b hb => hk b (List.mem_append_right _ hb)) h2, rfl⟩
end
theorem SR.at (s : SR Z ρ st H) {l : Nat} {c : D} (h : st[l]? = some c) : ∃ a, ρ[l]? = some a /\ isCell c = true /\ Rp Z ρ H c (.ref a) [a] := by
  have hl : l < ρ.length := by rw [s.len]; exact (List.getElem?_eq_some_iff.mp h).1
  exact ⟨ρ[l], List.getElem?_eq_getElem hl, s.kind l c h, s.cell l c _ h (List.getElem?_eq_getElem hl)⟩
theorem SR.at' (s : SR Z ρ st H) {l : Nat} {a : Addr} (h : ρ[l]? = some a) : ∃ c, st[l]? = some c /\ isCell c = true /\ Rp Z ρ H c (.ref a) [a] := by
  have hl : l < st.length := by rw [<- s.len]; exact (List.getElem?_eq_some_iff.mp h).1
  exact ⟨st[l], List.getElem?_eq_getElem hl, s.kind l _ (List.getElem?_eq_getElem hl), s.cell l _ a (List.getElem?_eq_getElem hl) h⟩
theorem Rp.hcell {c : D} {a : Addr} {F : List Addr} (h : Rp Z ρ H c (.ref a) F) (k : isCell c = true) : ∃ o, H a = some o /\ HCell o = true := by
  cases c with
  | lst ds => obtain ⟨b, vs, G, z, h2, _, _⟩ := h; cases z; exact ⟨_, h2, rfl⟩
  | frl ds => obtain ⟨b, o, vs, G, z, h2, _, _⟩ := h; cases z; exact ⟨_, h2, rfl⟩
  | dic kvs => obtain ⟨b, G, z, _, h3⟩ := h; cases z; rcases h3 with ⟨ws, h2, _⟩ | ⟨ws, h2, _⟩ <;> exact ⟨_, h2, rfl⟩
  | set xs => obtain ⟨b, S, z, h2, _⟩ := h; cases z; exact ⟨_, h2, rfl⟩
  | lam n cs => obtain ⟨b, z, _, h2⟩ := h; cases z; exact h2.hc
  | _ => cases k
theorem SR.hcell (s : SR Z ρ st H) {a : Addr} (h : a ∈ ρ) : ∃ o, H a = some o /\ HCell o = true := by
  obtain ⟨l, e⟩ := List.mem_iff_getElem?.mp h
  obtain ⟨c, _, k, r⟩ := s.at' e
  exact r.hcell k
theorem SR.has (s : SR Z ρ st H) {a : Addr} (h : a ∈ ρ) : H a ≠ none := by
  obtain ⟨o, e, _⟩ := s.hcell h
  rw [e]; exact nofun
theorem SR.fresh (s : SR Z ρ st H) {a : Addr} (h : H a = none) : a ∉ ρ := fun z => s.has z h
theorem SR.not_cell (s : SR Z ρ st H) {a : Addr} {o : HO} (h : H a = some o) (k : HCell o = false) : a ∉ ρ := fun z => by
  obtain ⟨u, e, q⟩ := s.hcell z
  rw [h] at e; cases e; rw [k] at q; cases q
theorem Stp.refl {F : List Addr} (n : F.Nodup) (h : ∀ a ∈ F, H a = none) : Stp ρ H ρ H F := ⟨[], by simp, by simpa using n, by simpa using h, fun _ _ e _ => e⟩
theorem Stp.id : Stp ρ H ρ H [] := Stp.refl List.nodup_nil (by simp)
theorem Stp.pre (s : Stp ρ H ρ' H' F) : ∀ (l : Nat) (a : Addr), ρ[l]? = some a -> ρ'[l]? = some a := by
  obtain ⟨N, rfl, _⟩ := s
  intro l a h
  rw [List.getElem?_append_left (List.getElem?_eq_some_iff.mp h).1]
  exact h
theorem Stp.tup (s : Stp ρ H ρ' H' F) (r : SR Z ρ st H) : ∀ a o, H a = some o -> HCell o = false -> H' a = some o := by
  obtain ⟨N, _, _, _, k⟩ := s
  exact fun a o h q => k a o h (r.not_cell h q)
theorem Stp.keep (s : Stp ρ H ρ' H' F) {a : Addr} (h : a ∉ ρ) : ∀ o, H a = some o -> H' a = some o := by
  obtain ⟨N, _, _, _, k⟩ := s
  exact fun o e => k a o e h
theorem Stp.val {d : D} {v : V} {G : List Addr} (s : Stp ρ H ρ' H' F) (r : SR Z ρ st H) (hG : ∀ a ∈ G, a ∉ ρ) (h : Rp Z ρ H d v G) : Rp Z ρ' H' d v G :=
  Rp.stay s.pre (s.tup r) (fun a ha => s.keep (hG a ha)) h
theorem Stp.env {env : Env} {σ : L2.St} (s : Stp ρ H ρ' H' F) (r : SR Z ρ st H) (h : ER Z ρ H env σ) : ER Z ρ' H' env σ :=
  ⟨h.1, fun i d e => let ⟨v, h1, h2⟩ := h.2 i d e; ⟨v, h1, s.val r (by simp) h2⟩⟩
theorem Stp.out (s : Stp ρ H ρ' H' F) (r : SR Z ρ st H) : ∀ a ∈ F, a ∉ ρ' := by
  obtain ⟨N, rfl, n, f, _⟩ := s
  intro a ha z
  rcases List.mem_append.mp z with z | z
  · exact r.has z (f a (List.mem_append_right _ ha))
  · exact (List.nodup_append.mp n).2.2 a z a ha rfl
theorem Stp.trans {G : List Addr} (s : Stp ρ H ρ₁ H₁ F) (t : Stp ρ₁ H₁ ρ₂ H₂ G) (r : SR Z ρ st H) (r₁ : SR Z ρ₁ st₁ H₁) (hF : ∀ a ∈ F, H₁ a ≠ none) : Stp ρ H ρ₂ H₂ (F ++ G) := by
  have out := s.out r
  obtain ⟨N, rfl, n, f, k⟩ := s
  obtain ⟨N', rfl, n', f', k'⟩ := t
  have old : ∀ a ∈ N' ++ G, H a = none := fun a ha => by
    cases e : H a with
    | none => rfl
    | some o =>
      have z : a ∉ ρ := fun z => r₁.has (List.mem_append_left _ z) (f' a ha)
      have q := k a o e z
      rw [f' a ha] at q; cases q
  refine ⟨N ++ N', by simp [List.append_assoc], ?_, ?_, fun a o e z => ?_⟩
  · have nF := (List.nodup_append.mp n)
    have nG := (List.nodup_append.mp n')
    rw [List.append_assoc]
    refine List.nodup_append.mpr ⟨nF.1, ?_, ?_⟩
    · rw [<- List.append_assoc]
      refine List.nodup_append.mpr ⟨List.nodup_append.mpr ⟨nG.1, nF.2.1, ?_⟩, nG.2.1, ?_⟩
      · intro a ha b hb e
        subst e
        exact hF a hb (f' a (List.mem_append_left _ ha))
      · intro a ha b hb e
        subst e
        rcases List.mem_append.mp ha with ha | ha
        · exact nG.2.2 a ha a hb rfl
        · exact hF a ha (f' a (List.mem_append_right _ hb))
    · intro a ha b hb e
      subst e
      rcases List.mem_append.mp hb with hb | hb
      · exact r₁.has (List.mem_append_right _ ha) (f' a (List.mem_append_left _ hb))
      · rcases List.mem_append.mp hb with hb | hb
        · exact nF.2.2 a ha a hb rfl
        · exact r₁.has (List.mem_append_right _ ha) (f' a (List.mem_append_right _ hb))
  · intro a ha
    rw [List.append_assoc] at ha
    rcases List.mem_append.mp ha with ha | ha
    · exact f a (List.mem_append_left _ ha)
    · rw [<- List.append_assoc] at ha
      rcases List.mem_append.mp ha with ha | ha
      · rcases List.mem_append.mp ha with ha | ha
        · exact old a (List.mem_append_left _ ha)
        · exact f a (List.mem_append_right _ ha)
      · exact old a (List.mem_append_right _ ha)
  · have q := k a o e z
    refine k' a o q fun y => ?_
    rcases List.mem_append.mp y with y | y
    · exact z y
    · rw [f a (List.mem_append_left _ y)] at e; cases e
theorem Stp.less {G : List Addr} (s : Stp ρ H ρ' H' F) (h : G.Sublist F) : Stp ρ H ρ' H' G := by
  obtain ⟨N, rfl, n, f, k⟩ := s
  refine ⟨N, rfl, n.sublist (List.Sublist.append (List.Sublist.refl _) h), fun a ha => f a ?_, k⟩
  exact (List.Sublist.append (List.Sublist.refl _) h).subset ha
theorem Stp.none (s : Stp ρ H ρ' H' F) : Stp ρ H ρ' H' [] := s.less (List.nil_sublist _)
theorem Stp.nodup (s : Stp ρ H ρ' H' F) : F.Nodup := by
  obtain ⟨N, rfl, n, f, k⟩ := s
  exact (List.nodup_append.mp n).2.1
theorem Gb.step {N : List Addr} (g : Gb Z ρ H) (k : ∀ a o, H a = some o -> HCell o = false -> H' a = some o) : Gb Z (ρ ++ N) H' := fun p hp =>
  ⟨let ⟨M, e⟩ := (g p hp).1; ⟨M ++ N, by rw [e, List.append_assoc]⟩, fun a o ha hn => k a o ((g p hp).2 a o ha hn) hn⟩
theorem Gb.up (g : Gb Z ρ H) (k : ∀ a o, H a = some o -> HCell o = false -> H' a = some o) : Gb Z ρ H' := fun p hp => ⟨(g p hp).1, fun a o e n => k a o ((g p hp).2 a o e n) n⟩
theorem Stp.gb (s : Stp ρ H ρ' H' F) (r : SR Z ρ st H) : Gb Z ρ' H' := by
  have := s.tup r
  obtain ⟨N, rfl, n, f, k⟩ := s
  exact r.gb.step this
end
end Fs
namespace Fs
open PySem L2
def XcR (Z : Wc) (ρ : List Addr) (H : Hp) (e : D) (cls : Value) (dx : Option Addr) : Prop :=
  ∃ c fs, e = .exc c fs /\ cls = .ref (Z.ca c) /\ RpX Z ρ H (Z.fl c) dx fs
abbrev Rel (α β : Type) := List Addr -> Hp -> α -> β -> List Addr -> Prop
def Post {α β : Type} (rel : Rel α β) (Z : Wc) (W : WX) (r : R α) (ρ : List Addr) (σ : L2.St) (H : Hp) (Q : β -> Hp -> Prop) : Prop := match r with
  | .ok d st' => ∀ ρ' H' v F, Stp ρ H ρ' H' F -> SR Z ρ' st' H' -> rel ρ' H' d v F -> Q v H'
  | .exc e st' => ∀ ρ' H' cls dx, Stp ρ H ρ' H' [] -> SR Z ρ' st' H' -> XcR Z ρ' H' e cls dx -> W cls dx σ H'
  | .bad => False
structure Now (Z : Wc) (ρ : List Addr) (H : Hp) (ρ' : List Addr) (st' : Sto) (H' : Hp) (F : List Addr) : Prop where
  stp : Stp ρ H ρ' H' F
  sr : SR Z ρ' st' H'
  th : ∀ a ∈ F, H' a ≠ none
  out : ∀ a ∈ F, a ∉ ρ'
  nd : F.Nodup
section
variable {Z : Wc} {W : WX} {ρ ρ' ρ₁ ρ₂ : List Addr} {H H' H₁ H₂ : Hp} {st st' st₁ : Sto} {F F' F₁ F₂ G : List Addr} {σ : L2.St} {α β γ δ : Type} {rel : Rel α β} {rel₁ : Rel γ δ}
structure RelOk (Z : Wc) (rel : Rel α β) : Prop where
  there : ∀ {ρ H d v F}, rel ρ H d v F -> ∀ a ∈ F, H a ≠ none
  stay : ∀ {ρ H ρ' H' d v F}, (∀ (l : Nat) (a : Addr), ρ[l]? = some a -> ρ'[l]? = some a) -> (∀ a o, H a = some o -> HCell o = false -> H' a = some o) -> (∀ a ∈ F, ∀ o, H a = some o -> H' a = some o) -> rel ρ H d v F -> rel ρ' H' d v F
theorem rpOk : RelOk Z (Rp Z) := ⟨fun h => h.there, fun hr ht hk h => h.stay hr ht hk⟩
theorem rpsOk : RelOk Z (Rps Z) := ⟨fun h => h.there, fun hr ht hk h => h.stay hr ht hk⟩
def RelEq (α : Type) : Rel α α := fun _ _ a b F => a = b /\ F = []
theorem reqOk : RelOk Z (RelEq α) := ⟨fun h a ha => (by rw [h.2] at ha; cases ha), fun _ _ _ h => h⟩
theorem Now.start (s : SR Z ρ st H) : Now Z ρ H ρ st H [] := ⟨Stp.id, s, by simp, by simp, List.nodup_nil⟩
theorem Now.more (n : Now Z ρ H ρ₁ st₁ H₁ F) (s : SR Z ρ st H) (t : Stp ρ₁ H₁ ρ₂ H₂ G) (sr : SR Z ρ₂ st' H₂) (g : ∀ a ∈ G, H₂ a ≠ none) : Now Z ρ H ρ₂ st' H₂ (F ++ G) := by
  have tr := n.stp.trans t s n.sr n.th
  refine ⟨tr, sr, fun a ha => ?_, fun a ha => ?_, tr.nodup⟩
  · rcases List.mem_append.mp ha with ha | ha
    · have := n.th a ha
      intro z
      cases e : H₁ a with
      | none => exact this e
      | some o => have q := t.keep (n.out a ha) o e; rw [z] at q; cases q
    · exact g a ha
  · rcases List.mem_append.mp ha with ha | ha
    · obtain ⟨N, e, _, f, _⟩ := t
      intro z
      rw [e] at z
      rcases List.mem_append.mp z with z | z
      · exact n.out a ha z
      · exact n.th a ha (f a (List.mem_append_left _ z))
    · exact t.out n.sr a ha
theorem Now.less (n : Now Z ρ H ρ₁ st₁ H₁ F) (h : G.Sublist F) : Now Z ρ H ρ₁ st₁ H₁ G :=
  ⟨n.stp.less h, n.sr, fun a ha => n.th a (h.subset ha), fun a ha => n.out a (h.subset ha), n.nd.sublist h⟩
theorem Post.mono {r : R α} {Q Q' : β -> Hp -> Prop} (h : Post rel Z W r ρ σ H Q) (q : ∀ v H', Q v H' -> Q' v H') : Post rel Z W r ρ σ H Q' := by
  cases r with
  | ok d s => exact fun ρ' H' v F a b c => q v H' (h ρ' H' v F a b c)
  | exc e s => exact h
  | bad => exact h
theorem Post.seq (ok : RelOk Z rel₁) {m : M γ} {f : γ -> M α} {Q : β -> Hp -> Prop} (n : Now Z ρ H ρ₁ st₁ H₁ F) (s : SR Z ρ st H) (h : Post rel Z W (bnd m f st₁) ρ σ H Q) :
    Post rel₁ Z W (m st₁) ρ₁ σ H₁ (fun v H' => ∃ ρ' d st' G, Now Z ρ H ρ' st' H' (F ++ G) /\ Stp ρ₁ H₁ ρ' H' G /\ rel₁ ρ' H' d v G /\ Post rel Z W (f d st') ρ σ H Q) := by
  unfold bnd at h
  cases e : m st₁ with
  | ok d s' =>
    rw [e] at h
    exact fun ρ' H' v G t sr r => ⟨ρ', d, s', G, n.more s t sr (ok.there r), t, r, h⟩
  | exc x s' =>
    rw [e] at h
    exact fun ρ' H' cls dx t sr r => h ρ' H' cls dx (n.more s t sr (by simp)).stp.none sr r
  | bad => rw [e] at h; exact h
theorem Post.tail (ok : RelOk Z rel) {r : R α} {Q : β -> Hp -> Prop} (n : Now Z ρ H ρ₁ st₁ H₁ F) (s : SR Z ρ st H) (h : Post rel Z W r ρ σ H Q) : Post rel Z W r ρ₁ σ H₁ Q := by
  cases r with
  | ok d s' => exact fun ρ' H' v G t sr q => h ρ' H' v G ((n.more s t sr (ok.there q)).stp.less (List.sublist_append_right _ _)) sr q
  | exc x s' => exact fun ρ' H' cls dx t sr q => h ρ' H' cls dx (n.more s t sr (by simp)).stp.none sr q
  | bad => exact h
theorem Post.ret {d : α} {v : β} {Q : β -> Hp -> Prop} (h : Post rel Z W (ret d st') ρ σ H Q) (n : Now Z ρ H ρ' st' H' F) (r : rel ρ' H' d v F) : Q v H' := h ρ' H' v F n.stp n.sr r
theorem Post.ok {d : α} {v : β} {Q : β -> Hp -> Prop} (h : Post rel Z W (.ok d st') ρ σ H Q) (n : Now Z ρ H ρ' st' H' F) (r : rel ρ' H' d v F) : Q v H' := h ρ' H' v F n.stp n.sr r
theorem Now.new (n : Now Z ρ H ρ' st' H' F) (s : SR Z ρ st H) {p : Addr} {o : HO} (hp : H' p = none) : Now Z ρ H ρ' st' (upd H' p o) (p :: F) := by
  have hpr : p ∉ ρ' := n.sr.fresh hp
  have hpF : p ∉ F := fun z => n.th p z hp
  have up : ∀ a u, H' a = some u -> upd H' p o a = some u := fun a u e => by rw [upd_ne (fun z => by rw [z, hp] at e; cases e)]; exact e
  obtain ⟨N, rfl, nd, f, k⟩ := n.stp
  have h0 : H p = none := by
    cases e : H p with
    | none => rfl
    | some u =>
      have := k p u e (fun z => hpr (List.mem_append_left _ z))
      rw [hp] at this; cases this
  refine ⟨⟨N, rfl, ?_, ?_, fun a u e z => up a u (k a u e z)⟩, ?_, ?_, ?_, List.nodup_cons.mpr ⟨hpF, n.nd⟩⟩
  · have q := List.nodup_append.mp nd
    refine List.nodup_append.mpr ⟨q.1, List.nodup_cons.mpr ⟨hpF, n.nd⟩, ?_⟩
    intro a ha b hb e
    subst e
    rcases List.mem_cons.mp hb with rfl | hb
    · exact hpr (List.mem_append_right _ ha)
    · exact q.2.2 a ha a hb rfl
  · intro a ha
    rcases List.mem_append.mp ha with ha | ha
    · exact f a (List.mem_append_left _ ha)
    · rcases List.mem_cons.mp ha with rfl | ha
      · exact h0
      · exact f a (List.mem_append_right _ ha)
  · refine ⟨n.sr.len, n.sr.nd, n.sr.kind, fun l c a h1 h2 => ?_, n.sr.gb.up fun a u e _ => up a u e⟩
    exact Rp.stay (fun _ _ e => e) (fun a u e _ => up a u e) (fun b _ u e => up b u e) (n.sr.cell l c a h1 h2)
  · intro a ha
    rcases List.mem_cons.mp ha with rfl | ha
    · rw [upd_same]; exact nofun
    · intro z
      cases e : H' a with
      | none => exact n.th a ha e
      | some u => rw [up a u e] at z; cases z
  · intro a ha
    rcases List.mem_cons.mp ha with rfl | ha
    · exact hpr
    · exact n.out a ha
theorem rp_up {p : Addr} {o : HO} (hp : H' p = none) {d : D} {v : V} (h : Rp Z ρ' H' d v F) : Rp Z ρ' (upd H' p o) d v F := by
  have up : ∀ a u, H' a = some u -> upd H' p o a = some u := fun a u e => by rw [upd_ne (fun z => by rw [z, hp] at e; cases e)]; exact e
  exact Rp.stay (fun _ _ e => e) (fun a u e _ => up a u e) (fun b _ u e => up b u e) h
theorem rps_up {p : Addr} {o : HO} (hp : H' p = none) {d : List D} {v : List V} (h : Rps Z ρ' H' d v F) : Rps Z ρ' (upd H' p o) d v F := by
  have up : ∀ a u, H' a = some u -> upd H' p o a = some u := fun a u e => by rw [upd_ne (fun z => by rw [z, hp] at e; cases e)]; exact e
  exact Rps.stay (fun _ _ e => e) (fun a u e _ => up a u e) (fun b _ u e => up b u e) h
theorem Rps.append : ∀ {xs ys : List D} {vs ws : List V} {F G : List Addr}, Rps Z ρ H xs vs F -> Rps Z ρ H ys ws G -> Rps Z ρ H (xs ++ ys) (vs ++ ws) (F ++ G)
  | [], ys, vs, ws, F, G, h, k => by obtain ⟨rfl, rfl⟩ := h; exact k
  | x :: xs, ys, vs, ws, F, G, h, k => by
    obtain ⟨v, ws', F1, F2, rfl, h1, h2, rfl⟩ := h
    exact ⟨v, ws' ++ ws, F1, F2 ++ G, rfl, h1, Rps.append h2 k, by simp [List.append_assoc]⟩
theorem lstv_ok {d : D} {x : V} {xs : List D} (s : SR Z ρ st H) (r : Rp Z ρ H d x F) (e : lstv st d = some xs) :
    ∃ a vs G, x = .ref a /\ H a = some (.lst vs) /\ Rps Z ρ H xs vs G /\ G.Sublist F := by
  cases d with
  | lst ds =>
    cases e
    obtain ⟨a, vs, G, rfl, h, r', rfl⟩ := r
    exact ⟨a, vs, G, rfl, h, r', List.sublist_cons_self _ _⟩
  | ref l =>
    obtain ⟨a, hl, rfl, rfl⟩ := r
    cases hc : st[l]? with
    | none => simp [lstv, hc] at e
    | some c =>
      have rc := s.cell l c a hc hl
      cases c with
      | lst ds =>
        simp only [lstv, hc, Option.some.injEq] at e
        subst e
        obtain ⟨a', vs, G, z, h, r', f⟩ := rc
        cases z
        obtain rfl : G = [] := by injection f with _ f; exact f.symm
        exact ⟨a, vs, [], rfl, h, r', List.Sublist.refl _⟩
      | _ => simp [lstv, hc] at e
  | _ => simp [lstv] at e
theorem seqv_ok {d : D} {x : V} {xs : List D} (s : SR Z ρ st H) (r : Rp Z ρ H d x F) (e : seqv st d = some xs) :
    ∃ a vs G, x = .ref a /\ (SqL Z.K H a vs ∨ SqT Z.K H a vs) /\ Rps Z ρ H xs vs G /\ G.Sublist F := by
  by_cases ht : ∃ ys, d = .tup ys
  · obtain ⟨ys, rfl⟩ := ht
    cases e
    obtain ⟨a, vs, rfl, h, r'⟩ := r
    exact ⟨a, vs, F, rfl, .inr h, r', List.Sublist.refl _⟩
  · by_cases hf : ∃ l ys, d = .ref l /\ st[l]? = some (.frl ys)
    · obtain ⟨l, ys, rfl, hc⟩ := hf
      obtain ⟨a, hl, rfl, rfl⟩ := r
      have rc := s.cell l _ a hc hl
      simp only [seqv, hc, Option.some.injEq] at e
      subst e
      obtain ⟨a', o, vs, G, z, h, r', f⟩ := rc
      cases z
      obtain rfl : G = [] := by injection f with _ f; exact f.symm
      exact ⟨a, vs, [], rfl, .inl (.inl (.inr ⟨o, h⟩)), r', List.Sublist.refl _⟩
    · have e' : lstv st d = some xs := by
        cases d with
        | tup ys => exact (ht ⟨ys, rfl⟩).elim
        | ref l =>
          cases hc : st[l]? with
          | none => simp [seqv, hc] at e
          | some c => cases c with
            | frl ys => exact (hf ⟨l, ys, rfl, hc⟩).elim
            | lst ys => simpa [seqv, lstv, hc] using e
            | _ => simp [seqv, hc] at e
        | _ => simpa [seqv, lstv] using e
      obtain ⟨a, vs, G, rfl, h, r', f⟩ := lstv_ok s r e'
      exact ⟨a, vs, G, rfl, .inl (SqL.of h), r', f⟩
theorem Rps.get : ∀ {xs : List D} {vs : List V} {F : List Addr} {i : Nat} {y : D}, Rps Z ρ H xs vs F -> xs[i]? = some y -> ∃ v G, vs[i]? = some v /\ Rp Z ρ H y v G /\ G.Sublist F
  | [], vs, F, i, y, h, e => by simp at e
  | x :: xs, vs, F, 0, y, h, e => by
    obtain ⟨v, ws, F1, F2, rfl, h1, h2, rfl⟩ := h
    cases e
    exact ⟨v, F1, rfl, h1, List.sublist_append_left _ _⟩
  | x :: xs, vs, F, i + 1, y, h, e => by
    obtain ⟨v, ws, F1, F2, rfl, h1, h2, rfl⟩ := h
    obtain ⟨u, G, a, b, c⟩ := Rps.get (i := i) h2 (by simpa using e)
    exact ⟨u, G, by simpa using a, b, c.trans (List.sublist_append_right _ _)⟩
theorem Rps.take : ∀ {xs : List D} {vs : List V} {F : List Addr} (n : Nat), Rps Z ρ H xs vs F -> ∃ G, Rps Z ρ H (xs.take n) (vs.take n) G /\ G.Sublist F
  | xs, vs, F, 0, h => ⟨[], by simp [Rps], List.nil_sublist _⟩
  | [], vs, F, n + 1, h => by obtain ⟨rfl, rfl⟩ := h; exact ⟨[], by simp [Rps], List.nil_sublist _⟩
  | x :: xs, vs, F, n + 1, h => by
    obtain ⟨v, ws, F1, F2, rfl, h1, h2, rfl⟩ := h
    obtain ⟨G, a, b⟩ := Rps.take n h2
    exact ⟨F1 ++ G, ⟨v, ws.take n, F1, G, rfl, h1, a, rfl⟩, List.Sublist.append (List.Sublist.refl _) b⟩
theorem Rps.drop : ∀ {xs : List D} {vs : List V} {F : List Addr} (n : Nat), Rps Z ρ H xs vs F -> ∃ G, Rps Z ρ H (xs.drop n) (vs.drop n) G /\ G.Sublist F
  | xs, vs, F, 0, h => ⟨F, h, List.Sublist.refl _⟩
  | [], vs, F, n + 1, h => by obtain ⟨rfl, rfl⟩ := h; exact ⟨[], by simp [Rps], List.nil_sublist _⟩
  | x :: xs, vs, F, n + 1, h => by
    obtain ⟨v, ws, F1, F2, rfl, h1, h2, rfl⟩ := h
    obtain ⟨G, a, b⟩ := Rps.drop n h2
    exact ⟨G, a, b.trans (List.sublist_append_right _ _)⟩
mutual
theorem Rp.pure : ∀ {d : D} {v : V} {F : List Addr}, D.pur d = true -> Rp Z ρ H d v F -> F = []
  | .non, v, F, p, h => h.2
  | .bl b, v, F, p, h => h.2
  | .int i, v, F, p, h => h.2
  | .str s, v, F, p, h => h.2
  | .ref l, v, F, p, h => by obtain ⟨_, _, _, f⟩ := h; exact f
  | .tup ds, v, F, p, h => by obtain ⟨a, vs, _, _, r⟩ := h; exact Rps.pure (by simpa [D.pur] using p) r
  | .exc c fs, v, F, p, h => by obtain ⟨_, _, _, _, _, f⟩ := h; exact f
  | .lst _, v, F, p, h => by simp [D.pur] at p
  | .frl _, v, F, p, h => by simp [D.pur] at p
  | .dic _, v, F, p, h => by simp [D.pur] at p
  | .set _, v, F, p, h => by simp [D.pur] at p
  | .lam _ _, v, F, p, h => by simp [D.pur] at p
theorem Rps.pure : ∀ {ds : List D} {vs : List V} {F : List Addr}, D.purs ds = true -> Rps Z ρ H ds vs F -> F = []
  | [], vs, F, p, h => h.2
  | d :: ds, vs, F, p, h => by
    obtain ⟨v, ws, F1, F2, rfl, h1, h2, rfl⟩ := h
    simp only [D.purs, Bool.and_eq_true] at p
    rw [Rp.pure p.1 h1, Rps.pure p.2 h2]
    rfl
end
theorem Rps.rep {xs : List D} {vs : List V} (h : Rps Z ρ H xs vs []) : ∀ k : Nat, Rps Z ρ H (rep k xs) (List.replicate k vs).flatten []
  | 0 => by simp [Fs.rep, Rps]
  | k + 1 => by
    have := Rps.append h (Rps.rep h k)
    simpa [Fs.rep, List.replicate_succ] using this
end
end Fs
namespace Fs
open PySem L2
def rB (Z : Wc) (W : WX) (σ : L2.St) (f : D -> D -> M D) : R2 := fun x y H2 Q => ∃ ρ st H ρ2 st2 d1 d2 F1 F2, SR Z ρ st H /\ Now Z ρ H ρ2 st2 H2 (F1 ++ F2) /\ Rp Z ρ2 H2 d1 x F1 /\ Rp Z ρ2 H2 d2 y F2 /\ Post (Rp Z) Z W (f d1 d2 st2) ρ σ H Q
def pyB : Bop -> Operator
  | .add => .Add | .sub => .Sub | .mul => .Mult | .fdiv => .FloorDiv | .mod => .Mod | .pow => .Pow | .shl => .LShift | .shr => .RShift | .band => .BitAnd | .bxor => .BitXor
section
variable {X : Cx} {Z : Wc} {W : WX} {σ0 : L2.St}
theorem op_fdivX : OpR X (binaryOp .FloorDiv) (rI (fun _ j => j ≠ 0 /\ j.natAbs.log2 < 9000) fun i j => .int (i.fdiv j)) := opI fun i j _ _ _ _ _ hc q => PyProof.Rows.floordiv_int hc.1 q (.inl (PyProof.noPylong_of_log2 hc.2))
theorem int_ok {op : Bop} {i j r : Int} (e : intOp op i j = some r) {pins : List (Addr × Obj)} {s : Shared} {σ : L2.St} {H : Hp} {Q : VK} {v u : Value} (I : Inv X pins σ H s) (rx : RelV (.int i) v) (ry : RelV (.int j) u) (q : Q (.int r) H) :
    wpAny (model X.prog X.w) X.A (binaryOp (pyB op) v u) (EP X pins σ Q) X.xe s := by
  cases op with
  | add => cases e; exact op_add pins s σ H _ _ v u Q I rx ry ⟨i, j, rfl, rfl, q⟩
  | sub => cases e; exact op_sub pins s σ H _ _ v u Q I rx ry ⟨i, j, rfl, rfl, q⟩
  | mul =>
    simp only [intOp] at e
    split at e
    · cases e; rename_i c; exact op_mulW pins s σ H _ _ v u Q I rx ry ⟨i, j, rfl, rfl, c, q⟩
    · cases e
  | fdiv =>
    simp only [intOp] at e
    split at e
    · cases e; rename_i c; exact op_fdivX pins s σ H _ _ v u Q I rx ry ⟨i, j, rfl, rfl, c, q⟩
    · cases e
  | mod =>
    simp only [intOp] at e
    split at e
    · cases e; rename_i c; exact op_modN pins s σ H _ _ v u Q I rx ry ⟨i, j, rfl, rfl, c, q⟩
    · cases e
  | pow =>
    simp only [intOp] at e
    split at e
    · cases e; rename_i c; exact op_pow pins s σ H _ _ v u Q I rx ry ⟨i, j, rfl, rfl, c, q⟩
    · cases e
  | shl =>
    simp only [intOp] at e
    split at e
    · cases e; rename_i c; exact op_shl pins s σ H _ _ v u Q I rx ry ⟨i, j, rfl, rfl, c, q⟩
    · cases e
  | shr =>
    simp only [intOp] at e
    split at e
    · cases e; rename_i c; exact op_shr pins s σ H _ _ v u Q I rx ry ⟨i, j, rfl, rfl, c, q⟩
    · cases e
  | band => cases e; exact op_and pins s σ H _ _ v u Q I rx ry ⟨i, j, rfl, rfl, q⟩
  | bxor => cases e; exact op_xor pins s σ H _ _ v u Q I rx ry ⟨i, j, rfl, rfl, q⟩
end
end Fs
namespace Fs
open PySem L2
section
variable (T : Tbl) (Z : Wc) (W : WX)
def iE (e : Ex) : TE := fun σ H Q => ∃ ρ env st, ER Z ρ H env σ /\ SR Z ρ st H /\ Post (Rp Z) Z W (ev T e env st) ρ σ H Q
def iEs (es : List Ex) : TA := fun σ H Q => ∃ ρ env st, ER Z ρ H env σ /\ SR Z ρ st H /\ Post (Rps Z) Z W (evs T es env st) ρ σ H Q
def iT (c : Cn) : TT := fun σ H Q => ∃ ρ env st, ER Z ρ H env σ /\ SR Z ρ st H /\ Post (RelEq Bool) Z W (evT T c env st) ρ σ H Q
end
section
variable {X : Cx} {T : Tbl} {Z : Wc} {W : WX} {a b c e : Expr} {A B C : Ex} {pos : Pos}
theorem pe_weak {t t' : TE} (h : PE X e t) (w : ∀ σ H Q, t' σ H Q -> t σ H Q) : PE X e t' := ⟨fun pins s σ H Q I q => h.run pins s σ H Q I (w σ H Q q)⟩
theorem pt_weak {t t' : TT} (h : PT X e t) (w : ∀ σ H Q, t' σ H Q -> t σ H Q) : PT X e t' := ⟨fun pins s σ H Q I q => h.run pins s σ H Q I (w σ H Q q)⟩
theorem pa_weak {es : List Expr} {t t' : TA} (h : PA X es t) (w : ∀ σ H Q, t' σ H Q -> t σ H Q) : PA X es t' := ⟨fun p pins s σ H Q I q => h.run p pins s σ H Q I (w σ H Q q)⟩
theorem se_loc {i : Nat} {x : Str} (hN : X.N[i]? = some x) (hv : Vis X.env.scope x) (hd : (x == ("__debug__" : Str)) = false) (hcd : (x == ("__classdict__" : Str)) = false) : PE X (.Name x pos) (iE T Z W (.loc i)) := by
  refine pe_weak (pe_var hN hv hd hcd) fun σ H Q ⟨ρ, env, st, er, sr, h⟩ => ?_
  simp only [ev] at h
  cases ei : env[i]? with
  | none => rw [ei] at h; exact h.elim
  | some o => cases o with
    | none => rw [ei] at h; exact h.elim
    | some d =>
      rw [ei] at h
      obtain ⟨v, hv, rv⟩ := er.2 i d ei
      exact ⟨v, hv, h.ret (Now.start sr) rv⟩
theorem con_ok {d : D} {v : V} (hr : ∀ ρ H, Rp Z ρ H d v []) {σ : L2.St} {H : Hp} {Q : VK} (h : iE T Z W (.con d) σ H Q) : tC v σ H Q := by
  obtain ⟨ρ, env, st, er, sr, h⟩ := h
  exact Post.ret (d := d) (by simpa only [ev] using h) (Now.start sr) (hr ρ H)
theorem se_int {i : Int} {j : Nat} : PE X (.Constant (.int i) j pos) (iE T Z W (.con (.int i))) := pe_weak pe_int fun _ _ _ => con_ok (d := .int i) fun _ _ => by exact ⟨rfl, rfl⟩
theorem se_bl {i : Bool} {j : Nat} : PE X (.Constant (.bool i) j pos) (iE T Z W (.con (.bl i))) := pe_weak pe_bl fun _ _ _ => con_ok (d := .bl i) fun _ _ => by exact ⟨rfl, rfl⟩
theorem se_str {i : Str} {j : Nat} : PE X (.Constant (.str i) j pos) (iE T Z W (.con (.str i))) := pe_weak pe_str fun _ _ _ => con_ok (d := .str i) fun _ _ => by exact ⟨rfl, rfl⟩
theorem se_non {j : Nat} : PE X (.Constant .none j pos) (iE T Z W (.con .non)) := pe_weak pe_non fun _ _ _ => con_ok (d := .non) fun _ _ => by exact ⟨rfl, rfl⟩
theorem se_glob {x : Str} {d : D} {v : V} {u : Value} (hg : Gl X x) (hm : X.mg x = some u) (r : RelV v u) (hr : ∀ ρ H, Rp Z ρ H d v []) (hd : (x == ("__debug__" : Str)) = false) : PE X (.Name x pos) (iE T Z W (.con d)) :=
  pe_weak (pe_glob hg hm r hd) fun _ _ _ => con_ok hr
theorem two_ok {f : D -> D -> M D} {σ : L2.St} {H : Hp} {Q : VK} (h : ∃ ρ env st, ER Z ρ H env σ /\ SR Z ρ st H /\ Post (Rp Z) Z W (bnd (ev T A env) (fun x => bnd (ev T B env) fun y => f x y) st) ρ σ H Q) :
    tOp (rB Z W σ f) (iE T Z W A) (iE T Z W B) σ H Q := by
  obtain ⟨ρ, env, st, er, sr, h⟩ := h
  refine ⟨ρ, env, st, er, sr, (Post.seq rpOk (Now.start sr) sr h).mono ?_⟩
  rintro x H1 ⟨ρ1, d1, st1, F1, n1, t1, r1, h1⟩
  refine ⟨ρ1, env, st1, t1.env sr er, n1.sr, (Post.seq rpOk n1 sr h1).mono ?_⟩
  rintro y H2 ⟨ρ2, d2, st2, F2, n2, t2, r2, h2⟩
  exact ⟨ρ, st, H, ρ2, st2, d1, d2, F1, F2, sr, n2, t2.val n1.sr (fun a ha => n1.out a (List.mem_append_right _ ha)) r1, r2, h2⟩
theorem se_op {op : Operator} {f : D -> D -> M D} {E : Ex} (ho : ∀ σ, OpR X (binaryOp op) (rB Z W σ f)) (ha : PE X a (iE T Z W A)) (hb : PE X b (iE T Z W B))
    (he : ∀ env, ev T E env = bnd (ev T A env) (fun x => bnd (ev T B env) fun y => f x y)) : PE X (.BinOp a op b pos) (iE T Z W E) :=
  ⟨fun pins s σ H Q I q => by
    refine (pe_op (ho σ) ha hb).run pins s σ H Q I ?_
    obtain ⟨ρ, env, st, er, sr, h⟩ := q
    rw [he env] at h
    exact two_ok ⟨ρ, env, st, er, sr, h⟩⟩
theorem se_cmp {op : CmpOp} {f : D -> D -> M D} {E : Ex} (ho : ∀ σ, OpR X (compareOp op) (rB Z W σ f)) (ha : PE X a (iE T Z W A)) (hb : PE X b (iE T Z W B)) (hm : behindInMarks op b = false)
    (he : ∀ env, ev T E env = bnd (ev T A env) (fun x => bnd (ev T B env) fun y => f x y)) : PE X (.Compare a [op] [b] pos) (iE T Z W E) :=
  ⟨fun pins s σ H Q I q => by
    refine (pe_cmpR (ho σ) ha hb hm).run pins s σ H Q I ?_
    obtain ⟨ρ, env, st, er, sr, h⟩ := q
    rw [he env] at h
    exact two_ok ⟨ρ, env, st, er, sr, h⟩⟩
def rU1 (Z : Wc) (W : WX) (σ : L2.St) (f : D -> M D) : V -> Hp -> VK -> Prop := fun x H2 Q => ∃ ρ st H ρ2 st2 d F, SR Z ρ st H /\ Now Z ρ H ρ2 st2 H2 F /\ Rp Z ρ2 H2 d x F /\ Post (Rp Z) Z W (f d st2) ρ σ H Q
theorem one_ok {f : D -> M D} {σ : L2.St} {H : Hp} {Q : VK} (h : ∃ ρ env st, ER Z ρ H env σ /\ SR Z ρ st H /\ Post (Rp Z) Z W (bnd (ev T A env) (fun x => f x) st) ρ σ H Q) :
    tUn (rU1 Z W σ f) (iE T Z W A) σ H Q := by
  obtain ⟨ρ, env, st, er, sr, h⟩ := h
  refine ⟨ρ, env, st, er, sr, (Post.seq rpOk (Now.start sr) sr h).mono ?_⟩
  rintro x H1 ⟨ρ1, d1, st1, F1, n1, t1, r1, h1⟩
  exact ⟨ρ, st, H, ρ1, st1, d1, F1, sr, n1, r1, h1⟩
theorem se_neg (ha : PE X a (iE T Z W A)) : PE X (.UnaryOp .USub a pos) (iE T Z W (.neg A)) :=
  ⟨fun pins s σ H Q I q => by
    have h := one_ok (f := fun x => opt (intv x) fun i => ret (.int (-i))) (A := A) (by simpa only [iE, ev] using q)
    refine (pe_un un_neg ha).run pins s σ H Q I ?_
    obtain ⟨ρ, env, st, er, sr, q⟩ := q
    simp only [ev] at q
    refine ⟨ρ, env, st, er, sr, (Post.seq rpOk (Now.start sr) sr q).mono ?_⟩
    rintro x H1 ⟨ρ1, d1, st1, F1, n1, t1, r1, h1⟩
    cases d1 with
    | int i =>
      obtain ⟨rfl, rfl⟩ := r1
      exact ⟨i, rfl, Post.ret h1 n1 ⟨rfl, rfl⟩⟩
    | _ => exact h1.elim⟩
theorem sa_nil : PA X [] (iEs T Z W []) := pa_weak pa_nil fun σ H Q ⟨ρ, env, st, er, sr, h⟩ => by
  simp only [evs] at h
  exact Post.ret h (Now.start sr) ⟨rfl, rfl⟩
theorem sa_cons {es : List Expr} {As : List Ex} (ha : PE X e (iE T Z W A)) (hr : PA X es (iEs T Z W As)) (hs : starEach (e :: es) X.env = (false, eval e X.env) :: starEach es X.env) : PA X (e :: es) (iEs T Z W (A :: As)) := by
  refine pa_weak (pa_cons ha hr hs) fun σ H Q ⟨ρ, env, st, er, sr, h⟩ => ?_
  simp only [evs] at h
  refine ⟨ρ, env, st, er, sr, (Post.seq rpOk (Now.start sr) sr h).mono ?_⟩
  rintro x H1 ⟨ρ1, d1, st1, F1, n1, t1, r1, h1⟩
  refine ⟨ρ1, env, st1, t1.env sr er, n1.sr, (Post.seq rpsOk n1 sr h1).mono ?_⟩
  rintro xs H2 ⟨ρ2, d2, st2, F2, n2, t2, r2, h2⟩
  exact Post.ret h2 n2 ⟨x, xs, F1, F2, rfl, t2.val n1.sr (fun a ha => n1.out a (List.mem_append_right _ ha)) r1, r2, rfl⟩
theorem se_tup {es : List Expr} {As : List Ex} {k : Nat} (ha : PA X es (iEs T Z W As)) : PE X (.Tuple es k pos) (iE T Z W (.tup As)) := by
  refine pe_weak (pe_tup ha) fun σ H Q ⟨ρ, env, st, er, sr, h⟩ => ?_
  simp only [ev] at h
  refine ⟨ρ, env, st, er, sr, (Post.seq rpsOk (Now.start sr) sr h).mono ?_⟩
  rintro xs H1 ⟨ρ1, d1, st1, F1, n1, t1, r1, h1⟩
  cases hz : decide (d1.length <= sizeLine) with
  | false => rw [hz] at h1; exact h1.elim
  | true =>
    rw [hz] at h1
    refine ⟨by rw [<- r1.length]; exact of_decide_eq_true hz, fun p hp => ?_⟩
    exact Post.ret h1 ((n1.new sr hp).less (List.sublist_cons_self p _)) ⟨p, xs, rfl, SqT.of upd_same, rps_up hp r1⟩
theorem se_lst {es : List Expr} {As : List Ex} (ha : PA X es (iEs T Z W As)) : PE X (.List es pos) (iE T Z W (.lst As)) := by
  refine pe_weak (pe_lst ha) fun σ H Q ⟨ρ, env, st, er, sr, h⟩ => ?_
  simp only [ev] at h
  refine ⟨ρ, env, st, er, sr, (Post.seq rpsOk (Now.start sr) sr h).mono ?_⟩
  rintro xs H1 ⟨ρ1, d1, st1, F1, n1, t1, r1, h1⟩
  cases hz : decide (d1.length <= sizeLine) with
  | false => rw [hz] at h1; exact h1.elim
  | true =>
    rw [hz] at h1
    refine ⟨by rw [<- r1.length]; exact of_decide_eq_true hz, fun p hp => ?_⟩
    exact Post.ret h1 (n1.new sr hp) ⟨p, xs, F1, rfl, upd_same, rps_up hp r1, rfl⟩
theorem st_not {C1 : Cn} (ha : PT X a (iT T Z W C1)) : PT X (.UnaryOp .Not a pos) (iT T Z W (.nt C1)) := by
  refine pt_weak (pt_not ha) fun σ H Q ⟨ρ, env, st, er, sr, h⟩ => ?_
  simp only [evT] at h
  refine ⟨ρ, env, st, er, sr, (Post.seq reqOk (Now.start sr) sr h).mono ?_⟩
  rintro c H1 ⟨ρ1, d1, st1, F1, n1, t1, ⟨rfl, rfl⟩, h1⟩
  exact Post.ret h1 n1 ⟨rfl, rfl⟩
theorem sw_and1 {C1 : Cn} (ha : PT X a (iT T Z W C1)) : PW X (.BoolOp .And [a] pos) (iT T Z W C1) := pw_and1 ha
theorem sw_or1 {C1 : Cn} (ha : PT X a (iT T Z W C1)) : PW X (.BoolOp .Or [a] pos) (iT T Z W C1) := pw_or1 ha
theorem sw_and {C1 C2 : Cn} {rest : List Expr} (ha : PT X a (iT T Z W C1)) (hb : PW X (.BoolOp .And (b :: rest) pos) (iT T Z W C2)) : PW X (.BoolOp .And (a :: b :: rest) pos) (iT T Z W (.and2 C1 C2)) := by
  have w := pw_and ha hb
  refine ⟨fun whole pins s σ H Q I h => w.run whole pins s σ H Q I ?_⟩
  obtain ⟨ρ, env, st, er, sr, h⟩ := h
  simp only [evT] at h
  refine ⟨ρ, env, st, er, sr, (Post.seq reqOk (Now.start sr) sr h).mono ?_⟩
  rintro c H1 ⟨ρ1, d1, st1, F1, n1, t1, ⟨rfl, rfl⟩, h1⟩
  cases d1 with
  | true => exact ⟨ρ1, env, st1, t1.env sr er, n1.sr, h1.tail reqOk n1 sr⟩
  | false => exact Post.ret h1 n1 ⟨rfl, rfl⟩
theorem sw_or {C1 C2 : Cn} {rest : List Expr} (ha : PT X a (iT T Z W C1)) (hb : PW X (.BoolOp .Or (b :: rest) pos) (iT T Z W C2)) : PW X (.BoolOp .Or (a :: b :: rest) pos) (iT T Z W (.or2 C1 C2)) := by
  have w := pw_or ha hb
  refine ⟨fun whole pins s σ H Q I h => w.run whole pins s σ H Q I ?_⟩
  obtain ⟨ρ, env, st, er, sr, h⟩ := h
  simp only [evT] at h
  refine ⟨ρ, env, st, er, sr, (Post.seq reqOk (Now.start sr) sr h).mono ?_⟩
  rintro c H1 ⟨ρ1, d1, st1, F1, n1, t1, ⟨rfl, rfl⟩, h1⟩
  cases d1 with
  | false => exact ⟨ρ1, env, st1, t1.env sr er, n1.sr, h1.tail reqOk n1 sr⟩
  | true => exact Post.ret h1 n1 ⟨rfl, rfl⟩
theorem se_ife {C1 : Cn} (hc : PT X c (iT T Z W C1)) (ha : PE X a (iE T Z W A)) (hb : PE X b (iE T Z W B)) : PE X (.IfExp c a b pos) (iE T Z W (.ife C1 A B)) := by
  refine pe_weak (pe_ifExp hc ha hb) fun σ H Q ⟨ρ, env, st, er, sr, h⟩ => ?_
  simp only [ev] at h
  refine ⟨ρ, env, st, er, sr, (Post.seq reqOk (Now.start sr) sr h).mono ?_⟩
  rintro k H1 ⟨ρ1, d1, st1, F1, n1, t1, ⟨rfl, rfl⟩, h1⟩
  cases d1 with
  | true => exact ⟨ρ1, env, st1, t1.env sr er, n1.sr, h1.tail rpOk n1 sr⟩
  | false => exact ⟨ρ1, env, st1, t1.env sr er, n1.sr, h1.tail rpOk n1 sr⟩
theorem st_val (ha : PE X a (iE T Z W A)) (he : ∀ whole, isTrue a X.env whole = (do let v <- whole; standAt a.pos; holding [v] (truthy v))) (hK : X.K = Z.K) : PT X a (iT T Z W (.val A)) := by
  refine pt_weak (pt_truth ha he) fun σ H Q ⟨ρ, env, st, er, sr, h⟩ => ?_
  simp only [evT] at h
  refine ⟨ρ, env, st, er, sr, (Post.seq rpOk (Now.start sr) sr h).mono ?_⟩
  rintro x H1 ⟨ρ1, d1, st1, F1, n1, t1, r1, h1⟩
  cases e : truth st1 d1 with
  | none => simp only [e] at h1; exact h1.elim
  | some k =>
    simp only [e] at h1
    have fin : Q k H1 := Post.ret h1 (n1.less (List.nil_sublist _)) ⟨rfl, rfl⟩
    refine ⟨k, ?_, fin⟩
    rw [hK]
    cases d1 with
    | non => obtain ⟨rfl, _⟩ := r1; simp only [truth, Option.some.injEq] at e; exact e.symm
    | bl b => obtain ⟨rfl, _⟩ := r1; simp only [truth, Option.some.injEq] at e; exact e.symm
    | int i => obtain ⟨rfl, _⟩ := r1; simp only [truth, Option.some.injEq] at e; exact e.symm
    | str z =>
      obtain ⟨rfl, _⟩ := r1
      simp only [truth] at e
      split at e
      · rename_i hz; cases e; exact ⟨hz, rfl⟩
      · cases e
    | tup ds =>
      obtain ⟨p, vs, rfl, hp, r⟩ := r1
      simp only [truth, Option.some.injEq] at e
      exact .inr (.inl ⟨vs, hp, by rw [<- e]; cases ds <;> cases vs <;> simp_all [Rps]⟩)
    | lst ds =>
      obtain ⟨p, vs, G, rfl, hp, r, _⟩ := r1
      simp only [truth, Option.some.injEq] at e
      exact .inl ⟨vs, SqL.of hp, by rw [<- e]; cases ds <;> cases vs <;> simp_all [Rps]⟩
    | ref l =>
      obtain ⟨p, hl, rfl, _⟩ := r1
      cases hc : st1[l]? with
      | none => simp [truth, hc] at e
      | some cc =>
        have rc := n1.sr.cell l cc p hc hl
        cases cc with
        | lst ds =>
          simp only [truth, hc, Option.some.injEq] at e
          obtain ⟨p', vs, G, z, hp, r, _⟩ := rc
          cases z
          exact .inl ⟨vs, SqL.of hp, by rw [<- e]; cases ds <;> cases vs <;> simp_all [Rps]⟩
        | frl ds =>
          simp only [truth, hc, Option.some.injEq] at e
          obtain ⟨p', o, vs, G, z, hp, r, _⟩ := rc
          cases z
          exact .inl ⟨vs, .inl (.inr ⟨o, hp⟩), by rw [<- e]; cases ds <;> cases vs <;> simp_all [Rps]⟩
        | _ => simp [truth, hc] at e
    | _ => simp [truth] at e
end
end Fs
namespace Fs
open PySem L2
section
variable {Z : Wc} {H : Hp}
theorem get_append {ρ N : List Addr} : ∀ (l : Nat) (a : Addr), ρ[l]? = some a -> (ρ ++ N)[l]? = some a := fun l a h => by
  rw [List.getElem?_append_left (List.getElem?_eq_some_iff.mp h).1]; exact h
theorem Rp.wide {ρ N : List Addr} {d : D} {v : V} {F : List Addr} (h : Rp Z ρ H d v F) : Rp Z (ρ ++ N) H d v F := Rp.stay get_append (fun _ _ e _ => e) (fun _ _ _ e => e) h
theorem Rps.wide {ρ N : List Addr} {d : List D} {v : List V} {F : List Addr} (h : Rps Z ρ H d v F) : Rps Z (ρ ++ N) H d v F := Rps.stay get_append (fun _ _ e _ => e) (fun _ _ _ e => e) h
theorem RpK.wide {ρ N : List Addr} {d : List (Ky × D)} {v : List (L2.Key × V)} {F : List Addr} (h : RpK Z ρ H d v F) : RpK Z (ρ ++ N) H d v F := RpK.stay get_append (fun _ _ e _ => e) (fun _ _ _ e => e) h
theorem RpT.wide {ρ N : List Addr} {d : List (Ky × D)} {v : List (List L2.Key × V)} {F : List Addr} (h : RpT Z ρ H d v F) : RpT Z (ρ ++ N) H d v F := RpT.stay get_append (fun _ _ e _ => e) (fun _ _ _ e => e) h
theorem SR.push {ρ : List Addr} {st : Sto} {a : Addr} {c : D} (s : SR Z ρ st H) (ha : a ∉ ρ) (k : isCell c = true) (r : Rp Z ρ H c (.ref a) [a]) : SR Z (ρ ++ [a]) (st ++ [c]) H := by
  refine ⟨by simp [s.len], ?_, ?_, ?_, s.gb.step fun _ _ e _ => e⟩
  · refine List.nodup_append.mpr ⟨s.nd, by simp, ?_⟩
    intro x hx y hy e
    subst e
    cases List.mem_singleton.mp hy
    exact ha hx
  · intro l d h
    by_cases hl : l < st.length
    · rw [List.getElem?_append_left hl] at h; exact s.kind l d h
    · rw [List.getElem?_append_right (Nat.le_of_not_lt hl)] at h
      rcases hh : l - st.length with _ | n
      · rw [hh] at h; cases h; exact k
      · rw [hh] at h; simp at h
  · intro l d b h1 h2
    by_cases hl : l < st.length
    · rw [List.getElem?_append_left hl] at h1
      rw [List.getElem?_append_left (by rw [s.len]; exact hl)] at h2
      exact (s.cell l d b h1 h2).wide
    · have hl' := Nat.le_of_not_lt hl
      rw [List.getElem?_append_right hl'] at h1
      rw [List.getElem?_append_right (by rw [s.len]; exact hl'), s.len] at h2
      rcases hh : l - st.length with _ | n
      · rw [hh] at h1 h2; cases h1; cases h2; exact r.wide
      · rw [hh] at h1; simp at h1
theorem disj_step {ρ N F1 F2 : List Addr} (nd : (F1 ++ F2).Nodup) (fo : ∀ a ∈ F1 ++ F2, a ∉ ρ) (p : N.Perm F1) : ∀ a ∈ F2, a ∉ ρ ++ N := fun a ha z => by
  rcases List.mem_append.mp z with z | z
  · exact fo a (List.mem_append_right _ ha) z
  · exact (List.nodup_append.mp nd).2.2 a (p.mem_iff.mp z) a ha rfl
mutual
theorem land_ok : ∀ (d : D) {st : Sto} {ρ : List Addr} {v : V} {F : List Addr}, SR Z ρ st H -> Rp Z ρ H d v F -> (∀ a ∈ F, a ∉ ρ) -> F.Nodup ->
    ∃ N, N.Perm F /\ SR Z (ρ ++ N) (land d st).2 H /\ Rp Z (ρ ++ N) H (land d st).1 v []
  | .non, st, ρ, v, F, s, r, fo, nd => by obtain ⟨rfl, rfl⟩ := r; exact ⟨[], .refl _, by simpa [land] using s, by simp [land, Rp]⟩
  | .bl b, st, ρ, v, F, s, r, fo, nd => by obtain ⟨rfl, rfl⟩ := r; exact ⟨[], .refl _, by simpa [land] using s, by simp [land, Rp]⟩
  | .int b, st, ρ, v, F, s, r, fo, nd => by obtain ⟨rfl, rfl⟩ := r; exact ⟨[], .refl _, by simpa [land] using s, by simp [land, Rp]⟩
  | .str b, st, ρ, v, F, s, r, fo, nd => by obtain ⟨rfl, rfl⟩ := r; exact ⟨[], .refl _, by simpa [land] using s, by simp [land, Rp]⟩
  | .ref l, st, ρ, v, F, s, r, fo, nd => by
    obtain ⟨a, h1, rfl, rfl⟩ := r
    exact ⟨[], .refl _, by simpa [land] using s, ⟨a, by simpa using h1, rfl, rfl⟩⟩
  | .exc c fs, st, ρ, v, F, s, r, fo, nd => by
    have e : F = [] := by obtain ⟨_, _, _, _, _, f⟩ := r; exact f
    subst e
    exact ⟨[], .refl _, by simpa [land] using s, by simpa [land] using r⟩
  | .lam n cs, st, ρ, v, F, s, r, fo, nd => by
    obtain ⟨a, rfl, rfl, h⟩ := r
    have na : a ∉ ρ := fo a List.mem_cons_self
    have s2 := s.push (c := .lam n cs) na rfl ⟨a, rfl, rfl, h⟩
    refine ⟨[a], .refl _, s2, ⟨a, ?_, rfl, rfl⟩⟩
    rw [List.getElem?_append_right (by rw [s.len]; exact Nat.le_refl _), s.len]
    simp
  | .tup ds, st, ρ, v, F, s, r, fo, nd => by
    obtain ⟨a, vs, rfl, h, r'⟩ := r
    obtain ⟨N, p, s', q⟩ := lands_ok ds s r' fo nd
    exact ⟨N, p, by simpa [land] using s', ⟨a, vs, rfl, h, q⟩⟩
  | .lst ds, st, ρ, v, F, s, r, fo, nd => by
    obtain ⟨a, vs, G, rfl, h, r', rfl⟩ := r
    obtain ⟨N, p, s', q⟩ := lands_ok ds s r' (fun b hb => fo b (List.mem_cons_of_mem _ hb)) (List.nodup_cons.mp nd).2
    have na : a ∉ ρ ++ N := fun z => by
      rcases List.mem_append.mp z with z | z
      · exact fo a List.mem_cons_self z
      · exact (List.nodup_cons.mp nd).1 (p.mem_iff.mp z)
    have s2 := s'.push (c := .lst (lands ds st).1) na rfl ⟨a, vs, [], rfl, h, q, rfl⟩
    refine ⟨N ++ [a], (p.append_right [a]).trans List.perm_append_comm, by rw [<- List.append_assoc]; exact s2, ⟨a, ?_, rfl, rfl⟩⟩
    rw [<- List.append_assoc, List.getElem?_append_right (by rw [s'.len]; exact Nat.le_refl _), s'.len]
    simp
  | .frl ds, st, ρ, v, F, s, r, fo, nd => by
    obtain ⟨a, o, vs, G, rfl, h, r', rfl⟩ := r
    obtain ⟨N, p, s', q⟩ := lands_ok ds s r' (fun b hb => fo b (List.mem_cons_of_mem _ hb)) (List.nodup_cons.mp nd).2
    have na : a ∉ ρ ++ N := fun z => by
      rcases List.mem_append.mp z with z | z
      · exact fo a List.mem_cons_self z
      · exact (List.nodup_cons.mp nd).1 (p.mem_iff.mp z)
    have s2 := s'.push (c := .frl (lands ds st).1) na rfl ⟨a, o, vs, [], rfl, h, q, rfl⟩
    refine ⟨N ++ [a], (p.append_right [a]).trans List.perm_append_comm, by rw [<- List.append_assoc]; exact s2, ⟨a, ?_, rfl, rfl⟩⟩
    rw [<- List.append_assoc, List.getElem?_append_right (by rw [s'.len]; exact Nat.le_refl _), s'.len]
    simp
  | .dic kvs, st, ρ, v, F, s, r, fo, nd => by
    obtain ⟨a, G, rfl, rfl, hh⟩ := r
    rcases hh with ⟨ws, h, r'⟩ | ⟨ws, h, r'⟩
    · obtain ⟨N, p, s', q⟩ := landK_ok kvs s r' (fun b hb => fo b (List.mem_cons_of_mem _ hb)) (List.nodup_cons.mp nd).2
      have na : a ∉ ρ ++ N := fun z => by
        rcases List.mem_append.mp z with z | z
        · exact fo a List.mem_cons_self z
        · exact (List.nodup_cons.mp nd).1 (p.mem_iff.mp z)
      have s2 := s'.push (c := .dic (landk kvs st).1) na rfl ⟨a, [], rfl, rfl, .inl ⟨ws, h, q⟩⟩
      refine ⟨N ++ [a], (p.append_right [a]).trans List.perm_append_comm, by rw [<- List.append_assoc]; exact s2, ⟨a, ?_, rfl, rfl⟩⟩
      rw [<- List.append_assoc, List.getElem?_append_right (by rw [s'.len]; exact Nat.le_refl _), s'.len]
      simp
    · obtain ⟨N, p, s', q⟩ := landT_ok kvs s r' (fun b hb => fo b (List.mem_cons_of_mem _ hb)) (List.nodup_cons.mp nd).2
      have na : a ∉ ρ ++ N := fun z => by
        rcases List.mem_append.mp z with z | z
        · exact fo a List.mem_cons_self z
        · exact (List.nodup_cons.mp nd).1 (p.mem_iff.mp z)
      have s2 := s'.push (c := .dic (landk kvs st).1) na rfl ⟨a, [], rfl, rfl, .inr ⟨ws, h, q⟩⟩
      refine ⟨N ++ [a], (p.append_right [a]).trans List.perm_append_comm, by rw [<- List.append_assoc]; exact s2, ⟨a, ?_, rfl, rfl⟩⟩
      rw [<- List.append_assoc, List.getElem?_append_right (by rw [s'.len]; exact Nat.le_refl _), s'.len]
      simp
  | .set xs, st, ρ, v, F, s, r, fo, nd => by
    obtain ⟨a, S, rfl, h, n, z, rfl⟩ := r
    have na : a ∉ ρ := fo a List.mem_cons_self
    have s2 := s.push (c := .set xs) na rfl ⟨a, S, rfl, h, n, z, rfl⟩
    refine ⟨[a], .refl _, s2, ⟨a, ?_, rfl, rfl⟩⟩
    rw [List.getElem?_append_right (by rw [s.len]; exact Nat.le_refl _), s.len]
    simp
theorem lands_ok : ∀ (ds : List D) {st : Sto} {ρ : List Addr} {vs : List V} {F : List Addr}, SR Z ρ st H -> Rps Z ρ H ds vs F -> (∀ a ∈ F, a ∉ ρ) -> F.Nodup ->
    ∃ N, N.Perm F /\ SR Z (ρ ++ N) (lands ds st).2 H /\ Rps Z (ρ ++ N) H (lands ds st).1 vs []
  | [], st, ρ, v, F, s, r, fo, nd => by obtain ⟨rfl, rfl⟩ := r; exact ⟨[], .refl _, by simpa [lands] using s, by simp [lands, Rps]⟩
  | d :: ds, st, ρ, v, F, s, r, fo, nd => by
    obtain ⟨u, ws, F1, F2, rfl, r1, r2, rfl⟩ := r
    obtain ⟨N1, p1, s1, q1⟩ := land_ok d s r1 (fun a ha => fo a (List.mem_append_left _ ha)) (List.nodup_append.mp nd).1
    obtain ⟨N2, p2, s2, q2⟩ := lands_ok ds s1 r2.wide (disj_step nd fo p1) (List.nodup_append.mp nd).2.1
    refine ⟨N1 ++ N2, p1.append p2, by rw [<- List.append_assoc]; exact s2, ?_⟩
    rw [<- List.append_assoc]
    exact ⟨u, ws, [], [], rfl, q1.wide, q2, rfl⟩
theorem landK_ok : ∀ (ds : List (Ky × D)) {st : Sto} {ρ : List Addr} {vs : List (L2.Key × V)} {F : List Addr}, SR Z ρ st H -> RpK Z ρ H ds vs F -> (∀ a ∈ F, a ∉ ρ) -> F.Nodup ->
    ∃ N, N.Perm F /\ SR Z (ρ ++ N) (landk ds st).2 H /\ RpK Z (ρ ++ N) H (landk ds st).1 vs []
  | [], st, ρ, v, F, s, r, fo, nd => by obtain ⟨rfl, rfl⟩ := r; exact ⟨[], .refl _, by simpa [landk] using s, by simp [landk, RpK]⟩
  | (k, d) :: ds, st, ρ, v, F, s, r, fo, nd => by
    obtain ⟨j, u, ws, F1, F2, rfl, rfl, r1, r2, rfl⟩ := r
    obtain ⟨N1, p1, s1, q1⟩ := land_ok d s r1 (fun a ha => fo a (List.mem_append_left _ ha)) (List.nodup_append.mp nd).1
    obtain ⟨N2, p2, s2, q2⟩ := landK_ok ds s1 r2.wide (disj_step nd fo p1) (List.nodup_append.mp nd).2.1
    refine ⟨N1 ++ N2, p1.append p2, by rw [<- List.append_assoc]; exact s2, ?_⟩
    rw [<- List.append_assoc]
    exact ⟨j, u, ws, [], [], rfl, rfl, q1.wide, q2, rfl⟩
theorem landT_ok : ∀ (ds : List (Ky × D)) {st : Sto} {ρ : List Addr} {vs : List (List L2.Key × V)} {F : List Addr}, SR Z ρ st H -> RpT Z ρ H ds vs F -> (∀ a ∈ F, a ∉ ρ) -> F.Nodup ->
    ∃ N, N.Perm F /\ SR Z (ρ ++ N) (landk ds st).2 H /\ RpT Z (ρ ++ N) H (landk ds st).1 vs []
  | [], st, ρ, v, F, s, r, fo, nd => by obtain ⟨rfl, rfl⟩ := r; exact ⟨[], .refl _, by simpa [landk] using s, by simp [landk, RpT]⟩
  | (k, d) :: ds, st, ρ, v, F, s, r, fo, nd => by
    obtain ⟨j, u, ws, F1, F2, rfl, rfl, r1, r2, rfl⟩ := r
    obtain ⟨N1, p1, s1, q1⟩ := land_ok d s r1 (fun a ha => fo a (List.mem_append_left _ ha)) (List.nodup_append.mp nd).1
    obtain ⟨N2, p2, s2, q2⟩ := landT_ok ds s1 r2.wide (disj_step nd fo p1) (List.nodup_append.mp nd).2.1
    refine ⟨N1 ++ N2, p1.append p2, by rw [<- List.append_assoc]; exact s2, ?_⟩
    rw [<- List.append_assoc]
    exact ⟨j, u, ws, [], [], rfl, rfl, q1.wide, q2, rfl⟩
end
theorem Now.landed {ρ ρ' N : List Addr} {H0 : Hp} {st st' : Sto} {F G : List Addr} (n : Now Z ρ H0 ρ' st H (F ++ G)) (p : N.Perm G) (s : SR Z (ρ' ++ N) st' H) : Now Z ρ H0 (ρ' ++ N) st' H F := by
  obtain ⟨M, rfl, nd, f, k⟩ := n.stp
  have pm : (M ++ N ++ F).Perm (M ++ (F ++ G)) := by
    rw [List.append_assoc]
    exact List.Perm.append_left M ((List.perm_append_comm (l₁ := N)).trans (List.Perm.append_left F p))
  have st1 : Stp ρ H0 (ρ ++ M ++ N) H F := ⟨M ++ N, by simp [List.append_assoc], pm.nodup_iff.mpr nd, fun a ha => f a (pm.mem_iff.mp ha), k⟩
  refine ⟨st1, s, fun a ha => n.th a (List.mem_append_left _ ha), fun a ha z => ?_, (List.nodup_append.mp n.nd).1⟩
  rcases List.mem_append.mp z with z | z
  · exact n.out a (List.mem_append_left _ ha) z
  · exact (List.nodup_append.mp n.nd).2.2 a ha a (p.mem_iff.mp z) rfl
end
end Fs
namespace Fs
open PySem L2
theorem perm4 {α : Type} (A B C E : List α) : ((A ++ B) ++ (C ++ E)).Perm ((A ++ C) ++ (E ++ B)) := by
  rw [List.append_assoc, List.append_assoc]
  refine List.Perm.append_left A ?_
  rw [<- List.append_assoc, <- List.append_assoc]
  have h1 : (B ++ C ++ E).Perm (C ++ B ++ E) := List.Perm.append_right E List.perm_append_comm
  refine h1.trans ?_
  rw [List.append_assoc, List.append_assoc]
  exact List.Perm.append_left C List.perm_append_comm
section
variable {Z : Wc} {H : Hp} {ρ : List Addr} {st : Sto} {b : Nat}
def locs (ρ : List Addr) (L : List Nat) : List Addr := L.filterMap fun m => ρ[m]?
theorem nodup_locs (n : ρ.Nodup) : ∀ {L : List Nat}, L.Nodup -> (locs ρ L).Nodup
  | [], _ => List.nodup_nil
  | l :: L, h => by
    have ih := nodup_locs n (List.nodup_cons.mp h).2
    unfold locs at ih ⊢
    cases e : ρ[l]? with
    | none => simpa [List.filterMap_cons, e] using ih
    | some a =>
      simp only [List.filterMap_cons, e]
      refine List.nodup_cons.mpr ⟨fun z => ?_, ih⟩
      obtain ⟨m, hm, em⟩ := List.mem_filterMap.mp z
      have := (List.getElem?_inj (List.getElem?_eq_some_iff.mp e).1 n).mp (e.trans em.symm)
      subst this
      exact (List.nodup_cons.mp h).1 hm
theorem locs_append (L M : List Nat) : locs ρ (L ++ M) = locs ρ L ++ locs ρ M := List.filterMap_append
def RbG (Z : Wc) (ρ : List Addr) (H : Hp) (b : Nat) (g : Nat -> List Nat -> Option (D × List Nat)) : Prop := ∀ (l : Nat) (vis : List Nat) (d' : D) (vis' : List Nat), g l vis = some (d', vis') -> b <= l ->
  ∃ (L : List Nat) (G : List Addr), vis'.Perm (L ++ vis) /\ L.Nodup /\ (∀ m ∈ L, b <= m /\ m ∉ vis) /\ G.Perm (locs ρ L) /\ ∀ a, ρ[l]? = some a -> Rp Z (ρ.take b) H d' (.ref a) G
theorem vis_step {vis vis1 vis2 L1 L2 : List Nat} (p1 : vis1.Perm (L1 ++ vis)) (n1 : L1.Nodup) (o1 : ∀ m ∈ L1, b <= m /\ m ∉ vis) (p2 : vis2.Perm (L2 ++ vis1)) (n2 : L2.Nodup) (o2 : ∀ m ∈ L2, b <= m /\ m ∉ vis1) :
    vis2.Perm ((L2 ++ L1) ++ vis) /\ (L2 ++ L1).Nodup /\ ∀ m ∈ L2 ++ L1, b <= m /\ m ∉ vis := by
  refine ⟨p2.trans (by rw [List.append_assoc]; exact List.Perm.append_left L2 p1), List.nodup_append.mpr ⟨n2, n1, ?_⟩, ?_⟩
  · intro x hx y hy e
    subst e
    exact (o2 x hx).2 (p1.mem_iff.mpr (List.mem_append_left _ hy))
  · intro m hm
    rcases List.mem_append.mp hm with hm | hm
    · exact ⟨(o2 m hm).1, fun z => (o2 m hm).2 (p1.mem_iff.mpr (List.mem_append_right _ z))⟩
    · exact o1 m hm
mutual
theorem clsRp : ∀ (d : D) {v : V} {F : List Addr}, D.cls b d = true -> Rp Z ρ H d v F -> Rp Z (ρ.take b) H d v F
  | .non, v, F, c, r => r
  | .bl _, v, F, c, r => r
  | .int _, v, F, c, r => r
  | .str _, v, F, c, r => r
  | .ref l, v, F, c, r => by
    obtain ⟨a, h, e, f⟩ := r
    simp only [D.cls, decide_eq_true_eq] at c
    exact ⟨a, by rw [List.getElem?_take_of_lt c]; exact h, e, f⟩
  | .tup ds, v, F, c, r => by
    obtain ⟨a, vs, e, h, r⟩ := r
    exact ⟨a, vs, e, h, clsRps ds (by simpa [D.cls] using c) r⟩
  | .exc k fs, v, F, c, r => by
    obtain ⟨a, dx, e, h, r, f⟩ := r
    exact ⟨a, dx, e, h, clsRpX fs (by simpa [D.cls] using c) r, f⟩
  | .lst _, v, F, c, r => by simp [D.cls] at c
  | .frl _, v, F, c, r => by simp [D.cls] at c
  | .dic _, v, F, c, r => by simp [D.cls] at c
  | .set _, v, F, c, r => by simp [D.cls] at c
  | .lam _ _, v, F, c, r => by simp [D.cls] at c
theorem clsRpX : ∀ (ds : List D) {f : Option Str} {dx : Option Addr}, D.clss b ds = true -> RpX Z ρ H f dx ds -> RpX Z (ρ.take b) H f dx ds
  | [], f, dx, c, r => r
  | d :: ds, f, dx, c, r => by
    obtain ⟨e, n, x, u, h1, h2, h3, r⟩ := r
    simp only [D.clss, Bool.and_eq_true] at c
    exact ⟨e, n, x, u, h1, h2, h3, clsRp d c.1 r⟩
theorem clsRps : ∀ (ds : List D) {v : List V} {F : List Addr}, D.clss b ds = true -> Rps Z ρ H ds v F -> Rps Z (ρ.take b) H ds v F
  | [], v, F, c, r => r
  | d :: ds, v, F, c, r => by
    obtain ⟨u, ws, F1, F2, e, r1, r2, f⟩ := r
    simp only [D.clss, Bool.and_eq_true] at c
    exact ⟨u, ws, F1, F2, e, clsRp d c.1 r1, clsRps ds c.2 r2, f⟩
theorem clsRpK : ∀ (ds : List (Ky × D)) {v : List (L2.Key × V)} {F : List Addr}, D.clsk b ds = true -> RpK Z ρ H ds v F -> RpK Z (ρ.take b) H ds v F
  | [], v, F, c, r => r
  | (k, d) :: ds, v, F, c, r => by
    obtain ⟨j, u, ws, F1, F2, z, e, r1, r2, f⟩ := r
    simp only [D.clsk, Bool.and_eq_true] at c
    exact ⟨j, u, ws, F1, F2, z, e, clsRp d c.1 r1, clsRpK ds c.2 r2, f⟩
theorem clsRpT : ∀ (ds : List (Ky × D)) {v : List (List L2.Key × V)} {F : List Addr}, D.clsk b ds = true -> RpT Z ρ H ds v F -> RpT Z (ρ.take b) H ds v F
  | [], v, F, c, r => r
  | (k, d) :: ds, v, F, c, r => by
    obtain ⟨j, u, ws, F1, F2, z, e, r1, r2, f⟩ := r
    simp only [D.clsk, Bool.and_eq_true] at c
    exact ⟨j, u, ws, F1, F2, z, e, clsRp d c.1 r1, clsRpT ds c.2 r2, f⟩
end
mutual
theorem cls_of : ∀ (d : D) {v : V}, Rp Z ρ H d v [] -> D.cls ρ.length d = true
  | .non, v, r => rfl
  | .bl _, v, r => rfl
  | .int _, v, r => rfl
  | .str _, v, r => rfl
  | .ref l, v, r => by
    obtain ⟨a, h, _, _⟩ := r
    simpa [D.cls] using (List.getElem?_eq_some_iff.mp h).1
  | .tup ds, v, r => by obtain ⟨_, _, _, _, r⟩ := r; simpa [D.cls] using clss_of ds r
  | .exc c fs, v, r => by obtain ⟨_, _, _, _, r, _⟩ := r; simpa [D.cls] using clsX_of fs r
  | .lst ds, v, r => by obtain ⟨_, _, _, _, _, _, z⟩ := r; cases z
  | .frl ds, v, r => by obtain ⟨_, _, _, _, _, _, _, z⟩ := r; cases z
  | .dic ds, v, r => by obtain ⟨_, _, _, z, _⟩ := r; cases z
  | .set ds, v, r => by obtain ⟨_, _, _, _, _, _, z⟩ := r; cases z
  | .lam _ _, v, r => by obtain ⟨_, _, z, _⟩ := r; cases z
theorem clsX_of : ∀ (ds : List D) {f : Option Str} {dx : Option Addr}, RpX Z ρ H f dx ds -> D.clss ρ.length ds = true
  | [], f, dx, r => rfl
  | d :: ds, f, dx, r => by
    obtain ⟨rfl, n, x, u, _, _, _, r⟩ := r
    simp [D.clss, cls_of d r]
theorem clss_of : ∀ (ds : List D) {vs : List V}, Rps Z ρ H ds vs [] -> D.clss ρ.length ds = true
  | [], vs, r => rfl
  | d :: ds, vs, r => by
    obtain ⟨u, ws, F1, F2, _, r1, r2, f⟩ := r
    obtain ⟨rfl, rfl⟩ := List.append_eq_nil_iff.mp f.symm
    simp [D.clss, cls_of d r1, clss_of ds r2]
theorem clsK_of : ∀ (ds : List (Ky × D)) {vs : List (L2.Key × V)}, RpK Z ρ H ds vs [] -> D.clsk ρ.length ds = true
  | [], vs, r => rfl
  | (k, d) :: ds, vs, r => by
    obtain ⟨j, u, ws, F1, F2, _, _, r1, r2, f⟩ := r
    obtain ⟨rfl, rfl⟩ := List.append_eq_nil_iff.mp f.symm
    simp [D.clsk, cls_of d r1, clsK_of ds r2]
theorem clsT_of : ∀ (ds : List (Ky × D)) {vs : List (List L2.Key × V)}, RpT Z ρ H ds vs [] -> D.clsk ρ.length ds = true
  | [], vs, r => rfl
  | (k, d) :: ds, vs, r => by
    obtain ⟨j, u, ws, F1, F2, _, _, r1, r2, f⟩ := r
    obtain ⟨rfl, rfl⟩ := List.append_eq_nil_iff.mp f.symm
    simp [D.clsk, cls_of d r1, clsT_of ds r2]
end
theorem cellCl_of {c : D} {a : Addr} (k : isCell c = true) (r : Rp Z ρ H c (.ref a) [a]) : cellCl ρ.length c = true := by
  cases c with
  | lst ds =>
    obtain ⟨b, vs, G, e, h1, r, f⟩ := r
    obtain rfl : G = [] := by injection f with _ f; exact f.symm
    simpa [cellCl] using clss_of ds r
  | frl ds =>
    obtain ⟨b, o, vs, G, e, h1, r, f⟩ := r
    obtain rfl : G = [] := by injection f with _ f; exact f.symm
    simpa [cellCl] using clss_of ds r
  | dic kvs =>
    obtain ⟨b, G, e, f, hh⟩ := r
    obtain rfl : G = [] := by injection f with _ f; exact f.symm
    rcases hh with ⟨ws, h1, r⟩ | ⟨ws, h1, r⟩
    · simpa [cellCl] using clsK_of kvs r
    · simpa [cellCl] using clsT_of kvs r
  | set xs => rfl
  | lam n cs => rfl
  | _ => cases k
theorem clsCell {c : D} {v : V} {F : List Addr} (h : cellCl b c = true) (r : Rp Z ρ H c v F) : Rp Z (ρ.take b) H c v F := by
  cases c with
  | lst ds =>
    obtain ⟨a, vs, G, e, h1, r, f⟩ := r
    exact ⟨a, vs, G, e, h1, clsRps ds (by simpa [cellCl] using h) r, f⟩
  | frl ds =>
    obtain ⟨a, o, vs, G, e, h1, r, f⟩ := r
    exact ⟨a, o, vs, G, e, h1, clsRps ds (by simpa [cellCl] using h) r, f⟩
  | dic kvs =>
    obtain ⟨a, G, e, f, hh⟩ := r
    have h' : D.clsk b kvs = true := by simpa [cellCl] using h
    refine ⟨a, G, e, f, ?_⟩
    rcases hh with ⟨ws, h1, r⟩ | ⟨ws, h1, r⟩
    · exact .inl ⟨ws, h1, clsRpK kvs h' r⟩
    · exact .inr ⟨ws, h1, clsRpT kvs h' r⟩
  | set xs => exact r
  | lam n cs => exact r
  | _ => simp [cellCl] at h
mutual
theorem rb_ok {g : Nat -> List Nat -> Option (D × List Nat)} (hg : RbG Z ρ H b g) : ∀ (d : D) {vis vis' : List Nat} {d' : D} {v : V} {F : List Addr}, rbD g b d vis = some (d', vis') -> Rp Z ρ H d v F ->
    ∃ (L : List Nat) (G : List Addr), vis'.Perm (L ++ vis) /\ L.Nodup /\ (∀ m ∈ L, b <= m /\ m ∉ vis) /\ G.Perm (F ++ locs ρ L) /\ Rp Z (ρ.take b) H d' v G
  | .non, vis, vis', d', v, F, e, r => by
    simp only [rbD, Option.some.injEq, Prod.mk.injEq] at e
    obtain ⟨rfl, rfl⟩ := e
    exact ⟨[], F, .refl _, .nil, by simp, by simp [locs], r⟩
  | .bl _, vis, vis', d', v, F, e, r => by
    simp only [rbD, Option.some.injEq, Prod.mk.injEq] at e
    obtain ⟨rfl, rfl⟩ := e
    exact ⟨[], F, .refl _, .nil, by simp, by simp [locs], r⟩
  | .int _, vis, vis', d', v, F, e, r => by
    simp only [rbD, Option.some.injEq, Prod.mk.injEq] at e
    obtain ⟨rfl, rfl⟩ := e
    exact ⟨[], F, .refl _, .nil, by simp, by simp [locs], r⟩
  | .str _, vis, vis', d', v, F, e, r => by
    simp only [rbD, Option.some.injEq, Prod.mk.injEq] at e
    obtain ⟨rfl, rfl⟩ := e
    exact ⟨[], F, .refl _, .nil, by simp, by simp [locs], r⟩
  | .set _, vis, vis', d', v, F, e, r => by
    simp only [rbD, Option.some.injEq, Prod.mk.injEq] at e
    obtain ⟨rfl, rfl⟩ := e
    exact ⟨[], F, .refl _, .nil, by simp, by simp [locs], r⟩
  | .ref l, vis, vis', d', v, F, e, r => by
    simp only [rbD] at e
    cases hl : decide (l < b) with
    | true =>
      rw [hl] at e
      simp only [Option.some.injEq, Prod.mk.injEq] at e
      obtain ⟨rfl, rfl⟩ := e
      exact ⟨[], F, .refl _, .nil, by simp, by simp [locs], clsRp (b := b) (.ref l) (by simpa [D.cls] using hl) r⟩
    | false =>
      rw [hl] at e
      obtain ⟨a, h1, rfl, rfl⟩ := r
      obtain ⟨L, G, p, n, o, q, k⟩ := hg l vis d' vis' e (by simpa using hl)
      exact ⟨L, G, p, n, o, by simpa using q, k a h1⟩
  | .tup ds, vis, vis', d', v, F, e, r => by
    obtain ⟨a, vs, rfl, h, r⟩ := r
    simp only [rbD, Option.map_eq_some_iff] at e
    obtain ⟨⟨x, y⟩, e1, e2⟩ := e
    cases e2
    obtain ⟨L, G, p, n, o, q, k⟩ := rbs_ok hg ds e1 r
    exact ⟨L, G, p, n, o, q, ⟨a, vs, rfl, h, k⟩⟩
  | .lst ds, vis, vis', d', v, F, e, r => by
    obtain ⟨a, vs, G0, rfl, h, r, rfl⟩ := r
    simp only [rbD, Option.map_eq_some_iff] at e
    obtain ⟨⟨x, y⟩, e1, e2⟩ := e
    cases e2
    obtain ⟨L, G, p, n, o, q, k⟩ := rbs_ok hg ds e1 r
    exact ⟨L, a :: G, p, n, o, List.Perm.cons a q, ⟨a, vs, G, rfl, h, k, rfl⟩⟩
  | .dic kvs, vis, vis', d', v, F, e, r => by
    obtain ⟨a, G0, rfl, rfl, hh⟩ := r
    simp only [rbD, Option.map_eq_some_iff] at e
    obtain ⟨⟨x, y⟩, e1, e2⟩ := e
    cases e2
    rcases hh with ⟨ws, h, r⟩ | ⟨ws, h, r⟩
    · obtain ⟨L, G, p, n, o, q, k⟩ := rbK_ok hg kvs e1 r
      exact ⟨L, a :: G, p, n, o, List.Perm.cons a q, ⟨a, G, rfl, rfl, .inl ⟨ws, h, k⟩⟩⟩
    · obtain ⟨L, G, p, n, o, q, k⟩ := rbT_ok hg kvs e1 r
      exact ⟨L, a :: G, p, n, o, List.Perm.cons a q, ⟨a, G, rfl, rfl, .inr ⟨ws, h, k⟩⟩⟩
  | .exc c fs, vis, vis', d', v, F, e, r => by
    simp only [rbD] at e
    cases hc : D.clss b fs with
    | false => rw [hc] at e; cases e
    | true =>
      rw [hc] at e
      simp only [Option.some.injEq, Prod.mk.injEq] at e
      obtain ⟨rfl, rfl⟩ := e
      exact ⟨[], F, .refl _, .nil, by simp, by simp [locs], clsRp (b := b) (.exc c fs) (by simpa [D.cls] using hc) r⟩
  | .lam c fs, vis, vis', d', v, F, e, r => by simp [rbD] at e
  | .frl ds, vis, vis', d', v, F, e, r => by simp [rbD] at e
theorem rbs_ok {g : Nat -> List Nat -> Option (D × List Nat)} (hg : RbG Z ρ H b g) : ∀ (ds : List D) {vis vis' : List Nat} {ds' : List D} {vs : List V} {F : List Addr}, rbDs g b ds vis = some (ds', vis') -> Rps Z ρ H ds vs F ->
    ∃ (L : List Nat) (G : List Addr), vis'.Perm (L ++ vis) /\ L.Nodup /\ (∀ m ∈ L, b <= m /\ m ∉ vis) /\ G.Perm (F ++ locs ρ L) /\ Rps Z (ρ.take b) H ds' vs G
  | [], vis, vis', d', v, F, e, r => by
    simp only [rbDs, Option.some.injEq, Prod.mk.injEq] at e
    obtain ⟨rfl, rfl⟩ := e
    exact ⟨[], F, .refl _, .nil, by simp, by simp [locs], r⟩
  | d :: ds, vis, vis', d', v, F, e, r => by
    obtain ⟨u, ws, F1, F2, rfl, r1, r2, rfl⟩ := r
    simp only [rbDs, Option.bind_eq_some_iff, Option.map_eq_some_iff] at e
    obtain ⟨⟨x, y⟩, e1, ⟨x2, y2⟩, e2, e3⟩ := e
    cases e3
    obtain ⟨L1, G1, p1, n1, o1, q1, k1⟩ := rb_ok hg d e1 r1
    obtain ⟨L2, G2, p2, n2, o2, q2, k2⟩ := rbs_ok hg ds e2 r2
    obtain ⟨p, n, o⟩ := vis_step p1 n1 o1 p2 n2 o2
    refine ⟨L2 ++ L1, G1 ++ G2, p, n, o, ?_, ⟨u, ws, G1, G2, rfl, k1, k2, rfl⟩⟩
    rw [locs_append]
    exact (q1.append q2).trans (perm4 _ _ _ _)
theorem rbK_ok {g : Nat -> List Nat -> Option (D × List Nat)} (hg : RbG Z ρ H b g) : ∀ (ds : List (Ky × D)) {vis vis' : List Nat} {ds' : List (Ky × D)} {vs : List (L2.Key × V)} {F : List Addr}, rbDk g b ds vis = some (ds', vis') -> RpK Z ρ H ds vs F ->
    ∃ (L : List Nat) (G : List Addr), vis'.Perm (L ++ vis) /\ L.Nodup /\ (∀ m ∈ L, b <= m /\ m ∉ vis) /\ G.Perm (F ++ locs ρ L) /\ RpK Z (ρ.take b) H ds' vs G
  | [], vis, vis', d', v, F, e, r => by
    simp only [rbDk, Option.some.injEq, Prod.mk.injEq] at e
    obtain ⟨rfl, rfl⟩ := e
    exact ⟨[], F, .refl _, .nil, by simp, by simp [locs], r⟩
  | (k, d) :: ds, vis, vis', d', v, F, e, r => by
    obtain ⟨j, u, ws, F1, F2, rfl, rfl, r1, r2, rfl⟩ := r
    simp only [rbDk, Option.bind_eq_some_iff, Option.map_eq_some_iff] at e
    obtain ⟨⟨x, y⟩, e1, ⟨x2, y2⟩, e2, e3⟩ := e
    cases e3
    obtain ⟨L1, G1, p1, n1, o1, q1, k1⟩ := rb_ok hg d e1 r1
    obtain ⟨L2, G2, p2, n2, o2, q2, k2⟩ := rbK_ok hg ds e2 r2
    obtain ⟨p, n, o⟩ := vis_step p1 n1 o1 p2 n2 o2
    refine ⟨L2 ++ L1, G1 ++ G2, p, n, o, ?_, ⟨j, u, ws, G1, G2, rfl, rfl, k1, k2, rfl⟩⟩
    rw [locs_append]
    exact (q1.append q2).trans (perm4 _ _ _ _)
theorem rbT_ok {g : Nat -> List Nat -> Option (D × List Nat)} (hg : RbG Z ρ H b g) : ∀ (ds : List (Ky × D)) {vis vis' : List Nat} {ds' : List (Ky × D)} {vs : List (List L2.Key × V)} {F : List Addr}, rbDk g b ds vis = some (ds', vis') -> RpT Z ρ H ds vs F ->
    ∃ (L : List Nat) (G : List Addr), vis'.Perm (L ++ vis) /\ L.Nodup /\ (∀ m ∈ L, b <= m /\ m ∉ vis) /\ G.Perm (F ++ locs ρ L) /\ RpT Z (ρ.take b) H ds' vs G
  | [], vis, vis', d', v, F, e, r => by
    simp only [rbDk, Option.some.injEq, Prod.mk.injEq] at e
    obtain ⟨rfl, rfl⟩ := e
    exact ⟨[], F, .refl _, .nil, by simp, by simp [locs], r⟩
  | (k, d) :: ds, vis, vis', d', v, F, e, r => by
    obtain ⟨j, u, ws, F1, F2, rfl, rfl, r1, r2, rfl⟩ := r
    simp only [rbDk, Option.bind_eq_some_iff, Option.map_eq_some_iff] at e
    obtain ⟨⟨x, y⟩, e1, ⟨x2, y2⟩, e2, e3⟩ := e
    cases e3
    obtain ⟨L1, G1, p1, n1, o1, q1, k1⟩ := rb_ok hg d e1 r1
    obtain ⟨L2, G2, p2, n2, o2, q2, k2⟩ := rbT_ok hg ds e2 r2
    obtain ⟨p, n, o⟩ := vis_step p1 n1 o1 p2 n2 o2
    refine ⟨L2 ++ L1, G1 ++ G2, p, n, o, ?_, ⟨j, u, ws, G1, G2, rfl, rfl, k1, k2, rfl⟩⟩
    rw [locs_append]
    exact (q1.append q2).trans (perm4 _ _ _ _)
end
theorem rbC_ok (s : SR Z ρ st H) : ∀ n, RbG Z ρ H b (rbC st b n)
  | 0 => fun l vis d' vis' e _ => by simp [rbC] at e
  | n + 1 => fun l vis d' vis' e hb => by
    simp only [rbC] at e
    cases hv : vis.contains l with
    | true => rw [hv] at e; cases e
    | false =>
      rw [hv] at e
      have nv : l ∉ vis := by simpa using hv
      cases hc : st[l]? with
      | none => rw [hc] at e; cases e
      | some c =>
        rw [hc] at e
        obtain ⟨a, ha, k, r⟩ := s.at hc
        have go : ∀ (d : D), c = d -> rbD (rbC st b n) b d (l :: vis) = some (d', vis') -> ∃ (L : List Nat) (G : List Addr), vis'.Perm (L ++ vis) /\ L.Nodup /\ (∀ m ∈ L, b <= m /\ m ∉ vis) /\ G.Perm (locs ρ L) /\ ∀ a, ρ[l]? = some a -> Rp Z (ρ.take b) H d' (.ref a) G := by
          intro d hd e
          rw [hd] at r
          obtain ⟨L, G, p, nd, o, q, kk⟩ := rb_ok (rbC_ok s n) d e r
          refine ⟨L ++ [l], G, ?_, ?_, ?_, ?_, ?_⟩
          · rw [List.append_assoc]; exact p
          · refine List.nodup_append.mpr ⟨nd, by simp, ?_⟩
            intro x hx y hy z
            subst z
            have ey := List.mem_singleton.mp hy
            exact (o _ hx).2 (by rw [ey]; exact List.mem_cons_self)
          · intro m hm
            rcases List.mem_append.mp hm with hm | hm
            · exact ⟨(o m hm).1, fun z => (o m hm).2 (List.mem_cons_of_mem _ z)⟩
            · cases List.mem_singleton.mp hm; exact ⟨hb, nv⟩
          · rw [locs_append]
            refine q.trans ?_
            have el : locs ρ [l] = [a] := by simp [locs, ha]
            rw [el]
            exact List.perm_append_comm
          · intro a' ha'
            rw [ha] at ha'
            cases ha'
            exact kk
        cases c with
        | lst ds => exact go _ rfl e
        | dic kvs => exact go _ rfl e
        | set xs =>
          have e' : rbD (rbC st b n) b (.set xs) (l :: vis) = some (d', vis') := by simpa [rbD] using e
          exact go _ rfl e'
        | _ => cases e
theorem cut_ok {st0 : Sto} {ρ0 : List Addr} {H0 : Hp} (s0 : SR Z ρ0 st0 H0) (s : SR Z ρ st H) (hp : ρ.take st0.length = ρ0) (ok : okPre st0 st st0.length = true) : SR Z ρ0 (st.take st0.length) H := by
  have hl : st0.length <= st.length := by
    have : ρ0.length = st0.length := s0.len
    rw [<- hp, List.length_take, s.len] at this
    omega
  have pre : ∀ (cs cs' : Sto) (l : Nat) (c c' : D), okPre cs cs' st0.length = true -> cs[l]? = some c -> cs'[l]? = some c' -> c = c' ∨ cellCl st0.length c' = true := by
    intro cs
    induction cs with
    | nil => intro cs' l c c' _ h; simp at h
    | cons x xs ih =>
      intro cs' l c c' h h1 h2
      cases cs' with
      | nil => simp [okPre] at h
      | cons y ys =>
        simp only [okPre, Bool.and_eq_true, Bool.or_eq_true, decide_eq_true_eq] at h
        cases l with
        | zero => cases h1; cases h2; exact h.1
        | succ l => exact ih ys l c c' h.2 (by simpa using h1) (by simpa using h2)
  refine ⟨by rw [List.length_take, s0.len, Nat.min_eq_left hl], s0.nd, fun l c h => ?_, fun l c a h1 h2 => ?_, fun p hp => ⟨(s0.gb p hp).1, (s.gb p hp).2⟩⟩
  · rw [List.getElem?_take] at h
    split at h
    · exact s.kind l c h
    · cases h
  · rw [List.getElem?_take] at h1
    split at h1
    · rename_i hlt
      have h2' : ρ[l]? = some a := by
        rw [<- hp, List.getElem?_take_of_lt hlt] at h2; exact h2
      have r := s.cell l c a h1 h2'
      have h0 : st0[l]? = some st0[l] := List.getElem?_eq_getElem hlt
      rcases pre st0 st l _ c ok h0 h1 with e | e
      · have r0 := s0.cell l _ a h0 h2
        rw [e] at r0
        have cl := cellCl_of (s.kind l c h1) r0
        rw [s0.len] at cl
        have := clsCell (b := st0.length) cl r
        rw [hp] at this; exact this
      · have := clsCell (b := st0.length) e r
        rw [hp] at this; exact this
    · cases h1
def spI (Z : Wc) (g : List D -> M D) (np : Nat) : Sp := fun vs H Q E => vs.length = np /\ ∃ ρ0 st0 H0 ρ st ds F, SR Z ρ0 st0 H0 /\ Now Z ρ0 H0 ρ st H F /\ Rps Z ρ H ds vs F /\ Post (Rp Z) Z (fun cls dx _ H' => E cls dx H') (g ds st) ρ0 [] H0 Q
theorem leave_ok {ρ0 ρ ρ1 : List Addr} {st0 stc st1 st2 : Sto} {H0 Hc H2 : Hp} {W : WX} {d : D} {v : V} {F G N : List Addr} {σ : L2.St} {Q : VK} (s0 : SR Z ρ0 st0 H0) (n : Now Z ρ0 H0 ρ stc Hc F)
    (n2 : Now Z ρ0 H0 ρ1 st2 H2 G) (hp : ρ1.take stc.length = ρ) (r : Rp Z ρ1 H2 d v G)
    (h : Post (Rp Z) Z W (leaveD stc (.ok d st2)) ρ0 σ H0 Q) : Q v H2 := by
  unfold leaveD at h
  cases e1 : okPre stc st2 stc.length with
  | false =>
    simp only [e1] at h
    exact h ρ1 H2 v G n2.stp n2.sr r
  | true =>
    cases e2 : rback st2 stc.length d with
    | none =>
      simp only [e1, e2] at h
      exact h ρ1 H2 v G n2.stp n2.sr r
    | some d' =>
      simp only [e1, e2] at h
      unfold rback at e2
      simp only [Option.map_eq_some_iff] at e2
      obtain ⟨⟨x, vis'⟩, e3, rfl⟩ := e2
      obtain ⟨L, G', p, nd, o, q, k⟩ := rb_ok (rbC_ok (b := stc.length) n2.sr 8) d e3 r
      rw [hp] at k
      refine h ρ H2 v G' ?_ (cut_ok n.sr n2.sr hp e1) k
      obtain ⟨M, eM, ndM, fM, kM⟩ := n2.stp
      obtain ⟨M0, eM0, _, _, _⟩ := n.stp
      have sub : ∀ a ∈ locs ρ1 L, a ∈ M /\ a ∉ M0 := by
        intro a ha
        obtain ⟨l, hl, el⟩ := List.mem_filterMap.mp ha
        have hge := (o l hl).1
        have lenρ : ρ.length = stc.length := n.sr.len
        have len0 : ρ0.length <= ρ.length := by rw [eM0]; simp
        constructor
        · rw [eM, List.getElem?_append_right (by omega)] at el
          exact List.mem_of_getElem? el
        · intro z
          have z1 : a ∈ ρ := by rw [eM0]; exact List.mem_append_right _ z
          obtain ⟨i, hi⟩ := List.mem_iff_getElem?.mp z1
          have hil : i < stc.length := by rw [<- lenρ]; exact (List.getElem?_eq_some_iff.mp hi).1
          have hi' : ρ1[i]? = some a := by
            rw [<- hp, List.getElem?_take_of_lt hil] at hi; exact hi
          have nd1 := n2.sr.nd
          have := (List.getElem?_inj (by exact (List.getElem?_eq_some_iff.mp hi').1) nd1).mp (hi'.trans el.symm)
          omega
      have m0 : ∀ a ∈ M0, a ∈ M := by
        intro a ha
        have z1 : a ∈ ρ := by rw [eM0]; exact List.mem_append_right _ ha
        have z2 : a ∈ ρ1 := by rw [<- hp] at z1; exact List.mem_of_mem_take z1
        rw [eM] at z2
        rcases List.mem_append.mp z2 with z2 | z2
        · have nd0 := n.sr.nd
          rw [eM0] at nd0
          exact ((List.nodup_append.mp nd0).2.2 a z2 a ha rfl).elim
        · exact z2
      refine ⟨M0, eM0, ?_, ?_, kM⟩
      · have nd0 := n.sr.nd
        rw [eM0] at nd0
        have ndG := List.nodup_append.mp ndM
        refine List.nodup_append.mpr ⟨(List.nodup_append.mp nd0).2.1, ?_, ?_⟩
        · refine q.nodup_iff.mpr (List.nodup_append.mpr ⟨n2.nd, ?_, ?_⟩)
          · exact nodup_locs n2.sr.nd nd
          · intro a ha b hb z
            subst z
            exact ndG.2.2 a (sub a hb).1 a ha rfl
        · intro a ha b hb z
          subst z
          rcases List.mem_append.mp (q.mem_iff.mp hb) with hb | hb
          · exact ndG.2.2 a (m0 a ha) a hb rfl
          · exact (sub a hb).2 ha
      · intro a ha
        rcases List.mem_append.mp ha with ha | ha
        · exact fM a (List.mem_append_left _ (m0 a ha))
        · rcases List.mem_append.mp (q.mem_iff.mp ha) with ha | ha
          · exact fM a (List.mem_append_right _ ha)
          · exact fM a (List.mem_append_left _ (sub a ha).1)
theorem leaveX_ok {ρ0 ρ ρ1 : List Addr} {st0 stc st1 st2 : Sto} {H0 Hc H2 : Hp} {W : WX} {e : D} {cls : Value} {dx : Option Addr} {F : List Addr} {σ : L2.St} {Q : VK} (n : Now Z ρ0 H0 ρ stc Hc F)
    (n2 : Now Z ρ0 H0 ρ1 st2 H2 []) (hp : ρ1.take stc.length = ρ) (r : XcR Z ρ1 H2 e cls dx)
    (h : Post (Rp Z) Z W (leaveD stc (.exc e st2)) ρ0 σ H0 Q) : W cls dx σ H2 := by
  unfold leaveD at h
  cases e1 : okPre stc st2 stc.length with
  | false =>
    simp only [e1, Bool.false_and] at h
    exact h ρ1 H2 cls dx n2.stp n2.sr r
  | true =>
    cases e2 : D.cls stc.length e with
    | false =>
      simp only [e1, e2, Bool.and_false] at h
      exact h ρ1 H2 cls dx n2.stp n2.sr r
    | true =>
      simp only [e1, e2, Bool.and_self] at h
      obtain ⟨c, fs, rfl, hc, rx⟩ := r
      have rx' := clsRpX (b := stc.length) fs (by simpa [D.cls] using e2) rx
      rw [hp] at rx'
      refine h ρ H2 cls dx ?_ (cut_ok n.sr n2.sr hp e1) ⟨c, fs, rfl, hc, rx'⟩
      obtain ⟨M, eM, ndM, fM, kM⟩ := n2.stp
      obtain ⟨M0, eM0, nd0, f0, _⟩ := n.stp
      exact ⟨M0, eM0, by simpa using (List.nodup_append.mp nd0).1, fun a ha => f0 a (List.mem_append_left _ (by simpa using ha)), kM⟩
end
end Fs
namespace Fs
open PySem L2 PyProof.Rows PySem.Spec
structure FgOk (P : Program) (w : World) (K : PySem.W.Frag) (mg : Str -> Option Value) (base : Heap) (k : Nat) (f : Addr) (fd : FuncData) (ps : List Str) (sp : Sp) : Prop where
  len : ∀ vs H Q E, sp vs H Q E -> vs.length = ps.length
  run : ∀ (A : Around) (outer : List PySem.Env) (s : Shared) (H : Hp) (args : Args) (us : List Value) (vs : List V) (Q : VK) (E : XK), Room k A -> A.guards = some [] -> Env0 P w K mg base A outer s H -> BindsTo s fd args (ps.zip us) -> Vals vs us -> sp vs H Q E ->
    codeAny (model P w) A (.call (.ref f) args) (CR (L2.CX P w) outer P w H s Q E) s
section
variable {P : Program} {w : World} {K : PySem.W.Frag} {mg : Str -> Option Value} {base : Heap}
theorem fg_of {k : Nat} {f : Addr} {name qual : Str} {params : Arguments} {body : List Stmt} {scope : Scope} {dV kV doc pm cdv ct oc : Value} {an od : Option Addr}
    {osl : Array (Option Value)} {N ps : List Str} {sp : Sp} (lk : K.lookup f = some ⟨oc, od, .func (PySem.W.fnOf name qual params body scope dV kV doc pm an cdv ct), osl⟩) (hcd : PySem.W.codeIn K cdv qual = true) (S : FnScope N ps scope)
    (len : ∀ vs H Q E, sp vs H Q E -> vs.length = ps.length)
    (hbody : ∀ (A : Around) (outer : List PySem.Env) (s : Shared) (H : Hp) (vs : List V) (Q : VK) (E : XK), Room k (A.deeper (envOfC qual scope s.heap.objs.size f cdv)) -> A.guards = some [] -> sp vs H Q E ->
      ∃ t, PSs (cxOf (L2.CX P w) P w K mg base N qual scope f cdv A outer s H E) body t /\ t { nx := fun _ H' => Q .non H', rt := Q } (start N vs) H) :
    FgOk P w K mg base (k + 1) f (PySem.W.fnOf name qual params body scope dV kV doc pm an cdv ct) ps sp := by
  refine ⟨len, fun A outer s H args us vs Q E hr hgd e0 hb r hsp => ?_⟩
  have KX : K.In s.heap := e0.mod.kin.keeps fun b o e => (e0.bs b o e).1
  have lim : s.heap.NoLimit := e0.mod.nolimit.keeps fun b o e => (e0.bs b o e).1
  have hkind : ∀ y ∈ ps.zip us, scope.names.lookup y.1 = some .local ∨ (scope.names.lookup y.1 = some .cell /\ ((cellsFrom (s.heap.objs.size + 1) scope.names []).lookup y.1).isSome = true) := fun y hy => by
    rcases S.par y.1 (List.of_mem_zip hy).1 with q | q
    · exact Or.inl q
    · exact Or.inr ⟨q, PySem.W.cellsFrom_some _ _ _ (Or.inl q)⟩
  have hl := len _ _ _ _ hsp
  refine codeAny_call_function hr.depth (KX _ _ lk) rfl S.co S.gen rfl (PySem.W.codeRec_of KX hcd) (hb _ _ _ _ (wpAny_newFunctionEnv_cells S.kind hkind fun env he s1 x => ?_))
  cases he
  refine ⟨lim.keeps x.toInCall.keep, codeAny_func ?_⟩
  obtain ⟨t, ht, hq⟩ := hbody A outer s H vs Q E (hr.deeper _) hgd hsp
  have I := inv_start (CX := L2.CX P w) (E := E) S hr.hd e0 hl r x
  refine wpAny_mono (ht.run [] s1 (start N vs) H _ I hq) (fun fl s' hs => ?_) fun e s' hs => hs
  cases fl with
  | ret u => exact let ⟨v, σ', H', J, rv, q⟩ := hs; ⟨v, H', J.os, J.bare, J.base, J.hok, rv, q⟩
  | next => exact let ⟨σ', H', J, q⟩ := hs; ⟨V.non, H', J.os, J.bare, J.base, J.hok, rfl, q⟩
  | brk => exact let ⟨_, _, _, q⟩ := hs; q.elim
  | cont => exact let ⟨_, _, _, q⟩ := hs; q.elim
end
section
variable {X : L2.Cx} {Z : Wc} {T : Tbl} {W : WX} {k : Nat} {f : Addr} {fd : FuncData} {ps : List Str} {x : Str} {p pos : Pos} {e : Expr} {es : List Expr} {As : List Ex} {A : Ex}
theorem run_fg {sp : Sp} {E : XK} {pins : List (Addr × Obj)} {σ : L2.St} {H : Hp} {s : Shared} {Q : VK} {us : List Value} {vs : List V} {args : Args} (F : FgOk X.prog X.w X.K X.mg X.base k f fd ps sp) (hr : Room k X.A) (hgd : X.A.guards = some [])
    (hx : ∀ e s', L2.CX X.prog X.w X.stack H s E e s' -> X.xe e s') (I : Inv X pins σ H s) (hb : BindsTo s fd args (ps.zip us)) (r : Vals vs us) (h : sp vs H Q E) :
    codeAny (model X.prog X.w) X.A (.call (.ref f) args) (fun r s' => match r with
      | .ok (.ret u) => EP X pins σ Q u s'
      | .ok _ => False
      | .error e => X.xe e s') s := by
  refine codeAny_mono (F.run X.A X.stack s H args us vs Q E hr hgd I.env0 hb r h) fun r s' hq => ?_
  cases r with
  | error e => exact hx e s' hq
  | ok fl => cases fl with
    | ret u => exact I.after hq
    | next => exact hq.elim
    | brk => exact hq.elim
    | cont => exact hq.elim
theorem give_ok {g : List D -> M D} {np : Nat} {σ : L2.St} {H : Hp} {Q : VK} {As : List Ex} (h : ∃ ρ env st, ER Z ρ H env σ /\ SR Z ρ st H /\ Post (Rp Z) Z W (bnd (evs T As env) (fun ds => g ds) st) ρ σ H Q)
    (hlen : As.length = np) : iEs T Z W As σ H (fun vs H1 => spI Z g np vs H1 Q (fun cls dx H' => W cls dx σ H')) := by
  obtain ⟨ρ, env, st, er, sr, h⟩ := h
  refine ⟨ρ, env, st, er, sr, ?_⟩
  have hl : ∀ {ds st'}, evs T As env st = .ok ds st' -> ds.length = As.length := by
    intro ds st'
    clear h hlen sr
    induction As generalizing st ds st' with
    | nil => intro e; simp only [evs, ret] at e; cases e; rfl
    | cons a as ih =>
      intro e
      simp only [evs, bnd] at e
      cases e1 : ev T a env st with
      | ok d s1 =>
        rw [e1] at e
        simp only at e
        cases e2 : evs T as env s1 with
        | ok ds2 s2 =>
          rw [e2] at e
          simp only [ret] at e
          cases e
          simp [ih _ e2]
        | exc _ _ => rw [e2] at e; cases e
        | bad => rw [e2] at e; cases e
      | exc _ _ => rw [e1] at e; cases e
      | bad => rw [e1] at e; cases e
  have sq := Post.seq rpsOk (Now.start sr) sr h
  cases e1 : evs T As env st with
  | ok ds st1 =>
    rw [e1] at sq
    intro ρ' H' v F a b c
    obtain ⟨ρ1, d1, st2, F1, n1, t1, r1, h1⟩ := sq ρ' H' v F a b c
    have e0 := sq ρ' H' v F a b c
    refine ⟨?_, ρ, st, H, ρ', st1, ds, F, sr, ⟨a, b, fun z hz => c.there z hz, fun z hz => a.out sr z hz, a.nodup⟩, c, ?_⟩
    · rw [<- c.length, hl e1, hlen]
    · unfold bnd at h
      rw [e1] at h
      exact h
  | exc x st1 => rw [e1] at sq; exact sq
  | bad => rw [e1] at sq; exact sq
theorem se_call {i : Nat} (F : FgOk X.prog X.w X.K X.mg X.base k f fd ps (spI Z (T.fn i) ps.length)) (hr : Room k X.A) (hgd : X.A.guards = some []) (tk : Takes X W) (hg : Gl X x) (hm : X.mg x = some (.ref f)) (hk : PySem.W.keepIn X.K (.ref f) = true) (hb : Binds X.K fd ps [])
    (ha : PA X (e :: es) (iEs T Z W As)) (hlen : As.length = ps.length) (hdb : (x == ("__debug__" : Str)) = false) (he : starEach (e :: es) X.env = (false, eval e X.env) :: starEach es X.env) (hpl : (backTo pos (starEach es X.env)).any (·.1) = false) :
    PE X (.Call (.Name x p) (e :: es) [] pos) (iE T Z W (.call i As)) := by
  refine ⟨fun pins s σ H Q I h => ?_⟩
  have h' := give_ok (g := T.fn i) (np := ps.length) (As := As) (by simpa only [iE, ev] using h) hlen
  refine wpAny_Call_Name_kw (ld_glob I hg hm ?_ hdb)
  refine PySem.W.callWith_K (h₀ := X.base) I.ok.mod.kin hk (thn (ha.run pos pins s σ H _ I h') fun us s1 ⟨vs, H1, I1, r, q⟩ => ⟨I1.kIn, ?_⟩) he hpl
  have hl : us.length = ps.length := by rw [<- r.length]; exact q.1
  refine wpAny_call (codeAny_mono (run_fg (us := us) F hr hgd (fun e s' c => tk e s' (XE.of_call I1 (fun _ _ _ z => z) c)) I1 (by have := hb s1 us I1.kIn (by simpa using hl); simpa using this) r q) fun rr s' hq => ?_)
  cases rr with
  | error e => exact hq
  | ok fl => cases fl with
    | ret u => exact hq
    | next => exact hq
    | brk => exact hq
    | cont => exact hq
theorem se_call0 {i : Nat} (F : FgOk X.prog X.w X.K X.mg X.base k f fd ps (spI Z (T.fn i) ps.length)) (hr : Room k X.A) (hgd : X.A.guards = some []) (tk : Takes X W) (hg : Gl X x) (hm : X.mg x = some (.ref f)) (hk : PySem.W.keepIn X.K (.ref f) = true) (hb : Binds X.K fd ps [])
    (hlen : ps.length = 0) (hdb : (x == ("__debug__" : Str)) = false) :
    PE X (.Call (.Name x p) [] [] pos) (iE T Z W (.call i [])) := by
  refine ⟨fun pins s σ H Q I h => ?_⟩
  obtain ⟨ρ, env, st, er, sr, q0⟩ := give_ok (g := T.fn i) (np := ps.length) (As := []) (by simpa only [iE, ev] using h) (by simpa using hlen.symm)
  simp only [evs] at q0
  have q := Post.ret (d := ([] : List D)) (v := ([] : List V)) q0 (Now.start sr) (by exact ⟨rfl, rfl⟩)
  refine wpAny_Call_Name_kw (ld_glob I hg hm ?_ hdb)
  refine PySem.W.callWith_K0 I.kIn hk ?_
  refine wpAny_call (codeAny_mono (run_fg (us := []) F hr hgd (fun e s' c => tk e s' (XE.of_call I (fun _ _ _ z => z) c)) I (by have := hb s [] I.kIn (by simpa using hlen.symm); simpa using this) .nil q) fun rr s' hq => ?_)
  cases rr with
  | error e => exact hq
  | ok fl => cases fl with
    | ret u => exact hq
    | next => exact hq
    | brk => exact hq
    | cont => exact hq
end
end Fs
namespace Fs
open PySem L2 PyProof.Rows PySem.Spec
def PostS (Z : Wc) (W : WX) (r : R Fl) (ρ : List Addr) (H : Hp) (Dn : Ends) : Prop := match r with
  | .ok (.nx env') st' => ∀ ρ' H' σ', Stp ρ H ρ' H' [] -> SR Z ρ' st' H' -> ER Z ρ' H' env' σ' -> Dn.nx σ' H'
  | .ok (.br env') st' => ∀ ρ' H' σ', Stp ρ H ρ' H' [] -> SR Z ρ' st' H' -> ER Z ρ' H' env' σ' -> Dn.bk σ' H'
  | .ok (.ct env') st' => ∀ ρ' H' σ', Stp ρ H ρ' H' [] -> SR Z ρ' st' H' -> ER Z ρ' H' env' σ' -> Dn.ct σ' H'
  | .ok (.rt d) st' => ∀ ρ' H' v F, Stp ρ H ρ' H' F -> SR Z ρ' st' H' -> Rp Z ρ' H' d v F -> Dn.rt v H'
  | .ok (.ex env' e) st' => ∀ ρ' H' σ' cls dx, Stp ρ H ρ' H' [] -> SR Z ρ' st' H' -> ER Z ρ' H' env' σ' -> XcR Z ρ' H' e cls dx -> W cls dx σ' H'
  | _ => False
def StpF (ρ : List Addr) (H : Hp) (F ρ' : List Addr) (H' : Hp) : Prop := ∃ N, ρ' = ρ ++ N /\ N.Nodup /\ (∀ a ∈ N, a ∈ F ∨ H a = none) /\ ∀ a o, H a = some o -> a ∉ ρ -> a ∉ F -> H' a = some o
mutual
def tgN : Tg -> List Nat
  | .nm i => [i]
  | .tup ts => tgNs ts
  | .sub _ _ => []
  | .attr _ _ => []
  | .subP _ _ _ => []
def tgNs : List Tg -> List Nat
  | [] => []
  | t :: ts => tgN t ++ tgNs ts
end
def Sm (L : List Nat) (σ σ' : L2.St) : Prop := σ'.length = σ.length /\ ∀ i, i ∉ L -> σ'[i]? = σ[i]?
theorem Sm.id {L : List Nat} {σ : L2.St} : Sm L σ σ := ⟨rfl, fun _ _ => rfl⟩
theorem Sm.trans {L M : List Nat} {σ σ1 σ2 : L2.St} (a : Sm L σ σ1) (b : Sm M σ1 σ2) : Sm (L ++ M) σ σ2 := ⟨b.1.trans a.1, fun i h => (b.2 i fun z => h (List.mem_append_right _ z)).trans (a.2 i fun z => h (List.mem_append_left _ z))⟩
theorem Sm.set {i : Nat} {σ : L2.St} {v : Option V} : Sm [i] σ (σ.set i v) := ⟨by simp, fun j h => List.getElem?_set_ne (fun e => h (by simp [e]))⟩
def PostA (Z : Wc) (r : R Env) (ρ : List Addr) (H : Hp) (F : List Addr) (L : List Nat) (σ : L2.St) (Q : L2.St -> Hp -> Prop) : Prop := match r with
  | .ok env' st' => ∀ ρ' H' σ', StpF ρ H F ρ' H' -> SR Z ρ' st' H' -> ER Z ρ' H' env' σ' -> Sm L σ σ' -> Q σ' H'
  | _ => False
structure Hand (Z : Wc) (ρ : List Addr) (st : Sto) (H : Hp) (F : List Addr) : Prop where
  sr : SR Z ρ st H
  nd : F.Nodup
  out : ∀ a ∈ F, a ∉ ρ
  th : ∀ a ∈ F, H a ≠ none
section
variable (T : Tbl) (Z : Wc) (W : WX)
def iS (s : Sx) : TS := fun Dn σ H => ∃ ρ env st, ER Z ρ H env σ /\ SR Z ρ st H /\ PostS Z W (exS T s env st) ρ H Dn
def iL (s : List Sx) : TS := fun Dn σ H => ∃ ρ env st, ER Z ρ H env σ /\ SR Z ρ st H /\ PostS Z W (exL T s env st) ρ H Dn
def iG (t : Tg) : TG := fun v σ H Q => ∃ ρ env st d F, Hand Z ρ st H F /\ ER Z ρ H env σ /\ Rp Z ρ H d v F /\ PostA Z (asgT T t d env st) ρ H F (tgN t) σ Q
def iGs (ts : List Tg) : TGs := fun vs σ H Q => ∃ ρ env st ds F, Hand Z ρ st H F /\ ER Z ρ H env σ /\ Rps Z ρ H ds vs F /\ PostA Z (asgTs T ts ds env st) ρ H F (tgNs ts) σ Q
end
section
variable {Z : Wc} {W : WX} {ρ ρ' ρ₁ ρ₂ : List Addr} {H H' H₁ H₂ : Hp} {st st' st₁ : Sto} {F F' F₁ F₂ G : List Addr} {σ : L2.St} {α β γ δ : Type} {rel : Rel α β} {rel₁ : Rel γ δ} {env : Env} {Dn Dn' : Ends}
theorem PostS.tail {r : R Fl} (n : Now Z ρ H ρ₁ st₁ H₁ F) (s : SR Z ρ st H) (h : PostS Z W r ρ H Dn) : PostS Z W r ρ₁ H₁ Dn := by
  cases r with
  | exc x s' => exact h
  | bad => exact h
  | ok f s' => cases f with
    | nx e' => exact fun ρ' H' σ' t sr er => h ρ' H' σ' (n.more s t sr (by simp)).stp.none sr er
    | br e' => exact fun ρ' H' σ' t sr er => h ρ' H' σ' (n.more s t sr (by simp)).stp.none sr er
    | ct e' => exact fun ρ' H' σ' t sr er => h ρ' H' σ' (n.more s t sr (by simp)).stp.none sr er
    | rt d => exact fun ρ' H' v G t sr q => h ρ' H' v G ((n.more s t sr (fun a ha => q.there a ha)).stp.less (List.sublist_append_right _ _)) sr q
    | ex e' e => exact fun ρ' H' σ' cls dx t sr er q => h ρ' H' σ' cls dx (n.more s t sr (by simp)).stp.none sr er q
theorem PostS.lft (ok : RelOk Z rel₁) {m : M γ} {f : γ -> M Fl} (n : Now Z ρ H ρ₁ st₁ H₁ F) (s : SR Z ρ st H) (er : ER Z ρ₁ H₁ env σ) (h : PostS Z W (lft env m f st₁) ρ H Dn) :
    Post rel₁ Z W (m st₁) ρ₁ σ H₁ (fun v H' => ∃ ρ' d st' G, Now Z ρ H ρ' st' H' (F ++ G) /\ Stp ρ₁ H₁ ρ' H' G /\ ER Z ρ' H' env σ /\ rel₁ ρ' H' d v G /\ PostS Z W (f d st') ρ H Dn) := by
  unfold Fs.lft at h
  cases e : m st₁ with
  | ok d s' =>
    rw [e] at h
    exact fun ρ' H' v G t sr r => ⟨ρ', d, s', G, n.more s t sr (ok.there r), t, t.env n.sr er, r, h⟩
  | exc x s' =>
    rw [e] at h
    exact fun ρ' H' cls dx t sr r => h ρ' H' σ cls dx (n.more s t sr (by simp)).stp.none sr (t.env n.sr er) r
  | bad => rw [e] at h; exact h
theorem ER.set {i : Nat} {d : D} {v : V} (er : ER Z ρ H env σ) (r : Rp Z ρ H d v []) : ER Z ρ H (env.set i (some d)) (σ.set i (some v)) := by
  refine ⟨by simp [er.1], fun j x hx => ?_⟩
  by_cases hj : i = j
  · subst hj
    have hl : i < env.length := by
      have := (List.getElem?_eq_some_iff.mp hx).1
      simpa using this
    rw [List.getElem?_set_self hl] at hx
    cases hx
    exact ⟨v, by rw [List.getElem?_set_self (by rw [<- er.1]; exact hl)], r⟩
  · rw [List.getElem?_set_ne hj] at hx
    obtain ⟨u, h1, h2⟩ := er.2 j x hx
    exact ⟨u, by rw [List.getElem?_set_ne hj]; exact h1, h2⟩
theorem ER.gone {i : Nat} (er : ER Z ρ H env σ) : ER Z ρ H (env.set i none) (σ.set i none) := by
  refine ⟨by simp [er.1], fun j x hx => ?_⟩
  by_cases hj : i = j
  · subst hj
    rw [List.getElem?_set] at hx
    simp only [if_true] at hx
    split at hx <;> cases hx
  · rw [List.getElem?_set_ne hj] at hx
    obtain ⟨u, h1, h2⟩ := er.2 j x hx
    exact ⟨u, by rw [List.getElem?_set_ne hj]; exact h1, h2⟩
theorem Now.hand (n : Now Z ρ H ρ₁ st₁ H₁ F) : Hand Z ρ₁ st₁ H₁ F := ⟨n.sr, n.nd, n.out, n.th⟩
theorem Hand.less (n : Hand Z ρ st H F) (h : G.Sublist F) : Hand Z ρ st H G := ⟨n.sr, n.nd.sublist h, fun a ha => n.out a (h.subset ha), fun a ha => n.th a (h.subset ha)⟩
theorem Now.land (n : Now Z ρ H ρ₁ st₁ H₁ F) (s : SR Z ρ st H) (t : StpF ρ₁ H₁ F ρ₂ H₂) : Stp ρ H ρ₂ H₂ [] := by
  obtain ⟨M, rfl, nd, f, k⟩ := n.stp
  obtain ⟨N, rfl, nn, fn, kn⟩ := t
  have old : ∀ a ∈ N, H a = none := fun a ha => by
    rcases fn a ha with z | z
    · exact f a (List.mem_append_right _ z)
    · cases e : H a with
      | none => rfl
      | some o =>
        have nr : a ∉ ρ := fun y => n.sr.has (List.mem_append_left _ y) z
        have := k a o e nr
        rw [z] at this; cases this
  refine ⟨M ++ N, by simp [List.append_assoc], ?_, ?_, fun a o e z => ?_⟩
  · rw [List.append_nil]
    refine List.nodup_append.mpr ⟨(List.nodup_append.mp nd).1, nn, ?_⟩
    intro a ha b hb e
    subst e
    rcases fn a hb with z | z
    · exact (List.nodup_append.mp nd).2.2 a ha a z rfl
    · exact n.sr.has (List.mem_append_right _ ha) z
  · intro a ha
    rw [List.append_nil] at ha
    rcases List.mem_append.mp ha with ha | ha
    · exact f a (List.mem_append_left _ ha)
    · exact old a ha
  · have h1 := k a o e z
    refine kn a o h1 (fun y => ?_) fun y => ?_
    · rcases List.mem_append.mp y with y | y
      · exact z y
      · rw [f a (List.mem_append_left _ y)] at e; cases e
    · rw [f a (List.mem_append_right _ y)] at e; cases e
theorem StpF.pre (s : StpF ρ H F ρ' H') : ∀ (l : Nat) (a : Addr), ρ[l]? = some a -> ρ'[l]? = some a := by
  obtain ⟨N, rfl, _⟩ := s
  exact fun l a h => get_append l a h
theorem StpF.vals {ds : List D} {vs : List V} (s : StpF ρ H F ρ' H') (h : Hand Z ρ st H (F ++ G)) (hF : ∀ a ∈ F, ∃ o, H a = some o /\ HCell o = true) (r : Rps Z ρ H ds vs G) : Rps Z ρ' H' ds vs G := by
  obtain ⟨N, rfl, nn, fn, kn⟩ := s
  refine Rps.stay get_append (fun a o e k => kn a o e (h.sr.not_cell e k) fun z => ?_) (fun a ha o e => kn a o e (h.out a (List.mem_append_right _ ha)) fun z => (List.nodup_append.mp h.nd).2.2 a z a ha rfl) r
  obtain ⟨u, e', k'⟩ := hF a z
  rw [e] at e'; cases e'; rw [k] at k'; cases k'
theorem Hand.step (h : Hand Z ρ st H (F ++ G)) (s : StpF ρ H F ρ' H') (sr : SR Z ρ' st' H') : Hand Z ρ' st' H' G := by
  obtain ⟨N, rfl, nn, fn, kn⟩ := s
  refine ⟨sr, (List.nodup_append.mp h.nd).2.1, fun a ha z => ?_, fun a ha => ?_⟩
  · rcases List.mem_append.mp z with z | z
    · exact h.out a (List.mem_append_right _ ha) z
    · rcases fn a z with y | y
      · exact (List.nodup_append.mp h.nd).2.2 a y a ha rfl
      · exact h.th a (List.mem_append_right _ ha) y
  · cases e : H a with
    | none => exact (h.th a (List.mem_append_right _ ha) e).elim
    | some o =>
      rw [kn a o e (h.out a (List.mem_append_right _ ha)) fun z => (List.nodup_append.mp h.nd).2.2 a z a ha rfl]
      exact nofun
theorem StpF.trans (h : Hand Z ρ st H (F ++ G)) (s : StpF ρ H F ρ₁ H₁) (sr : SR Z ρ₁ st₁ H₁) (t : StpF ρ₁ H₁ G ρ₂ H₂) : StpF ρ H (F ++ G) ρ₂ H₂ := by
  have h1 := h.step s sr
  obtain ⟨N, rfl, nn, fn, kn⟩ := s
  obtain ⟨M, rfl, nm, fm, km⟩ := t
  have kk : ∀ a o, H a = some o -> a ∉ ρ -> a ∉ F -> a ∉ ρ ++ N := fun a o e z y w => by
    rcases List.mem_append.mp w with w | w
    · exact z w
    · rcases fn a w with q | q
      · exact y q
      · rw [q] at e; cases e
  refine ⟨N ++ M, by simp [List.append_assoc], List.nodup_append.mpr ⟨nn, nm, ?_⟩, ?_, fun a o e z y => ?_⟩
  · intro a ha b hb e
    subst e
    rcases fm a hb with q | q
    · exact h1.out a q (List.mem_append_right _ ha)
    · exact sr.has (List.mem_append_right _ ha) q
  · intro a ha
    rcases List.mem_append.mp ha with ha | ha
    · rcases fn a ha with q | q
      · exact .inl (List.mem_append_left _ q)
      · exact .inr q
    · rcases fm a ha with q | q
      · exact .inl (List.mem_append_right _ q)
      · cases e : H a with
        | none => exact .inr rfl
        | some o =>
          by_cases hF : a ∈ F
          · exact .inl (List.mem_append_left _ hF)
          · have nr : a ∉ ρ := fun y => sr.has (List.mem_append_left _ y) q
            rw [kn a o e nr hF] at q; cases q
  · have yF : a ∉ F := fun q => y (List.mem_append_left _ q)
    have yG : a ∉ G := fun q => y (List.mem_append_right _ q)
    exact km a o (kn a o e z yF) (kk a o e z yF) yG
mutual
theorem Rp.hcells : ∀ {d : D} {v : V} {F : List Addr}, Rp Z ρ H d v F -> ∀ a ∈ F, ∃ o, H a = some o /\ HCell o = true
  | .non, v, F, h, a, ha => by obtain ⟨_, rfl⟩ := h; cases ha
  | .bl b, v, F, h, a, ha => by obtain ⟨_, rfl⟩ := h; cases ha
  | .int i, v, F, h, a, ha => by obtain ⟨_, rfl⟩ := h; cases ha
  | .str s, v, F, h, a, ha => by obtain ⟨_, rfl⟩ := h; cases ha
  | .tup ds, v, F, h, a, ha => by obtain ⟨_, _, _, _, h3⟩ := h; exact Rps.hcells h3 a ha
  | .ref l, v, F, h, a, ha => by obtain ⟨_, _, _, rfl⟩ := h; cases ha
  | .lst ds, v, F, h, a, ha => by
    obtain ⟨b, vs, G, _, hb, h3, rfl⟩ := h
    rcases List.mem_cons.mp ha with rfl | ha
    · exact ⟨_, hb, rfl⟩
    · exact Rps.hcells h3 a ha
  | .frl ds, v, F, h, a, ha => by
    obtain ⟨b, o, vs, G, _, hb, h3, rfl⟩ := h
    rcases List.mem_cons.mp ha with rfl | ha
    · exact ⟨_, hb, rfl⟩
    · exact Rps.hcells h3 a ha
  | .dic kvs, v, F, h, a, ha => by
    obtain ⟨b, G, _, rfl, h3⟩ := h
    rcases h3 with ⟨ws, hb, h4⟩ | ⟨ws, hb, h4⟩
    · rcases List.mem_cons.mp ha with rfl | ha
      · exact ⟨_, hb, rfl⟩
      · exact RpK.hcells h4 a ha
    · rcases List.mem_cons.mp ha with rfl | ha
      · exact ⟨_, hb, rfl⟩
      · exact RpT.hcells h4 a ha
  | .set xs, v, F, h, a, ha => by
    obtain ⟨b, S, _, hb, _, _, rfl⟩ := h
    rcases List.mem_cons.mp ha with rfl | ha
    · exact ⟨_, hb, rfl⟩
    · cases ha
  | .exc _ _, v, F, h, a, ha => by obtain ⟨_, _, _, _, _, rfl⟩ := h; cases ha
  | .lam _ _, v, F, h, a, ha => by
    obtain ⟨b, _, rfl, h3⟩ := h
    cases List.mem_singleton.mp ha
    exact h3.hc
theorem Rps.hcells : ∀ {ds : List D} {vs : List V} {F : List Addr}, Rps Z ρ H ds vs F -> ∀ a ∈ F, ∃ o, H a = some o /\ HCell o = true
  | [], vs, F, h, a, ha => by obtain ⟨_, rfl⟩ := h; cases ha
  | d :: ds, vs, F, h, a, ha => by
    obtain ⟨v, ws, F1, F2, rfl, h1, h2, rfl⟩ := h
    rcases List.mem_append.mp ha with ha | ha
    · exact Rp.hcells h1 a ha
    · exact Rps.hcells h2 a ha
theorem RpK.hcells : ∀ {ds : List (Ky × D)} {vs : List (L2.Key × V)} {F : List Addr}, RpK Z ρ H ds vs F -> ∀ a ∈ F, ∃ o, H a = some o /\ HCell o = true
  | [], vs, F, h, a, ha => by obtain ⟨_, rfl⟩ := h; cases ha
  | (k, d) :: ds, vs, F, h, a, ha => by
    obtain ⟨j, v, ws, F1, F2, _, rfl, h1, h2, rfl⟩ := h
    rcases List.mem_append.mp ha with ha | ha
    · exact Rp.hcells h1 a ha
    · exact RpK.hcells h2 a ha
theorem RpT.hcells : ∀ {ds : List (Ky × D)} {vs : List (List L2.Key × V)} {F : List Addr}, RpT Z ρ H ds vs F -> ∀ a ∈ F, ∃ o, H a = some o /\ HCell o = true
  | [], vs, F, h, a, ha => by obtain ⟨_, rfl⟩ := h; cases ha
  | (k, d) :: ds, vs, F, h, a, ha => by
    obtain ⟨j, v, ws, F1, F2, _, rfl, h1, h2, rfl⟩ := h
    rcases List.mem_append.mp ha with ha | ha
    · exact Rp.hcells h1 a ha
    · exact RpT.hcells h2 a ha
end
end
section
variable {X : L2.Cx} {T : Tbl} {Z : Wc} {W : WX} {a b c e o : Expr} {A B C : Ex} {pos p : Pos}
theorem sg_nm {i : Nat} {x : Str} (hN : X.N.Nodup) (hi : X.N[i]? = some x) (hx : Loc X.env.scope x) (hf : X.fn x = true ∨ X.env.scope.names.lookup x = some .local) : PG X (.Name x pos) (iG T Z (.nm i)) := by
  have g := pg_name (pos := pos) hN hi hx hf
  refine ⟨fun pins s σ H v u Q I r h => g.run pins s σ H v u Q I r ?_⟩
  obtain ⟨ρ, env, st, d, F, n, er, rd, h⟩ := h
  obtain ⟨N, p, s', q⟩ := land_ok d n.sr rd n.out n.nd
  simp only [asgT, bnd, landM, ret] at h
  refine h _ H _ ⟨N, rfl, p.nodup_iff.mpr n.nd, fun a ha => .inl (p.mem_iff.mp ha), fun _ _ e _ _ => e⟩ s' (ER.set ?_ q) Sm.set
  exact ⟨er.1, fun j x hx => let ⟨u, h1, h2⟩ := er.2 j x hx; ⟨u, h1, h2.wide⟩⟩
theorem sgs_nil : PGs X [] (iGs T Z []) := by
  refine ⟨fun pins s σ H vs us Q I r h => pgs_nil.run pins s σ H vs us Q I r ?_⟩
  obtain ⟨ρ, env, st, ds, F, n, er, rd, h⟩ := h
  cases ds with
  | nil =>
    obtain ⟨rfl, rfl⟩ := rd
    exact ⟨rfl, by simp only [asgTs, ret] at h; exact h _ _ _ ⟨[], by simp, .nil, by simp, fun _ _ e _ _ => e⟩ n.sr er Sm.id⟩
  | cons d ds => simp only [asgTs, bad] at h; exact h.elim
theorem sgs_cons {es : List Expr} {t : Tg} {ts : List Tg} (h1 : PG X e (iG T Z t)) (h2 : PGs X es (iGs T Z ts)) (hs : (assignEach (e :: es) X.env).map (·.2) = assign e X.env :: (assignEach es X.env).map (·.2)) : PGs X (e :: es) (iGs T Z (t :: ts)) := by
  have g := pgs_cons h1 h2 hs
  refine ⟨fun pins s σ H vs us Q I r h => g.run pins s σ H vs us Q I r ?_⟩
  obtain ⟨ρ, env, st, ds, F, n, er, rd, h⟩ := h
  cases ds with
  | nil => simp only [asgTs, bad] at h; exact h.elim
  | cons d ds =>
    obtain ⟨v, ws, F1, F2, rfl, r1, r2, rfl⟩ := rd
    simp only [asgTs] at h
    refine ⟨v, ws, rfl, ρ, env, st, d, F1, n.less (List.sublist_append_left _ _), er, r1, ?_⟩
    unfold bnd at h
    cases e1 : asgT T t d env st with
    | ok env' st' =>
      rw [e1] at h
      intro ρ' H' σ' t1 sr1 er1 m1
      refine ⟨ρ', env', st', ds, F2, n.step t1 sr1, er1, t1.vals n r1.hcells r2, ?_⟩
      show PostA Z (asgTs T ts ds env' st') ρ' H' F2 (tgNs ts) σ' Q
      have h' : PostA Z (asgTs T ts ds env' st') ρ H (F1 ++ F2) (tgN t ++ tgNs ts) σ Q := h
      cases e2 : asgTs T ts ds env' st' with
      | ok env2 st2 =>
        rw [e2] at h'
        exact fun ρ2 H2 σ2 t2 sr2 er2 m2 => h' ρ2 H2 σ2 (StpF.trans n t1 sr1 t2) sr2 er2 (m1.trans m2)
      | exc _ _ => rw [e2] at h'; exact h'.elim
      | bad => rw [e2] at h'; exact h'.elim
    | exc x s' => rw [e1] at h; exact h.elim
    | bad => rw [e1] at h; exact h.elim
theorem sg_tup {es : List Expr} {ts : List Tg} {k : Nat} (hK : X.K = Z.K) (hc : X.calm = true) (h : PGs X es (iGs T Z ts)) (hl : es.length = ts.length) (hn : (assignEach es X.env).length = es.length) (hst : (assignEach es X.env).findIdx? (·.1) = none) : PG X (.Tuple es k pos) (iG T Z (.tup ts)) := by
  have g := pg_tup (k := k) (pos := pos) hc h hn hst
  have g2 := pg_unl (k := k) (pos := pos) hc h rfl hst
  have len : ∀ {ρ : List Addr} {H : Hp} {F : List Addr} {Q : L2.St -> Hp -> Prop} (ts : List Tg) (ds : List D) (env : Env) (st : Sto) {L : List Nat} {σ : L2.St}, PostA Z (asgTs T ts ds env st) ρ H F L σ Q -> ds.length = ts.length := by
    intro ρ H F Q ts
    induction ts with
    | nil => intro ds env st L σ h; cases ds with
      | nil => rfl
      | cons d ds => simp only [asgTs, bad] at h; exact h.elim
    | cons t ts ih =>
      intro ds env st L σ h
      cases ds with
      | nil => simp only [asgTs, bad] at h; exact h.elim
      | cons d ds =>
        simp only [asgTs, bnd] at h
        cases e1 : asgT T t d env st with
        | ok env' st' => rw [e1] at h; simp [ih ds env' st' h]
        | exc x s' => rw [e1] at h; exact h.elim
        | bad => rw [e1] at h; exact h.elim
  refine ⟨fun pins s σ H v u Q I r q => ?_⟩
  obtain ⟨ρ, env, st, d, F, n, er, rd, q⟩ := q
  simp only [asgT] at q
  have less : ∀ {ds : List D} {G : List Addr}, (∀ a ∈ G, a ∈ F) -> PostA Z (asgTs T ts ds env st) ρ H F (tgNs ts) σ Q -> PostA Z (asgTs T ts ds env st) ρ H G (tgNs ts) σ Q := by
    intro ds G hG h
    cases e : asgTs T ts ds env st with
    | ok env' st' =>
      rw [e] at h
      rintro ρ' H' σ' ⟨N, e1, e2, e3, e4⟩
      exact h ρ' H' σ' ⟨N, e1, e2, fun a ha => (e3 a ha).imp (hG a) id, fun a o q1 q2 q3 => e4 a o q1 q2 fun z => q3 (hG a z)⟩
    | exc _ _ => rw [e] at h; exact h.elim
    | bad => rw [e] at h; exact h.elim
  cases d with
  | tup ds =>
    obtain ⟨a, vs, rfl, hv, rs⟩ := rd
    simp only [ofTup] at q
    exact g.run pins s σ H _ u Q I r ⟨a, vs, rfl, by rw [hK]; exact hv, by rw [<- rs.length, len ts ds env st q, hl], ρ, env, st, ds, F, n, er, rs, q⟩
  | lst ds =>
    obtain ⟨a, vs, G, rfl, hv, rs, rfl⟩ := rd
    simp only [ofTup] at q
    have q2 := less (fun x hx => List.mem_cons_of_mem _ hx) q
    exact g2.run pins s σ H _ u Q I r ⟨a, vs, rfl, by rw [hK]; exact SqL.of hv, by rw [<- rs.length, len ts ds env st q, <- hl, hn], ρ, env, st, ds, G, ⟨n.sr, (List.nodup_cons.1 n.nd).2, fun x hx => n.out x (List.mem_cons_of_mem _ hx), fun x hx => n.th x (List.mem_cons_of_mem _ hx)⟩, er, rs, q2⟩
  | ref l =>
    obtain ⟨a, ha, rfl, rfl⟩ := rd
    simp only [ofTup] at q
    cases e : st[l]? with
    | none => rw [e] at q; exact q.elim
    | some c =>
      rw [e] at q
      cases c with
      | lst ds =>
        obtain ⟨b, vs, G, z, hv, rs, hG⟩ := n.sr.cell l _ a e ha
        cases z
        have hG2 : G = [] := by
          have := congrArg List.length hG
          simp only [List.length_cons, List.length_nil] at this
          exact List.eq_nil_of_length_eq_zero (by omega)
        subst hG2
        exact g2.run pins s σ H _ u Q I r ⟨a, vs, rfl, by rw [hK]; exact SqL.of hv, by rw [<- rs.length, len ts ds env st q, <- hl, hn], ρ, env, st, ds, [], n, er, rs, q⟩
      | _ => exact q.elim
  | _ => simp only [ofTup] at q; exact q.elim
end
end Fs
namespace Fs
open PySem L2 PyProof.Rows PySem.Spec
section
variable {X : L2.Cx} {T : Tbl} {Z : Wc} {W : WX} {a b c e : Expr} {A B C : Ex} {pos p : Pos} {s1 s2 : Stmt} {q1 q2 : Sx}
theorem ps_weak {s : Stmt} {t t' : TS} (h : PS X s t) (w : ∀ D σ H, t' D σ H -> t D σ H) : PS X s t' := ⟨fun pins s σ H D I q => h.run pins s σ H D I (w D σ H q)⟩
theorem pss_weak {s : List Stmt} {t t' : TS} (h : PSs X s t) (w : ∀ D σ H, t' D σ H -> t D σ H) : PSs X s t' := ⟨fun pins s σ H D I q => h.run pins s σ H D I (w D σ H q)⟩
theorem ss_ret (ha : PE X a (iE T Z W A)) : PS X (.Return (some a) pos) (iS T Z W (.ret A)) := ps_weak (ps_ret ha) fun D σ H ⟨ρ, env, st, er, sr, h⟩ => by
  simp only [exS] at h
  refine ⟨ρ, env, st, er, sr, (PostS.lft rpOk (Now.start sr) sr er h).mono ?_⟩
  rintro v H1 ⟨ρ1, d, st1, G, n, t, er1, r, h1⟩
  simp only [ret] at h1
  exact h1 _ _ _ _ n.stp n.sr r
theorem ss_xpr (ha : PE X a (iE T Z W A)) (hs : swapsWith a none pos.line X.env = pure false) : PS X (.Expr a pos) (iS T Z W (.xpr A)) := ps_weak (ps_expr ha hs) fun D σ H ⟨ρ, env, st, er, sr, h⟩ => by
  simp only [exS] at h
  refine ⟨ρ, env, st, er, sr, (PostS.lft rpOk (Now.start sr) sr er h).mono ?_⟩
  rintro v H1 ⟨ρ1, d, st1, G, n, t, er1, r, h1⟩
  simp only [ret] at h1
  exact h1 _ _ _ n.stp.none n.sr er1
theorem asg_ok {t : Tg} {D : Ends} {σ : L2.St} {H : Hp} (h : iS T Z W (.asg t A) D σ H) : iE T Z W A σ H (fun x H1 => iG T Z t x σ H1 D.nx) := by
  obtain ⟨ρ, env, st, er, sr, h⟩ := h
  simp only [exS] at h
  refine ⟨ρ, env, st, er, sr, (PostS.lft rpOk (Now.start sr) sr er h).mono ?_⟩
  rintro v H1 ⟨ρ1, d, st1, G, n, t1, er1, r, h1⟩
  have n' : Now Z ρ H ρ1 st1 H1 G := n
  refine ⟨ρ1, env, st1, d, G, n'.hand, er1, r, ?_⟩
  unfold bnd noX at h1
  cases e1 : asgT T t d env st1 with
  | ok env' st' =>
    rw [e1] at h1
    exact fun ρ' H' σ' t2 sr2 er2 _ => h1 ρ' H' σ' (n'.land sr t2) sr2 er2
  | exc _ _ => rw [e1] at h1; exact h1.elim
  | bad => rw [e1] at h1; exact h1.elim
theorem ss_asg {tg : Expr} {t : Tg} (ha : PE X e (iE T Z W A)) (hg : PG X tg (iG T Z t)) (hs : swapsWithSole [tg] e pos.line X.env = pure false) (hw : swappedStores [tg] e X.env = pure none) (h1 : (assignEach [tg] X.env).map (·.2) = [assign tg X.env]) :
    PS X (.Assign [tg] e pos) (iS T Z W (.asg t A)) := ps_weak (ps_asg ha hg hs hw h1) fun D σ H h => asg_ok h
theorem ss_if {as bs : List Stmt} {As Bs : List Sx} {C1 : Cn} (hc : PT X c (iT T Z W C1)) (ha : PSs X as (iL T Z W As)) (hb : PSs X bs (iL T Z W Bs)) : PS X (.If c as bs pos) (iS T Z W (.iff C1 As Bs)) := ps_weak (ps_if hc ha hb) fun D σ H ⟨ρ, env, st, er, sr, h⟩ => by
  simp only [exS] at h
  refine ⟨ρ, env, st, er, sr, (PostS.lft reqOk (Now.start sr) sr er h).mono ?_⟩
  rintro k H1 ⟨ρ1, d, st1, G, n, t, er1, ⟨rfl, rfl⟩, h1⟩
  cases d with
  | true => exact ⟨ρ1, env, st1, er1, n.sr, h1.tail n sr⟩
  | false => exact ⟨ρ1, env, st1, er1, n.sr, h1.tail n sr⟩
theorem ssl_nil : PSs X [] (iL T Z W []) := pss_weak pss_nil fun D σ H ⟨ρ, env, st, er, sr, h⟩ => by
  simp only [exL, ret] at h
  exact h _ _ _ Stp.id sr er
theorem ssl_cons {ss : List Stmt} {qs : List Sx} (h1 : PS X s1 (iS T Z W q1)) (h2 : PSs X ss (iL T Z W qs)) : PSs X (s1 :: ss) (iL T Z W (q1 :: qs)) := pss_weak (pss_cons h1 h2) fun D σ H ⟨ρ, env, st, er, sr, h⟩ => by
  simp only [exL] at h
  refine ⟨ρ, env, st, er, sr, ?_⟩
  unfold seqF at h
  cases e1 : exS T q1 env st with
  | exc _ _ => rw [e1] at h; exact h.elim
  | bad => rw [e1] at h; exact h.elim
  | ok f s' =>
    rw [e1] at h
    cases f with
    | nx e' => exact fun ρ' H' σ' t sr' er' => ⟨ρ', e', s', er', sr', PostS.tail (F := []) (⟨t, sr', by simp, by simp, .nil⟩ : Now Z ρ H ρ' s' H' []) sr h⟩
    | br e' => exact h
    | ct e' => exact h
    | rt d => exact h
    | ex e' x => exact h
theorem ss_whl {bs : List Stmt} {Bs : List Sx} {C1 : Cn} (hp : PassesOwn (model X.prog X.w) X.A X.env X.xe) (hc : PT X c (iT T Z W C1)) (hb : PSs X bs (iL T Z W Bs)) : PS X (.While c bs [] pos) (iS T Z W (.whl C1 Bs)) := ps_weak (ps_while hp hc hb) fun D σ H ⟨ρ, env, st, er, sr, h⟩ => by
  simp only [exS] at h
  refine ⟨fun m σ H => ∃ ρ env st, ER Z ρ H env σ /\ SR Z ρ st H /\ PostS Z W (whLoop (fun σ => evT T C1 σ) (fun σ => exL T Bs σ) m env st) ρ H D, ⟨wfuel, ρ, env, st, er, sr, h⟩, ?_⟩
  rintro m σ H ⟨ρ, env, st, er, sr, h⟩
  cases m with
  | zero => exact h.elim
  | succ m =>
    simp only [whLoop] at h
    refine ⟨ρ, env, st, er, sr, (PostS.lft reqOk (Now.start sr) sr er h).mono ?_⟩
    rintro k H1 ⟨ρ1, d, st1, G, n, t, er1, ⟨rfl, rfl⟩, h1⟩
    cases d with
    | false => simp only [ret] at h1; exact h1 _ _ _ n.stp n.sr er1
    | true =>
      refine ⟨fun σ' H' => ∃ ρ env st, ER Z ρ H' env σ' /\ SR Z ρ st H' /\ PostS Z W (whLoop (fun σ => evT T C1 σ) (fun σ => exL T Bs σ) m env st) ρ H' D, fun σ' H' hN => ⟨m, Nat.lt_succ_self m, hN⟩, ρ1, env, st1, er1, n.sr, ?_⟩
      have h2 := PostS.tail n sr h1
      simp only at h2
      cases e1 : exL T Bs env st1 with
      | exc _ _ => rw [e1] at h2; exact h2.elim
      | bad => rw [e1] at h2; exact h2.elim
      | ok f s' =>
        rw [e1] at h2
        cases f with
        | nx e' => exact fun ρ' H' σ' t sr' er' => ⟨ρ', e', s', er', sr', PostS.tail (F := []) (⟨t, sr', by simp, by simp, .nil⟩ : Now Z ρ1 H1 ρ' s' H' []) n.sr h2⟩
        | ct e' => exact fun ρ' H' σ' t sr' er' => ⟨ρ', e', s', er', sr', PostS.tail (F := []) (⟨t, sr', by simp, by simp, .nil⟩ : Now Z ρ1 H1 ρ' s' H' []) n.sr h2⟩
        | br e' => exact h2
        | rt d => exact h2
        | ex e' x => exact h2
end
end Fs
namespace Fs
open PySem L2 PyProof.Rows PySem.Spec
structure Fol (Z : Wc) (t : Fs.It) (J : L2.It) (I : Nat -> List Addr -> Hp -> List Addr -> Prop) : Prop where
  there : ∀ {i ρ H F}, I i ρ H F -> ∀ a ∈ F, H a ≠ none
  stay : ∀ {i ρ H F ρ' H'}, (∀ (l : Nat) (a : Addr), ρ[l]? = some a -> ρ'[l]? = some a) -> (∀ a o, H a = some o -> HCell o = false -> H' a = some o) -> (∀ a ∈ F, ∀ o, H a = some o -> H' a = some o) -> I i ρ H F -> I i ρ' H' F
  stop : ∀ {i ρ st H F}, SR Z ρ st H -> I i ρ H F -> t.next i st = some none -> J.stop i H
  item : ∀ {i ρ st H F d}, SR Z ρ st H -> I i ρ H F -> t.next i st = some (some d) -> J.go i H /\ ∀ x H', J.yld i H x H' -> (H' = H ∨ ∃ T vs, H T = none /\ H' = upd H T (.tup vs)) /\ ∃ F1 F2, (F1 ++ F2).Perm F /\ Rp Z ρ H' d x F1 /\ I (i + 1) ρ H' F2
def relI (Z : Wc) : Rel Fs.It L2.It := fun ρ H t J F => ∃ I, Fol Z t J I /\ I 0 ρ H F
theorem relI_ok {Z : Wc} : RelOk Z (relI Z) := ⟨fun ⟨I, f, h⟩ => f.there h, fun hr ht hk ⟨I, f, h⟩ => ⟨I, f, f.stay hr ht hk h⟩⟩
def iI (T : Tbl) (Z : Wc) (W : WX) (it : Ix) : TI := fun σ H R => ∃ ρ env st, ER Z ρ H env σ /\ SR Z ρ st H /\ Post (relI Z) Z W (evI T it env st) ρ σ H R
section
variable {Z : Wc} {W : WX} {ρ ρ' ρ₁ ρ₂ : List Addr} {H H' H₁ H₂ : Hp} {st st' st₁ : Sto} {F F' F₁ F₂ G : List Addr} {σ : L2.St} {env : Env}
theorem Stp.perm (s : Stp ρ H ρ' H' F) (p : G.Perm F) : Stp ρ H ρ' H' G := by
  obtain ⟨N, rfl, n, f, k⟩ := s
  have q : (N ++ G).Perm (N ++ F) := List.Perm.append_left N p
  exact ⟨N, rfl, q.nodup_iff.mpr n, fun a ha => f a (q.mem_iff.mp ha), k⟩
theorem Now.perm (n : Now Z ρ H ρ₁ st₁ H₁ F) (p : G.Perm F) : Now Z ρ H ρ₁ st₁ H₁ G :=
  ⟨n.stp.perm p, n.sr, fun a ha => n.th a (p.mem_iff.mp ha), fun a ha => n.out a (p.mem_iff.mp ha), p.nodup_iff.mpr n.nd⟩
theorem Now.landR (n : Now Z ρ H ρ₁ st₁ H₁ (F ++ G)) (s : SR Z ρ st H) (t : StpF ρ₁ H₁ F ρ₂ H₂) (sr : SR Z ρ₂ st' H₂) : Now Z ρ H ρ₂ st' H₂ G := by
  have hd := n.hand.step t sr
  have h0 := (n.less (List.sublist_append_left F G)).land s t
  refine ⟨?_, sr, hd.th, hd.out, hd.nd⟩
  obtain ⟨M, eM, nd, f, k⟩ := h0
  obtain ⟨M1, e1, nd1, f1, k1⟩ := n.stp
  refine ⟨M, eM, ?_, fun a ha => ?_, k⟩
  · refine List.nodup_append.mpr ⟨by simpa using nd, hd.nd, fun a ha b hb e => ?_⟩
    subst e
    exact hd.out a hb (by rw [eM]; exact List.mem_append_right _ ha)
  · rcases List.mem_append.mp ha with ha | ha
    · exact f a (by simpa using ha)
    · exact f1 a (List.mem_append_right _ (List.mem_append_right _ ha))
theorem StpF.kept (s : StpF ρ H F ρ' H') (h : Hand Z ρ st H (F ++ G)) (hF : ∀ a ∈ F, ∃ o, H a = some o /\ HCell o = true) :
    (∀ (l : Nat) (a : Addr), ρ[l]? = some a -> ρ'[l]? = some a) /\ (∀ a o, H a = some o -> HCell o = false -> H' a = some o) /\ ∀ a ∈ G, ∀ o, H a = some o -> H' a = some o := by
  have pre := s.pre
  obtain ⟨N, rfl, nn, fn, kn⟩ := s
  refine ⟨pre, fun a o e k => kn a o e (h.sr.not_cell e k) fun z => ?_, fun a ha o e => kn a o e (h.out a (List.mem_append_right _ ha)) fun z => (List.nodup_append.mp h.nd).2.2 a z a ha rfl⟩
  obtain ⟨u, e', k'⟩ := hF a z
  rw [e] at e'; cases e'; rw [k] at k'; cases k'
theorem Stp.kept (s : Stp ρ H ρ' H' F) (r : SR Z ρ st H) (hG : ∀ a ∈ G, a ∉ ρ) : (∀ (l : Nat) (a : Addr), ρ[l]? = some a -> ρ'[l]? = some a) /\ (∀ a o, H a = some o -> HCell o = false -> H' a = some o) /\ ∀ a ∈ G, ∀ o, H a = some o -> H' a = some o :=
  ⟨s.pre, s.tup r, fun a ha => s.keep (hG a ha)⟩
theorem Now.tupd (n : Now Z ρ H ρ₁ st₁ H₁ F) (s : SR Z ρ st H) (h : H' = H₁ ∨ ∃ T vs, H₁ T = none /\ H' = upd H₁ T (.tup vs)) : Now Z ρ H ρ₁ st₁ H' F /\ ∀ {e : Env} {σ : L2.St}, ER Z ρ₁ H₁ e σ -> ER Z ρ₁ H' e σ := by
  rcases h with rfl | ⟨T, vs, hT, rfl⟩
  · exact ⟨n, fun e => e⟩
  · refine ⟨(n.new s hT).less (List.sublist_cons_self T F), fun {e σ} er => ⟨er.1, fun i d z => ?_⟩⟩
    obtain ⟨v, a, b⟩ := er.2 i d z
    exact ⟨v, a, rp_up hT b⟩
end
section
variable {X : L2.Cx} {T : Tbl} {Z : Wc} {W : WX} {pos : Pos}
theorem ss_for {tg iter : Expr} {bs : List Stmt} {Bs : List Sx} {it : Ix} {t : Tg} (hp : PassesOwn (model X.prog X.w) X.A X.env X.xe) (hc : X.calm = true) (hi : PI X tg iter (iI T Z W it)) (hg : PG X tg (iG T Z t)) (hb : PSs X bs (iL T Z W Bs))
    (hs : ∀ x, foldedSetIterable iter X.env x = pure x) : PS X (.For tg iter bs [] pos) (iS T Z W (.forr it t Bs)) := ps_weak (ps_for hp hc hi hg hb hs) fun Dn σ H ⟨ρ, env, st, er, sr, h⟩ => by
  simp only [exS] at h
  refine ⟨ρ, env, st, er, sr, (PostS.lft relI_ok (Now.start sr) sr er h).mono ?_⟩
  rintro J H1 ⟨ρ1, w, st1, G, n1, t1, er1, ⟨I, fol, hI⟩, h1⟩
  refine ⟨fun i m σ' H' => ∃ ρ' env' st' F, Now Z ρ H ρ' st' H' F /\ ER Z ρ' H' env' σ' /\ I i ρ' H' F /\ PostS Z W (forLoop w (fun d σ => asgT T t d σ) (fun σ => exL T Bs σ) m i env' st') ρ H Dn, ⟨w.len st1 + 1, ρ1, env, st1, G, n1, er1, hI, h1⟩, ?_⟩
  rintro i m σ' H' ⟨ρ', env', st', F, n, er', hI', h'⟩
  cases m with
  | zero => exact h'.elim
  | succ m =>
    simp only [forLoop] at h'
    cases e1 : w.next i st' with
    | none => rw [e1] at h'; exact h'.elim
    | some o => cases o with
      | none =>
        rw [e1] at h'
        exact .inl ⟨fol.stop n.sr hI' e1, h' _ _ _ n.stp.none n.sr er'⟩
      | some d =>
        rw [e1] at h'
        obtain ⟨hgo, hy⟩ := fol.item n.sr hI' e1
        refine .inr ⟨hgo, fun σ2 H2 => ∃ ρ2 env2 st2 F2, Now Z ρ H ρ2 st2 H2 F2 /\ ER Z ρ2 H2 env2 σ2 /\ I (i + 1) ρ2 H2 F2 /\ PostS Z W (forLoop w (fun d σ => asgT T t d σ) (fun σ => exL T Bs σ) m (i + 1) env2 st2) ρ H Dn, fun σ2 H2 hN => ⟨m, Nat.lt_succ_self m, hN⟩, fun x Hx hyl => ?_⟩
        obtain ⟨hH, F1, F2, hperm, rx, hI2⟩ := hy x Hx hyl
        obtain ⟨nx, erx⟩ := (n.perm hperm).tupd sr hH
        refine ⟨ρ', env', st', d, F1, (nx.less (List.sublist_append_left _ _)).hand, erx er', rx, ?_⟩
        unfold noX at h'
        cases e2 : asgT T t d env' st' with
        | exc _ _ => simp only [e2] at h'; exact h'.elim
        | bad => simp only [e2] at h'; exact h'.elim
        | ok env3 st3 =>
          simp only [e2] at h'
          intro ρ3 H3 σ3 t3 sr3 er3 _
          have n3 := nx.landR sr t3 sr3
          obtain ⟨k1, k2, k3⟩ := t3.kept nx.hand rx.hcells
          have hI3 : I (i + 1) ρ3 H3 F2 := fol.stay k1 k2 k3 hI2
          refine ⟨ρ3, env3, st3, er3, sr3, ?_⟩
          cases e3 : exL T Bs env3 st3 with
          | exc _ _ => rw [e3] at h'; exact h'.elim
          | bad => rw [e3] at h'; exact h'.elim
          | ok f st4 =>
            rw [e3] at h'
            have go : ∀ e4, PostS Z W (forLoop w (fun d σ => asgT T t d σ) (fun σ => exL T Bs σ) m (i + 1) e4 st4) ρ H Dn -> ∀ ρ4 H4 σ4, Stp ρ3 H3 ρ4 H4 [] -> SR Z ρ4 st4 H4 -> ER Z ρ4 H4 e4 σ4 ->
                ∃ ρ2 env2 st2 F2, Now Z ρ H ρ2 st2 H4 F2 /\ ER Z ρ2 H4 env2 σ4 /\ I (i + 1) ρ2 H4 F2 /\ PostS Z W (forLoop w (fun d σ => asgT T t d σ) (fun σ => exL T Bs σ) m (i + 1) env2 st2) ρ H Dn := by
              intro e4 h4 ρ4 H4 σ4 t4 sr4 er4
              obtain ⟨q1, q2, q3⟩ := t4.kept sr3 n3.out
              have n4 := n3.more sr t4 sr4 (by simp)
              exact ⟨ρ4, e4, st4, F2, by simpa using n4, er4, fol.stay q1 q2 q3 hI3, h4⟩
            cases f with
            | nx e4 => exact fun ρ4 H4 σ4 t4 sr4 er4 => go e4 h' ρ4 H4 σ4 t4 sr4 er4
            | ct e4 => exact fun ρ4 H4 σ4 t4 sr4 er4 => go e4 h' ρ4 H4 σ4 t4 sr4 er4
            | br e4 => exact fun ρ4 H4 σ4 t4 sr4 er4 => h' ρ4 H4 σ4 (n3.more sr t4 sr4 (by simp)).stp.none sr4 er4
            | rt d4 => exact fun ρ4 H4 v G4 t4 sr4 r4 => h' ρ4 H4 v G4 ((n3.more sr t4 sr4 (fun a ha => r4.there a ha)).stp.less (List.sublist_append_right _ _)) sr4 r4
            | ex e4 x4 => exact fun ρ4 H4 σ4 cls dx t4 sr4 er4 r4 => h' ρ4 H4 σ4 cls dx (n3.more sr t4 sr4 (by simp)).stp.none sr4 er4 r4
end
end Fs
namespace Fs
open PySem L2 PyProof.Rows PySem.Spec
section
variable {Z : Wc}
theorem drop_cons {α : Type} {xs : List α} {i : Nat} {d : α} (h : xs[i]? = some d) : xs.drop i = d :: xs.drop (i + 1) := by
  obtain ⟨hl, e⟩ := List.getElem?_eq_some_iff.mp h
  rw [<- e]; exact List.drop_eq_getElem_cons hl
theorem rps_turn {ρ : List Addr} {H : Hp} {xs : List D} {vs : List V} {i : Nat} {d : D} {F : List Addr} (h : xs[i]? = some d) (r : Rps Z ρ H (xs.drop i) (vs.drop i) F) :
    ∃ x F1 F2, vs[i]? = some x /\ F = F1 ++ F2 /\ Rp Z ρ H d x F1 /\ Rps Z ρ H (xs.drop (i + 1)) (vs.drop (i + 1)) F2 := by
  rw [drop_cons h] at r
  obtain ⟨v, ws, F1, F2, e, r1, r2, rfl⟩ := r
  have hv : vs[i]? = some v := by
    have : (vs.drop i)[0]? = some v := by rw [e]; rfl
    simpa using this
  have hw : ws = vs.drop (i + 1) := by
    have := drop_cons hv
    rw [e] at this
    injection this
  rw [hw] at r2
  exact ⟨v, F1, F2, hv, rfl, r1, r2⟩
theorem fol_tup {xs : List D} (a : Addr) : Fol Z (.one (.items xs)) (Itt Z.K a) (fun i ρ H F => ∃ vs, SqT Z.K H a vs /\ vs.length = xs.length /\ Rps Z ρ H (xs.drop i) (vs.drop i) F) where
  there := fun ⟨vs, _, _, r⟩ => r.there
  stay := fun hr ht hk ⟨vs, h, l, r⟩ => ⟨vs, SqT.stay ht h, l, r.stay hr ht hk⟩
  stop := fun {i ρ st H F} s ⟨vs, h, l, r⟩ e => by
    simp only [It.next, Src.at, Option.some.injEq] at e
    exact ⟨vs, h, by rw [l]; exact List.getElem?_eq_none_iff.mp e⟩
  item := fun {i ρ st H F d} s ⟨vs, h, l, r⟩ e => by
    simp only [It.next, Src.at, Option.some.injEq] at e
    obtain ⟨x, F1, F2, hx, rfl, r1, r2⟩ := rps_turn e r
    refine ⟨⟨vs, x, h, hx⟩, fun y H' hy => ?_⟩
    obtain ⟨rfl, hy⟩ := hy
    have := hy vs h
    rw [hx] at this
    cases this
    exact ⟨.inl rfl, F1, F2, .refl _, r1, vs, h, l, r2⟩
theorem fol_lst {xs : List D} (a : Addr) : Fol Z (.one (.items xs)) (Itl Z.K a) (fun i ρ H F => ∃ vs G, H a = some (.lst vs) /\ vs.length = xs.length /\ Rps Z ρ H (xs.drop i) (vs.drop i) G /\ F = a :: G) where
  there := fun ⟨vs, G, h, _, r, f⟩ b hb => by
    subst f
    rcases List.mem_cons.mp hb with rfl | hb
    · rw [h]; exact nofun
    · exact r.there b hb
  stay := fun hr ht hk ⟨vs, G, h, l, r, f⟩ => by
    subst f
    exact ⟨vs, G, hk a List.mem_cons_self _ h, l, r.stay hr ht (fun b hb => hk b (List.mem_cons_of_mem _ hb)), rfl⟩
  stop := fun {i ρ st H F} s ⟨vs, G, h, l, r, f⟩ e => by
    simp only [It.next, Src.at, Option.some.injEq] at e
    exact ⟨vs, SqL.of h, by rw [l]; exact List.getElem?_eq_none_iff.mp e⟩
  item := fun {i ρ st H F d} s ⟨vs, G, h, l, r, f⟩ e => by
    simp only [It.next, Src.at, Option.some.injEq] at e
    obtain ⟨x, F1, F2, hx, rfl, r1, r2⟩ := rps_turn e r
    refine ⟨⟨vs, x, SqL.of h, hx⟩, fun y H' hy => ?_⟩
    obtain ⟨rfl, hy⟩ := hy
    have := hy vs (SqL.of h)
    rw [hx] at this
    cases this
    subst f
    exact ⟨.inl rfl, F1, a :: F2, List.perm_middle, r1, vs, F2, h, l, r2, rfl⟩
theorem SR.list {ρ : List Addr} {st : Sto} {H : Hp} {l : Nat} {a : Addr} {xs : List D} (s : SR Z ρ st H) (ha : ρ[l]? = some a) (h : st[l]? = some (.lst xs) ∨ st[l]? = some (.frl xs)) : ∃ vs, SqL Z.K H a vs /\ Rps Z ρ H xs vs [] := by
  rcases h with h | h
  · obtain ⟨b, vs, G, z, h1, r, f⟩ := s.cell l _ a h ha
    cases z
    obtain rfl : G = [] := by injection f with _ f; exact f.symm
    exact ⟨vs, SqL.of h1, r⟩
  · obtain ⟨b, o, vs, G, z, h1, r, f⟩ := s.cell l _ a h ha
    cases z
    obtain rfl : G = [] := by injection f with _ f; exact f.symm
    exact ⟨vs, .inl (.inr ⟨o, h1⟩), r⟩
theorem src_cell {l i : Nat} {st : Sto} {o : Option D} (e : Src.at (.cell l) i st = some o) : ∃ xs, (st[l]? = some (.lst xs) ∨ st[l]? = some (.frl xs)) /\ xs[i]? = o := by
  simp only [Src.at] at e
  split at e
  · rename_i xs h; cases e; exact ⟨xs, .inl h, rfl⟩
  · rename_i xs h; cases e; exact ⟨xs, .inr h, rfl⟩
  · cases e
theorem fol_cell {l : Nat} (a : Addr) : Fol Z (.one (.cell l)) (Itl Z.K a) (fun i ρ H F => ρ[l]? = some a /\ F = []) where
  there := fun ⟨_, f⟩ b hb => by rw [f] at hb; cases hb
  stay := fun hr _ _ ⟨h, f⟩ => ⟨hr l a h, f⟩
  stop := fun {i ρ st H F} s ⟨h, f⟩ e => by
    obtain ⟨xs, hc, hx⟩ := src_cell e
    obtain ⟨vs, hv, r⟩ := s.list h hc
    exact ⟨vs, hv, by rw [<- r.length]; exact List.getElem?_eq_none_iff.mp hx⟩
  item := fun {i ρ st H F d} s ⟨h, f⟩ e => by
    obtain ⟨xs, hc, hx⟩ := src_cell e
    obtain ⟨vs, hv, r⟩ := s.list h hc
    obtain ⟨x, G, ex, rx, hG⟩ := r.get hx
    obtain rfl : G = [] := List.sublist_nil.mp hG
    refine ⟨⟨vs, x, hv, ex⟩, fun y H' hy => ?_⟩
    obtain ⟨rfl, hy⟩ := hy
    have := hy vs hv
    rw [ex] at this
    cases this
    exact ⟨.inl rfl, [], [], by rw [f]; exact .refl _, rx, h, rfl⟩
theorem rng_at {a c : Int} {n i : Nat} {o : Option D} (e : (rngN a c n)[i]? = o) : (o = none -> n <= i) /\ ∀ d, o = some d -> i < n /\ d = .int (a + (i : Int) * c) := by
  unfold rngN at e
  rw [List.getElem?_map] at e
  by_cases h : i < n
  · rw [List.getElem?_range h] at e
    subst e
    exact ⟨fun z => (by cases z), fun d z => (by cases z; exact ⟨h, rfl⟩)⟩
  · rw [List.getElem?_eq_none (by simpa using h)] at e
    subst e
    exact ⟨fun _ => Nat.le_of_not_lt h, fun d z => (by cases z)⟩
theorem fol_rng1 (lo : Int) (n : Nat) : Fol Z (.one (.items (rngN lo 1 n))) (Itr lo n) (fun _ _ _ F => F = []) where
  there := fun f b hb => by rw [f] at hb; cases hb
  stay := fun _ _ _ h => h
  stop := fun {i ρ st H F} s f e => by
    simp only [It.next, Src.at, Option.some.injEq] at e
    exact (rng_at e).1 rfl
  item := fun {i ρ st H F d} s f e => by
    simp only [It.next, Src.at, Option.some.injEq] at e
    obtain ⟨hl, rfl⟩ := (rng_at e).2 d rfl
    refine ⟨hl, fun y H' hy => ?_⟩
    obtain ⟨rfl, rfl⟩ := hy
    exact ⟨.inl rfl, [], [], by rw [f]; exact .refl _, ⟨by simp, rfl⟩, rfl⟩
end
section
variable {X : L2.Cx} {T : Tbl} {Z : Wc} {W : WX} {pos p : Pos} {tg e : Expr} {A : Ex}
theorem si_val (hK : X.K = Z.K) (ha : PE X e (iE T Z W A)) : PI X tg e (iI T Z W (.val A)) := by
  refine ⟨fun pins s σ H R I h => ?_⟩
  obtain ⟨ρ, env, st, er, sr, h⟩ := h
  simp only [evI] at h
  have bad : (∀ d s1, ev T A env st ≠ .ok d s1) -> Post (Rp Z) Z W (ev T A env st) ρ σ H (fun _ _ => False) := by
    intro hn
    unfold bnd at h
    cases e1 : ev T A env st with
    | ok d s1 => exact (hn d s1 e1).elim
    | exc x s1 => rw [e1] at h; exact h
    | bad => rw [e1] at h; exact h
  cases e1 : ev T A env st with
  | exc x s1 => exact (pi_tup (tg := tg) ha).run pins s σ H R I ⟨ρ, env, st, er, sr, (bad (by rw [e1]; exact nofun)).mono fun _ _ z => z.elim⟩
  | bad => exact (pi_tup (tg := tg) ha).run pins s σ H R I ⟨ρ, env, st, er, sr, (bad (by rw [e1]; exact nofun)).mono fun _ _ z => z.elim⟩
  | ok d s1 =>
    unfold bnd at h
    rw [e1] at h
    cases d with
    | tup xs =>
      refine (pi_tup (tg := tg) ha).run pins s σ H R I ⟨ρ, env, st, er, sr, ?_⟩
      rw [e1]
      rintro ρ' H' v F t sr' ⟨a, vs, rfl, hv, rs⟩
      refine ⟨a, rfl, ⟨vs, by rw [hK]; exact hv⟩, ?_⟩
      rw [hK]
      exact h ρ' H' (Itt Z.K a) F t sr' ⟨_, fol_tup a, vs, hv, rs.length.symm, by simpa using rs⟩
    | lst xs =>
      refine (pi_list (tg := tg) ha).run pins s σ H R I ⟨ρ, env, st, er, sr, ?_⟩
      rw [e1]
      rintro ρ' H' v F t sr' ⟨a, vs, G, rfl, hv, rs, rfl⟩
      refine ⟨a, rfl, ⟨vs, SqL.of hv⟩, ?_⟩
      rw [hK]
      exact h ρ' H' (Itl Z.K a) _ t sr' ⟨_, fol_lst a, vs, G, hv, rs.length.symm, by simpa using rs, rfl⟩
    | ref l =>
      simp only [srcOf] at h
      have go : ∀ xs, (s1[l]? = some (.lst xs) ∨ s1[l]? = some (.frl xs)) -> Post (relI Z) Z W (.ok (Fs.It.one (.cell l)) s1) ρ σ H R -> wpAny (model X.prog X.w) X.A (eval e X.env) (fun v s1 => wpAny (model X.prog X.w) X.A (pyIter v) (PIE X pins σ tg R) X.xe s1) X.xe s := by
        intro xs hx h
        refine (pi_list (tg := tg) ha).run pins s σ H R I ⟨ρ, env, st, er, sr, ?_⟩
        rw [e1]
        rintro ρ' H' v F t sr' ⟨a, hl, rfl, rfl⟩
        obtain ⟨vs, hv, rs⟩ := sr'.list hl hx
        refine ⟨a, rfl, ⟨vs, by rw [hK]; exact hv⟩, ?_⟩
        rw [hK]
        exact h ρ' H' (Itl Z.K a) _ t sr' ⟨_, fol_cell a, hl, rfl⟩
      cases hc : s1[l]? with
      | none => rw [hc] at h; exact h.elim
      | some c =>
        rw [hc] at h
        cases c with
        | lst xs => exact go xs (.inl hc) h
        | frl xs => exact go xs (.inr hc) h
        | _ => exact h.elim
    | _ => exact h.elim
theorem evs_one {env : Env} {A : Ex} {σ : L2.St} {ρ : List Addr} {st : Sto} {H : Hp} {α β : Type} {rel : Rel α β} {f : List D -> M α} {Q : β -> Hp -> Prop} (h : Post rel Z W (bnd (evs T [A] env) f st) ρ σ H Q) : Post rel Z W (bnd (ev T A env) (fun x => f [x]) st) ρ σ H Q := by
  simp only [evs, bnd, ret] at h ⊢
  cases e : ev T A env st with
  | ok d s => simpa only [e] using h
  | exc x s => simpa only [e] using h
  | bad => simpa only [e] using h
theorem rng_post {ds : List D} {st : Sto} {ρ : List Addr} {σ : L2.St} {H : Hp} {R : L2.It -> Hp -> Prop} (h : Post (relI Z) Z W (opt (rngL ds) (fun xs => ret (Fs.It.one (.items xs))) st) ρ σ H R) : ∃ xs, rngL ds = some xs /\ Post (relI Z) Z W (.ok (Fs.It.one (.items xs)) st) ρ σ H R := by
  cases e : rngL ds with
  | none => rw [e] at h; exact h.elim
  | some xs => rw [e] at h; exact ⟨xs, rfl, h⟩
theorem si_rng1 {a : Expr} {A : Ex} (hg : Gl X "range") (hm : X.mg "range" = none) (ha : PE X a (iE T Z W A)) (hs : starEach [a] X.env = [(false, eval a X.env)]) : PI X tg (.Call (.Name "range" p) [a] [] pos) (iI T Z W (.rng [A])) := by
  have w := pi_range1 (tg := tg) (p := p) (pos := pos) hg hm (pa_cons ha pa_nil hs) hs
  refine ⟨fun pins s σ H R I h => w.run pins s σ H R I ?_⟩
  obtain ⟨ρ, env, st, er, sr, h⟩ := h
  simp only [evI] at h
  refine ⟨ρ, env, st, er, sr, (Post.seq rpOk (Now.start sr) sr (evs_one h)).mono ?_⟩
  rintro v H1 ⟨ρ1, d, st1, F1, n1, t1, r1, h1⟩
  obtain ⟨xs, e, h2⟩ := rng_post h1
  cases d with
  | int b =>
    obtain ⟨rfl, rfl⟩ := r1
    simp only [rngL] at e
    split at e
    · rename_i hb
      cases e
      exact ⟨b, rfl, hb.1, hb.2, h2 ρ1 H1 _ [] n1.stp n1.sr ⟨_, fol_rng1 0 b.toNat, rfl⟩⟩
    · cases e
  | _ => simp [rngL] at e
end
end Fs
namespace Fs
open PySem L2 PyProof.Rows PySem.Spec
abbrev WF : WX := fun _ _ _ _ => False
section
variable {Z : Wc} {W : WX} {ρ ρ' ρ₁ ρ₂ : List Addr} {H H' H₁ H₂ : Hp} {st st' st₁ : Sto} {F F' F₁ F₂ G : List Addr} {σ : L2.St} {env : Env} {D : Addr} {o o' : HO}
theorem upd_keep (h : H D = some o) (hc : HCell o = true) : ∀ a u, H a = some u -> HCell u = false -> upd H D o' a = some u := fun a u e k => by
  rw [upd_ne (fun z => by rw [z, h] at e; cases e; rw [hc] at k; cases k)]; exact e
theorem upd_off (hF : D ∉ F) : ∀ a ∈ F, ∀ u, H a = some u -> upd H D o' a = some u := fun a ha u e => by
  rw [upd_ne (fun z => hF (by rw [<- z]; exact ha))]; exact e
theorem Rp.updF {d : Fs.D} {v : V} (h : H D = some o) (hc : HCell o = true) (hF : D ∉ F) (r : Rp Z ρ H d v F) : Rp Z ρ (upd H D o') d v F := r.stay (fun _ _ e => e) (upd_keep h hc) (upd_off hF)
theorem Rps.updF {d : List Fs.D} {v : List V} (h : H D = some o) (hc : HCell o = true) (hF : D ∉ F) (r : Rps Z ρ H d v F) : Rps Z ρ (upd H D o') d v F := r.stay (fun _ _ e => e) (upd_keep h hc) (upd_off hF)
theorem SR.updF (s : SR Z ρ st H) (h : H D = some o) (hc : HCell o = true) (hD : D ∉ ρ) : SR Z ρ st (upd H D o') :=
  ⟨s.len, s.nd, s.kind, fun l c a h1 h2 => (s.cell l c a h1 h2).updF h hc (fun z => hD (by rw [List.mem_singleton.mp z]; exact List.mem_of_getElem? h2)), s.gb.up (upd_keep h hc)⟩
theorem Now.updF (n : Now Z ρ H ρ' st' H' F) (s : SR Z ρ st H) (hD : D ∈ F) (h : H' D = some o) (hc : HCell o = true) : Now Z ρ H ρ' st' (upd H' D o') F := by
  have hf : H D = none := by obtain ⟨N, _, _, f, _⟩ := n.stp; exact f D (List.mem_append_right _ hD)
  refine ⟨?_, n.sr.updF h hc (n.out D hD), fun a ha => ?_, n.out, n.nd⟩
  · obtain ⟨N, e, nd, f, k⟩ := n.stp
    exact ⟨N, e, nd, f, fun a u q z => by rw [upd_ne (fun y => by rw [y, hf] at q; cases q)]; exact k a u q z⟩
  · by_cases e : a = D
    · rw [e, upd_same]; exact nofun
    · rw [upd_ne e]; exact n.th a ha
theorem wipe_get {σ : L2.St} {i : Nat} : ∀ {vs : List Nat}, (L2.wipe σ vs)[i]? = if i ∈ vs then (σ[i]?).map (fun _ => none) else σ[i]?
  | [] => by simp [L2.wipe]
  | v :: vs => by
    unfold L2.wipe
    by_cases h : v = i
    · subst h
      rw [List.getElem?_set]
      by_cases hl : v < σ.length
      · simp [hl, wipe_length]
      · simp [hl, wipe_length]
    · rw [List.getElem?_set_ne h, wipe_get]
      have : (i ∈ v :: vs) ↔ i ∈ vs := by simp [Ne.symm h]
      simp only [this]
theorem wipe_sm {σ σ' : L2.St} {L vs : List Nat} (m : Sm L (L2.wipe σ vs) σ') (h : ∀ i ∈ L, i ∈ vs) : L2.wipe σ' vs = L2.wipe σ vs := by
  apply List.ext_getElem?
  intro i
  rw [wipe_get, wipe_get]
  by_cases hi : i ∈ vs
  · simp only [hi, if_true]
    have l : σ'.length = σ.length := by rw [m.1, wipe_length]
    by_cases hl : i < σ.length
    · rw [List.getElem?_eq_getElem hl, List.getElem?_eq_getElem (by rw [l]; exact hl)]; rfl
    · rw [List.getElem?_eq_none (by omega), List.getElem?_eq_none (by omega)]
  · simp only [hi, if_false]
    rw [m.2 i (fun z => hi (h i z)), wipe_get, if_neg hi]
theorem ER.wipe (er : ER Z ρ H env σ) : ∀ vs : List Nat, ER Z ρ H (Fs.wipe env vs) (L2.wipe σ vs)
  | [] => er
  | v :: vs => (ER.wipe er vs).gone
end
section
variable (T : Tbl) (Z : Wc) (W : WX)
def iTs (cs : List Cn) : TT := fun σ H Q => ∃ ρ env st, ER Z ρ H env σ /\ SR Z ρ st H /\ Post (RelEq Bool) Z W (evTs T cs env st) ρ σ H Q
end
section
variable {X : L2.Cx} {T : Tbl} {Z : Wc} {W : WX} {pos p : Pos} {tg e c : Expr} {A : Ex}
theorem sts_nil : PTs X [] (iTs T Z W []) := ⟨fun pins s σ H Q I h => pts_nil.run pins s σ H Q I (by
  obtain ⟨ρ, env, st, er, sr, h⟩ := h
  simp only [evTs] at h
  exact Post.ret h (Now.start sr) ⟨rfl, rfl⟩)⟩
theorem sts_one {C : Cn} (h : PT X c (iT T Z W C)) : PTs X [c] (iTs T Z W [C]) := ⟨fun pins s σ H Q I q => (pts_one h).run pins s σ H Q I (by
  obtain ⟨ρ, env, st, er, sr, h⟩ := q
  simp only [evTs] at h
  refine ⟨ρ, env, st, er, sr, ?_⟩
  unfold bnd at h
  cases e1 : evT T C env st with
  | ok b s1 => rw [e1] at h; cases b <;> exact h
  | exc x s1 => rw [e1] at h; exact h
  | bad => rw [e1] at h; exact h)⟩
theorem post_ok {α β : Type} {rel : Rel α β} {r : R α} {ρ : List Addr} {σ : L2.St} {H : Hp} {Q : β -> Hp -> Prop} {d : α} {s : Sto} (e : r = .ok d s) (h : ∀ ρ' H' v F, Stp ρ H ρ' H' F -> SR Z ρ' s H' -> rel ρ' H' d v F -> Q v H') : Post rel Z W r ρ σ H Q := by rw [e]; exact h
theorem lc_ok {own : List Nat} {it : Ix} {t : Tg} {ifs : List Cn} (hsub : ∀ i ∈ tgN t, i ∈ own) {σ : L2.St} {H : Hp} {Q : VK} (h : iE T Z W (.lc own it t ifs A) σ H Q) :
    tLc (iI T Z W it) (iG T Z t) (iTs T Z WF ifs) (iE T Z WF A) own σ H Q := by
  obtain ⟨ρ, env, st, er, sr, h⟩ := h
  simp only [ev] at h
  refine ⟨ρ, env, st, er, sr, (Post.seq relI_ok (Now.start sr) sr h).mono ?_⟩
  rintro J H1 ⟨ρ1, w, st1, G, n1, t1, ⟨I, fol, hI⟩, h1⟩ D hD
  have up : ∀ a u, H1 a = some u -> upd H1 D (.lst []) a = some u := fun a u e => by rw [upd_ne (fun z => by rw [z, hD] at e; cases e)]; exact e
  generalize hturn : (fun d => bnd (asgT T t d (Fs.wipe env own)) fun σ' => bnd (evTs T ifs σ') fun b => match b with
        | true => bnd (ev T A σ') fun y => ret (some y)
        | false => ret none : Fs.D -> Sto -> R (Option Fs.D)) = turn at h1
  refine ⟨fun i m H' => ∃ ρ' st' Fi ys vs Fy, Now Z ρ H ρ' st' H' (D :: (Fy ++ Fi)) /\ H' D = some (.lst vs) /\ Rps Z ρ' H' ys vs Fy /\ I i ρ' H' Fi /\ Post (Rp Z) Z W (bnd (lcLoop w turn m i ys) (fun ys => ret (.lst ys)) st') ρ σ H Q,
    ⟨w.len st1 + 1, ρ1, st1, G, [], [], [], n1.new sr hD, upd_same, ⟨rfl, rfl⟩, fol.stay (fun _ _ e => e) (fun a u e _ => up a u e) (fun a _ u e => up a u e) hI, h1⟩, ?_⟩
  rintro i m H' ⟨ρ', st', Fi, ys, vs, Fy, n, hDv, rys, hI', h'⟩
  cases m with
  | zero => exact h'.elim
  | succ m =>
    unfold bnd at h'
    simp only [lcLoop] at h'
    cases e1 : w.next i st' with
    | none => rw [e1] at h'; exact h'.elim
    | some o => cases o with
      | none =>
        rw [e1] at h'
        refine .inl ⟨fol.stop n.sr hI' e1, ?_⟩
        exact Post.ok h' (n.less (List.cons_sublist_cons.mpr (List.sublist_append_left _ _))) ⟨D, vs, Fy, rfl, hDv, rys, rfl⟩
      | some d =>
        rw [e1] at h'
        simp only at h'
        obtain ⟨hgo, hy⟩ := fol.item n.sr hI' e1
        refine .inr ⟨hgo, fun H2 => ∃ ρ' st' Fi ys vs Fy, Now Z ρ H ρ' st' H2 (D :: (Fy ++ Fi)) /\ H2 D = some (.lst vs) /\ Rps Z ρ' H2 ys vs Fy /\ I (i + 1) ρ' H2 Fi /\ Post (Rp Z) Z W (bnd (lcLoop w turn m (i + 1) ys) (fun ys => ret (.lst ys)) st') ρ σ H Q,
          fun H2 hN => ⟨m, Nat.lt_succ_self m, hN⟩, fun x Hx hyl => ?_⟩
        obtain ⟨hH, F1, F2, hperm, rx, hI2⟩ := hy x Hx hyl
        have perm : (F1 ++ (D :: (Fy ++ F2))).Perm (D :: (Fy ++ Fi)) := by
          refine (List.perm_middle).trans (List.Perm.cons D ?_)
          refine List.Perm.trans ?_ (List.Perm.append_left Fy hperm)
          rw [<- List.append_assoc, <- List.append_assoc]
          exact List.Perm.append_right F2 List.perm_append_comm
        obtain ⟨nx, erx⟩ := (n.perm perm).tupd sr hH
        have stx : (∀ a u, H' a = some u -> Hx a = some u) := by
          rcases hH with rfl | ⟨T0, vs0, hT, rfl⟩
          · exact fun a u e => e
          · exact fun a u e => by rw [upd_ne (fun z => by rw [z, hT] at e; cases e)]; exact e
        have rysx : Rps Z ρ' Hx ys vs Fy := rys.stay (fun _ _ e => e) (fun a u e _ => stx a u e) (fun a _ u e => stx a u e)
        refine ⟨ρ', Fs.wipe env own, st', d, F1, (nx.less (List.sublist_append_left _ _)).hand, (erx (n.stp.env sr er)).wipe own, rx, ?_⟩
        have et : turn d st' = bnd (asgT T t d (Fs.wipe env own)) (fun σ' => bnd (evTs T ifs σ') fun b => match b with
            | true => bnd (ev T A σ') fun y => ret (some y)
            | false => ret none) st' := by rw [<- hturn]
        rw [et] at h'
        simp only [bnd] at h'
        cases e2 : asgT T t d (Fs.wipe env own) st' with
        | exc _ _ => simp only [e2] at h'; exact h'.elim
        | bad => simp only [e2] at h'; exact h'.elim
        | ok env3 st3 =>
          simp only [e2] at h'
          intro ρ3 H3 σ3 t3 sr3 er3 m3
          have n3 := nx.landR sr t3 sr3
          obtain ⟨k1, k2, k3⟩ := t3.kept nx.hand rx.hcells
          refine ⟨wipe_sm m3 hsub, ρ3, env3, st3, er3, sr3, ?_⟩
          cases e3 : evTs T ifs env3 st3 with
          | exc _ _ => simp only [e3] at h'; exact h'.elim
          | bad => simp only [e3] at h'; exact h'.elim
          | ok b st4 =>
            simp only [e3] at h'
            rintro ρ4 H4 bb F t4 sr4 ⟨rfl, rfl⟩
            have n4 := n3.more sr t4 sr4 (by simp)
            rw [List.append_nil] at n4
            obtain ⟨q1, q2, q3⟩ := t4.kept sr3 n3.out
            have hD4 : H4 D = some (.lst vs) := q3 D List.mem_cons_self _ (k3 D List.mem_cons_self _ (stx _ _ hDv))
            have rys4 : Rps Z ρ4 H4 ys vs Fy := (rysx.stay k1 k2 (fun a ha => k3 a (List.mem_cons_of_mem _ (List.mem_append_left _ ha)))).stay q1 q2 (fun a ha => q3 a (List.mem_cons_of_mem _ (List.mem_append_left _ ha)))
            have hI4 : I (i + 1) ρ4 H4 F2 := fol.stay q1 q2 (fun a ha => q3 a (List.mem_cons_of_mem _ (List.mem_append_right _ ha))) (fol.stay k1 k2 (fun a ha => k3 a (List.mem_cons_of_mem _ (List.mem_append_right _ ha))) hI2)
            cases b with
            | false =>
              simp only [ret] at h'
              exact ⟨ρ4, st4, F2, ys, vs, Fy, n4, hD4, rys4, hI4, h'⟩
            | true =>
              refine ⟨ρ4, env3, st4, t4.env sr3 er3, sr4, ?_⟩
              cases e4 : ev T A env3 st4 with
              | exc _ _ => simp only [bnd, e4, ret] at h'; exact h'.elim
              | bad => simp only [bnd, e4, ret] at h'; exact h'.elim
              | ok y st5 =>
                simp only [bnd, e4, ret] at h'
                intro ρ5 H5 v G5 t5 sr5 r5
                by_cases hz : ys.length < sizeLine
                · rw [if_pos hz] at h'
                  have n5 := n4.more sr t5 sr5 r5.there
                  obtain ⟨u1, u2, u3⟩ := t5.kept sr4 n4.out
                  have hD5 := u3 D List.mem_cons_self _ hD4
                  refine ⟨vs, hD5, by rw [<- rys4.length]; exact hz, ρ5, st5, F2, ys ++ [y], vs ++ [v], Fy ++ G5, ?_, upd_same, ?_, ?_, h'⟩
                  · refine (n5.perm ?_).updF sr List.mem_cons_self hD5 rfl
                    refine List.Perm.cons D ?_
                    show (Fy ++ G5 ++ F2).Perm (Fy ++ F2 ++ G5)
                    rw [List.append_assoc, List.append_assoc]
                    exact List.Perm.append_left Fy List.perm_append_comm
                  · have nd5 := n5.nd
                    simp only [List.cons_append, List.nodup_cons, List.mem_append, not_or] at nd5
                    exact Rps.append (Rps.updF hD5 rfl nd5.1.1.1 (rys4.stay u1 u2 (fun a ha => u3 a (List.mem_cons_of_mem _ (List.mem_append_left _ ha))))) ⟨v, [], G5, [], rfl, r5.updF hD5 rfl nd5.1.2, ⟨rfl, rfl⟩, by simp⟩
                  · have nd5 := n5.nd
                    simp only [List.cons_append, List.nodup_cons, List.mem_append, not_or] at nd5
                    exact fol.stay (fun _ _ e => e) (upd_keep hD5 rfl) (upd_off nd5.1.1.2) (fol.stay u1 u2 (fun a ha => u3 a (List.mem_cons_of_mem _ (List.mem_append_right _ ha))) hI4)
                · rw [if_neg hz] at h'; exact h'.elim
theorem ig_nm {i : Nat} {v : V} {σ : L2.St} {H : Hp} {Q : L2.St -> Hp -> Prop} (h : iG T Z (.nm i) v σ H Q) : gName i v σ H Q := by
  obtain ⟨ρ, env, st, d, F, n, er, rd, h⟩ := h
  obtain ⟨N, p, s', q⟩ := land_ok d n.sr rd n.out n.nd
  simp only [asgT, bnd, landM, ret] at h
  refine h _ H _ ⟨N, rfl, p.nodup_iff.mpr n.nd, fun a ha => .inl (p.mem_iff.mp ha), fun _ _ e _ _ => e⟩ s' (ER.set ?_ q) Sm.set
  exact ⟨er.1, fun j x hx => let ⟨u, h1, h2⟩ := er.2 j x hx; ⟨u, h1, h2.wide⟩⟩
theorem subN {t : Tg} {own : List Nat} (h : (tgN t).all (own.contains ·) = true) : ∀ i ∈ tgN t, i ∈ own := fun i hi => by simpa using List.all_eq_true.mp h i hi
theorem se_lc {elt iter : Expr} {ifs : List Expr} {scope : Scope} {own : List (Str × Nat)} {it : Ix} {t : Tg} {Cs : List Cn} (hc : X.calm = true) (hN : X.N.Nodup) (ok : blkC X.N X.env.scope scope own = true) (hsub : (tgN t).all ((own.map (·.2)).contains ·) = true)
    (hi : PI X tg iter (iI T Z W it)) (hg : ∀ (s : Shared) (H : Hp) (C : Addr) (cl : List (Str × Addr)) (fp : List Addr), PG (X.blk s H scope (compEnvC scope cl C X.env) fp) tg (iG T Z t))
    (ht : ∀ (s : Shared) (H : Hp) (C : Addr) (cl : List (Str × Addr)) (fp : List Addr), PTs (X.blk s H scope (compEnvC scope cl C X.env) fp) ifs (iTs T Z WF Cs))
    (he : ∀ (s : Shared) (H : Hp) (C : Addr) (cl : List (Str × Addr)) (fp : List Addr), PE (X.blk s H scope (compEnvC scope cl C X.env) fp) elt (iE T Z WF A)) (hs : ∀ x, foldedSetIterable iter X.env x = pure x := by intro _; rfl) :
    PE X (.ListComp elt [⟨tg, iter, ifs, 0⟩] scope pos) (iE T Z W (.lc (own.map (·.2)) it t Cs A)) :=
  pe_weak (pe_lc hc hN hi (blkOk_by ok) hg ht he hs) fun σ H Q h => lc_ok (subN hsub) h
theorem ss_setLc {i : Nat} {y : Str} {py spos : Pos} {elt iter : Expr} {ifs : List Expr} {scope : Scope} {own : List (Str × Nat)} {it : Ix} {t : Tg} {Cs : List Cn} (hc : X.calm = true) (hN : X.N.Nodup) (hy : X.N[i]? = some y) (hyl : X.env.scope.names.lookup y = some .local)
    (hsw : swapsWith (.ListComp elt [⟨tg, iter, ifs, 0⟩] scope pos) (some (.Name y py)) spos.line X.env = pure true) (ok : blkC X.N X.env.scope scope own = true) (hsub : (tgN t).all ((own.map (·.2)).contains ·) = true)
    (hi : PI X tg iter (iI T Z W it)) (hg : ∀ (s : Shared) (H : Hp) (C : Addr) (cl : List (Str × Addr)) (fp : List Addr), PG (X.blk s H scope (compEnvC scope cl C X.env) fp) tg (iG T Z t))
    (ht : ∀ (s : Shared) (H : Hp) (C : Addr) (cl : List (Str × Addr)) (fp : List Addr), PTs (X.blk s H scope (compEnvC scope cl C X.env) fp) ifs (iTs T Z WF Cs))
    (he : ∀ (s : Shared) (H : Hp) (C : Addr) (cl : List (Str × Addr)) (fp : List Addr), PE (X.blk s H scope (compEnvC scope cl C X.env) fp) elt (iE T Z WF A)) (hs : ∀ x, foldedSetIterable iter X.env x = pure x := by intro _; rfl) :
    PS X (.Assign [.Name y py] (.ListComp elt [⟨tg, iter, ifs, 0⟩] scope pos) spos) (iS T Z W (.asg (.nm i) (.lc (own.map (·.2)) it t Cs A))) :=
  ps_weak (ps_setLc hc hN hy hyl hsw hi (blkOk_by ok) hg ht he hs) fun Dn σ H h => by
    obtain ⟨ρ, env, st, er, sr, h2⟩ := asg_ok h
    exact lc_ok (subN hsub) ⟨ρ, env, st, er, sr, h2.mono fun v H1 q => ig_nm q⟩
end
end Fs
namespace Fs
open PySem L2 PySem.Spec PyProof.Rows
theorem tuple_mul1 (l : Addr) (items : Array Value) (n : Nat) (dd : Option Addr) (sl : Array (Option Value)) (u : Tok) (hi : items.isEmpty = false) :
    Meets (Builtin.«tuple.__mul__» ⟨[.ref l, .int 1 u], []⟩) (fun _ R s => s.heap.get? l = some { cls := .type "tuple", dict := dd, data := .seq items n, slots := sl } /\ R (.ok (.ret (Value.ref l))) s) :=
  .of_wp fun prog w A R s h => by
    obtain ⟨hp, g, d, tk, os⟩ := s
    obtain ⟨hl, h⟩ := h
    have f1 := AutoSeq1.idx_int
    have c0 : (decide ((1 : Int) < -(2 ^ 63)) || decide ((1 : Int) ≥ 2 ^ 63)) = false := by decide
    have c1 : (items.isEmpty || (1 : Int) == 1) = true := by rw [hi]; rfl
    wp_walk using wpAny_loadPart' hl
    repeat (first
      | (refine wpAny_ite_false (decide_eq_false (by rw [c0]; exact Bool.false_ne_true)) ?_; wp_walk using wpAny_loadPart' hl)
      | (refine wpAny_ite_true (decide_eq_true (by rw [c1])) ?_; wp_walk using wpAny_loadPart' hl))
    exact ⟨_, rfl, h⟩
theorem tuple_mul0 (l : Addr) (items : Array Value) (n : Nat) (dd : Option Addr) (sl : Array (Option Value)) (u : Tok) (hi : items.isEmpty = false) :
    Meets (Builtin.«tuple.__mul__» ⟨[.ref l, .int 0 u], []⟩) (fun _ R s => s.heap.get? l = some { cls := .type "tuple", dict := dd, data := .seq items n, slots := sl } /\
      R (.ok (.ret (Value.ref s.heap.objs.size))) { s with heap := s.heap.push { cls := Value.type "tuple", data := Data.seq #[] }, toks := s.toks }) :=
  .of_wp fun prog w A R s h => by
    obtain ⟨hp, g, d, tk, os⟩ := s
    obtain ⟨hl, h⟩ := h
    have f1 := AutoSeq1.idx_int
    have c0 : (decide ((0 : Int) < -(2 ^ 63)) || decide ((0 : Int) ≥ 2 ^ 63)) = false := by decide
    have c1 : (items.isEmpty || (0 : Int) == 1) = false := by rw [hi]; rfl
    have c2 : (decide ((0 : Int) <= 0) || items.isEmpty) = true := by rw [hi]; rfl
    wp_walk using wpAny_loadPart' hl
    repeat (first
      | (refine wpAny_ite_false (decide_eq_false (by rw [c0]; exact Bool.false_ne_true)) ?_; wp_walk using wpAny_loadPart' hl)
      | (refine wpAny_ite_false (decide_eq_false (by rw [c1]; exact Bool.false_ne_true)) ?_; wp_walk using wpAny_loadPart' hl)
      | (refine wpAny_ite_true (decide_eq_true (by rw [c2])) ?_; wp_walk using wpAny_loadPart' hl))
    exact ⟨_, rfl, h⟩
def rRepT0 (K : PySem.W.Frag) : R2 := fun x y H Q => ∃ l k xs, x = .ref l /\ y = .int k /\ SqT K H l xs /\ xs ≠ [] /\ 0 <= k /\ k <= 1000 /\ xs.length <= 1000 /\ (k = 1 -> Q (.ref l) H) /\ (k ≠ 1 -> ∀ p, H p = none -> Q (.ref p) (upd H p (.tup (List.replicate k.toNat xs).flatten)))
section
variable {X : L2.Cx}
theorem op_repT0 : OpR X (binaryOp .Mult) (rRepT0 X.K) := by
  intro pins s σ H x y v u Q I rx ry h
  obtain ⟨l, k, xs, rfl, rfl, hT, hne, h1, h2, hz, q1, q2⟩ := h
  by_cases hk2 : 2 <= k
  · exact op_repT pins s σ H _ _ v u Q I rx ry ⟨l, k, xs, rfl, rfl, hT, hne, hk2, h2, hz, q2 (by omega)⟩
  cases rx
  obtain ⟨t, rfl⟩ := ry
  obtain ⟨its, r, ⟨⟨cls, dd, data, sl⟩, ho, hc, n, hd⟩, hs⟩ := I.tuple hT
  simp only at hc hd
  subst hc hd
  have hle : its.length = xs.length := r.length.symm
  have hn : its ≠ [] := fun e => hne (by
    rw [e] at hle
    exact List.eq_nil_of_length_eq_zero hle.symm)
  have hi : its.toArray.isEmpty = false := by
    cases its with
    | nil => exact absurd rfl hn
    | cons a b => rfl
  have hk : k = 0 ∨ k = 1 := by omega
  rcases hk with rfl | rfl
  · refine wpAny_binaryOp_repeat_ref (T := "tuple") (U := "int") (by decide) ⟨_, ho, rfl⟩ (fun s' => typeIs_int s' 0 t) noFill_tuple_mul F.fills_int_mul F.slot_int_rmul repeat_tuple F.slot_int_index.lookup
      (call_meets F.slot_int_rmul (typeIs_int s 0 t) F.entry_int_rmul (F.args_int_rmul_2 _ _) (int_rmul_tuple 0 t l its.toArray n dd sl)
        ⟨ho, rfl, ⟨_, ho, rfl⟩, call_meets F.slot_tuple_mul ⟨_, ho, rfl⟩ F.entry_tuple_mul (F.args_tuple_mul_2 _ _) (tuple_mul0 l its.toArray n dd sl t hi) ⟨ho, ?_⟩⟩)
    refine ⟨.ref s.heap.objs.size, _, I.laid (t' := s.toks) (o := .tup []) (fun b ob q => Heap.get?_push_of_some _ q) (Nat.le_refl _) ?_, rfl, q2 (by omega) _ (I.hok.fresh (Nat.le_refl _))⟩
    exact ⟨Nat.zero_le _, [], .nil, IsTup.new _ _⟩
  · refine wpAny_binaryOp_repeat_ref (T := "tuple") (U := "int") (by decide) ⟨_, ho, rfl⟩ (fun s' => typeIs_int s' 1 t) noFill_tuple_mul F.fills_int_mul F.slot_int_rmul repeat_tuple F.slot_int_index.lookup
      (call_meets F.slot_int_rmul (typeIs_int s 1 t) F.entry_int_rmul (F.args_int_rmul_2 _ _) (int_rmul_tuple 1 t l its.toArray n dd sl)
        ⟨ho, rfl, ⟨_, ho, rfl⟩, call_meets F.slot_tuple_mul ⟨_, ho, rfl⟩ F.entry_tuple_mul (F.args_tuple_mul_2 _ _) (tuple_mul1 l its.toArray n dd sl t hi) ⟨ho, ?_⟩⟩)
    exact ⟨.ref l, H, I, rfl, q1 rfl⟩
end
end Fs
namespace Fs
open PySem L2 PyProof.Rows PySem.Spec
section
variable {X : L2.Cx} {Z : Wc} {W : WX} {σ0 : L2.St}
theorem Now.newS {ρ ρ' : List Addr} {H H' : Hp} {st st' : Sto} {F : List Addr} (n : Now Z ρ H ρ' st' H' F) (s : SR Z ρ st H) {p : Addr} {o : HO} (hp : H' p = none) : Now Z ρ H ρ' st' (upd H' p o) F := (n.new s hp).less (List.sublist_cons_self p F)
theorem bin_ok (hK : X.K = Z.K) {op : Bop} : OpR X (binaryOp (pyB op)) (rB Z W σ0 (binD op)) := by
  intro pins s σ H x y v u Q I rx ry h
  obtain ⟨ρ, st, H0, ρ2, st2, d1, d2, F1, F2, sr, n, r1, r2, h⟩ := h
  unfold binD at h
  split at h
  · rename_i i j
    obtain ⟨rfl, rfl⟩ := r1
    obtain ⟨rfl, rfl⟩ := r2
    cases e : intOp op i j with
    | none => rw [e] at h; exact h.elim
    | some r =>
      rw [e] at h
      exact int_ok e I rx ry (Post.ok h n ⟨rfl, rfl⟩)
  · rename_i a b
    obtain ⟨rfl, rfl⟩ := r1
    obtain ⟨rfl, rfl⟩ := r2
    cases op with
    | add =>
      simp only at h
      split at h
      · rename_i hz
        exact op_add_str pins s σ H _ _ v u Q I rx ry ⟨a, b, rfl, rfl, hz, Post.ok h n ⟨rfl, rfl⟩⟩
      · exact h.elim
    | _ => exact h.elim
  · rename_i xs ys
    obtain ⟨a, vs, rfl, ha, rx'⟩ := r1
    obtain ⟨b, ws, rfl, hb, ry'⟩ := r2
    cases op with
    | add =>
      simp only at h
      split at h
      · rename_i hz
        refine op_catA pins s σ H _ _ v u Q I rx ry ⟨a, b, vs, ws, rfl, rfl, by rw [hK]; exact ha, by rw [hK]; exact hb, by rw [<- rx'.length, <- ry'.length]; exact hz, fun e => ?_, fun _ e => ?_, fun _ _ p hp => ?_⟩
        · subst e
          exact Post.ok h n ⟨b, ws, rfl, hb, by have := rx'.append ry'; simpa using this⟩
        · subst e
          exact Post.ok h n ⟨a, vs, rfl, ha, by have := rx'.append ry'; simpa using this⟩
        · exact Post.ok h (n.newS sr hp) ⟨p, vs ++ ws, rfl, SqT.of upd_same, rps_up hp (rx'.append ry')⟩
      · exact h.elim
    | _ => exact h.elim
  · rename_i xs k
    obtain ⟨a, vs, rfl, ha, rx'⟩ := r1
    obtain ⟨rfl, rfl⟩ := r2
    cases op with
    | mul =>
      simp only at h
      split at h
      · rename_i hz
        obtain rfl := rx'.pure hz.1
        have ne : vs ≠ [] := fun q => by
          have hl := rx'.length
          rw [q] at hl
          have h2 : xs = [] := List.length_eq_zero_iff.1 hl
          have h3 := hz.2.1
          rw [h2] at h3
          cases h3
        refine op_repT0 pins s σ H _ _ v u Q I rx ry ⟨a, k, vs, rfl, rfl, by rw [hK]; exact ha, ne, hz.2.2.1, hz.2.2.2.1, by rw [<- rx'.length]; exact hz.2.2.2.2, fun e => ?_, fun _ p hp => ?_⟩
        · have e1 : rep k.toNat xs = xs := by rw [e]; simp [rep]
          rw [e1] at h
          exact Post.ok h n ⟨a, vs, rfl, ha, rx'⟩
        · exact Post.ok h (n.newS sr hp) ⟨p, _, rfl, SqT.of upd_same, rps_up hp (rx'.rep k.toNat)⟩
      · exact h.elim
    | _ => exact h.elim
  · rename_i k _ _
    obtain ⟨rfl, rfl⟩ := r2
    split at h
    · rename_i xs hx
      split at h
      · rename_i hz
        obtain ⟨a, vs, G, rfl, ha, rs, sub⟩ := lstv_ok n.sr r1 hx
        obtain rfl := rs.pure hz.1
        refine op_rep pins s σ H _ _ v u Q I rx ry ⟨a, k, vs, rfl, rfl, ha, hz.2.2.1, hz.2.1, by rw [<- rs.length]; exact hz.2.2.2, fun p hp => ?_⟩
        exact Post.ok h ((n.new sr hp).less (List.cons_sublist_cons.mpr (List.nil_sublist _))) ⟨p, _, [], rfl, upd_same, rps_up hp (rs.rep k.toNat), rfl⟩
      · exact h.elim
    · exact h.elim
  · split at h
    · rename_i xs ys hx hy
      split at h
      · rename_i hz
        obtain ⟨a, vs, G, rfl, ha, rs, sub⟩ := lstv_ok n.sr r1 hx
        obtain ⟨b, ws, G2, rfl, hb, rt, sub2⟩ := lstv_ok n.sr r2 hy
        refine op_cat pins s σ H _ _ v u Q I rx ry ⟨a, b, vs, ws, rfl, rfl, ha, hb, by rw [<- rs.length, <- rt.length]; exact hz, fun p hp => ?_⟩
        exact Post.ok h ((n.new sr hp).less (List.cons_sublist_cons.mpr (List.Sublist.append sub sub2))) ⟨p, _, G ++ G2, rfl, upd_same, rps_up hp (rs.append rt), rfl⟩
      · exact h.elim
    · exact h.elim
end
end Fs
namespace Fs
open PySem L2 PyProof.Rows PySem.Spec
section
variable {Z : Wc} {W : WX} {ρ : List Addr} {H : Hp} {st : Sto}
theorem dpAll_ok {f : D -> Option PyData} (hf : ∀ d v F p, Rp Z ρ H d v F -> f d = some p -> Dp Z.K H v p) : ∀ {ds : List D} {vs : List V} {F : List Addr} {ps : List PyData}, Rps Z ρ H ds vs F -> optL f ds = some ps -> DpAll Z.K H vs ps
  | [], vs, F, ps, r, e => by
    obtain ⟨rfl, _⟩ := r
    cases e
    exact .nil
  | d :: ds, vs, F, ps, r, e => by
    obtain ⟨v, ws, F1, F2, rfl, r1, r2, _⟩ := r
    simp only [optL] at e
    cases e1 : f d with
    | none => rw [e1] at e; cases e
    | some p =>
      rw [e1] at e
      cases e2 : optL f ds with
      | none => rw [e2] at e; cases e
      | some qs =>
        rw [e2] at e
        cases e
        exact .cons (hf d v F1 p r1 e1) (dpAll_ok hf r2 e2)
theorem toP_ok (s : SR Z ρ st H) : ∀ (n : Nat) (d : D) (v : V) (F : List Addr) (p : PyData), Rp Z ρ H d v F -> toP false st n d = some p -> Dp Z.K H v p
  | 0, d, v, F, p, r, e => by simp [toP] at e
  | n + 1, d, v, F, p, r, e => by
    have ih := toP_ok s n
    cases d with
    | non => obtain ⟨rfl, _⟩ := r; simp only [toP, Option.some.injEq] at e; subst e; exact .non
    | bl b => obtain ⟨rfl, _⟩ := r; simp only [toP, Option.some.injEq] at e; subst e; exact .bl b
    | int i => obtain ⟨rfl, _⟩ := r; simp only [toP, Option.some.injEq] at e; subst e; exact .int i
    | str z => obtain ⟨rfl, _⟩ := r; simp only [toP, Option.some.injEq] at e; subst e; exact .str z
    | tup ds =>
      obtain ⟨a, vs, rfl, h, r⟩ := r
      simp only [toP, Option.map_eq_some_iff] at e
      obtain ⟨ps, e, rfl⟩ := e
      exact .tup h (dpAll_ok ih r e)
    | lst ds =>
      obtain ⟨a, vs, G, rfl, h, r, _⟩ := r
      simp only [toP, Option.map_eq_some_iff] at e
      obtain ⟨ps, e, rfl⟩ := e
      exact .lst (SqL.of h) (dpAll_ok ih r e)
    | frl ds =>
      obtain ⟨a, o, vs, G, rfl, h, r, _⟩ := r
      simp only [toP, Option.map_eq_some_iff] at e
      obtain ⟨ps, e, rfl⟩ := e
      exact .lst (.inl (.inr ⟨o, h⟩)) (dpAll_ok ih r e)
    | ref l =>
      obtain ⟨a, hl, rfl, _⟩ := r
      simp only [toP] at e
      split at e
      · rename_i xs hc
        simp only [Option.map_eq_some_iff] at e
        obtain ⟨ps, e, rfl⟩ := e
        obtain ⟨vs, hv, rs⟩ := s.list hl (.inl hc)
        exact .lst hv (dpAll_ok ih rs e)
      · rename_i xs hc
        simp only [Option.map_eq_some_iff] at e
        obtain ⟨ps, e, rfl⟩ := e
        obtain ⟨vs, hv, rs⟩ := s.list hl (.inr hc)
        exact .lst hv (dpAll_ok ih rs e)
      · cases e
      · cases e
    | dic kvs => cases kvs <;> simp [toP] at e
    | _ => simp [toP] at e
theorem flat_ok : ∀ {d : D} {v : V} {F : List Addr}, flatD d = true -> Rp Z ρ H d v F -> flatV v = true
  | .non, v, F, f, r => by obtain ⟨rfl, _⟩ := r; rfl
  | .bl _, v, F, f, r => by obtain ⟨rfl, _⟩ := r; rfl
  | .int _, v, F, f, r => by obtain ⟨rfl, _⟩ := r; rfl
  | .str _, v, F, f, r => by obtain ⟨rfl, _⟩ := r; rfl
  | .tup _, v, F, f, r => by simp [flatD] at f
  | .ref _, v, F, f, r => by simp [flatD] at f
  | .lst _, v, F, f, r => by simp [flatD] at f
  | .frl _, v, F, f, r => by simp [flatD] at f
  | .dic _, v, F, f, r => by simp [flatD] at f
  | .set _, v, F, f, r => by simp [flatD] at f
  | .exc _ _, v, F, f, r => by simp [flatD] at f
  | .lam _ _, v, F, f, r => by simp [flatD] at f
theorem eqF_ok {d e : D} {v u : V} {F G : List Addr} (fd : flatD d = true) (fe : flatD e = true) (r : Rp Z ρ H d v F) (q : Rp Z ρ H e u G) : eqV v u = eqF d e := by
  cases d <;> first | (exfalso; simp [flatD] at fd; done) | skip
  all_goals cases e <;> first | (exfalso; simp [flatD] at fe; done) | skip
  all_goals (obtain ⟨rfl, _⟩ := r; obtain ⟨rfl, _⟩ := q; rfl)
theorem flats_ok : ∀ {ds : List D} {vs : List V} {F : List Addr}, ds.all flatD = true -> Rps Z ρ H ds vs F -> vs.all flatV = true
  | [], vs, F, f, r => by obtain ⟨rfl, _⟩ := r; rfl
  | d :: ds, vs, F, f, r => by
    obtain ⟨v, ws, F1, F2, rfl, r1, r2, _⟩ := r
    rw [List.all_cons, Bool.and_eq_true] at f ⊢
    exact ⟨flat_ok f.1 r1, flats_ok f.2 r2⟩
theorem inV_ok {x : D} {u : V} {G : List Addr} (fx : flatD x = true) (q : Rp Z ρ H x u G) : ∀ {ds : List D} {vs : List V} {F : List Addr}, ds.all flatD = true -> Rps Z ρ H ds vs F -> inV u vs = ds.any fun z => eqF z x
  | [], vs, F, f, r => by obtain ⟨rfl, _⟩ := r; rfl
  | d :: ds, vs, F, f, r => by
    obtain ⟨v, ws, F1, F2, rfl, r1, r2, _⟩ := r
    rw [List.all_cons, Bool.and_eq_true] at f
    have ih := inV_ok fx q f.2 r2
    unfold inV at ih ⊢
    rw [List.any_cons, List.any_cons, eqF_ok f.1 fx r1 q, ih]
theorem dget_ok : ∀ {kvs : List (Ky × D)} {ws : List (L2.Key × V)} {F : List Addr} {k : L2.Key}, RpK Z ρ H kvs ws F -> match dget (.k k) kvs with
    | some d => ∃ v G, valV ws k = some v /\ Rp Z ρ H d v G /\ G.Sublist F
    | none => valV ws k = none
  | [], ws, F, k, r => by obtain ⟨rfl, _⟩ := r; rfl
  | (q, d) :: kvs, ws, F, k, r => by
    obtain ⟨j, v, ws', F1, F2, rfl, rfl, r1, r2, rfl⟩ := r
    simp only [dget]
    by_cases h : j = k
    · subst h
      rw [if_pos rfl]
      exact ⟨v, F1, valV_pos rfl, r1, List.sublist_append_left _ _⟩
    · rw [if_neg (by simpa using h)]
      have ih := dget_ok (k := k) r2
      rw [valV_neg h]
      split
      · rename_i d' e
        rw [e] at ih
        obtain ⟨v', G, a, b, c⟩ := ih
        exact ⟨v', G, a, b, c.trans (List.sublist_append_right _ _)⟩
      · rename_i e
        rw [e] at ih
        exact ih
theorem RpT.keys : ∀ {kvs : List (Ky × D)} {ws : List (List L2.Key × V)} {F : List Addr} {k : L2.Key}, RpT Z ρ H kvs ws F -> okKeys (.k k) kvs = true -> kvs = []
  | [], _, _, _, _, _ => rfl
  | (q, d) :: kvs, ws, F, k, r, h => by
    obtain ⟨j, v, ws', F1, F2, rfl, rfl, r1, r2, rfl⟩ := r
    simp [okKeys, kyK] at h
theorem dicv_ok {d : D} {x : V} {kvs : List (Ky × D)} {F : List Addr} (s : SR Z ρ st H) (r : Rp Z ρ H d x F) (e : dicv st d = some kvs) :
    ∃ a G, x = .ref a /\ ((∃ ws, H a = some (.dK ws) /\ RpK Z ρ H kvs ws G) ∨ ∃ ws, H a = some (.dT ws) /\ RpT Z ρ H kvs ws G) /\ G.Sublist F := by
  cases d with
  | dic ds =>
    cases e
    obtain ⟨a, G, rfl, rfl, h⟩ := r
    exact ⟨a, G, rfl, h, List.sublist_cons_self _ _⟩
  | ref l =>
    obtain ⟨a, hl, rfl, rfl⟩ := r
    cases hc : st[l]? with
    | none => simp [dicv, hc] at e
    | some c =>
      have rc := s.cell l c a hc hl
      cases c with
      | dic ds =>
        simp only [dicv, hc, Option.some.injEq] at e
        subst e
        obtain ⟨a', G, z, f, h⟩ := rc
        cases z
        obtain rfl : G = [] := by injection f with _ f; exact f.symm
        exact ⟨a, [], rfl, h, List.Sublist.refl _⟩
      | _ => simp [dicv, hc] at e
  | _ => simp [dicv] at e
theorem key_ok {d : D} {v : V} {q : Ky} {F : List Addr} (r : Rp Z ρ H d v F) (e : keyOf d = some q) : ∃ k, q = .k k /\ v = kV k /\ F = [] := by
  cases d with
  | int i => obtain ⟨rfl, rfl⟩ := r; cases e; exact ⟨_, rfl, rfl, rfl⟩
  | str i => obtain ⟨rfl, rfl⟩ := r; cases e; exact ⟨_, rfl, rfl, rfl⟩
  | _ => simp [keyOf] at e
theorem dK_of {a : Addr} {kvs : List (Ky × D)} {G : List Addr} {k : L2.Key} (h : (∃ ws, H a = some (.dK ws) /\ RpK Z ρ H kvs ws G) ∨ ∃ ws, H a = some (.dT ws) /\ RpT Z ρ H kvs ws G) (ok : okKeys (.k k) kvs = true) :
    (∃ ws, H a = some (.dK ws) /\ RpK Z ρ H kvs ws G) ∨ (H a = some (.dT []) /\ kvs = [] /\ G = []) := by
  rcases h with h | ⟨ws, h, r⟩
  · exact .inl h
  · obtain rfl := r.keys ok
    obtain ⟨rfl, rfl⟩ := r
    exact .inr ⟨h, rfl, rfl⟩
end
end Fs
namespace Fs
open PySem L2 PyProof.Rows PySem.Spec
section
variable {Z : Wc} {ρ ρ' : List Addr} {H H' : Hp} {st st' : Sto} {F : List Addr} {l : Nat} {a : Addr} {c' : D} {o' : HO}
theorem nd_inj {α : Type} {a : α} : ∀ {l : List α} {i j : Nat}, l.Nodup -> l[i]? = some a -> l[j]? = some a -> i = j
  | [], i, j, n, h, k => by simp at h
  | x :: r, 0, 0, n, h, k => rfl
  | x :: r, 0, j + 1, n, h, k => by
    have e : x = a := by simpa using h
    have m : a ∈ r := List.mem_of_getElem? (by simpa using k)
    exact absurd (e ▸ m) (List.nodup_cons.mp n).1
  | x :: r, i + 1, 0, n, h, k => by
    have e : x = a := by simpa using k
    have m : a ∈ r := List.mem_of_getElem? (by simpa using h)
    exact absurd (e ▸ m) (List.nodup_cons.mp n).1
  | x :: r, i + 1, j + 1, n, h, k => congrArg (· + 1) (nd_inj (List.nodup_cons.mp n).2 (by simpa using h) (by simpa using k))
theorem SR.wr (s : SR Z ρ st H) (ha : ρ[l]? = some a) (hc : isCell c' = true) (r : Rp Z ρ (upd H a o') c' (.ref a) [a]) : SR Z ρ (st.set l c') (upd H a o') := by
  obtain ⟨o, ho, hk⟩ := s.hcell (List.mem_of_getElem? ha)
  refine ⟨by rw [List.length_set]; exact s.len, s.nd, fun m c h => ?_, fun m c b h1 h2 => ?_, s.gb.up (upd_keep ho hk)⟩
  · by_cases e : l = m
    · subst e
      have hl : l < st.length := by simpa using (List.getElem?_eq_some_iff.mp h).1
      rw [List.getElem?_set_self hl] at h
      cases h
      exact hc
    · rw [List.getElem?_set_ne e] at h; exact s.kind m c h
  · by_cases e : l = m
    · subst e
      have hl : l < st.length := by simpa using (List.getElem?_eq_some_iff.mp h1).1
      rw [List.getElem?_set_self hl] at h1
      cases h1
      rw [ha] at h2
      cases h2
      exact r
    · rw [List.getElem?_set_ne e] at h1
      refine (s.cell m c b h1 h2).updF ho hk fun z => ?_
      rw [List.mem_singleton] at z
      subst z
      exact e (nd_inj s.nd ha h2)
theorem Now.wr (n : Now Z ρ H ρ' st' H' F) (s : SR Z ρ st H) (ha : ρ'[l]? = some a) (hc : isCell c' = true) (r : Rp Z ρ' (upd H' a o') c' (.ref a) [a]) : Now Z ρ H ρ' (st'.set l c') (upd H' a o') F := by
  have hm : a ∈ ρ' := List.mem_of_getElem? ha
  refine ⟨?_, n.sr.wr ha hc r, fun b hb => ?_, n.out, n.nd⟩
  · obtain ⟨N, e, nd, f, k⟩ := n.stp
    refine ⟨N, e, nd, f, fun b u q z => ?_⟩
    rw [upd_ne (fun y => ?_)]
    · exact k b u q z
    · subst y
      rw [e] at hm
      rcases List.mem_append.mp hm with w | w
      · exact z w
      · rw [f b (List.mem_append_left _ w)] at q; cases q
  · by_cases e : b = a
    · rw [e, upd_same]; exact nofun
    · rw [upd_ne e]; exact n.th b hb
theorem set_same {st : Sto} {l : Nat} {c : D} (h : st[l]? = some c) : st.set l c = st := by
  obtain ⟨hl, e⟩ := List.getElem?_eq_some_iff.mp h
  rw [<- e]
  exact List.set_getElem_self hl
end
section
variable {X : L2.Cx} {Z : Wc} {pins : List (Addr × Obj)} {σ : L2.St} {H : Hp} {s : Shared} {a : Addr}
theorem retag (I : Inv X pins σ H s) (h : H a = some (.dT [])) : Inv X pins σ (upd H a (.dK [])) s := by
  obtain ⟨h1, h2, xs, h3, o, es, ep, h4, h5, h6, h7, h8⟩ := I.hok a _ h
  cases h3
  obtain rfl : es = #[] := by cases es; simp_all
  exact Inv.write (t' := s.toks) (h' := s.heap) I (by rw [h]; trivial) (.inl rfl) (fun _ _ _ e => e) ⟨_, h4⟩ ⟨h1, h2, [], .nil, o, #[], ep, h4, h5, h6, fun e he => by simp at he, .nil, List.nodup_nil⟩
theorem dK_now {ρ0 ρ : List Addr} {st0 st : Sto} {H0 : Hp} {F F1 : List Addr} {d : D} {x : V} {kvs : List (Ky × D)} {k : L2.Key} (I : Inv X pins σ H s) (s0 : SR Z ρ0 st0 H0) (n : Now Z ρ0 H0 ρ st H F) (sub : ∀ b ∈ F1, b ∈ F) (r : Rp Z ρ H d x F1)
    (e : dicv st d = some kvs) (ok : okKeys (.k k) kvs = true) :
    ∃ H' a ws G, x = .ref a /\ Inv X pins σ H' s /\ Now Z ρ0 H0 ρ st H' F /\ H' a = some (.dK ws) /\ RpK Z ρ H' kvs ws G /\ G.Sublist F1 /\ Rp Z ρ H' d x F1 /\ ∀ d v G', Rp Z ρ H d v G' -> a ∉ G' -> Rp Z ρ H' d v G' := by
  obtain ⟨a, G, rfl, h, hs⟩ := dicv_ok n.sr r e
  rcases dK_of h ok with ⟨ws, h1, h2⟩ | ⟨h1, rfl, rfl⟩
  · exact ⟨H, a, ws, G, rfl, I, n, h1, h2, hs, r, fun _ _ _ h _ => h⟩
  · have I' := retag I h1
    refine ⟨upd H a (.dK []), a, [], [], rfl, I', ?_, upd_same, ⟨rfl, rfl⟩, List.nil_sublist _, ?_, fun d v G' h hg => h.updF h1 rfl hg⟩
    · cases d with
      | dic kvs =>
        obtain ⟨b, G2, z, f, _⟩ := r
        cases z
        exact n.updF s0 (sub a (by rw [f]; exact List.mem_cons_self)) h1 rfl
      | ref l =>
        obtain ⟨b, hl, z, f⟩ := r
        cases z
        have hc : st[l]? = some (.dic []) := by
          simp only [dicv] at e
          split at e
          · rename_i q; cases e; exact q
          · cases e
        have := n.wr (l := l) (c' := .dic []) (o' := .dK []) s0 hl rfl ⟨a, [], rfl, rfl, .inl ⟨[], upd_same, ⟨rfl, rfl⟩⟩⟩
        rwa [set_same hc] at this
      | _ => simp [dicv] at e
    · cases d with
      | dic kvs =>
        obtain ⟨b, G2, z, f, h⟩ := r
        cases z
        cases e
        have hg : G2 = [] := by
          rcases h with ⟨_, _, q⟩ | ⟨_, _, q⟩ <;> exact q.2
        subst hg
        exact ⟨a, [], rfl, f, .inl ⟨[], upd_same, ⟨rfl, rfl⟩⟩⟩
      | ref l => exact r
      | _ => simp [dicv] at e
end
end Fs
namespace Fs
open PySem L2 PyProof.Rows PySem.Spec
def pyC : Cop -> CmpOp
  | .eq => .Eq | .ne => .NotEq | .lt => .Lt | .le => .LtE | .gt => .Gt | .ge => .GtE | .isN => .Is | .ntN => .IsNot | .inn => .In | .nin => .NotIn
section
variable {X : L2.Cx} {Z : Wc} {W : WX} {σ0 : L2.St}
abbrev fC (op : Cop) : D -> D -> M D := fun x y st => opt (cmpD op x y st) (fun c => ret (.bl c)) st
theorem eq_is {st : Sto} {a b : D} {c : Bool} (e : eqD st a b = some c) : ∃ p q, toP false st 66 a = some p /\ toP false st 66 b = some q /\ SeqAt.shaped p = true /\ SeqAt.shaped q = true /\ c = PyData.eqv p q := by
  unfold eqD at e
  split at e
  · rename_i p q hp hq
    split at e
    · rename_i hs
      cases e
      exact ⟨p, q, hp, hq, hs.1, hs.2, rfl⟩
    · cases e
  · cases e
theorem rp_non {ρ : List Addr} {H : Hp} {d : D} {v : V} {F : List Addr} (r : Rp Z ρ H d v F) : decide (v = .non) = isNon d := by
  cases d with
  | non => obtain ⟨rfl, _⟩ := r; rfl
  | bl b => obtain ⟨rfl, _⟩ := r; rfl
  | int i => obtain ⟨rfl, _⟩ := r; rfl
  | str z => obtain ⟨rfl, _⟩ := r; rfl
  | tup ds => obtain ⟨a, vs, rfl, _⟩ := r; rfl
  | ref l => obtain ⟨a, _, rfl, _⟩ := r; rfl
  | lst ds => obtain ⟨a, vs, G, rfl, _⟩ := r; rfl
  | frl ds => obtain ⟨a, o, vs, G, rfl, _⟩ := r; rfl
  | dic ds => obtain ⟨a, G, rfl, _⟩ := r; rfl
  | set ds => obtain ⟨a, S, rfl, _⟩ := r; rfl
  | exc c ds => obtain ⟨a, dx, rfl, _⟩ := r; rfl
  | lam c ds => obtain ⟨a, rfl, _⟩ := r; rfl
theorem opt_ok {α β : Type} {rel : Rel α β} {γ : Type} {o : Option γ} {f : γ -> M α} {st : Sto} {ρ : List Addr} {H : Hp} {Q : β -> Hp -> Prop} (h : Post rel Z W (opt o f st) ρ σ0 H Q) : ∃ c, o = some c /\ Post rel Z W (f c st) ρ σ0 H Q := by
  cases o with
  | none => exact h.elim
  | some c => exact ⟨c, rfl, h⟩
theorem in_ok (hK : X.K = Z.K) (hu : X.A.units + 65 < cLine) (neg : Bool) : OpR X (compareOp (if neg then .NotIn else .In)) (rB Z W σ0 fun x y st => opt (inD st x y) (fun c => ret (.bl (if neg then !c else c))) st) := by
  intro pins s σ H x y v u Q I rx ry h
  obtain ⟨ρ, st, H0, ρ2, st2, d1, d2, F1, F2, sr, n, r1, r2, h⟩ := h
  obtain ⟨c, e, h⟩ := opt_ok h
  have fin : Q (.bl (if neg then !c else c)) H := Post.ret h (n.less (List.nil_sublist _)) ⟨rfl, rfl⟩
  have dict : ∀ kvs k, dicv st2 d2 = some kvs -> keyOf d1 = some k -> okKeys k kvs = true -> (dget k kvs).isSome = c -> wpAny (model X.prog X.w) X.A (compareOp (if neg then .NotIn else .In) v u) (EP X pins σ Q) X.xe s := by
    intro kvs k hd hk ok hc
    obtain ⟨j, rfl, rfl, rfl⟩ := key_ok r1 hk
    obtain ⟨H', a, ws, G, rfl, I', n', ha, rk, hs, _, _⟩ := dK_now I sr n (fun b hb => by simpa using hb) r2 hd ok
    obtain rfl : u = Value.ref a := ry
    have fin' : Q (.bl (if neg then !c else c)) H' := Post.ret h (n'.less (List.nil_sublist _)) ⟨rfl, rfl⟩
    have hv := dget_ok (k := j) rk
    have hsome : (valV ws j).isSome = c := by
      rw [<- hc]
      cases hg : dget (.k j) kvs with
      | none => rw [hg] at hv; rw [hv]; rfl
      | some d => rw [hg] at hv; obtain ⟨v', G', e1, _⟩ := hv; rw [e1]; rfl
    cases neg with
    | true => exact d_notIn (A := X.A) (by omega) I' (DGet.k ha) rx fun s' I2 => ⟨.bl (!(valV ws j).isSome), H', I2, rfl, by rw [hsome]; exact fin'⟩
    | false => exact d_in (A := X.A) (by omega) I' (DGet.k ha) rx fun s' I2 => ⟨.bl (valV ws j).isSome, H', I2, rfl, by rw [hsome]; exact fin'⟩
  unfold inD at e
  split at e
  · rename_i z
    split at e
    · rename_i t
      cases e
      obtain ⟨rfl, rfl⟩ := r1
      obtain ⟨rfl, rfl⟩ := r2
      cases neg with
      | true => exact op_notin_str pins s σ H _ _ v u Q I rx ry ⟨t, z, rfl, rfl, fin⟩
      | false => exact op_in_str pins s σ H _ _ v u Q I rx ry ⟨t, z, rfl, rfl, fin⟩
    · cases e
  · split at e
    · rename_i kvs hd
      split at e
      · rename_i k hk
        split at e
        · rename_i ok
          cases e
          exact dict kvs k hd hk ok rfl
        · cases e
      · cases e
    · split at e
      · rename_i ys _ _ _
        split at e
        · rename_i hf
          cases e
          obtain ⟨a, vs, rfl, ha, rs⟩ := r2
          have iv := inV_ok hf.1 r1 hf.2 rs
          have fx := flat_ok hf.1 r1
          have fs := flats_ok hf.2 rs
          cases neg with
          | true => exact op_notIn_seq pins s σ H _ _ v u Q I rx ry ⟨a, vs, rfl, .inr (by rw [hK]; exact ha), fx, fs, by rw [iv]; exact fin⟩
          | false => exact op_in_seq pins s σ H _ _ v u Q I rx ry ⟨a, vs, rfl, .inr (by rw [hK]; exact ha), fx, fs, by rw [iv]; exact fin⟩
        · cases e
      · split at e
        · rename_i hnt _ ys' hy'
          split at e
          · rename_i p qs hp hq
            split at e
            · rename_i hz
              cases e
              have dp := toP_ok n.sr _ _ _ _ _ r1 hp
              have dl : Dp Z.K H y (.list qs) := by
                cases d2 with
                | tup xs => exact absurd rfl (hnt xs)
                | lst xs =>
                  obtain ⟨a, vs, G, rfl, ha, rs, _⟩ := r2
                  cases hy'
                  exact .lst (SqL.of ha) (dpAll_ok (toP_ok n.sr 65) rs hq)
                | ref l =>
                  obtain ⟨a, hl, rfl, _⟩ := r2
                  simp only [seqv] at hy'
                  split at hy'
                  · rename_i xs hc
                    cases hy'
                    obtain ⟨vs, hv, rs⟩ := n.sr.list hl (.inl hc)
                    exact .lst hv (dpAll_ok (toP_ok n.sr 65) rs hq)
                  · rename_i xs hc
                    cases hy'
                    obtain ⟨vs, hv, rs⟩ := n.sr.list hl (.inr hc)
                    exact .lst hv (dpAll_ok (toP_ok n.sr 65) rs hq)
                  · cases hy'
                | _ => simp [seqv] at hy'
              cases neg with
              | true => exact op_notInD hu pins s σ H _ _ v u Q I rx ry ⟨p, qs, by rw [hK]; exact dp, by rw [hK]; exact dl, hz.1, hz.2, fin⟩
              | false => exact op_inD hu pins s σ H _ _ v u Q I rx ry ⟨p, qs, by rw [hK]; exact dp, by rw [hK]; exact dl, hz.1, hz.2, fin⟩
            · cases e
          · cases e
        · cases e
theorem cmp_ok (hK : X.K = Z.K) (hu : X.A.units + 65 < cLine) {op : Cop} : OpR X (compareOp (pyC op)) (rB Z W σ0 (fC op)) := by
  cases op with
  | inn =>
    have h := in_ok (W := W) (σ0 := σ0) hK hu false
    intro pins s σ H x y v u Q I rx ry q
    exact h pins s σ H x y v u Q I rx ry q
  | nin =>
    have h := in_ok (W := W) (σ0 := σ0) hK hu true
    intro pins s σ H x y v u Q I rx ry q
    obtain ⟨ρ, st, H0, ρ2, st2, d1, d2, F1, F2, sr, n, r1, r2, q⟩ := q
    refine h pins s σ H x y v u Q I rx ry ⟨ρ, st, H0, ρ2, st2, d1, d2, F1, F2, sr, n, r1, r2, ?_⟩
    simp only [fC, cmpD] at q
    cases e : inD st2 d1 d2 with
    | none => rw [e] at q; exact q.elim
    | some c => rw [e] at q; simpa only [opt, Option.map_some, e, if_true] using q
  | eq =>
    intro pins s σ H x y v u Q I rx ry q
    obtain ⟨ρ, st, H0, ρ2, st2, d1, d2, F1, F2, sr, n, r1, r2, q⟩ := q
    obtain ⟨c, e, q⟩ := opt_ok q
    obtain ⟨p1, p2, e1, e2, z1, z2, rfl⟩ := eq_is e
    exact op_eqD (by omega) pins s σ H x y v u Q I rx ry ⟨p1, p2, by rw [hK]; exact toP_ok n.sr _ _ _ _ _ r1 e1, by rw [hK]; exact toP_ok n.sr _ _ _ _ _ r2 e2, z1, z2, Post.ret q (n.less (List.nil_sublist _)) ⟨rfl, rfl⟩⟩
  | ne =>
    intro pins s σ H x y v u Q I rx ry q
    obtain ⟨ρ, st, H0, ρ2, st2, d1, d2, F1, F2, sr, n, r1, r2, q⟩ := q
    obtain ⟨c, e, q⟩ := opt_ok q
    simp only [cmpD, Option.map_eq_some_iff] at e
    obtain ⟨b, e, rfl⟩ := e
    obtain ⟨p1, p2, e1, e2, z1, z2, rfl⟩ := eq_is e
    exact op_neD (by omega) pins s σ H x y v u Q I rx ry ⟨p1, p2, by rw [hK]; exact toP_ok n.sr _ _ _ _ _ r1 e1, by rw [hK]; exact toP_ok n.sr _ _ _ _ _ r2 e2, z1, z2, Post.ret q (n.less (List.nil_sublist _)) ⟨rfl, rfl⟩⟩
  | isN =>
    intro pins s σ H x y v u Q I rx ry q
    obtain ⟨ρ, st, H0, ρ2, st2, d1, d2, F1, F2, sr, n, r1, r2, q⟩ := q
    obtain ⟨c, e, q⟩ := opt_ok q
    have fin : Q (.bl c) H := Post.ret q (n.less (List.nil_sublist _)) ⟨rfl, rfl⟩
    simp only [cmpD, isD] at e
    split at e
    · cases e
      obtain ⟨rfl, _⟩ := r2
      exact op_isN pins s σ H _ _ v u Q I rx ry ⟨rfl, by rw [rp_non r1]; exact fin⟩
    · split at e
      · rename_i b _ d
        cases e
        obtain ⟨rfl, _⟩ := r1
        obtain ⟨rfl, _⟩ := r2
        refine op_isBl pins s σ H _ _ v u Q I rx ry ⟨d, b, rfl, rfl, ?_⟩
        have : decide (d = b) = (d == b) := by cases d <;> cases b <;> rfl
        rw [this]; exact fin
      · cases e
    · cases e
  | ntN =>
    intro pins s σ H x y v u Q I rx ry q
    obtain ⟨ρ, st, H0, ρ2, st2, d1, d2, F1, F2, sr, n, r1, r2, q⟩ := q
    obtain ⟨c, e, q⟩ := opt_ok q
    have fin : Q (.bl c) H := Post.ret q (n.less (List.nil_sublist _)) ⟨rfl, rfl⟩
    simp only [cmpD, isD, Option.map_eq_some_iff] at e
    obtain ⟨c', e, rfl⟩ := e
    split at e
    · cases e
      obtain ⟨rfl, _⟩ := r2
      exact op_notN pins s σ H _ _ v u Q I rx ry ⟨rfl, by rw [rp_non r1]; exact fin⟩
    · split at e
      · rename_i b _ d
        cases e
        obtain ⟨rfl, _⟩ := r1
        obtain ⟨rfl, _⟩ := r2
        refine op_notBl pins s σ H _ _ v u Q I rx ry ⟨d, b, rfl, rfl, ?_⟩
        have : decide (d = b) = (d == b) := by cases d <;> cases b <;> rfl
        rw [this]; exact fin
      · cases e
    · cases e
  | lt =>
    intro pins s σ H x y v u Q I rx ry q
    obtain ⟨ρ, st, H0, ρ2, st2, d1, d2, F1, F2, sr, n, r1, r2, q⟩ := q
    obtain ⟨c, e, q⟩ := opt_ok q
    have fin : Q (.bl c) H := Post.ret q (n.less (List.nil_sublist _)) ⟨rfl, rfl⟩
    simp only [cmpD] at e
    split at e
    · rename_i i j
      obtain ⟨rfl, _⟩ := r1
      obtain ⟨rfl, _⟩ := r2
      cases e
      exact op_lt pins s σ H _ _ v u Q I rx ry ⟨i, j, rfl, rfl, fin⟩
    · cases e
  | le =>
    intro pins s σ H x y v u Q I rx ry q
    obtain ⟨ρ, st, H0, ρ2, st2, d1, d2, F1, F2, sr, n, r1, r2, q⟩ := q
    obtain ⟨c, e, q⟩ := opt_ok q
    have fin : Q (.bl c) H := Post.ret q (n.less (List.nil_sublist _)) ⟨rfl, rfl⟩
    simp only [cmpD] at e
    split at e
    · rename_i i j
      obtain ⟨rfl, _⟩ := r1
      obtain ⟨rfl, _⟩ := r2
      cases e
      exact op_le pins s σ H _ _ v u Q I rx ry ⟨i, j, rfl, rfl, fin⟩
    · cases e
  | gt =>
    intro pins s σ H x y v u Q I rx ry q
    obtain ⟨ρ, st, H0, ρ2, st2, d1, d2, F1, F2, sr, n, r1, r2, q⟩ := q
    obtain ⟨c, e, q⟩ := opt_ok q
    have fin : Q (.bl c) H := Post.ret q (n.less (List.nil_sublist _)) ⟨rfl, rfl⟩
    simp only [cmpD] at e
    split at e
    · rename_i i j
      obtain ⟨rfl, _⟩ := r1
      obtain ⟨rfl, _⟩ := r2
      cases e
      exact op_gt pins s σ H _ _ v u Q I rx ry ⟨i, j, rfl, rfl, fin⟩
    · cases e
  | ge =>
    intro pins s σ H x y v u Q I rx ry q
    obtain ⟨ρ, st, H0, ρ2, st2, d1, d2, F1, F2, sr, n, r1, r2, q⟩ := q
    obtain ⟨c, e, q⟩ := opt_ok q
    have fin : Q (.bl c) H := Post.ret q (n.less (List.nil_sublist _)) ⟨rfl, rfl⟩
    simp only [cmpD] at e
    split at e
    · rename_i i j
      obtain ⟨rfl, _⟩ := r1
      obtain ⟨rfl, _⟩ := r2
      cases e
      exact op_ge pins s σ H _ _ v u Q I rx ry ⟨i, j, rfl, rfl, fin⟩
    · cases e
end
end Fs
namespace Fs
open PySem L2 PyProof.Rows PySem.Spec
section
variable {X : L2.Cx} {T : Tbl} {Z : Wc} {W : WX} {σ0 : L2.St} {a b c e o i : Expr} {A B C : Ex} {pos p2 : Pos}
theorem ix_ok (hK : X.K = Z.K) (hu : X.A.units + 1 < cLine) : IxR X (rB Z W σ0 getI) := by
  intro value slice pins s σ H x y v u Q I rx ry h hs
  obtain ⟨ρ, st, H0, ρ2, st2, d1, d2, F1, F2, sr, n, r1, r2, h⟩ := h
  have dict : ∀ kvs k y', dicv st2 d1 = some kvs -> keyOf d2 = some k -> okKeys k kvs = true -> dget k kvs = some y' -> Post (Rp Z) Z W (.ok y' st2) ρ σ0 H0 Q -> wpAny (model X.prog X.w) X.A (subscriptTail value slice v u) (EP X pins σ Q) X.xe s := by
    intro kvs k y' hd hk ok hg h
    obtain ⟨j, rfl, rfl, rfl⟩ := key_ok r2 hk
    obtain ⟨H', a, ws, G, rfl, I', n', ha, rk, hs', _, _⟩ := dK_now I sr n (fun b hb => by simpa using hb) r1 hd ok
    obtain rfl : v = Value.ref a := rx
    have hv := dget_ok (k := j) rk
    rw [hg] at hv
    obtain ⟨v', G', e1, r', hs2⟩ := hv
    have g : DGet H' a (kV j) (some v') := by rw [<- e1]; exact DGet.k ha
    refine tail_any (dict_typeIs I' g) PySem.F.slot_dict_getitem.lookup (d_getItem hu I' g ry fun w' s' I2 rw' => ⟨v', H', I2, rw', ?_⟩) hs
    exact Post.ok h (n'.less (by rw [List.append_nil]; exact hs2.trans hs')) r'
  unfold getI at h
  split at h
  · rename_i k
    obtain ⟨rfl, rfl⟩ := r2
    split at h
    · rename_i z
      obtain ⟨rfl, rfl⟩ := r1
      split at h
      · rename_i hz
        split at h
        · rename_i c hc
          exact ix_seq value slice pins s σ H _ _ v u Q I rx ry (.inr (.inr ⟨z, k, c, rfl, rfl, hz, hc, Post.ok h n ⟨rfl, rfl⟩⟩)) hs
        · exact h.elim
      · exact h.elim
    · split at h
      · rename_i xs hx
        split at h
        · rename_i y' hy
          obtain ⟨a, vs, G, rfl, ha, rs, sub⟩ := seqv_ok n.sr r1 hx
          have hat : ∃ v' G', atI vs k = some v' /\ Rp Z ρ2 H y' v' G' /\ G'.Sublist G := by
            unfold atI at hy ⊢
            rw [<- rs.length]
            cases hj : ixN xs.length k with
            | none => simp [hj] at hy
            | some j =>
              simp only [hj, Option.bind_some] at hy ⊢
              exact rs.get hy
          obtain ⟨v', G', hv, r', sub'⟩ := hat
          have fin : Q v' H := Post.ok h (n.less (by rw [List.append_nil]; exact sub'.trans sub)) r'
          rcases ha with ha | ha
          · exact ix_seq value slice pins s σ H _ _ v u Q I rx ry (.inl ⟨a, vs, k, v', rfl, rfl, by rw [hK]; exact ha, hv, fin⟩) hs
          · exact ix_seq value slice pins s σ H _ _ v u Q I rx ry (.inr (.inl ⟨a, vs, k, v', rfl, rfl, by rw [hK]; exact ha, hv, fin⟩)) hs
        · exact h.elim
      · split at h
        · rename_i kvs hd
          split at h
          · rename_i ok
            split at h
            · rename_i y' hg
              exact dict kvs _ y' hd rfl ok hg h
            · exact h.elim
          · exact h.elim
        · exact h.elim
  · split at h
    · rename_i q kvs hk hd
      split at h
      · rename_i ok
        split at h
        · rename_i y' hg
          exact dict kvs q y' hd hk ok hg h
        · exact h.elim
      · exact h.elim
    · exact h.elim
theorem se_sub (hK : X.K = Z.K) (hu : X.A.units + 1 < cLine) (ha : PE X a (iE T Z W A)) (hb : PE X b (iE T Z W B)) (hs : PlainIx b) : PE X (.Subscript a b pos) (iE T Z W (.sub A B)) :=
  ⟨fun pins s σ H Q I q => by
    refine (pe_ix (ix_ok (W := W) (σ0 := σ) hK hu) ha hb hs).run pins s σ H Q I ?_
    obtain ⟨ρ, env, st, er, sr, h⟩ := q
    simp only [ev] at h
    exact two_ok ⟨ρ, env, st, er, sr, h⟩⟩
def iO (T : Tbl) (Z : Wc) (W : WX) (o : Option Ex) : TO := fun σ H Q => ∃ ρ env st, ER Z ρ H env σ /\ SR Z ρ st H /\ Post (RelEq (Option Int)) Z W (evo T o env st) ρ σ H Q
theorem so_none : PO X none (iO T Z W none) := ⟨fun pins s σ H Q I h => po_none.run pins s σ H Q I (by
  obtain ⟨ρ, env, st, er, sr, h⟩ := h
  simp only [evo] at h
  exact Post.ret h (Now.start sr) ⟨rfl, rfl⟩)⟩
theorem so_some (ha : PE X a (iE T Z W A)) : PO X (some a) (iO T Z W (some A)) := ⟨fun pins s σ H Q I h => (po_some ha).run pins s σ H Q I (by
  obtain ⟨ρ, env, st, er, sr, h⟩ := h
  simp only [evo] at h
  refine ⟨ρ, env, st, er, sr, (Post.seq rpOk (Now.start sr) sr h).mono ?_⟩
  rintro x H1 ⟨ρ1, d1, st1, F1, n1, t1, r1, h1⟩
  cases d1 with
  | int i =>
    obtain ⟨rfl, rfl⟩ := r1
    exact ⟨i, rfl, Post.ret h1 n1 ⟨rfl, rfl⟩⟩
  | _ => exact h1.elim)⟩
def rSlc (Z : Wc) (W : WX) (σ : L2.St) : V -> Option Int -> Option Int -> Hp -> VK -> Prop := fun x lo hi H2 Q => ∃ ρ st H ρ2 st2 d F, SR Z ρ st H /\ Now Z ρ H ρ2 st2 H2 F /\ Rp Z ρ2 H2 d x F /\ Post (Rp Z) Z W (slcD d lo hi st2) ρ σ H Q
theorem rps_cut {ρ : List Addr} {H : Hp} {xs : List D} {vs : List V} {F : List Addr} (r : Rps Z ρ H xs vs F) (lo hi : Option Int) : ∃ G, Rps Z ρ H (cutD xs lo hi) (cutV vs lo hi) G /\ G.Sublist F := by
  unfold cutD cutV
  rw [<- r.length]
  obtain ⟨G1, r1, s1⟩ := r.drop (HT.sIx xs.length 0 lo)
  obtain ⟨G2, r2, s2⟩ := r1.take (HT.sIx xs.length xs.length hi - HT.sIx xs.length 0 lo)
  exact ⟨G2, r2, s2.trans s1⟩
theorem slc_ok (hK : X.K = Z.K) : SlR X (rSlc Z W σ0) := by
  intro pins s σ H x v vl vu lo hi sl Q I rx hs pl pu h
  obtain ⟨ρ, st, H0, ρ2, st2, d, F, sr, n, r, h⟩ := h
  unfold slcD at h
  split at h
  · rename_i xs
    obtain ⟨a, vs, rfl, ha, rs⟩ := r
    obtain ⟨G, rc, sub⟩ := rps_cut rs lo hi
    refine sl_tupA pins s σ H _ v vl vu lo hi sl Q I rx hs pl pu ⟨a, vs, rfl, by rw [hK]; exact ha, fun e => ?_, fun _ p hp => ?_⟩
    · refine Post.ok h (n.less sub) ⟨a, _, rfl, ?_, rc⟩
      have : cutV vs lo hi = vs := by
        unfold cutV
        rw [e.1, e.2]
        simp
      rw [this]; exact ha
    · exact Post.ok h ((n.newS sr hp).less sub) ⟨p, _, rfl, SqT.of upd_same, rps_up hp rc⟩
  · split at h
    · rename_i xs hx
      obtain ⟨a, vs, G, rfl, ha, rs, sub⟩ := lstv_ok n.sr r hx
      obtain ⟨G2, rc, sub2⟩ := rps_cut rs lo hi
      refine sl_list pins s σ H _ v vl vu lo hi sl Q I rx hs pl pu ⟨a, vs, rfl, SqL.of ha, fun p hp => ?_⟩
      exact Post.ok h ((n.new sr hp).less (List.cons_sublist_cons.mpr (sub2.trans sub))) ⟨p, _, G2, rfl, upd_same, rps_up hp rc, rfl⟩
    · exact h.elim
theorem se_slc {lo hi : Option Expr} {L U : Option Ex} (hK : X.K = Z.K) (ha : PE X a (iE T Z W A)) (hl : PO X lo (iO T Z W L)) (hu : PO X hi (iO T Z W U)) : PE X (.Subscript a (.Slice lo hi none p2) pos) (iE T Z W (.slc A L U)) :=
  ⟨fun pins s σ H Q I q => by
    refine (pe_slice (slc_ok (W := W) (σ0 := σ) hK) ha hl hu).run pins s σ H Q I ?_
    obtain ⟨ρ, env, st, er, sr, h⟩ := q
    simp only [ev] at h
    refine ⟨ρ, env, st, er, sr, (Post.seq rpOk (Now.start sr) sr h).mono ?_⟩
    rintro x H1 ⟨ρ1, d1, st1, F1, n1, t1, r1, h1⟩
    refine ⟨ρ1, env, st1, t1.env sr er, n1.sr, (Post.seq reqOk n1 sr h1).mono ?_⟩
    rintro l H2 ⟨ρ2, d2, st2, F2, n2, t2, ⟨rfl, rfl⟩, h2⟩
    refine ⟨ρ2, env, st2, t2.env n1.sr (t1.env sr er), n2.sr, (Post.seq reqOk n2 sr h2).mono ?_⟩
    rintro u H3 ⟨ρ3, d3, st3, F3, n3, t3, ⟨rfl, rfl⟩, h3⟩
    refine ⟨ρ, st, H, ρ3, st3, d1, F1, sr, by simpa using n3, ?_, h3⟩
    exact t3.val n2.sr (fun a ha => n2.out a (List.mem_append_left _ (List.mem_append_right _ ha))) (t2.val n1.sr (fun a ha => n1.out a (List.mem_append_right _ ha)) r1)⟩
theorem tru_is {ρ : List Addr} {H : Hp} {st : Sto} {d : D} {x : V} {F : List Addr} {k : Bool} (s : SR Z ρ st H) (r : Rp Z ρ H d x F) (e : truth st d = some k) : TruV Z.K x H k := by
  cases d with
  | non => obtain ⟨rfl, _⟩ := r; simp only [truth, Option.some.injEq] at e; exact e.symm
  | bl b => obtain ⟨rfl, _⟩ := r; simp only [truth, Option.some.injEq] at e; exact e.symm
  | int i => obtain ⟨rfl, _⟩ := r; simp only [truth, Option.some.injEq] at e; exact e.symm
  | str z =>
    obtain ⟨rfl, _⟩ := r
    simp only [truth] at e
    split at e
    · rename_i hz; cases e; exact ⟨hz, rfl⟩
    · cases e
  | tup ds =>
    obtain ⟨p, vs, rfl, hp, r⟩ := r
    simp only [truth, Option.some.injEq] at e
    exact .inr (.inl ⟨vs, hp, by rw [<- e]; cases ds <;> cases vs <;> simp_all [Rps]⟩)
  | lst ds =>
    obtain ⟨p, vs, G, rfl, hp, r, _⟩ := r
    simp only [truth, Option.some.injEq] at e
    exact .inl ⟨vs, SqL.of hp, by rw [<- e]; cases ds <;> cases vs <;> simp_all [Rps]⟩
  | ref l =>
    obtain ⟨p, hl, rfl, _⟩ := r
    cases hc : st[l]? with
    | none => simp [truth, hc] at e
    | some cc =>
      have rc := s.cell l cc p hc hl
      cases cc with
      | lst ds =>
        simp only [truth, hc, Option.some.injEq] at e
        obtain ⟨p', vs, G, z, hp, r, _⟩ := rc
        cases z
        exact .inl ⟨vs, SqL.of hp, by rw [<- e]; cases ds <;> cases vs <;> simp_all [Rps]⟩
      | frl ds =>
        simp only [truth, hc, Option.some.injEq] at e
        obtain ⟨p', o, vs, G, z, hp, r, _⟩ := rc
        cases z
        exact .inl ⟨vs, .inl (.inr ⟨o, hp⟩), by rw [<- e]; cases ds <;> cases vs <;> simp_all [Rps]⟩
      | _ => simp [truth, hc] at e
  | _ => simp [truth] at e
theorem se_nt {C1 : Ex} (hK : X.K = Z.K) (ha : PE X a (iE T Z W C1)) : PE X (.UnaryOp .Not a pos) (iE T Z W (.nt (.val C1))) :=
  ⟨fun pins s σ H Q I q => by
    refine (pe_notT ha).run pins s σ H Q I ?_
    obtain ⟨ρ, env, st, er, sr, h⟩ := q
    simp only [ev, evT] at h
    refine ⟨ρ, env, st, er, sr, ?_⟩
    have h' : Post (Rp Z) Z W (bnd (ev T C1 env) (fun x st => bnd (fun st => opt (truth st x) ret st) (fun c => ret (.bl (!c))) st) st) ρ σ H Q := by
      unfold bnd at h ⊢
      cases e : ev T C1 env st <;> simpa only [e] using h
    refine (Post.seq rpOk (Now.start sr) sr h').mono ?_
    rintro x H1 ⟨ρ1, d1, st1, F1, n1, t1, r1, h1⟩
    unfold bnd at h1
    cases e : truth st1 d1 with
    | none => simp only [e, opt, bad] at h1; exact h1.elim
    | some k =>
      simp only [e, opt, ret] at h1
      exact ⟨k, by rw [hK]; exact tru_is n1.sr r1 e, Post.ok h1 (n1.less (List.nil_sublist _)) ⟨rfl, rfl⟩⟩⟩
theorem se_one {op : BoolOp} (ha : PE X a (iE T Z W A)) : PE X (.BoolOp op [a] pos) (iE T Z W A) := pe_one ha
theorem se_and {rest : List Expr} (ha : PE X a (iE T Z W A)) (hb : PE X (.BoolOp .And (b :: rest) pos) (iE T Z W B)) : PE X (.BoolOp .And (a :: b :: rest) pos) (iE T Z W (.and2 A B)) :=
  ⟨fun pins s σ H Q I q => by
    refine (pe_and ha hb).run pins s σ H Q I ?_
    obtain ⟨ρ, env, st, er, sr, h⟩ := q
    simp only [ev] at h
    refine ⟨ρ, env, st, er, sr, (Post.seq rpOk (Now.start sr) sr h).mono ?_⟩
    rintro x H1 ⟨ρ1, d1, st1, F1, n1, t1, r1, h1⟩
    cases d1 with
    | bl c =>
      obtain ⟨rfl, rfl⟩ := r1
      refine ⟨c, rfl, ?_⟩
      cases c with
      | true => exact ⟨ρ1, env, st1, t1.env sr er, n1.sr, h1.tail rpOk n1 sr⟩
      | false => exact Post.ok h1 n1 ⟨rfl, rfl⟩
    | _ => exact h1.elim⟩
theorem cmpI_op {op : Cop} : OpR X (compareOp (pyC op)) (fun x y H Q => ∃ i j b, x = .int i /\ y = .int j /\ cmpI op i j = some b /\ Q (.bl b) H) := by
  intro pins s σ H x y v u Q I rx ry ⟨i, j, b, ex, ey, e, q⟩
  subst ex ey
  cases op with
  | lt => cases e; exact op_lt pins s σ H _ _ v u Q I rx ry ⟨i, j, rfl, rfl, q⟩
  | le => cases e; exact op_le pins s σ H _ _ v u Q I rx ry ⟨i, j, rfl, rfl, q⟩
  | gt => cases e; exact op_gt pins s σ H _ _ v u Q I rx ry ⟨i, j, rfl, rfl, q⟩
  | ge => cases e; exact op_ge pins s σ H _ _ v u Q I rx ry ⟨i, j, rfl, rfl, q⟩
  | _ => cases e
theorem se_chn {o1 o2 : Cop} (ha : PE X a (iE T Z W A)) (hb : PE X b (iE T Z W B)) (hc : PE X c (iE T Z W C)) (hm : lastMarks [pyC o1, pyC o2] [b, c] = false) : PE X (.Compare a [pyC o1, pyC o2] [b, c] pos) (iE T Z W (.chn o1 o2 A B C)) :=
  ⟨fun pins s σ H Q I q => by
    refine (pe_chain cmpI_op cmpI_op ha hb hc hm).run pins s σ H Q I ?_
    obtain ⟨ρ, env, st, er, sr, h⟩ := q
    simp only [ev] at h
    refine ⟨ρ, env, st, er, sr, (Post.seq rpOk (Now.start sr) sr h).mono ?_⟩
    rintro x H1 ⟨ρ1, d1, st1, F1, n1, t1, r1, h1⟩
    cases d1 with
    | int i =>
      obtain ⟨rfl, rfl⟩ := r1
      refine ⟨ρ1, env, st1, t1.env sr er, n1.sr, (Post.seq rpOk n1 sr (by simpa only [intv, opt] using h1)).mono ?_⟩
      rintro y H2 ⟨ρ2, d2, st2, F2, n2, t2, r2, h2⟩
      cases d2 with
      | int j =>
        obtain ⟨rfl, rfl⟩ := r2
        simp only [intv, opt] at h2
        cases e : cmpI o1 i j with
        | none => rw [e] at h2; exact h2.elim
        | some k =>
          rw [e] at h2
          refine ⟨i, j, k, rfl, rfl, e, k, rfl, ?_⟩
          cases k with
          | false => exact Post.ok h2 n2 ⟨rfl, rfl⟩
          | true =>
            rw [if_pos rfl]
            refine ⟨ρ2, env, st2, t2.env n1.sr (t1.env sr er), n2.sr, (Post.seq rpOk n2 sr h2).mono ?_⟩
            rintro z H3 ⟨ρ3, d3, st3, F3, n3, t3, r3, h3⟩
            cases d3 with
            | int m =>
              obtain ⟨rfl, rfl⟩ := r3
              simp only [intv, opt] at h3
              cases e2 : cmpI o2 j m with
              | none => rw [e2] at h3; exact h3.elim
              | some k2 => rw [e2] at h3; exact ⟨j, m, k2, rfl, rfl, e2, Post.ok h3 n3 ⟨rfl, rfl⟩⟩
            | _ => exact h3.elim
      | _ => exact h2.elim
    | _ => exact h1.elim⟩
theorem postA_seq {m : M D} {f : D -> M Env} {st : Sto} {ρ : List Addr} {H : Hp} {F : List Addr} {L : List Nat} {σ : L2.St} {Q : L2.St -> Hp -> Prop} (h : PostA Z (bnd m f st) ρ H F L σ Q) : ∃ d st', m st = .ok d st' /\ PostA Z (f d st') ρ H F L σ Q := by
  unfold bnd at h
  cases e : m st with
  | ok d s' => rw [e] at h; exact ⟨d, s', rfl, h⟩
  | exc x s' => rw [e] at h; exact h.elim
  | bad => rw [e] at h; exact h.elim
end
end Fs
namespace Fs
open PySem L2 PyProof.Rows PySem.Spec
section
variable {Z : Wc} {ρ : List Addr} {H : Hp}
theorem putK_cons {j k : L2.Key} {u v : V} {r : List (L2.Key × V)} (nd : j = k -> valV r k = none) : putK ((j, u) :: r) k v = if j = k then (j, v) :: r else (j, u) :: putK r k v := by
  unfold putK
  rw [List.any_cons, valV_any]
  by_cases h : j = k
  · subst h
    have : r.map (fun kv => if kv.1 = j then (kv.1, v) else kv) = r := by
      have nn := nd rfl
      have : ∀ kv ∈ r, kv.1 ≠ j := fun kv hm e => by
        have h2 : (r.any fun kv => decide (kv.1 = j)) = true := List.any_eq_true.mpr ⟨kv, hm, by simpa using e⟩
        rw [valV_any, nn] at h2
        cases h2
      conv => rhs; rw [<- List.map_id r]
      exact List.map_congr_left fun kv hm => by simp [this kv hm]
    simp [this]
  · simp only [h, decide_false, Bool.false_or, if_false]
    split
    · simp [h]
    · rfl
theorem dput_ok {k : L2.Key} {d : D} {v : V} (r0 : Rp Z ρ H d v []) : ∀ {kvs : List (Ky × D)} {ws : List (L2.Key × V)} {F : List Addr}, (kvs.map (·.1)).Nodup -> RpK Z ρ H kvs ws F -> ∃ G, RpK Z ρ H (dput (.k k) d kvs) (putK ws k v) G /\ G.Sublist F
  | [], ws, F, nd, r => by
    obtain ⟨rfl, rfl⟩ := r
    exact ⟨[], ⟨k, v, [], [], [], rfl, rfl, r0, ⟨rfl, rfl⟩, rfl⟩, List.Sublist.refl _⟩
  | (q, x) :: kvs, ws, F, nd, r => by
    obtain ⟨j, u, ws', F1, F2, rfl, rfl, r1, r2, rfl⟩ := r
    have nd' := List.nodup_cons.mp (show (Ky.k j :: kvs.map (·.1)).Nodup from nd)
    rw [putK_cons (fun e => ?_)]
    · simp only [dput]
      by_cases h : j = k
      · subst h
        rw [if_pos rfl, if_pos rfl]
        exact ⟨F2, ⟨j, v, ws', [], F2, rfl, rfl, r0, r2, rfl⟩, List.sublist_append_right _ _⟩
      · rw [if_neg (by simpa using h), if_neg h]
        obtain ⟨G, a, b⟩ := dput_ok (k := k) r0 nd'.2 r2
        exact ⟨F1 ++ G, ⟨j, u, _, F1, G, rfl, rfl, r1, a, rfl⟩, List.Sublist.append (List.Sublist.refl _) b⟩
    · subst e
      have h := dget_ok (k := j) r2
      cases hg : dget (.k j) kvs with
      | none => rw [hg] at h; exact h
      | some y =>
        exfalso
        apply nd'.1
        clear h nd nd' r2
        induction kvs with
        | nil => simp [dget] at hg
        | cons p t ih =>
          obtain ⟨a, b⟩ := p
          simp only [dget] at hg
          split at hg
          · rename_i e; simp [e]
          · simp only [List.map_cons, List.mem_cons]
            exact .inr (ih hg)
theorem RpK.keysEq : ∀ {kvs : List (Ky × D)} {ws : List (L2.Key × V)} {F : List Addr}, RpK Z ρ H kvs ws F -> kvs.map (·.1) = ws.map (fun p => Ky.k p.1)
  | [], _, _, r => by obtain ⟨rfl, _⟩ := r; rfl
  | (q, d) :: kvs, _, _, r => by
    obtain ⟨j, u, ws', F1, F2, rfl, rfl, r1, r2, rfl⟩ := r
    simp [RpK.keysEq r2]
end
section
variable {X : L2.Cx} {pins : List (Addr × Obj)} {σ : L2.St} {H : Hp} {s : Shared} {a : Addr} {ws : List (L2.Key × V)}
theorem KV.keys : ∀ {ws : List (L2.Key × V)} {vs : List (L2.Key × Value)}, L2.KV ws vs -> ws.map (·.1) = vs.map (·.1)
  | _, _, .nil => rfl
  | _, _, .cons r t => by
    have := KV.keys t
    simp_all
theorem dK_nodup (I : Inv X pins σ H s) (h : H a = some (.dK ws)) : (ws.map (·.1)).Nodup := by
  obtain ⟨_, _, vs, kv, o, es, ep, _, _, _, _, _, nd⟩ := I.hok a _ h
  rw [KV.keys kv]
  exact nd
theorem ky_nodup {l : List L2.Key} (h : l.Nodup) : (l.map Ky.k).Nodup := by
  refine List.pairwise_map.mpr (h.imp ?_)
  intro a b hab e
  exact hab (by injection e)
end
section
variable {X : L2.Cx} {T : Tbl} {Z : Wc} {W : WX} {o i : Expr} {A B : Ex} {pos : Pos}
theorem rps_set {ρ : List Addr} {H : Hp} {d : D} {v : V} (rl : Rp Z ρ H d v []) : ∀ {xs : List D} {vs : List V} {j : Nat}, Rps Z ρ H xs vs [] -> Rps Z ρ H (xs.set j d) (vs.set j v) []
  | [], vs, j, h => by obtain ⟨rfl, _⟩ := h; simp [Rps]
  | x :: xs, vs, j, h => by
    obtain ⟨v1, ws, F1, F2, rfl, q1, q2, f⟩ := h
    obtain ⟨rfl, rfl⟩ := List.append_eq_nil_iff.mp f.symm
    cases j with
    | zero => exact ⟨v, ws, [], [], rfl, rl, q2, rfl⟩
    | succ j => exact ⟨v1, ws.set j v, [], [], rfl, q1, rps_set rl q2, rfl⟩
def rSt (Z : Wc) : TSet := fun x y v H2 Q => ∃ ρ st d1 d2 d F G1 G2, Hand Z ρ st H2 F /\ Rp Z ρ H2 d1 x G1 /\ Rp Z ρ H2 d2 y G2 /\ Rp Z ρ H2 d v F /\ ∃ st', setI d1 d2 d st = .ok () st' /\
  ∀ ρ' H', StpF ρ H2 F ρ' H' -> SR Z ρ' st' H' -> (∃ N a o, ρ' = ρ ++ N /\ a ∈ ρ /\ H' = upd H2 a o) -> Q H'
theorem StpF.wr {ρ N F : List Addr} {H : Hp} {st' : Sto} {a : Addr} {o' : HO} (h : StpF ρ H F (ρ ++ N) H) (ha : a ∈ ρ) : StpF ρ H F (ρ ++ N) (upd H a o') := by
  obtain ⟨M, e, nd, f, k⟩ := h
  exact ⟨M, e, nd, f, fun b u q z y => by rw [upd_ne (fun w => z (by rw [w]; exact ha))]; exact k b u q z y⟩
theorem set_ok (hu : X.A.units + 1 < cLine) : PSet X (rSt Z) := by
  intro pins s σ H x y v xv yv u Q I rx ry rv h
  obtain ⟨ρ, st, d1, d2, d, F, G1, G2, hd, r1, r2, r, st', e0, h⟩ := h
  obtain ⟨N, pm, sr', rl⟩ := land_ok d hd.sr r hd.out hd.nd
  have stp : StpF ρ H F (ρ ++ N) H := ⟨N, rfl, pm.nodup_iff.mpr hd.nd, fun b hb => .inl (pm.mem_iff.mp hb), fun _ _ e _ _ => e⟩
  unfold setI at e0
  split at e0
  · rename_i l
    obtain ⟨a, hl, rfl, _⟩ := r1
    have hm : a ∈ ρ := List.mem_of_getElem? hl
    have hl' : (ρ ++ N)[l]? = some a := get_append l a hl
    split at e0
    · rename_i xs hc
      split at e0
      · rename_i k
        obtain ⟨rfl, _⟩ := r2
        split at e0
        · rename_i j hj
          obtain ⟨b, vs, G, z, ha, rs, f⟩ := hd.sr.cell l _ a hc hl
          cases z
          obtain rfl : G = [] := by injection f with _ f; exact f.symm
          refine set_list pins s σ H _ _ _ xv yv u Q I rx ry rv ⟨a, vs, k, j, rfl, rfl, ha, by rw [<- rs.length]; exact hj, ?_⟩
          cases e0
          refine h (ρ ++ N) _ (stp.wr (st' := st) hm) (sr'.wr hl' rfl ?_) ⟨N, a, _, rfl, hm, rfl⟩
          refine ⟨a, vs.set j v, [], rfl, upd_same, ?_, rfl⟩
          refine Rps.updF ha rfl (by simp) ?_
          exact rps_set rl rs.wide
        · exact nomatch e0
      · exact nomatch e0
    · rename_i kvs hc
      split at e0
      · rename_i q hk
        split at e0
        · rename_i hz
          obtain ⟨k, rfl, rfl, _⟩ := key_ok r2 hk
          have hcell := hd.sr.cell l _ a hc hl
          cases e0
          have fin : ∀ H1, Inv X pins σ H1 s -> (∃ ws, H1 a = some (.dK ws) /\ RpK Z (ρ ++ N) H1 kvs ws []) -> (∀ ws, upd H1 a (.dK ws) = upd H a (.dK ws)) -> Rp Z (ρ ++ N) H1 (land d st).1 v [] -> wpAny (model X.prog X.w) X.A (setItem xv yv u) (fun _ s' => ∃ H', Inv X pins σ H' s' /\ Q H') X.xe s := by
            intro H1 I1 ⟨ws, ha, rk⟩ hup rl1
            have nd := dK_nodup I1 ha
            have nd2 : (kvs.map (·.1)).Nodup := by
              rw [rk.keysEq]
              have := ky_nodup nd
              rwa [List.map_map] at this
            obtain ⟨G, rp, hs⟩ := dput_ok (k := k) rl1 nd2 rk
            obtain rfl := List.sublist_nil.mp hs
            have hlen : kvs.length = ws.length := by
              have := congrArg List.length rk.keysEq
              simpa using this
            refine set_dict hu pins s σ H1 _ _ _ xv yv u Q I1 rx ry rv ⟨a, _, rfl, DPut.k ha (by rw [<- hlen]; exact hz.2), ?_⟩
            rw [hup]
            refine h (ρ ++ N) _ (stp.wr (st' := st) hm) (sr'.wr hl' rfl ⟨a, [], rfl, rfl, .inl ⟨_, upd_same, ?_⟩⟩) ⟨N, a, _, rfl, hm, rfl⟩
            have := RpK.stay (ρ' := ρ ++ N) (H' := upd H1 a (.dK (putK ws k v))) (fun _ _ e => e) (upd_keep ha rfl) (by simp) rp
            rwa [hup] at this
          obtain ⟨b, G, z, f, hh⟩ := hcell
          cases z
          obtain rfl : G = [] := by injection f with _ f; exact f.symm
          rcases dK_of hh hz.1 with ⟨ws, ha, rk⟩ | ⟨ha, rfl, _⟩
          · exact fin H I ⟨ws, ha, rk.wide⟩ (fun _ => rfl) rl
          · exact fin _ (retag I ha) ⟨[], upd_same, ⟨rfl, rfl⟩⟩ (fun _ => upd_upd) (rl.updF ha rfl (by simp))
        · exact nomatch e0
      · exact nomatch e0
    · exact nomatch e0
  · exact nomatch e0
theorem sg_sub (hu : X.A.units + 1 < cLine) (ho : PE X o (iE T Z W A)) (hi : PE X i (iE T Z W B)) (ha : ∀ v, assign (.Subscript o i pos) X.env v = (do
      let ov <- holding [v] (eval o X.env)
      let iv <- holding [v, ov] (eval i X.env)
      standAt pos
      holding [v, ov, iv] (setItem ov iv v)
      release [v, ov, iv] [])) : PG X (.Subscript o i pos) (iG T Z (.sub A B)) :=
  ⟨fun pins s σ H v u Q I r q => by
    refine (pg_sub ho hi (set_ok (Z := Z) hu) ha).run pins s σ H v u Q I r ?_
    obtain ⟨ρ, env, st, d, F, hd, er, rd, h⟩ := q
    simp only [asgT] at h
    obtain ⟨d1, st1, e1, h⟩ := postA_seq h
    obtain ⟨d2, st2, e2, h⟩ := postA_seq h
    refine ⟨ρ, env, st, er, hd.sr, post_ok e1 ?_⟩
    intro ρ1 H1 x G1 t1 sr1 r1
    refine ⟨ρ1, env, st1, t1.env hd.sr er, sr1, post_ok e2 ?_⟩
    intro ρ2 H2 y G2 t2 sr2 r2
    have n1 : Now Z ρ H ρ1 st1 H1 G1 := ⟨t1, sr1, fun a ha => r1.there a ha, t1.out hd.sr, t1.nodup⟩
    have n2 : Now Z ρ H ρ2 st2 H2 (G1 ++ G2) := n1.more hd.sr t2 sr2 r2.there
    have r1' := t2.val sr1 n1.out r1
    have rd1 : Rp Z ρ1 H1 d v F := t1.val hd.sr hd.out rd
    have off1 : ∀ a ∈ F, a ∉ ρ1 := fun a ha z => by
      obtain ⟨N, e, _, f, _⟩ := t1
      rw [e] at z
      rcases List.mem_append.mp z with z | z
      · exact hd.out a ha z
      · exact hd.th a ha (f a (List.mem_append_left _ z))
    have rd2 : Rp Z ρ2 H2 d v F := t2.val sr1 off1 rd1
    have off2 : ∀ a ∈ F, a ∉ ρ2 := fun a ha z => by
      obtain ⟨N, e, _, f, _⟩ := n2.stp
      rw [e] at z
      rcases List.mem_append.mp z with z | z
      · exact hd.out a ha z
      · exact hd.th a ha (f a (List.mem_append_left _ z))
    obtain ⟨st', e3, h⟩ : ∃ st', setI d1 d2 d st2 = .ok () st' /\ PostA Z (.ok env st') ρ H F (tgN (.sub A B)) σ Q := by
      unfold bnd at h
      cases e : setI d1 d2 d st2 with
      | ok u s' => rw [e] at h; exact ⟨s', rfl, h⟩
      | exc x s' => rw [e] at h; exact h.elim
      | bad => rw [e] at h; exact h.elim
    refine ⟨ρ2, st2, d1, d2, d, F, G1, G2, ⟨sr2, hd.nd, off2, rd2.there⟩, r1', r2, rd2, st', e3, fun ρ' H' t3 sr3 w => ?_⟩
    have er2 := n2.stp.env hd.sr er
    obtain ⟨N, a, o', rfl, ha, rfl⟩ := w
    refine h _ _ σ ?_ sr3 ?_ Sm.id
    · obtain ⟨M, eM, nd, f, k⟩ := n2.stp
      obtain ⟨N', e', nN, fN, kN⟩ := t3
      obtain rfl : N = N' := List.append_cancel_left e'
      subst eM
      refine ⟨M ++ N, by simp [List.append_assoc], ?_, ?_, fun b o q z y => ?_⟩
      · refine List.nodup_append.mpr ⟨(List.nodup_append.mp nd).1, nN, fun b hb c hc e => ?_⟩
        subst e
        rcases fN b hc with z | z
        · exact hd.th b z (f b (List.mem_append_left _ hb))
        · exact sr2.has (List.mem_append_right _ hb) z
      · intro b hb
        rcases List.mem_append.mp hb with hb | hb
        · exact .inr (f b (List.mem_append_left _ hb))
        · rcases fN b hb with z | z
          · exact .inl z
          · by_cases hr : b ∈ ρ
            · exact absurd z (sr2.has (List.mem_append_left _ hr))
            · cases e : H b with
              | none => exact .inr rfl
              | some o => have := k b o e hr; rw [z] at this; cases this
      · refine kN b o (k b o q z) (fun w => ?_) y
        rcases List.mem_append.mp w with w | w
        · exact z w
        · rw [f b (List.mem_append_left _ w)] at q; cases q
    · refine ⟨er2.1, fun j dj hj => ?_⟩
      obtain ⟨vj, hv, rj⟩ := er2.2 j dj hj
      obtain ⟨oa, hoa, hka⟩ := sr2.hcell ha
      exact ⟨vj, hv, (rj.updF hoa hka (by simp)).wide⟩⟩
end
end Fs
namespace Fs
open PySem
theorem lex_trans : ∀ {a b c : List Int}, lexL a b = true -> lexL b c = true -> lexL a c = true
  | _, [], [], h, h2 => by simp [lexL] at h2
  | [], _ :: _, _ :: _, _, _ => by simp [lexL]
  | x :: a, [], _ :: _, h, _ => by simp [lexL] at h
  | [], [], _ :: _, h, _ => by simp [lexL] at h
  | _, _ :: _, [], _, h2 => by simp [lexL] at h2
  | x :: a, y :: b, z :: c, h, h2 => by
    simp only [lexL] at h h2 ⊢
    by_cases h3 : x = y
    · subst h3
      rw [if_pos rfl] at h
      by_cases h4 : x = z
      · subst h4
        rw [if_pos rfl] at h2 ⊢
        exact lex_trans h h2
      · rw [if_neg h4] at h2 ⊢
        exact h2
    · rw [if_neg h3] at h
      have h := of_decide_eq_true h
      by_cases h4 : y = z
      · subst h4
        rw [if_neg h3]
        exact decide_eq_true h
      · rw [if_neg h4] at h2
        have h2 := of_decide_eq_true h2
        rw [if_neg (by omega)]
        exact decide_eq_true (by omega)
theorem lex_tri : ∀ {a b : List Int}, lexL a b = false -> lexL b a = false -> a = b
  | [], [], _, _ => rfl
  | [], _ :: _, h, _ => by simp [lexL] at h
  | _ :: _, [], _, h => by simp [lexL] at h
  | x :: a, y :: b, h, h2 => by
    simp only [lexL] at h h2
    by_cases h3 : x = y
    · subst h3
      rw [if_pos rfl] at h h2
      rw [lex_tri h h2]
    · rw [if_neg h3] at h
      rw [if_neg (fun q => h3 q.symm)] at h2
      have h := of_decide_eq_false h
      have h2 := of_decide_eq_false h2
      omega
theorem lex_irr : ∀ {a : List Int}, lexL a a = false
  | [] => rfl
  | x :: a => by simp only [lexL, if_true]; exact lex_irr
theorem lex_asym {a b : List Int} (h : lexL a b = true) : lexL b a = false := by
  cases h2 : lexL b a with
  | false => rfl
  | true => have := lex_trans h h2; rw [lex_irr] at this; cases this
abbrev lexLe (a b : List Int) : Prop := lexL b a = false
theorem lexLe_trans {a b c : List Int} (h : lexLe a b) (h2 : lexLe b c) : lexLe a c := by
  unfold lexLe at *
  cases h3 : lexL c a with
  | false => rfl
  | true =>
    cases h4 : lexL a b with
    | true => have := lex_trans h3 h4; rw [h2] at this; cases this
    | false =>
      have := lex_tri h4 h
      subst this
      rw [h2] at h3; cases h3
theorem insL_perm (i : List Int) : ∀ r : List (List Int), (insL i r).Perm (i :: r)
  | [] => .refl _
  | j :: r => by
    simp only [insL]
    split
    · exact .refl _
    · exact (List.Perm.cons _ (insL_perm i r)).trans (List.Perm.swap ..)
theorem sortL_perm : ∀ r : List (List Int), (sortL r).Perm r
  | [] => .refl _
  | i :: r => by
    simp only [sortL]
    exact (insL_perm i _).trans (List.Perm.cons _ (sortL_perm r))
theorem insL_sorted (i : List Int) : ∀ {r : List (List Int)}, r.Pairwise lexLe -> (insL i r).Pairwise lexLe
  | [], _ => by simp [insL]
  | j :: r, h => by
    simp only [insL]
    have h2 := List.pairwise_cons.1 h
    split
    · rename_i hj
      refine List.pairwise_cons.2 ⟨?_, h⟩
      intro a ha
      rcases List.mem_cons.1 ha with rfl | ha
      · exact lex_asym hj
      · exact lexLe_trans (lex_asym hj) (h2.1 a ha)
    · rename_i hj
      refine List.pairwise_cons.2 ⟨?_, insL_sorted i h2.2⟩
      intro a ha
      rcases List.mem_cons.1 ((insL_perm i r).mem_iff.1 ha) with rfl | ha
      · have : lexL a j = false := by simpa using hj
        exact this
      · exact h2.1 a ha
theorem sortL_sorted : ∀ r : List (List Int), (sortL r).Pairwise lexLe
  | [] => .nil
  | i :: r => by simp only [sortL]; exact insL_sorted i (sortL_sorted r)
end Fs
namespace Fs
open PySem PySem.Spec PyProof.Rows Srt
section
variable {prog : Program} {w : World} {A : Around} {s : Shared}
theorem swo_lexL (k : Value -> List Int) : SrtO.Swo fun v u => lexL (k v) (k u) :=
  ⟨fun x y h => lex_asym h, fun x y z h1 h2 => lexLe_trans h1 h2⟩
def lexF (fin : Bool) : List Int -> List Int -> Bool
  | x :: xs, y :: ys => if x = y then lexF fin xs ys else decide (x < y)
  | _, _ => fin
theorem lexF_eq : ∀ {a b : List Int} {fin : Bool}, (fin = decide (a.length < b.length)) -> lexF fin a b = lexL a b
  | [], [], fin, h => by simp [lexF, lexL, h]
  | [], _ :: _, fin, h => by simp [lexF, lexL, h]
  | _ :: _, [], fin, h => by simp [lexF, lexL, h]
  | x :: a, y :: b, fin, h => by
    have ih := lexF_eq (a := a) (b := b) (fin := fin) (by rw [h]; simp)
    simp only [lexF, lexL, ih]
theorem kat_ints {b fin : Bool} : ∀ {ms ns : List Int} {us vs : List Value}, IntsAre us ms -> IntsAre vs ns -> ∀ i : Nat, PySem.W.KatLex prog w A b fin (fun r s' => s' = s /\ r = lexF fin ms ns) (us.zip vs) i s
  | [], _, _, _, .nil, _, i => PySem.W.kat_nil ⟨rfl, by simp [lexF]⟩
  | _ :: _, [], _, _, .cons .., .nil, i => PySem.W.kat_nil ⟨rfl, by simp [lexF]⟩
  | x :: ms, y :: ns, _, _, .cons _ t hu, .cons _ t' hv, i => by
    refine PySem.W.kat_cons (SeqAt.EqAt.int_int x t y t' prog w _ _ ?_)
    refine PySem.W.kat_go (fun e1 => ?_) (fun e1 => ?_)
    · have ex : x = y := by simpa using e1
      have e3 : lexF fin (x :: ms) (y :: ns) = lexF fin ms ns := by simp only [lexF, if_pos ex]
      rw [e3]
      exact PySem.W.kat_yes (kat_ints hu hv (i + 1))
    · have ex : ¬ x = y := by simpa using e1
      have e3 : lexF fin (x :: ms) (y :: ns) = decide (x < y) := by simp only [lexF, if_neg ex]
      rw [e3]
      exact PySem.W.kat_no (TS.oneLt_ints _ ⟨rfl, rfl⟩)
theorem tups_cmp {vs : List Value} {k : Value -> List Int} (hp : ∀ v ∈ vs, TS.TupInts s.heap v (k v)) : SrtO.Cmp prog w A s (tuples' true) (fun p => p.1 ∈ vs) (SrtO.lt2 fun v u => lexL (k v) (k u)) := by
  intro p q hm hm'
  obtain ⟨a, xs, e, ⟨o, ho, hc, n, hd⟩, i⟩ := hp _ hm
  obtain ⟨a', xs', e', ⟨o', ho', hc', n', hd'⟩, i'⟩ := hp _ hm'
  show wpAny (model prog w) A (keyLt' (tuples' true) p.1 q.1) (fun r s' => s' = s /\ r = lexL (k p.1) (k q.1)) (fun _ _ => False) s
  generalize k p.1 = m at i ⊢
  generalize k q.1 = m' at i' ⊢
  rw [e, e']
  refine PySem.W.kat_lt ho hd ho' hd' ?_
  have hl : m.length = xs.size := by have := i.length; simpa using this.symm
  have hl' : m'.length = xs'.size := by have := i'.length; simpa using this.symm
  have := kat_ints (prog := prog) (w := w) (A := A) (s := s) (b := true) (fin := decide (xs.size < xs'.size)) i i' 0
  rw [lexF_eq (by rw [hl, hl'])] at this
  exact this
theorem firsts_any {h : Heap} {k : Value -> List Int} : ∀ {vs : List Value}, (∀ v ∈ vs, TS.TupInts h v (k v) /\ k v ≠ []) -> ∃ fs : List Value, PySem.W.KatTups h vs fs /\ fs.length = vs.length /\ ∀ f ∈ fs, ∃ x t, f = Value.int x t
  | [], _ => ⟨[], PySem.W.KatTups.nil, rfl, fun f hf => by simp at hf⟩
  | v :: vs, hp => by
    obtain ⟨fs, h1, h2, h3⟩ := firsts_any (vs := vs) fun v' hm => hp v' (List.mem_cons_of_mem _ hm)
    obtain ⟨⟨a, xs, e, ⟨o, ho, hc, n, hd⟩, i⟩, hne⟩ := hp v List.mem_cons_self
    generalize k v = m at i hne
    cases m with
    | nil => exact absurd rfl hne
    | cons x m =>
      have hx0 : ∃ t, xs[0]? = some (.int x t) := by
        obtain ⟨t, ht⟩ := IntsAre.int_at i 0 (xs.toList.getD 0 .none) (by
          have hl := i.length
          simp only [List.length_cons] at hl
          rw [List.getD_eq_getElem?_getD, List.getElem?_eq_getElem (by omega)]; rfl)
        have hl := i.length
        simp only [List.length_cons, Array.length_toList] at hl
        refine ⟨t, ?_⟩
        rw [<- Array.getElem?_toList]
        rw [List.getD_eq_getElem?_getD, List.getElem?_eq_getElem (by rw [Array.length_toList]; omega)] at ht
        rw [List.getElem?_eq_getElem (by rw [Array.length_toList]; omega)]
        simpa using ht
      obtain ⟨t, ht⟩ := hx0
      rw [e]
      refine ⟨.int x t :: fs, PySem.W.KatTups.cons ho hc hd ht h1, by rw [List.length_cons, List.length_cons, h2], ?_⟩
      intro f hf
      rcases List.mem_cons.1 hf with rfl | hf
      · exact ⟨x, t, rfl⟩
      · exact h3 f hf
theorem tups_sortableO {a : Addr} {vs : List Value} {k : Value -> List Int} (h0 : 0 < vs.length) (hp : ∀ v ∈ vs, TS.TupInts s.heap v (k v) /\ k v ≠ []) (ha : ∀ o, s.heap.get? a = some o -> o.cls ≠ .type "tuple") : SrtO.SortableO prog w A s a vs fun v u => lexL (k v) (k u) := by
  intro h' keep
  have hp' : ∀ v ∈ vs, TS.TupInts h' v (k v) /\ k v ≠ [] := fun v hm => ⟨(hp v hm).1.keeps fun b o e c => keep b o (fun z => by subst z; exact ha o e c) e, (hp v hm).2⟩
  obtain ⟨fs, h1, h2, h3⟩ := firsts_any hp'
  refine ⟨tuples' true, fun Q E hq => ?_, tups_cmp (s := { s with heap := h' }) fun v hm => (hp' v hm).1⟩
  refine PySem.W.kat_kind (T := .type "int") h1 (by omega) (fun f hm => ?_) (by rfl) ?_
  · obtain ⟨x, t, rfl⟩ := h3 f hm
    exact PySem.W.Looks.now
  · have e : (Value.type "int" != Value.type "tuple") = true := by first | decide +kernel | rfl | decide
    rw [e]
    exact hq
end
end Fs
namespace Fs
open PySem PySem.Spec PyProof.Rows L2
section
variable {P : Program} {w : World} {A : Around} {E : Value -> Shared -> Prop} {s : Shared}
set_option maxHeartbeats 3200000 in
end
end Fs
namespace Fs
open PySem PySem.Spec PyProof.Rows Srt
theorem lexLt_eq : ∀ a b : List Int, HT.lexLt a b = lexL a b
  | [], [] => by rw [HT.lexLt_nil_nil]; rfl
  | [], _ :: _ => by rw [HT.lexLt_nil_cons]; rfl
  | _ :: _, [] => by rw [HT.lexLt_cons_nil]; rfl
  | x :: a, y :: b => by
    rw [HT.lexLt_cons]
    simp only [lexL]
    rw [lexLt_eq a b]
section
variable {prog : Program} {w : World} {A : Around} {E : Value -> Shared -> Prop} {s : Shared}
theorem oneLt_tups (c : Bool) {l b : Addr} {items items2 : Array Value} {ns ms : List Int} {Q : Bool -> Shared -> Prop} (hl : IsTup s.heap l items) (hb : IsTup s.heap b items2) (hi : IntsAre items.toList ns) (hj : IntsAre items2.toList ms)
    (hu : A.units < cLine) (h : Q (HT.lexLt ns ms) s) : wpAny (model prog w) A (oneLt' c (.ref l) (.ref b)) Q E s := by
  cases c with
  | false => exact PySem.W.kat_one _ _ (HT.lt_tupInts (Q := PySem.W.BoolBack Q) hl hb hi hj hu h)
  | true =>
    obtain ⟨⟨cls, dd, data, sl⟩, ho, hc, n, hd⟩ := id hl
    obtain ⟨⟨cls2, dd2, data2, sl2⟩, ho2, hc2, n2, hd2⟩ := id hb
    simp only at hc hd hc2 hd2
    subst hc hd hc2 hd2
    rw [oneLt'_eq]
    simp only [if_true]
    refine wpAny_bind (wpAny_cRoomFor hu ?_)
    refine wpAny_bind (wpAny_callSpecialIfBound?_slot ⟨_, ho, rfl⟩ PySem.F.slot_tuple_lt (call_meets PySem.F.slot_tuple_lt ⟨_, ho, rfl⟩ PySem.F.entry_tuple_lt (PySem.F.args_tuple_lt_2 _ _) (HT.tuple_lt_ints l b items items2 n n2 dd dd2 sl sl2 ns ms hi hj) ⟨ho, ho2, ?_⟩))
    exact wpAny_truthy_bool h
theorem firsts_os {M : Model} {k : Value -> List Int} : ∀ (vs : List Value) {Q : List (Option Value) -> Shared -> Prop}, (∀ v ∈ vs, TS.TupInts s.heap v (k v)) -> (∀ os : List (Option Value), os.map (·.isSome) = vs.map (fun v => !(k v).isEmpty) -> Q os s) -> wpAny M A (vs.mapM firstOfTuple') Q E s
  | [], Q, _, h => by rw [List.mapM_nil]; exact wpAny_pure (h [] rfl)
  | v :: vs, Q, hp, h => by
    obtain ⟨a, xs, e, ⟨o, ho, hc, n, hd⟩, i⟩ := hp v List.mem_cons_self
    rw [List.mapM_cons]
    refine wpAny_bind ?_
    rw [PySem.W.kas_first_eq, e]
    refine wpAny_bind (PySem.W.Looks.here (show PySem.W.Looks M s.heap (typeOf (.ref a)) o.cls from (PySem.W.Looks.ld ho).andThen .now) ?_)
    rw [hc, if_neg (by first | decide | simp)]
    refine wpAny_bind (listItems_at ho hd (wpAny_pure ?_))
    refine wpAny_bind (firsts_os vs (Q := fun bs s' => wpAny M A (pure (xs[0]? :: bs)) Q E s') (fun v' hm => hp v' (List.mem_cons_of_mem _ hm)) fun os hos => wpAny_pure (h _ ?_))
    rw [List.map_cons, List.map_cons, hos]
    congr 1
    have hl := i.length
    generalize k v = m at hl ⊢
    simp only [Array.length_toList] at hl
    cases m with
    | nil =>
      have : xs[0]? = none := by
        have hz : xs.size = 0 := hl
        rw [Array.getElem?_eq_none_iff]; omega
      rw [this]; rfl
    | cons z m =>
      have h0 : 0 < xs.size := by
        have hz : xs.size = m.length + 1 := hl
        omega
      rw [Array.getElem?_eq_getElem h0]; rfl
def kindE (k : Value -> List Int) (vs : List Value) : SortKind := match (k (vs.headD .none)).isEmpty with
  | true => oneType'
  | false => general'
theorem tups_kindE {M : Model} {k : Value -> List Int} {vs : List Value} {Q : SortKind -> Shared -> Prop} (h2 : 2 <= vs.length) (hp : ∀ v ∈ vs, TS.TupInts s.heap v (k v)) (he : (vs.all fun v => !(k v).isEmpty) = false) (h : Q (kindE k vs) s) : wpAny M A (keyKind' vs.toArray) Q E s := by
  rw [PyProof.Rows.keyKind'_eq, List.mapM_toArray, map_eq_pure_bind]
  refine wpAny_bind (wpAny_bind (firsts_os vs hp fun os hos => wpAny_pure ?_))
  have hall : (os.toArray.all fun x => x.isSome) = false := by
    rw [List.all_toArray]
    have e1 : (os.all fun x => x.isSome) = ((os.map (·.isSome)).all id) := by rw [List.all_map]; rfl
    rw [e1, hos, List.all_map]
    exact he
  rw [if_neg (by rw [hall]; simp)]
  cases vs with
  | nil => simp at h2
  | cons v vs =>
    cases os with
    | nil => simp at hos
    | cons o os =>
      simp only [List.map_cons, List.cons.injEq] at hos
      have h0 : ((o :: os).toArray[0]?.bind id) = o := by simp
      rw [h0]
      cases hk : (k v).isEmpty with
      | false =>
        rw [hk] at hos
        have h : Q general' s := by
          have e : kindE k (v :: vs) = general' := by simp only [kindE, List.headD_cons, hk]
          rwa [e] at h
        rw [if_pos (show o.isSome = true from hos.1)]
        exact wpAny_pure h
      | true =>
        rw [hk] at hos
        have h : Q oneType' s := by
          have e : kindE k (v :: vs) = oneType' := by simp only [kindE, List.headD_cons, hk]
          rwa [e] at h
        rw [if_neg (by rw [hos.1]; simp)]
        rw [oneTypeOnly'_eq, List.mapM_toArray, map_eq_pure_bind]
        refine wpAny_bind (wpAny_bind (wpAny_bind (PySem.W.kas_mapM (r := Value.type "tuple") _ (fun u hu Q' hq => ?_) (wpAny_pure ?_))))
        · obtain ⟨a, xs, e, ⟨o', ho', hc', n, hd⟩, i⟩ := hp u hu
          rw [e]
          refine PySem.W.Looks.here (show PySem.W.Looks M s.heap (typeOf (.ref a)) o'.cls from (PySem.W.Looks.ld ho').andThen .now) ?_
          rw [hc']; exact hq
        · have hT2 : (Value.type "tuple" == Value.type "tuple") = true := by first | decide +kernel | rfl | decide
          have hall2 : ((List.map (fun _ => Value.type "tuple") (v :: vs)).toArray.all fun x => x == Value.type "tuple") = true := by
            simp only [List.all_toArray, List.all_map, List.all_eq_true]
            intro _ _
            exact hT2
          have h02 : (List.map (fun _ => Value.type "tuple") (v :: vs)).toArray[0]? = some (Value.type "tuple") := by simp
          rw [h02]
          simp only [hall2, if_true]
          exact wpAny_pure (wpAny_pure h)
theorem tups_cmpE {vs : List Value} {k : Value -> List Int} {κ : SortKind} (hκ : κ = oneType' ∨ κ = general') (hu : A.units < cLine) (hp : ∀ v ∈ vs, TS.TupInts s.heap v (k v)) : SrtO.Cmp prog w A s κ (fun p => p.1 ∈ vs) (SrtO.lt2 fun v u => lexL (k v) (k u)) := by
  intro p q hm hm'
  obtain ⟨a, xs, e, ht, i⟩ := hp _ hm
  obtain ⟨a', xs', e', ht', i'⟩ := hp _ hm'
  show wpAny (model prog w) A (keyLt' κ p.1 q.1) (fun r s' => s' = s /\ r = lexL (k p.1) (k q.1)) (fun _ _ => False) s
  generalize k p.1 = m at i ⊢
  generalize k q.1 = m' at i' ⊢
  rw [e, e']
  rcases hκ with rfl | rfl
  · rw [keyLt'_oneType]
    exact oneLt_tups true ht ht' i i' hu ⟨rfl, lexLt_eq _ _⟩
  · rw [show keyLt' general' (.ref a) (.ref a') = oneLt' false (.ref a) (.ref a') from rfl]
    exact oneLt_tups false ht ht' i i' hu ⟨rfl, lexLt_eq _ _⟩
theorem tups_sortableE {a : Addr} {vs : List Value} {k : Value -> List Int} (h2 : 2 <= vs.length) (hu : A.units < cLine) (hp : ∀ v ∈ vs, TS.TupInts s.heap v (k v)) (ha : ∀ o, s.heap.get? a = some o -> o.cls ≠ .type "tuple") : SrtO.SortableO prog w A s a vs fun v u => lexL (k v) (k u) := by
  by_cases hall : (vs.all fun v => !(k v).isEmpty) = true
  · exact tups_sortableO (by omega) (fun v hm => ⟨hp v hm, fun z => by
      have := List.all_eq_true.1 hall v hm
      rw [z] at this; cases this⟩) ha
  intro h' keep
  have hp' : ∀ v ∈ vs, TS.TupInts h' v (k v) := fun v hm => (hp v hm).keeps fun b o e c => keep b o (fun z => by subst z; exact ha o e c) e
  refine ⟨kindE k vs, fun Q E hq => ?_, tups_cmpE (s := { s with heap := h' }) ?_ hu fun v hm => hp' v hm⟩
  · exact tups_kindE (s := { s with heap := h' }) h2 hp' (by simpa using hall) hq
  · cases hk : (k (vs.headD .none)).isEmpty with
    | true => exact .inl (by simp only [kindE, hk])
    | false => exact .inr (by simp only [kindE, hk])
end
end Fs
namespace SrtU
open PySem PyProof.Rows Srt SrtO
section
variable {prog : Program} {w : World} {A : Around} {E : Value -> Shared -> Prop} {s : Shared}
theorem collect_tup {l : Addr} {vs : List Value} {Q : List Value -> Shared -> Prop} (hl : IsTup s.heap l vs.toArray)
    (h : Q vs { s with heap := (s.heap.push (seqObj "list" #[] 0)).update s.heap.objs.size (Obj.mapSeq (· ++ vs.toArray)) }) (hsz : vs.length <= sizeLine) :
    wpAny (model prog w) A (collect (.ref l)) Q E s := by
  obtain ⟨o, ho, hc, n, hd⟩ := id hl
  unfold collect
  refine wpAny_bind (wpAny_runValue (codeAny_builtin entry_proto_collect' ?_))
  show wpAny _ _ (do again (.builtin "list.__iadd__" ⟨[<- newList [], .ref l], []⟩)) _ _ s
  refine wpAny_bind (wpAny_newList (wpAny_pure ⟨Code.quiet_builtin _ (by decide +kernel), codeAny_builtin entry_list_iadd' ?_⟩))
  show wpAny _ _ (Builtin.List.listExtendWith (.ref s.heap.objs.size) (.ref l) (.ref s.heap.objs.size)) _ _ { s with heap := s.heap.push (seqObj "list" #[] 0) }
  unfold Builtin.List.listExtendWith
  have ho' : (s.heap.push (seqObj "list" #[] 0)).get? l = some o := Heap.get?_push_of_some _ ho
  refine wpAny_bind (wpAny_typeOf (T := "tuple") ⟨o, ho', hc⟩ ?_)
  have ht : (Value.type "tuple" == Value.type "tuple") = true := by rfl
  rw [if_pos (by rw [ht]; simp)]
  refine wpAny_bind (listItems_at ho' hd ?_)
  refine wpAny_bind (listItems_at (xs := #[]) (n := 0) (Heap.get?_push_size _ rfl) rfl ?_)
  rw [if_neg (by simp)]
  refine wpAny_bind (listUpdate_at (xs := #[]) (n := 0) (Heap.get?_push_size _ rfl) rfl ?_ (Nat.zero_le _) (by show (#[] ++ vs.toArray).size <= sizeLine + 1; simp only [Array.size_append, List.size_toArray, List.length_nil]; omega))
  refine wpAny_pure ?_
  show wpAny (model prog w) A (do
      let o <- load s.heap.objs.size
      match o.data with
      | .seq xs _ => pure xs.toList
      | _ => unsupported "internal:collect") Q E { s with heap := (s.heap.push (seqObj "list" #[] 0)).update s.heap.objs.size (Obj.mapSeq (· ++ vs.toArray)) }
  refine wpAny_bind (wpAny_load (get?_update_seq (Heap.get?_push_size _ rfl) _) ?_)
  show wpAny _ _ (pure ((#[] : Array Value) ++ vs.toArray).toList) Q E _
  rw [show ((#[] : Array Value) ++ vs.toArray).toList = vs by simp]
  exact wpAny_pure h
theorem sorted_ordT {l : Addr} {vs : List Value} {ltv : Value -> Value -> Bool} {Q : Value -> Shared -> Prop} (O : Swo ltv) (hl : IsTup s.heap l vs.toArray) (hz : vs.length <= sizeLine)
    (hS : 2 <= vs.length -> ∀ (h₁ : Heap) (a : Addr), h₁.get? a = some (seqObj "list" vs.toArray 0) -> (∀ b o, s.heap.get? b = some o -> b ≠ a /\ h₁.get? b = some o) -> SortableO prog w A.in1.in1 { s with heap := h₁ } a vs ltv)
    (h : ∀ out : List Value, Srtd ltv out -> Stb ltv out vs -> Q (.ref (s.heap.objs.size + 1)) { s with heap := sortedAll s.heap vs out.toArray }) :
    wpAny (model prog w) A (call (.builtin "sorted") [.ref l]) Q E s := by
  refine Calls.call_function_entry kind_sorted plain_sorted entry_sorted (args_sorted1 _) ?_
  unfold Builtin.«sorted»
  refine wpAny_bind (m := checkCount "sorted" 1 1 _) (wpAny_pure ?_)
  refine wpAny_bind (collect_tup hl ?_ hz)
  refine wpAny_bind (wpAny_newList ?_ hz)
  have hsz : ((s.heap.push (seqObj "list" #[] 0)).update s.heap.objs.size (Obj.mapSeq (· ++ vs.toArray))).objs.size = s.heap.objs.size + 1 := by
    rw [Heap.size_update, size_push']
  have hoL : (((s.heap.push (seqObj "list" #[] 0)).update s.heap.objs.size (Obj.mapSeq (· ++ vs.toArray))).push (seqObj "list" vs.toArray 0)).get? (s.heap.objs.size + 1) = some (seqObj "list" vs.toArray 0) := by
    rw [<- hsz]; exact Heap.get?_push_size _ rfl
  have keep : ∀ b o, s.heap.get? b = some o -> b ≠ s.heap.objs.size + 1 /\ (((s.heap.push (seqObj "list" #[] 0)).update s.heap.objs.size (Obj.mapSeq (· ++ vs.toArray))).push (seqObj "list" vs.toArray 0)).get? b = some o := fun b o q => by
    have hlt : b < s.heap.objs.size := Heap.lt_size q
    refine ⟨Nat.ne_of_lt (Nat.lt_succ_of_lt hlt), Heap.get?_push_of_some _ ?_⟩
    rw [Heap.get?_update_ne _ _ _ _ (Nat.ne_of_lt hlt)]
    exact Heap.get?_push_of_some _ q
  show wpAny _ _ _ _ _ { s with heap := ((s.heap.push (seqObj "list" #[] 0)).update s.heap.objs.size (Obj.mapSeq (· ++ vs.toArray))).push (seqObj "list" vs.toArray 0) }
  rw [hsz]
  refine wpAny_bind (wpAny_holding (wpAny_call_entry slot_list_sort ⟨_, hoL, rfl⟩ entry_list_sort (list_sort_ord O hoL hz (fun h2 => hS h2 _ _ hoL keep) fun out hs hb => ⟨_, rfl, ?_⟩) (args_list_sort _)))
  exact wpAny_pure ⟨_, rfl, h out hs hb⟩
end
end SrtU
namespace Fs
open PySem L2 PyProof.Rows PySem.Spec
section
variable {X : Cx}
theorem cr_sortedIT : CallR X (.builtin "sorted") (fun vs H Q => ∃ (a : Addr) (ns : List Int), vs = [V.ref a] /\ SqT X.K H a (ns.map V.int) /\
    ∀ (ns' : List Int) (p : Addr), ns'.Perm ns -> ns'.Pairwise (· <= ·) -> H p = none -> Q (.ref p) (upd H p (.lst (ns'.map V.int)))) := by
  intro pins s σ H vs us Q I r h
  obtain ⟨a, ns, rfl, hs, q⟩ := h
  obtain ⟨its, rv, hl, hz⟩ := I.tuple hs
  rw [Vals.ref1 r]
  have hi := rv.ints
  refine SrtU.sorted_ordT SrtO.swo_int hl (by rw [<- rv.length]; exact hz) (fun h2 h₁ a' _ _ => SrtO.ints_sortable hi h2) fun out h1 h2 => ?_
  obtain ⟨k1, k2, k3⟩ := SrtO.ints_out hi h1 h2
  obtain ⟨ep, he'⟩ := PyProof.Rows.sortedAll_at s.heap its out.toArray
  have hlen : ((out.map SrtO.iv).map V.int).length <= sizeLine := by
    rw [List.length_map, k2.length_eq]
    rw [List.length_map] at hz
    exact hz
  exact ⟨.ref _, upd H (s.heap.objs.size + 1) (.lst ((out.map SrtO.iv).map V.int)), I.laid (t' := s.toks) (fun _ _ => PyProof.Rows.sortedAll_old) (Nat.le_succ _) ⟨hlen, out, ep, vals_of_ints k1, he'⟩, rfl, q _ _ k2 k3 (I.hok.fresh (Nat.le_succ _))⟩
end
end Fs
namespace Fs
open PySem L2 PyProof.Rows PySem.Spec
def rL (Z : Wc) (W : WX) (σ : L2.St) (f : List D -> M D) : List V -> Hp -> VK -> Prop := fun vs H2 Q => ∃ ρ st H ρ2 st2 ds F, SR Z ρ st H /\ Now Z ρ H ρ2 st2 H2 F /\ Rps Z ρ2 H2 ds vs F /\ Post (Rp Z) Z W (f ds st2) ρ σ H Q
section
variable {Z : Wc} {ρ : List Addr} {H : Hp} {st : Sto}
theorem ints_ok : ∀ {ds : List D} {vs : List V} {F : List Addr} {ns : List Int}, Rps Z ρ H ds vs F -> optL intv ds = some ns -> vs = ns.map V.int /\ ds = ns.map D.int
  | [], vs, F, ns, r, e => by obtain ⟨rfl, _⟩ := r; cases e; exact ⟨rfl, rfl⟩
  | d :: ds, vs, F, ns, r, e => by
    obtain ⟨v, ws, F1, F2, rfl, r1, r2, _⟩ := r
    simp only [optL] at e
    cases d with
    | int i =>
      simp only [intv] at e
      cases e2 : optL intv ds with
      | none => rw [e2] at e; cases e
      | some ms =>
        rw [e2] at e
        cases e
        obtain ⟨rfl, rfl⟩ := ints_ok r2 e2
        obtain ⟨rfl, _⟩ := r1
        exact ⟨rfl, rfl⟩
    | _ => simp [intv] at e
theorem bls_ok : ∀ {ds : List D} {vs : List V} {F : List Addr} {ns : List Bool}, Rps Z ρ H ds vs F -> optL blv ds = some ns -> vs = ns.map V.bl
  | [], vs, F, ns, r, e => by obtain ⟨rfl, _⟩ := r; cases e; rfl
  | d :: ds, vs, F, ns, r, e => by
    obtain ⟨v, ws, F1, F2, rfl, r1, r2, _⟩ := r
    simp only [optL] at e
    cases d with
    | bl i =>
      simp only [blv] at e
      cases e2 : optL blv ds with
      | none => rw [e2] at e; cases e
      | some ms =>
        rw [e2] at e
        cases e
        obtain rfl := bls_ok r2 e2
        obtain ⟨rfl, _⟩ := r1
        rfl
    | _ => simp [blv] at e
theorem Rps.ofInts : ∀ ns : List Int, Rps Z ρ H (ns.map D.int) (ns.map V.int) []
  | [] => ⟨rfl, rfl⟩
  | n :: ns => ⟨.int n, ns.map V.int, [], [], rfl, ⟨rfl, rfl⟩, Rps.ofInts ns, rfl⟩
theorem insI_perm (i : Int) : ∀ r : List Int, (insI i r).Perm (i :: r)
  | [] => .refl _
  | j :: r => by
    simp only [insI]
    split
    · exact (List.Perm.cons j (insI_perm i r)).trans (List.Perm.swap i j r)
    · exact .refl _
theorem sortI_perm : ∀ l : List Int, (sortI l).Perm l
  | [] => .refl _
  | a :: l => (insI_perm a (sortI l)).trans (List.Perm.cons a (sortI_perm l))
theorem insI_sorted (i : Int) : ∀ r : List Int, r.Pairwise (· <= ·) -> (insI i r).Pairwise (· <= ·)
  | [], _ => by simp [insI]
  | j :: r, h => by
    obtain ⟨h1, h2⟩ := List.pairwise_cons.mp h
    simp only [insI]
    split
    · rename_i hij
      refine List.pairwise_cons.mpr ⟨fun x hx => ?_, insI_sorted i r h2⟩
      rcases List.mem_cons.mp ((insI_perm i r).mem_iff.mp hx) with rfl | hx
      · exact hij
      · exact h1 x hx
    · rename_i hij
      refine List.pairwise_cons.mpr ⟨fun x hx => ?_, h⟩
      rcases List.mem_cons.mp hx with rfl | hx
      · omega
      · exact Int.le_trans (by omega) (h1 x hx)
theorem sortI_sorted : ∀ l : List Int, (sortI l).Pairwise (· <= ·)
  | [] => .nil
  | a :: l => insI_sorted a _ (sortI_sorted l)
theorem sorted_eq : ∀ {l m : List Int}, l.Perm m -> l.Pairwise (· <= ·) -> m.Pairwise (· <= ·) -> l = m
  | [], m, p, _, _ => (List.nil_perm.mp p).symm
  | a :: l, [], p, _, _ => absurd (List.perm_nil.mp p) (by simp)
  | a :: l, b :: m, p, hl, hm => by
    obtain ⟨h1, h2⟩ := List.pairwise_cons.mp hl
    obtain ⟨h3, h4⟩ := List.pairwise_cons.mp hm
    have e : a = b := by
      have k1 : b <= a := by
        rcases List.mem_cons.mp (p.mem_iff.mp List.mem_cons_self) with e | e
        · omega
        · exact h3 a e
      have k2 : a <= b := by
        rcases List.mem_cons.mp (p.mem_iff.mpr List.mem_cons_self) with e | e
        · omega
        · exact h1 b e
      omega
    subst e
    rw [sorted_eq p.cons_inv h2 h4]
end
section
variable {X : L2.Cx} {T : Tbl} {Z : Wc} {W : WX} {σ0 : L2.St} {e : Expr} {es : List Expr} {As : List Ex} {pos p : Pos} {x : Str} {id : String}
theorem one1 {ρ : List Addr} {H : Hp} {vs : List V} {F : List Addr} {d : D} (r : Rps Z ρ H [d] vs F) : ∃ v, vs = [v] /\ Rp Z ρ H d v F := by
  obtain ⟨v, ws, F1, F2, rfl, r1, ⟨rfl, rfl⟩, rfl⟩ := r
  exact ⟨v, rfl, by simpa using r1⟩
theorem gd_ok {α β : Type} {rel : Rel α β} {b : Bool} {m : M α} {st : Sto} {ρ : List Addr} {H : Hp} {Q : β -> Hp -> Prop} (h : Post rel Z W (gd b m st) ρ σ0 H Q) : b = true /\ Post rel Z W (m st) ρ σ0 H Q := by
  cases b with
  | true => exact ⟨rfl, h⟩
  | false => exact h.elim
theorem callOne {f : Value} {g : D -> M D} (h : ∀ (pins : List (Addr × Obj)) (s : Shared) (σ : L2.St) (H : Hp) (x : V) (us : List Value) (Q : VK) (ρ : List Addr) (st : Sto) (H0 : Hp) (ρ2 : List Addr) (st2 : Sto) (d : D) (F : List Addr), Inv X pins σ H s -> Vals [x] us -> SR Z ρ st H0 -> Now Z ρ H0 ρ2 st2 H F -> Rp Z ρ2 H d x F -> Post (Rp Z) Z W (g d st2) ρ σ0 H0 Q ->
    wpAny (model X.prog X.w) X.A (PySem.call f us) (EP X pins σ Q) X.xe s) : CallR X f (rL Z W σ0 (b1 g)) := by
  intro pins s σ H vs us Q I rv ⟨ρ, st, H0, ρ2, st2, ds, F, sr, n, r, q⟩
  match ds, r, q with
  | [], _, q => exact q.elim
  | [d], r, q =>
    obtain ⟨v, rfl, r1⟩ := one1 r
    exact h pins s σ H v us Q ρ st H0 ρ2 st2 d F I rv sr n r1 q
  | _ :: _ :: _, _, q => exact q.elim
theorem callTwo {f : Value} {g : D -> D -> M D} (h : ∀ (pins : List (Addr × Obj)) (s : Shared) (σ : L2.St) (H : Hp) (x y : V) (us : List Value) (Q : VK) (ρ : List Addr) (st : Sto) (H0 : Hp) (ρ2 : List Addr) (st2 : Sto) (d e : D) (F G : List Addr), Inv X pins σ H s -> Vals [x, y] us -> SR Z ρ st H0 -> Now Z ρ H0 ρ2 st2 H (F ++ G) -> Rp Z ρ2 H d x F -> Rp Z ρ2 H e y G -> Post (Rp Z) Z W (g d e st2) ρ σ0 H0 Q ->
    wpAny (model X.prog X.w) X.A (PySem.call f us) (EP X pins σ Q) X.xe s) : CallR X f (rL Z W σ0 (b2 g)) := by
  intro pins s σ H vs us Q I rv ⟨ρ, st, H0, ρ2, st2, ds, F, sr, n, r, q⟩
  match ds, r, q with
  | [], _, q => exact q.elim
  | [d], _, q => exact q.elim
  | [d, e], r, q =>
    obtain ⟨v, ws, F1, F2, rfl, r1, r2, rfl⟩ := r
    obtain ⟨u, rfl, r3⟩ := one1 r2
    exact h pins s σ H v u us Q ρ st H0 ρ2 st2 d e F1 F2 I rv sr n r1 r3 q
  | _ :: _ :: _ :: _, _, q => exact q.elim
theorem RpT.len {ρ : List Addr} {H : Hp} : ∀ {kvs : List (Ky × D)} {ws : List (List L2.Key × V)} {F : List Addr}, RpT Z ρ H kvs ws F -> kvs.length = ws.length
  | [], ws, F, r => by obtain ⟨rfl, _⟩ := r; rfl
  | (k, d) :: kvs, ws, F, r => by
    obtain ⟨j, v, ws', F1, F2, _, rfl, _, h2, _⟩ := r
    rw [List.length_cons, List.length_cons, RpT.len h2]
theorem bi_len (hK : X.K = Z.K) : CallR X (.builtin "len") (rL Z W σ0 (b1 fLen)) := callOne fun pins s σ H x us Q ρ st H0 ρ2 st2 d F I rv sr n r h => by
  unfold fLen at h
  split at h
  · obtain ⟨hz, h⟩ := gd_ok h
    obtain ⟨rfl, rfl⟩ := r
    exact call_len_str pins s σ H _ us Q I rv ⟨_, rfl, of_decide_eq_true hz, Post.ok h n ⟨rfl, rfl⟩⟩
  · split at h
    · rename_i xs hx
      obtain ⟨a, vs, G, rfl, ha, rs, sub⟩ := seqv_ok n.sr r hx
      exact call_len_seq pins s σ H _ us Q I rv ⟨a, vs, rfl, by rw [hK]; exact ha, by rw [<- rs.length]; exact Post.ok h (n.less (List.nil_sublist _)) ⟨rfl, rfl⟩⟩
    · split at h
      · rename_i kvs hd
        obtain ⟨a, G, rfl, hh, sub⟩ := dicv_ok n.sr r hd
        rcases hh with ⟨ws, ha, rk⟩ | ⟨ws, ha, rk⟩
        · have hlen : kvs.length = ws.length := by simpa using congrArg List.length rk.keysEq
          exact call_lenD pins s σ H _ us Q I rv ⟨a, ws, rfl, ha, by rw [<- hlen]; exact Post.ok h (n.less (List.nil_sublist _)) ⟨rfl, rfl⟩⟩
        · have hlen : kvs.length = ws.length := rk.len
          exact L2.call_len_dT pins s σ H _ us Q I rv ⟨a, ws, rfl, ha, by rw [<- hlen]; exact Post.ok h (n.less (List.nil_sublist _)) ⟨rfl, rfl⟩⟩
      · exact h.elim
theorem lseq_ok {ρ : List Addr} {H : Hp} {st : Sto} {d : D} {x : V} {F : List Addr} {xs : List D} (s : SR Z ρ st H) (r : Rp Z ρ H d x F) (e : seqv st d = some xs) (hnt : ∀ ys, d = .tup ys -> False) : ∃ a vs G, x = .ref a /\ SqL Z.K H a vs /\ Rps Z ρ H xs vs G /\ G.Sublist F := by
  cases d with
  | tup xs => exact (hnt xs rfl).elim
  | lst xs =>
    obtain ⟨b, vs2, G2, rfl, hb, rs, rfl⟩ := r
    cases e
    exact ⟨b, vs2, G2, rfl, SqL.of hb, rs, List.sublist_cons_self _ _⟩
  | ref l =>
    obtain ⟨b, hl, rfl, rfl⟩ := r
    simp only [seqv] at e
    split at e
    · rename_i hc
      cases e
      obtain ⟨ws, hw, rw'⟩ := s.list hl (.inl hc)
      exact ⟨b, ws, [], rfl, hw, rw', List.Sublist.refl _⟩
    · rename_i hc
      cases e
      obtain ⟨ws, hw, rw'⟩ := s.list hl (.inr hc)
      exact ⟨b, ws, [], rfl, hw, rw', List.Sublist.refl _⟩
    · cases e
  | _ => simp [seqv] at e
theorem lInt_ok {ρ : List Addr} {H : Hp} {st : Sto} {d : D} {x : V} {F : List Addr} {ns : List Int} (s : SR Z ρ st H) (r : Rp Z ρ H d x F) (e : lInt st d = some ns) : ∃ a, x = .ref a /\ SqL Z.K H a (ns.map V.int) := by
  unfold lInt at e
  split at e
  · rename_i xs hx
    split at e
    · cases e
    · rename_i hnt
      obtain ⟨a, vs, G, rfl, ha, rs, sub⟩ := lseq_ok s r hx hnt
      obtain ⟨rfl, _⟩ := ints_ok rs e
      exact ⟨a, rfl, ha⟩
  · cases e
theorem lBl_ok {ρ : List Addr} {H : Hp} {st : Sto} {d : D} {x : V} {F : List Addr} {ns : List Bool} (s : SR Z ρ st H) (r : Rp Z ρ H d x F) (e : lBl st d = some ns) : ∃ a, x = .ref a /\ SqL Z.K H a (ns.map V.bl) := by
  unfold lBl at e
  split at e
  · rename_i xs hx
    split at e
    · cases e
    · rename_i hnt
      obtain ⟨a, vs, G, rfl, ha, rs, sub⟩ := lseq_ok s r hx hnt
      obtain rfl := bls_ok rs e
      exact ⟨a, rfl, ha⟩
  · cases e
theorem bi_sum (hK : X.K = Z.K) (hc : X.calm = true) : CallR X (.builtin "sum") (rL Z W σ0 (b1 fSum)) := callOne fun pins s σ H x us Q ρ st H0 ρ2 st2 d F I rv sr n r h => by
  obtain ⟨ns, e, h⟩ := opt_ok h
  obtain ⟨a, rfl, ha⟩ := lInt_ok n.sr r e
  exact cr_sum hc pins s σ H _ us Q I rv ⟨a, ns, rfl, by rw [hK]; exact ha, Post.ret h (n.less (List.nil_sublist _)) ⟨rfl, rfl⟩⟩
theorem bi_all (hK : X.K = Z.K) (hc : X.calm = true) : CallR X (.builtin "all") (rL Z W σ0 (b1 fAll)) := callOne fun pins s σ H x us Q ρ st H0 ρ2 st2 d F I rv sr n r h => by
  obtain ⟨ns, e, h⟩ := opt_ok h
  obtain ⟨a, rfl, ha⟩ := lBl_ok n.sr r e
  exact cr_all hc pins s σ H _ us Q I rv ⟨a, ns, rfl, by rw [hK]; exact ha, Post.ret h (n.less (List.nil_sublist _)) ⟨rfl, rfl⟩⟩
theorem bi_min2 (hc : X.calm = true) : CallR X (.builtin "min") (rL Z W σ0 (b2 fMin2)) := callTwo fun pins s σ H x y us Q ρ st H0 ρ2 st2 d e F G I rv sr n r1 r2 h => by
  unfold fMin2 at h
  split at h
  · obtain ⟨rfl, rfl⟩ := r1
    obtain ⟨rfl, rfl⟩ := r2
    exact call_min2 hc pins s σ H _ us Q I rv ⟨_, _, rfl, Post.ret h n ⟨rfl, rfl⟩⟩
  · exact h.elim
theorem bi_max2 (hc : X.calm = true) : CallR X (.builtin "max") (rL Z W σ0 (b2 fMax2)) := callTwo fun pins s σ H x y us Q ρ st H0 ρ2 st2 d e F G I rv sr n r1 r2 h => by
  unfold fMax2 at h
  split at h
  · obtain ⟨rfl, rfl⟩ := r1
    obtain ⟨rfl, rfl⟩ := r2
    exact call_max2 hc pins s σ H _ us Q I rv ⟨_, _, rfl, Post.ret h n ⟨rfl, rfl⟩⟩
  · exact h.elim
theorem bi_tuple (hK : X.K = Z.K) : CallR X (.type "tuple") (rL Z W σ0 (b1 fTuple)) := callOne fun pins s σ H x us Q ρ st H0 ρ2 st2 d F I rv sr n r h => by
  obtain ⟨xs, e, h⟩ := opt_ok h
  obtain ⟨a, vs, G, rfl, ha, rs, sub⟩ := seqv_ok n.sr r e
  rcases ha with ha | ha
  · exact call_tuple_of pins s σ H _ us Q I rv ⟨a, vs, rfl, .inl ⟨by rw [hK]; exact ha, fun p hp => Post.ret h ((n.newS sr hp).less sub) ⟨p, vs, rfl, SqT.of upd_same, rps_up hp rs⟩⟩⟩
  · exact call_tuple_of pins s σ H _ us Q I rv ⟨a, vs, rfl, .inr ⟨by rw [hK]; exact ha, Post.ret h (n.less sub) ⟨a, vs, rfl, ha, rs⟩⟩⟩
theorem bi_list (hK : X.K = Z.K) : CallR X (.type "list") (rL Z W σ0 (b1 fList)) := callOne fun pins s σ H x us Q ρ st H0 ρ2 st2 d F I rv sr n r h => by
  obtain ⟨xs, e, h⟩ := opt_ok h
  obtain ⟨a, vs, G, rfl, ha, rs, sub⟩ := seqv_ok n.sr r e
  exact call_list_of pins s σ H _ us Q I rv ⟨a, vs, rfl, by rw [hK]; exact ha, fun p hp => Post.ret h ((n.new sr hp).less (List.cons_sublist_cons.mpr sub)) ⟨p, vs, G, rfl, upd_same, rps_up hp rs, rfl⟩⟩
def TL (K : PySem.W.Frag) (H : Hp) : List V -> List (List Int) -> Prop
  | [], [] => True
  | x :: xs, l :: ls => TupI K H x l /\ TL K H xs ls
  | _, _ => False
theorem tl_of {ρ : List Addr} {H : Hp} : ∀ {ds : List D} {vs : List V} {F : List Addr} {ls : List (List Int)}, Rps Z ρ H ds vs F -> optL tupI ds = some ls -> TL Z.K H vs ls
  | [], vs, F, ls, r, e => by obtain ⟨rfl, _⟩ := r; cases e; trivial
  | d :: ds, vs, F, ls, r, e => by
    obtain ⟨v, ws, F1, F2, rfl, r1, r2, _⟩ := r
    simp only [optL] at e
    cases d with
    | tup ys =>
      simp only [tupI] at e
      cases e1 : optL intv ys with
      | none => rw [e1] at e; cases e
      | some l =>
        rw [e1] at e
        cases e2 : optL tupI ds with
        | none => rw [e2] at e; cases e
        | some ms =>
          rw [e2] at e
          cases e
          obtain ⟨t, us, rfl, ht, rs⟩ := r1
          obtain ⟨rfl, _⟩ := ints_ok rs e1
          exact ⟨⟨t, rfl, ht⟩, tl_of r2 e2⟩
    | _ => simp [tupI] at e
theorem tl_rps {ρ : List Addr} {H : Hp} : ∀ {vs : List V} {ls : List (List Int)}, TL Z.K H vs ls -> Rps Z ρ H (ls.map fun l => D.tup (l.map D.int)) vs []
  | [], [], _ => ⟨rfl, rfl⟩
  | x :: xs, l :: ls, h => by
    obtain ⟨⟨t, rfl, ht⟩, h2⟩ := h
    exact ⟨.ref t, xs, [], [], rfl, ⟨t, _, rfl, ht, Rps.ofInts l⟩, tl_rps h2, rfl⟩
  | [], _ :: _, h => h.elim
  | _ :: _, [], h => h.elim
theorem tl_vals {pins : List (Addr × Obj)} {σ : L2.St} {H : Hp} {s : Shared} (I : Inv X pins σ H s) : ∀ (vs : List V) (us : List Value) (ls : List (List Int)), Vals vs us -> TL X.K H vs ls -> us.map (TS.intsOf s.heap) = ls /\ ∀ u ∈ us, TS.TupInts s.heap u (TS.intsOf s.heap u) /\ TupI X.K H (bkV u) (TS.intsOf s.heap u) := by
  intro vs
  induction vs with
  | nil =>
    intro us ls r h
    cases ls with
    | nil =>
      cases r
      exact ⟨rfl, fun u hu => by simp at hu⟩
    | cons _ _ => exact h.elim
  | cons x xs ih =>
    intro us ls r h
    cases ls with
    | nil => exact h.elim
    | cons l ls =>
      cases r with
      | cons r t =>
        obtain ⟨⟨a, rfl, ha⟩, h2⟩ := h
        cases r
        have hr := tupI_raw I ha
        have hi := hr.ints
        obtain ⟨h3, h4⟩ := ih _ ls t h2
        refine ⟨by rw [List.map_cons, hi, h3], ?_⟩
        intro z hz
        rcases List.mem_cons.1 hz with rfl | hz
        · rw [hi]
          exact ⟨hr, a, rfl, ha⟩
        · exact h4 z hz
theorem tl_map {K : PySem.W.Frag} {H : Hp} {k : Value -> List Int} : ∀ {us : List Value}, (∀ u ∈ us, TupI K H (bkV u) (k u)) -> TL K H (us.map bkV) (us.map k)
  | [], _ => trivial
  | u :: us, h => ⟨h u List.mem_cons_self, tl_map fun z hz => h z (List.mem_cons_of_mem _ hz)⟩
theorem cr_sortL (hu : X.A.units + 64 < cLine) : CallR X (.builtin "sorted") (fun vs H Q => ∃ (a : Addr) (xs : List V) (ls : List (List Int)), vs = [V.ref a] /\ SqL X.K H a xs /\ TL X.K H xs ls /\ ∀ (ys : List V) (p : Addr), TL X.K H ys (sortL ls) -> H p = none -> Q (.ref p) (upd H p (.lst ys))) := by
  intro pins s σ H vs us Q I r h
  obtain ⟨a, xs, ls, rfl, hs, ht, q⟩ := h
  obtain ⟨its, rv, hl, hz⟩ := I.list hs
  rw [Vals.ref1 r]
  obtain ⟨e1, e2⟩ := tl_vals I _ _ _ rv ht
  refine SrtO.sorted_ord (swo_lexL (TS.intsOf s.heap)) hl.isList (by rw [<- rv.length]; exact hz) (fun h2 h₁ a' ha' kk => ?_) fun out h1 h2 => ?_
  · refine tups_sortableE (s := { s with heap := h₁ }) (by omega) (by show X.A.units + 1 + 1 < _; omega) (fun v hm => (e2 v hm).1.keeps fun b o e _ => (kk b o e).2) fun o e => ?_
    have e' : some o = some (seqObj "list" its.toArray 0) := e.symm.trans ha'
    cases e'
    intro c
    exact absurd (Value.type.inj c) (by decide)
  · obtain ⟨ep, he'⟩ := PyProof.Rows.sortedAll_at s.heap its out.toArray
    have hso : out.map (TS.intsOf s.heap) = sortL ls := by
      refine (List.Perm.eq_of_pairwise (le := lexLe) (fun a b _ _ h1 h2 => (lex_tri h1 h2).symm) (sortL_sorted ls) ?_ ?_).symm
      · rw [List.pairwise_map]
        exact h1
      · refine (sortL_perm ls).trans ?_
        rw [<- e1]
        exact (h2.perm.map _).symm
    have hr : ∀ u ∈ out, TupI X.K H (bkV u) (TS.intsOf s.heap u) := fun u hu => (e2 u (h2.perm.mem_iff.1 hu)).2
    have hrf : ∀ u ∈ out, ∃ a, u = Value.ref a := fun u hu => by
      obtain ⟨t, et, _⟩ := hr u hu
      exact ⟨t, bkV_ref et⟩
    have hlen : (out.map bkV).length <= sizeLine := by
      rw [List.length_map, h2.len, <- rv.length]; exact hz
    refine ⟨.ref _, upd H (s.heap.objs.size + 1) (.lst (out.map bkV)), I.laid (t' := s.toks) (fun _ _ => PyProof.Rows.sortedAll_old) (Nat.le_succ _) ⟨hlen, out, ep, bkV_vals hrf, he'⟩, rfl, q _ _ ?_ (I.hok.fresh (Nat.le_succ _))⟩
    rw [<- hso]
    exact tl_map hr
theorem keysI_ok {ρ : List Addr} {H : Hp} : ∀ {kvs : List (Ky × D)} {ns : List Int} {ws : List (L2.Key × V)} {G : List Addr}, optL keyI kvs = some ns -> RpK Z ρ H kvs ws G -> ws.map (·.1) = ns.map Sum.inl
  | [], ns, ws, G, e, r => by
    cases e
    obtain ⟨rfl, _⟩ := r
    rfl
  | (k, d) :: kvs, ns, ws, G, e, r => by
    obtain ⟨j, v, ws', F1, F2, rfl, rfl, _, r2, rfl⟩ := r
    cases j with
    | inr t => simp [optL, keyI] at e
    | inl i =>
      simp only [optL, keyI] at e
      split at e
      · rename_i ms e2
        cases e
        have := keysI_ok e2 r2
        simp [this]
      · cases e
theorem keysI_oks {i : Int} : ∀ {kvs : List (Ky × D)} {ns : List Int}, optL keyI kvs = some ns -> okKeys (.k (.inl i)) kvs = true
  | [], ns, e => rfl
  | (k, d) :: kvs, ns, e => by
    cases k with
    | t as => simp [optL, keyI] at e
    | k j =>
      cases j with
      | inr t => simp [optL, keyI] at e
      | inl i' =>
        simp only [optL, keyI] at e
        split at e
        · rename_i ms e2
          have := keysI_oks (i := i) e2
          simp only [okKeys, List.all_cons, kyK, beq_self_eq_true, Bool.true_and] at this ⊢
          exact this
        · cases e
theorem bi_sorted (hK : X.K = Z.K) (hcm : X.calm = true) (hu : X.A.units + 64 < cLine) : CallR X (.builtin "sorted") (rL Z W σ0 (b1 fSorted)) := callOne fun pins s σ H x us Q ρ st H0 ρ2 st2 d F I rv sr n r h => by
  unfold fSorted at h
  split at h
  · rename_i ns e
    obtain ⟨a, rfl, ha⟩ := lInt_ok n.sr r e
    refine cr_sortedI pins s σ H _ us Q I rv ⟨a, ns, rfl, by rw [hK]; exact ha, fun ns' p pm hs hp => ?_⟩
    obtain rfl := sorted_eq (pm.trans (sortI_perm ns).symm) hs (sortI_sorted ns)
    exact Post.ok h ((n.new sr hp).less (List.cons_sublist_cons.mpr (List.nil_sublist _))) ⟨p, _, [], rfl, upd_same, Rps.ofInts _, rfl⟩
  · split at h
    · rename_i ls e
      unfold lTups at e
      split at e
      · rename_i xs hx
        split at e
        · cases e
        · rename_i hnt
          obtain ⟨a, ts, G, rfl, ha, rs, _⟩ := lseq_ok n.sr r hx (fun ys q => hnt ys q)
          have ht := tl_of rs e
          rw [<- hK] at ha ht
          refine cr_sortL hu pins s σ H _ us Q I rv ⟨a, ts, ls, rfl, ha, ht, fun ys p ty hp => ?_⟩
          rw [hK] at ty
          exact Post.ok h ((n.new sr hp).less (List.cons_sublist_cons.mpr (List.nil_sublist _))) ⟨p, ys, [], rfl, upd_same, rps_up hp (tl_rps ty), rfl⟩
      · cases e
    · split at h
      · rename_i ns e
        obtain ⟨hz, h⟩ := gd_ok h
        unfold dInts at e
        split at e
        · rename_i kvs hk
          have hz := of_decide_eq_true hz
          obtain ⟨H', a, ws, G, rfl, I', n', ha, rk, hs, _, _⟩ := dK_now I sr n (fun b hb => hb) r hk (keysI_oks (i := 0) e)
          refine call_sortedDI hcm pins s σ H' _ us Q I' rv ⟨a, ws, ns, rfl, Rd.of ha, keysI_ok e rk, hz, fun ns' p pm hs2 hp => ?_⟩
          obtain rfl := sorted_eq (pm.trans (sortI_perm ns).symm) hs2 (sortI_sorted ns)
          exact Post.ret h ((n'.new sr hp).less (List.cons_sublist_cons.mpr (List.nil_sublist _))) ⟨p, _, [], rfl, upd_same, Rps.ofInts _, rfl⟩
        · cases e
      · split at h
        · rename_i ns e
          cases d with
          | tup ys =>
            obtain ⟨t, ts, rfl, ht, rs⟩ := r
            obtain ⟨rfl, _⟩ := ints_ok rs e
            rw [<- hK] at ht
            refine cr_sortedIT pins s σ H _ us Q I rv ⟨t, ns, rfl, ht, fun ns' p pm hs2 hp => ?_⟩
            obtain rfl := sorted_eq (pm.trans (sortI_perm ns).symm) hs2 (sortI_sorted ns)
            exact Post.ok h ((n.new sr hp).less (List.cons_sublist_cons.mpr (List.nil_sublist _))) ⟨p, _, [], rfl, upd_same, Rps.ofInts _, rfl⟩
          | _ => simp [tupI] at e
        · exact h.elim
theorem se_bi {b : Bi} (hc : ∀ σ, CallR X (.builtin id) (rL Z W σ (biD T b))) (hg : Gl X x) (hm : X.mg x = none) (hv : bootBuiltins x = some (.builtin id)) (ha : PA X (e :: es) (iEs T Z W As)) (hn : x ≠ "__name__" := by decide) (hdb : (x == ("__debug__" : Str)) = false := by decide)
    (he : starEach (e :: es) X.env = (false, eval e X.env) :: starEach es X.env := by rfl) (hpl : (backTo pos (starEach es X.env)).any (·.1) = false := by rfl) : PE X (.Call (.Name x p) (e :: es) [] pos) (iE T Z W (.bi b As)) :=
  ⟨fun pins s σ H Q I q => by
    refine (pe_callB (hc σ) hg hm hv ha hn hdb he hpl).run pins s σ H Q I ?_
    obtain ⟨ρ, env, st, er, sr, h⟩ := q
    simp only [ev] at h
    refine ⟨ρ, env, st, er, sr, (Post.seq rpsOk (Now.start sr) sr h).mono ?_⟩
    rintro vs H1 ⟨ρ1, ds, st1, F1, n1, t1, r1, h1⟩
    exact ⟨ρ, st, H, ρ1, st1, ds, F1, sr, n1, r1, h1⟩⟩
theorem se_bt {b : Bi} {Ty : String} (hc : ∀ σ, CallR X (.type Ty) (rL Z W σ (biD T b))) (hg : Gl X x) (hm : X.mg x = none) (hv : bootBuiltins x = some (.type Ty)) (ha : PA X (e :: es) (iEs T Z W As)) (hn : x ≠ "__name__" := by decide) (hdb : (x == ("__debug__" : Str)) = false := by decide)
    (he : starEach (e :: es) X.env = (false, eval e X.env) :: starEach es X.env := by rfl) (hpl : (backTo pos (starEach es X.env)).any (·.1) = false := by rfl) : PE X (.Call (.Name x p) (e :: es) [] pos) (iE T Z W (.bi b As)) :=
  ⟨fun pins s σ H Q I q => by
    refine (pe_callTy (hc σ) hg hm hv ha hn hdb he hpl).run pins s σ H Q I ?_
    obtain ⟨ρ, env, st, er, sr, h⟩ := q
    simp only [ev] at h
    refine ⟨ρ, env, st, er, sr, (Post.seq rpsOk (Now.start sr) sr h).mono ?_⟩
    rintro vs H1 ⟨ρ1, ds, st1, F1, n1, t1, r1, h1⟩
    exact ⟨ρ, st, H, ρ1, st1, ds, F1, sr, n1, r1, h1⟩⟩
def tyNs : List String := ["NoneType", "bool", "int", "str", "tuple", "list", "dict"]
def exT (t u : String) : Bool := if u = "NoneType" then false else if u = "bool" then t == "bool" || t == "int" else t == u
def okT (t : String) : Bool := tyNs.all fun u => kitB u t == some (exT t u)
theorem okT_int : okT "int" = true := by decide +kernel
theorem okT_bool : okT "bool" = true := by decide +kernel
theorem okT_tuple : okT "tuple" = true := by decide +kernel
theorem isTy_ok {ρ : List Addr} {H : Hp} {st : Sto} {d : D} {v : V} {F : List Addr} {t : String} {c : Bool} (s : SR Z ρ st H) (r : Rp Z ρ H d v F) (e : isTy st t d = some c) : ∃ u ∈ tyNs, TyX Z.K H v (.type u) /\ c = exT t u := by
  have list : ∀ {a vs}, SqL Z.K H a vs -> TyX Z.K H (.ref a) (.type "list") := fun {a vs} h => by
    rcases h with h | ⟨o, its, n, ho, hc, _⟩
    · rcases h with h | ⟨o, h⟩
      · exact .base (.lst h)
      · exact .base (.frz h)
    · exact .kList ho hc
  cases d with
  | non => obtain ⟨rfl, _⟩ := r; cases e; exact ⟨"NoneType", by decide, .base .non, rfl⟩
  | bl b => obtain ⟨rfl, _⟩ := r; cases e; exact ⟨"bool", by decide, .base (.bl b), rfl⟩
  | int b => obtain ⟨rfl, _⟩ := r; cases e; exact ⟨"int", by decide, .base (.int b), rfl⟩
  | str b => obtain ⟨rfl, _⟩ := r; cases e; exact ⟨"str", by decide, .base (.str b), rfl⟩
  | tup ds =>
    obtain ⟨a, vs, rfl, h, _⟩ := r
    cases e
    refine ⟨"tuple", by decide, ?_, rfl⟩
    rcases h with h | ⟨o, its, n, ho, hc, _⟩
    · rcases h with h | ⟨o, h⟩
      · exact .base (.tup h)
      · exact .fTuple h
    · exact .kTuple ho hc
  | lst ds => obtain ⟨a, vs, G, rfl, h, _⟩ := r; cases e; exact ⟨"list", by decide, .base (.lst h), rfl⟩
  | dic ds =>
    obtain ⟨a, G, rfl, _, h⟩ := r
    cases e
    rcases h with ⟨ws, h, _⟩ | ⟨ws, h, _⟩
    · exact ⟨"dict", by decide, .base (.dK h), rfl⟩
    · exact ⟨"dict", by decide, .base (.dT h), rfl⟩
  | ref l =>
    obtain ⟨a, hl, rfl, _⟩ := r
    simp only [isTy] at e
    split at e
    · rename_i xs hc
      cases e
      obtain ⟨vs, hv, _⟩ := s.list hl (.inl hc)
      exact ⟨"list", by decide, list hv, rfl⟩
    · rename_i xs hc
      cases e
      obtain ⟨vs, hv, _⟩ := s.list hl (.inr hc)
      exact ⟨"list", by decide, list hv, rfl⟩
    · rename_i xs hc
      cases e
      obtain ⟨b, G, z, _, h⟩ := s.cell l _ a hc hl
      cases z
      rcases h with ⟨ws, h, _⟩ | ⟨ws, h, _⟩
      · exact ⟨"dict", by decide, .base (.dK h), rfl⟩
      · exact ⟨"dict", by decide, .base (.dT h), rfl⟩
    · cases e
  | _ => simp [isTy] at e
theorem se_isT {t : String} {A : Ex} {p2 : Pos} (hK : X.K = Z.K) (ht : okT t = true) (hg : Gl X "isinstance") (hm : X.mg "isinstance" = none) (hgt : Gl X (Str.ofString t)) (hmt : X.mg (Str.ofString t) = none) (hvt : bootBuiltins (Str.ofString t) = some (.type t)) (ha : PE X e (iE T Z W A))
    (hn : Str.ofString t ≠ "__name__") (hdb : (Str.ofString t == ("__debug__" : Str)) = false)
    (he : starEach [e, .Name (Str.ofString t) p2] X.env = (false, eval e X.env) :: starEach [.Name (Str.ofString t) p2] X.env) (he2 : starEach [.Name (Str.ofString t) p2] X.env = (false, eval (.Name (Str.ofString t) p2) X.env) :: starEach [] X.env)
    (hpl : (backTo pos (starEach [.Name (Str.ofString t) p2] X.env)).any (·.1) = false) :
    PE X (.Call (.Name "isinstance" p) [e, .Name (Str.ofString t) p2] [] pos) (iE T Z W (.bi (.isT t) [A])) :=
  ⟨fun pins s σ H Q I q => by
    refine (pe_callB (call_isi (X := X)) hg hm (by decide +kernel) (pa_cons ha (pa_cons (pe_bltn (v := .ty t) hgt hmt hvt rfl hn hdb) pa_nil he2) he) (by decide) (by decide) he hpl).run pins s σ H Q I ?_
    obtain ⟨ρ, env, st, er, sr, h⟩ := q
    simp only [ev] at h
    refine ⟨ρ, env, st, er, sr, (Post.seq rpOk (Now.start sr) sr (evs_one h)).mono ?_⟩
    rintro x H1 ⟨ρ1, d, st1, F1, n1, t1, r1, h1⟩
    have h2 : Post (Rp Z) Z W (opt (isTy st1 t d) (fun c => ret (D.bl c)) st1) ρ σ H Q := h1
    obtain ⟨c, ec, h1⟩ := opt_ok h2
    obtain ⟨u, hu, ty, rfl⟩ := isTy_ok n1.sr r1 ec
    have hk : kitB u t = some (exT t u) := by
      have := List.all_eq_true.mp ht u hu
      exact eq_of_beq this
    refine ⟨x, .ty t, .type u, .type t, exT t u, rfl, .ty t, by rw [hK]; exact ty, kit_ty hk, ?_⟩
    exact Post.ret h1 (n1.less (List.nil_sublist _)) ⟨rfl, rfl⟩⟩
theorem rg_rps {ρ : List Addr} {H : Hp} (a b : Int) : Rps Z ρ H (rngN a 1 (b - a).toNat) (rgV a b) [] := by
  unfold rngN rgV
  generalize (b - a).toNat = n
  have go : ∀ l : List Nat, Rps Z ρ H (l.map fun (i : Nat) => D.int (a + (i : Int) * 1)) (l.map fun i => V.int (a + (i : Nat))) [] := by
    intro l
    induction l with
    | nil => exact ⟨rfl, rfl⟩
    | cons i l ih => exact ⟨_, _, [], [], rfl, ⟨by simp, rfl⟩, ih, rfl⟩
  exact go _
theorem se_lrng1 {a : Expr} {A : Ex} {p1 pos1 : Pos} (hc : X.calm = true) (hg : Gl X "list") (hm : X.mg "list" = none) (hg2 : Gl X "range") (hm2 : X.mg "range" = none) (ha : PE X a (iE T Z W A)) (na : starEach [a] X.env = (false, eval a X.env) :: starEach [] X.env)
    (nb : starEach [.Call (.Name "range" p1) [a] [] pos1] X.env = (false, eval (.Call (.Name "range" p1) [a] [] pos1) X.env) :: starEach [] X.env) :
    PE X (.Call (.Name "list" p) [.Call (.Name "range" p1) [a] [] pos1] [] pos) (iE T Z W (.bi .lrng [A])) :=
  ⟨fun pins s σ H Q I q => by
    refine (pe_listRg hc hg hm (prg_1 hg2 hm2 ha na) nb).run pins s σ H Q I ?_
    obtain ⟨ρ, env, st, er, sr, h⟩ := q
    simp only [ev] at h
    refine ⟨ρ, env, st, er, sr, (Post.seq rpOk (Now.start sr) sr (evs_one h)).mono ?_⟩
    rintro x H1 ⟨ρ1, d, st1, F1, n1, t1, r1, h1⟩
    cases d with
    | int i =>
      obtain ⟨rfl, rfl⟩ := r1
      have h2 : Post (Rp Z) Z W (gd (rgOk 0 i) (ret (D.lst (rngN 0 1 i.toNat))) st1) ρ σ H Q := h1
      obtain ⟨hz, h1⟩ := gd_ok h2
      unfold rgOk at hz
      refine ⟨i, rfl, by unfold RgOk; exact of_decide_eq_true hz, fun p hp => ?_⟩
      have rr := rg_rps (Z := Z) (ρ := ρ1) (H := H1) 0 i
      rw [Int.sub_zero] at rr
      exact Post.ret h1 (n1.new sr hp) ⟨p, _, [], rfl, upd_same, rps_up hp rr, rfl⟩
    | _ => exact h1.elim⟩
theorem se_trng1 {a : Expr} {A : Ex} {p1 pos1 : Pos} (hc : X.calm = true) (hg : Gl X "tuple") (hm : X.mg "tuple" = none) (hg2 : Gl X "range") (hm2 : X.mg "range" = none) (ha : PE X a (iE T Z W A)) (na : starEach [a] X.env = (false, eval a X.env) :: starEach [] X.env)
    (nb : starEach [.Call (.Name "range" p1) [a] [] pos1] X.env = (false, eval (.Call (.Name "range" p1) [a] [] pos1) X.env) :: starEach [] X.env) :
    PE X (.Call (.Name "tuple" p) [.Call (.Name "range" p1) [a] [] pos1] [] pos) (iE T Z W (.bi .trng [A])) :=
  ⟨fun pins s σ H Q I q => by
    refine (pe_tupRg hc hg hm (prg_1 hg2 hm2 ha na) nb).run pins s σ H Q I ?_
    obtain ⟨ρ, env, st, er, sr, h⟩ := q
    simp only [ev] at h
    refine ⟨ρ, env, st, er, sr, (Post.seq rpOk (Now.start sr) sr (evs_one h)).mono ?_⟩
    rintro x H1 ⟨ρ1, d, st1, F1, n1, t1, r1, h1⟩
    cases d with
    | int i =>
      obtain ⟨rfl, rfl⟩ := r1
      have h2 : Post (Rp Z) Z W (gd (rgOk 0 i) (ret (D.tup (rngN 0 1 i.toNat))) st1) ρ σ H Q := h1
      obtain ⟨hz, h1⟩ := gd_ok h2
      unfold rgOk at hz
      refine ⟨i, rfl, by unfold RgOk; exact of_decide_eq_true hz, fun p hp => ?_⟩
      have rr := rg_rps (Z := Z) (ρ := ρ1) (H := H1) 0 i
      rw [Int.sub_zero] at rr
      exact Post.ret h1 (n1.newS sr hp) ⟨p, _, rfl, SqT.of upd_same, rps_up hp rr⟩
    | _ => exact h1.elim⟩
end
end Fs
namespace Fs
open PySem L2 PyProof.Rows PySem.Spec
def rM (Z : Wc) (W : WX) (σ : L2.St) (m : Me) (k : Nat) : V -> List V -> Hp -> VK -> Prop := fun x xs H2 Q => ∃ ρ st H ρ2 st2 d ds F G, SR Z ρ st H /\ Now Z ρ H ρ2 st2 H2 (F ++ G) /\ Rp Z ρ2 H2 d x F /\ Rps Z ρ2 H2 ds xs G /\ kndD st2 d = k /\ Post (Rp Z) Z W (meD m d ds st2) ρ σ H Q
def kT : Nat -> String
  | 1 => "str" | 2 => "int" | 3 => "tuple" | 4 => "list" | 5 => "dict" | _ => ""
def MeK (X : L2.Cx) (Z : Wc) (m : Me) (name : Str) (k : Nat) : Prop := (k = 2 ∨ k = 4 ∨ k = 5) /\ ∃ id, PlainAttrs (kT k) /\ Slot (kT k) name id /\ typeOf (.builtin id) = pure (.type "method_descriptor") /\ ∀ W σ, MtR X id (rM Z W σ m k)
section
variable {X : L2.Cx} {T : Tbl} {Z : Wc} {W : WX} {σ0 : L2.St} {e o : Expr} {es : List Expr} {A : Ex} {As : List Ex} {apos cpos pos p : Pos} {name : Str}
theorem knd_ty {ρ : List Addr} {H : Hp} {st : Sto} {d : D} {x : V} {F : List Addr} {k : Nat} (hK : X.K = Z.K) (s : SR Z ρ st H) (r : Rp Z ρ H d x F) (e : kndD st d = k) (hk : k = 2 ∨ k = 4 ∨ k = 5) : tyV X.K (kT k) x H := by
  cases d with
  | int i => obtain ⟨rfl, _⟩ := r; cases e; rfl
  | lst ds => obtain ⟨a, vs, G, rfl, h, _⟩ := r; cases e; exact .inl ⟨rfl, vs, SqL.of h⟩
  | dic ds =>
    obtain ⟨a, G, rfl, _, h⟩ := r
    cases e
    refine .inr (.inr (.inl ⟨rfl, ?_⟩))
    rcases h with ⟨ws, h, _⟩ | ⟨ws, h, _⟩
    · exact .inl ⟨ws, h⟩
    · exact .inr ⟨ws, h⟩
  | ref l =>
    obtain ⟨a, hl, rfl, _⟩ := r
    simp only [kndD] at e
    split at e
    · rename_i xs hc
      subst e
      obtain ⟨vs, hv, _⟩ := s.list hl (.inl hc)
      exact .inl ⟨rfl, vs, by rw [hK]; exact hv⟩
    · rename_i xs hc
      subst e
      obtain ⟨vs, hv, _⟩ := s.list hl (.inr hc)
      exact .inl ⟨rfl, vs, by rw [hK]; exact hv⟩
    · rename_i xs hc
      subst e
      obtain ⟨b, G, z, _, h⟩ := s.cell l _ a hc hl
      cases z
      refine .inr (.inr (.inl ⟨rfl, ?_⟩))
      rcases h with ⟨ws, h, _⟩ | ⟨ws, h, _⟩
      · exact .inl ⟨ws, h⟩
      · exact .inr ⟨ws, h⟩
    · subst e; simp at hk
  | _ => subst e; simp [kndD] at hk
theorem me_pre {m : Me} {σ : L2.St} {H : Hp} {Q : VK} (h : iE T Z W (.me m A As) σ H Q) : iE T Z W A σ H (fun x H1 => ∃ ρ st ρ1 st1 d F env, ER Z ρ H env σ /\ SR Z ρ st H /\ Now Z ρ H ρ1 st1 H1 F /\ Rp Z ρ1 H1 d x F /\ ER Z ρ1 H1 env σ /\ meK m (kndD st1 d) = true /\
    Post (Rp Z) Z W (bnd (evs T As env) (fun ds => fun st2 => gd (kndD st1 d == kndD st2 d) (meD m d ds) st2) st1) ρ σ H Q) := by
  obtain ⟨ρ, env, st, er, sr, h⟩ := h
  simp only [ev] at h
  refine ⟨ρ, env, st, er, sr, (Post.seq rpOk (Now.start sr) sr h).mono ?_⟩
  rintro x H1 ⟨ρ1, d, st1, F1, n1, t1, r1, h1⟩
  obtain ⟨hk, h1⟩ := gd_ok h1
  exact ⟨ρ, st, ρ1, st1, d, F1, env, er, sr, n1, r1, t1.env sr er, hk, h1⟩
theorem se_me {m : Me} (hK : X.K = Z.K) (hm : ∀ k, meK m k = true -> MeK X Z m name k) (ho : PE X o (iE T Z W A)) (ha : PA X (e :: es) (iEs T Z W As))
    (hbase : attributeBase o name X.env (eval o X.env) = eval o X.env := by rfl)
    (hfew : ((backTo cpos (starEach (e :: es) X.env)).all (fun x => !x.1) && (backToKw cpos (keywordEach [] X.env)).all (fun x => x.1.isSome)
      && decide ((e :: es).length + ([] : List Keyword).length + (if ([] : List Keyword).isEmpty then 0 else 1) < 30)) = true := by rfl)
    (hline : (apos.endLine == cpos.line) = true := by rfl) (hs : starEach (e :: es) X.env = (false, eval e X.env) :: starEach es X.env := by rfl) (hplain : (backTo cpos (starEach es X.env)).any (·.1) = false := by rfl) :
    PE X (.Call (.Attribute o name apos) (e :: es) [] cpos) (iE T Z W (.me m A As)) := by
  refine ⟨fun pins s σ H Q I h => ?_⟩
  refine wpAny_Call_method_late hbase hfew hline rfl (thn (ho.run pins s σ H _ I (me_pre h)) fun v s1 ⟨x, H1, I1, r1, ρ, st, ρ1, st1, d, F, env, er, sr, n, rd, er1, hk, q⟩ => ?_)
  obtain ⟨hk3, id, pa, slot, hty, mt⟩ := hm _ hk
  obtain ⟨h1, h2⟩ := tyV_is I1 r1 (knd_ty hK n.sr rd rfl hk3)
  refine ⟨kT (kndD st1 d), id, pa, slot, hty, h1, h2, ?_⟩
  have q' := Post.seq rpsOk n sr q
  have hA := ha.run cpos pins s1 σ H1 (fun us H2 => rM Z W σ m (kndD st1 d) x us H2 Q) I1 ⟨ρ1, env, st1, er1, n.sr, q'.mono fun us H2 ⟨ρ2, ds, st2, G, n2, t2, r2, h2⟩ => ?_⟩
  · rw [hs] at hA ⊢
    refine Calls.callWith_builtin (by show (false || (backTo cpos (starEach es X.env)).any (·.1)) = false; rw [hplain] <;> rfl) (Calls.evalArgs_plain ?_)
    exact thn hA fun us s2 ⟨vs, H2, I2, r2, q2⟩ => mt W σ pins s2 σ H2 x vs v us Q I2 r1 r2 q2
  · obtain ⟨hk2, h2⟩ := gd_ok h2
    exact ⟨ρ, st, H, ρ2, st2, d, ds, F, G, sr, n2, t2.val n.sr n.out rd, r2, (eq_of_beq hk2).symm, h2⟩
theorem mOne {m : Me} {k : Nat} {id : String} {g : D -> D -> M D} (hg : ∀ st o ds, kndD st o = k -> meD m o ds st = b1 (g o) ds st) (h : ∀ (W : WX) (σ0 : L2.St) (pins : List (Addr × Obj)) (s : Shared) (σ : L2.St) (H : Hp) (x y : V) (v : Value) (us : List Value) (Q : VK) (ρ : List Addr) (st : Sto) (H0 : Hp) (ρ2 : List Addr) (st2 : Sto) (d e : D) (F G : List Addr),
    Inv X pins σ H s -> RelV x v -> Vals [y] us -> SR Z ρ st H0 -> Now Z ρ H0 ρ2 st2 H (F ++ G) -> Rp Z ρ2 H d x F -> Rp Z ρ2 H e y G -> kndD st2 d = k -> Post (Rp Z) Z W (g d e st2) ρ σ0 H0 Q -> wpAny (model X.prog X.w) X.A (PySem.call (.builtin id) (v :: us)) (EP X pins σ Q) X.xe s) (W : WX) (σ0 : L2.St) : MtR X id (rM Z W σ0 m k) := by
  intro pins s σ H x xs v us Q I rx rv ⟨ρ, st, H0, ρ2, st2, d, ds, F, G, sr, n, r1, r2, hk, q⟩
  rw [hg st2 d ds hk] at q
  match ds, r2, q with
  | [], _, q => exact q.elim
  | [e], r2, q =>
    obtain ⟨y, rfl, r3⟩ := one1 r2
    exact h W σ0 pins s σ H x y v us Q ρ st H0 ρ2 st2 d e F G I rx rv sr n r1 r3 hk q
  | _ :: _ :: _, _, q => exact q.elim
theorem lcell_ok {ρ ρ2 : List Addr} {st2 : Sto} {H H0 : Hp} {d : D} {x : V} {F G : List Addr} {Q : VK} {f : Nat -> List D -> M D} (n : Now Z ρ H0 ρ2 st2 H (F ++ G)) (r : Rp Z ρ2 H d x F) (h : Post (Rp Z) Z W (lcell st2 f d st2) ρ σ0 H0 Q) :
    ∃ l a xs vs, d = .ref l /\ x = .ref a /\ F = [] /\ ρ2[l]? = some a /\ st2[l]? = some (.lst xs) /\ H a = some (.lst vs) /\ Rps Z ρ2 H xs vs [] /\ Post (Rp Z) Z W (f l xs st2) ρ σ0 H0 Q := by
  cases d with
  | ref l =>
    obtain ⟨a, hl, rfl, rfl⟩ := r
    cases hc : st2[l]? with
    | none => simp only [lcell, hc] at h; exact h.elim
    | some c => cases c with
      | lst xs =>
        simp only [lcell, hc] at h
        obtain ⟨b, vs, G2, z, ha, rs, f⟩ := n.sr.cell l _ a hc hl
        cases z
        obtain rfl : G2 = [] := by injection f with _ f; exact f.symm
        exact ⟨l, a, xs, vs, rfl, rfl, rfl, hl, hc, ha, rs, h⟩
      | _ => simp only [lcell, hc] at h; exact h.elim
  | _ => exact h.elim
theorem Rps.dropLast {ρ : List Addr} {H : Hp} {xs : List D} {vs : List V} (r : Rps Z ρ H xs vs []) : Rps Z ρ H xs.dropLast vs.dropLast [] := by
  obtain ⟨G, a, b⟩ := r.take (xs.length - 1)
  obtain rfl := List.sublist_nil.mp b
  rw [List.dropLast_eq_take, List.dropLast_eq_take, <- r.length]
  exact a
theorem Rps.erase {ρ : List Addr} {H : Hp} : ∀ {xs : List D} {vs : List V} (j : Nat), Rps Z ρ H xs vs [] -> Rps Z ρ H (xs.eraseIdx j) (vs.eraseIdx j) []
  | [], vs, j, h => by obtain ⟨rfl, _⟩ := h; simp [Rps]
  | x :: xs, vs, j, h => by
    obtain ⟨v1, ws, F1, F2, rfl, q1, q2, f⟩ := h
    obtain ⟨rfl, rfl⟩ := List.append_eq_nil_iff.mp f.symm
    cases j with
    | zero => exact q2
    | succ j => exact ⟨v1, ws.eraseIdx j, [], [], rfl, q1, q2.erase j, rfl⟩
theorem k_append : ∀ k, meK .append k = true -> MeK X Z .append "append" k := fun k hk => by
  obtain rfl : k = 4 := by simpa [meK] using hk
  refine ⟨.inr (.inl rfl), "list.append", PySem.F.plainAttrs_list, PySem.F.slot_list_append, PySem.F.type_list_append, mOne (g := mAppend) (fun _ _ _ _ => rfl) ?_⟩
  intro W σ0 pins s σ H x y v us Q ρ st H0 ρ2 st2 d e F G I rx rv sr n r1 r2 hk h
  obtain ⟨l, a, xs, vs, rfl, rfl, rfl, hl, hc, ha, rs, h⟩ := lcell_ok n r1 h
  obtain ⟨hz, h⟩ := gd_ok h
  obtain ⟨N, pm, s', q⟩ := land_ok e n.sr r2 (fun b hb => n.out b (by simpa using hb)) (by simpa using n.nd)
  have n' : Now Z ρ H0 ρ2 st2 H ([] ++ G) := n
  have nl := n'.landed (N := N) pm s'
  refine mt_append pins s σ H _ _ v us Q I rx rv ⟨a, vs, y, rfl, rfl, ha, by rw [<- rs.length]; exact of_decide_eq_true hz, ?_⟩
  have hl' := get_append (N := N) l a hl
  exact Post.ok h (nl.wr sr hl' rfl ⟨a, vs ++ [y], [], rfl, upd_same, Rps.updF ha rfl (by simp) (Rps.append (F := []) (G := []) rs.wide ⟨y, [], [], [], rfl, q, ⟨rfl, rfl⟩, rfl⟩), rfl⟩) ⟨rfl, rfl⟩
theorem dcell_ok {ρ ρ2 : List Addr} {st2 : Sto} {H H0 : Hp} {d : D} {x : V} {F G : List Addr} {Q : VK} {f : Nat -> List (Ky × D) -> M D} (n : Now Z ρ H0 ρ2 st2 H (F ++ G)) (r : Rp Z ρ2 H d x F) (h : Post (Rp Z) Z W (dcell st2 f d st2) ρ σ0 H0 Q) :
    ∃ l a kvs, d = .ref l /\ x = .ref a /\ F = [] /\ ρ2[l]? = some a /\ st2[l]? = some (.dic kvs) /\ Post (Rp Z) Z W (f l kvs st2) ρ σ0 H0 Q := by
  cases d with
  | ref l =>
    obtain ⟨a, hl, rfl, rfl⟩ := r
    cases hc : st2[l]? with
    | none => simp only [dcell, hc] at h; exact h.elim
    | some c => cases c with
      | dic kvs =>
        simp only [dcell, hc] at h
        exact ⟨l, a, kvs, rfl, rfl, rfl, hl, hc, h⟩
      | _ => simp only [dcell, hc] at h; exact h.elim
  | _ => exact h.elim
theorem dropK_cons {j k : L2.Key} {u : V} {r : List (L2.Key × V)} : dropK ((j, u) :: r) k = if j = k then dropK r k else (j, u) :: dropK r k := by
  unfold dropK
  rw [List.filter_cons]
  by_cases h : j = k <;> simp [h]
theorem dropK_out {k : L2.Key} : ∀ {r : List (L2.Key × V)}, k ∉ r.map (·.1) -> dropK r k = r
  | [], _ => rfl
  | (j, u) :: r, h => by
    rw [dropK_cons, if_neg (fun e => h (by simp [e])), dropK_out (fun z => h (by simp at z ⊢; exact .inr z))]
theorem ddel_ok {ρ : List Addr} {H : Hp} {k : L2.Key} : ∀ {kvs : List (Ky × D)} {ws : List (L2.Key × V)}, (ws.map (·.1)).Nodup -> RpK Z ρ H kvs ws [] -> RpK Z ρ H (ddel (.k k) kvs) (dropK ws k) []
  | [], ws, nd, r => by obtain ⟨rfl, _⟩ := r; exact ⟨rfl, rfl⟩
  | (q, d) :: kvs, ws, nd, r => by
    obtain ⟨j, u, ws', F1, F2, rfl, rfl, r1, r2, f⟩ := r
    obtain ⟨rfl, rfl⟩ := List.append_eq_nil_iff.mp f.symm
    have nd' := List.nodup_cons.mp (show (j :: ws'.map (·.1)).Nodup from nd)
    rw [dropK_cons]
    simp only [ddel]
    by_cases h : j = k
    · subst h
      rw [if_pos rfl, if_pos rfl, dropK_out nd'.1]
      exact r2
    · rw [if_neg (by simpa using h), if_neg h]
      exact ⟨j, u, _, [], [], rfl, rfl, r1, ddel_ok nd'.2 r2, rfl⟩
theorem k_popi (hu : X.A.units + 1 < cLine) : ∀ k, meK .popi k = true -> MeK X Z .popi "pop" k := fun k hk => by
  simp only [meK, Bool.or_eq_true, beq_iff_eq] at hk
  rcases hk with rfl | rfl
  · refine ⟨.inr (.inl rfl), "list.pop", PySem.F.plainAttrs_list, PySem.F.slot_list_pop, PySem.F.type_list_pop, mOne (g := mPopi) (fun st o ds e => by simp only [meD, e]) ?_⟩
    intro W σ0 pins s σ H x y v us Q ρ st H0 ρ2 st2 d e F G I rx rv sr n r1 r2 hk h
    obtain ⟨l, a, xs, vs, rfl, rfl, rfl, hl, hc, ha, rs, h⟩ := lcell_ok n r1 h
    obtain ⟨i, hi, h⟩ := opt_ok h
    cases e with
    | int j =>
      cases hi
      obtain ⟨rfl, rfl⟩ := r2
      obtain ⟨hz, h⟩ := gd_ok h
      obtain ⟨j, hj, h⟩ := opt_ok h
      obtain ⟨y, hy, h⟩ := opt_ok h
      obtain ⟨u, G, hu, ru, sub⟩ := rs.get hy
      obtain rfl := List.sublist_nil.mp sub
      have hz := of_decide_eq_true hz
      refine mt_popAt pins s σ H _ _ v us Q I rx rv ⟨a, vs, _, j, u, rfl, rfl, ha, hz.1, hz.2, by rw [<- rs.length]; exact hj, hu, ?_⟩
      exact Post.ok h (n.wr sr hl rfl ⟨a, vs.eraseIdx j, [], rfl, upd_same, Rps.updF ha rfl (by simp) (rs.erase j), rfl⟩) (ru.updF ha rfl (by simp))
    | _ => cases hi
  · refine ⟨.inr (.inr rfl), "dict.pop", PySem.F.plainAttrs_dict, PySem.F.slot_dict_pop, PySem.F.type_dict_pop, mOne (g := mDpop) (fun st o ds e => by simp only [meD, e]) ?_⟩
    intro W σ0 pins s σ H x y v us Q ρ st H0 ρ2 st2 d e F G I rx rv sr n r1 r2 hk h
    obtain ⟨l, a, kvs, rfl, rfl, rfl, hl, hc, h⟩ := dcell_ok n r1 h
    obtain ⟨q, hq, h⟩ := opt_ok h
    obtain ⟨ok, h⟩ := gd_ok h
    obtain ⟨z, hz, h⟩ := opt_ok h
    obtain ⟨k, rfl, rfl, rfl⟩ := key_ok r2 hq
    obtain ⟨H', b, ws, G, e1, I', n', ha, rk, hs, _, _⟩ := dK_now (d := .ref l) (kvs := kvs) I sr n (fun b hb => by simpa using hb) r1 (by simp [dicv, hc]) ok
    cases e1
    obtain rfl := List.sublist_nil.mp hs
    obtain rfl : v = Value.ref a := rx
    obtain ⟨u, rfl, ru⟩ := vals1 rv
    have hv := dget_ok (k := k) rk
    rw [hz] at hv
    obtain ⟨v', G', e1, r', hs2⟩ := hv
    obtain rfl := List.sublist_nil.mp hs2
    refine d_pop (more := []) I' ha ru e1 (.inl rfl) fun w' s' I2 rw' => ⟨v', _, I2, rw', ?_⟩
    have nd := dK_nodup I' ha
    have rp := ddel_ok (k := k) nd rk
    have := RpK.stay (ρ' := ρ2) (H' := upd H' a (.dK (dropK ws k))) (fun _ _ e => e) (upd_keep ha rfl) (by simp) rp
    exact Post.ok h (n'.wr sr hl rfl ⟨a, [], rfl, rfl, .inl ⟨_, upd_same, this⟩⟩) (r'.updF ha rfl (by simp))
end
end Fs
namespace Fs
open PySem L2 PyProof.Rows PySem.Spec
def SqB (K : PySem.W.Frag) (b : Bool) (H : Hp) (a : Addr) (xs : List V) : Prop := match b with
  | true => SqT K H a xs
  | false => SqL K H a xs
def ItB (b : Bool) (h : Heap) (it a : Addr) (i : Nat) : Prop := match b with
  | true => h.IsTupleIter it a i
  | false => h.IsListIter it a i
def HeB (b : Bool) (h : Heap) (a : Addr) (xs : Array Value) : Prop := match b with
  | true => h.IsTuple a xs
  | false => h.IsList a xs
section
variable {b : Bool} {h h' : Heap} {it a : Addr} {i : Nat} {xs : Array Value}
theorem ItB.get (x : ItB b h it a i) : ∃ o, h.get? it = some o /\ ∀ v, o.data ≠ .cell v := by
  cases b with
  | true => obtain ⟨o, ho, _, hd⟩ := x; exact ⟨o, ho, fun v q => by rw [hd] at q; cases q⟩
  | false => obtain ⟨o, ho, _, hd⟩ := x; exact ⟨o, ho, fun v q => by rw [hd] at q; cases q⟩
end
end Fs
namespace Fs
open PySem L2 PyProof.Rows PySem.Spec
structure FolS (Z : Wc) (t : Src) (b : Bool) (a : Addr) (I : Nat -> List Addr -> Hp -> List Addr -> Prop) : Prop where
  there : ∀ {i ρ H F}, I i ρ H F -> ∀ a ∈ F, H a ≠ none
  stay : ∀ {i ρ H F ρ' H'}, (∀ (l : Nat) (a : Addr), ρ[l]? = some a -> ρ'[l]? = some a) -> (∀ a o, H a = some o -> HCell o = false -> H' a = some o) -> (∀ a ∈ F, ∀ o, H a = some o -> H' a = some o) -> I i ρ H F -> I i ρ' H' F
  stop : ∀ {i ρ st H F}, SR Z ρ st H -> I i ρ H F -> t.at i st = some none -> t.len st = i -> ∃ vs, SqB Z.K b H a vs /\ vs.length = i
  item : ∀ {i ρ st H F d}, SR Z ρ st H -> I i ρ H F -> t.at i st = some (some d) -> ∃ vs x, SqB Z.K b H a vs /\ vs[i]? = some x /\ ∃ F1 F2, (F1 ++ F2).Perm F /\ Rp Z ρ H d x F1 /\ I (i + 1) ρ H F2
section
variable {Z : Wc}
end
section
variable {X : L2.Cx} {T : Tbl} {Z : Wc} {W : WX} {pos p tpos : Pos} {e : Expr} {A : Ex} {elts : List Expr} {kk : Nat}
end
end Fs
namespace Fs
open PySem L2 PyProof.Rows PySem.Spec
theorem dput_keys {k : Ky} {v : D} : ∀ {kvs : List (Ky × D)} {j : Ky}, j ∈ (dput k v kvs).map (·.1) -> j = k ∨ j ∈ kvs.map (·.1)
  | [], j, h => by simp [dput] at h; exact .inl h
  | (q, x) :: r, j, h => by
    simp only [dput] at h
    split at h
    · exact .inr (by simpa using h)
    · simp only [List.map_cons, List.mem_cons] at h ⊢
      rcases h with h | h
      · exact .inr (.inl h)
      · rcases dput_keys h with h | h
        · exact .inl h
        · exact .inr (.inr h)
theorem dput_nodup {k : Ky} {v : D} : ∀ {kvs : List (Ky × D)}, (kvs.map (·.1)).Nodup -> ((dput k v kvs).map (·.1)).Nodup
  | [], _ => by simp [dput]
  | (q, x) :: r, h => by
    have h' := List.nodup_cons.mp (show (q :: r.map (·.1)).Nodup from h)
    simp only [dput]
    split
    · exact h
    · rename_i hq
      refine List.nodup_cons.mpr ⟨fun z => ?_, dput_nodup h'.2⟩
      rcases dput_keys z with e | e
      · exact hq e
      · exact h'.1 e
section
variable {X : L2.Cx} {T : Tbl} {Z : Wc} {W : WX} {pos p : Pos} {tg e c : Expr} {A B : Ex}
theorem dc_ok {own : List Nat} {it : Ix} {t : Tg} {ifs : List Cn} {A B : Ex} (hsub : ∀ i ∈ tgN t, i ∈ own) {σ : L2.St} {H : Hp} {Q : VK} (h : iE T Z W (.dc own it t ifs A B) σ H Q) :
    tDc (iI T Z W it) (iG T Z t) (iTs T Z WF ifs) (iE T Z WF A) (iE T Z WF B) own σ H Q := by
  obtain ⟨ρ, env, st, er, sr, h⟩ := h
  simp only [ev] at h
  refine ⟨ρ, env, st, er, sr, (Post.seq relI_ok (Now.start sr) sr h).mono ?_⟩
  rintro J H1 ⟨ρ1, w, st1, G, n1, t1, ⟨I, fol, hI⟩, h1⟩ D hD
  have up : ∀ a u, H1 a = some u -> upd H1 D (.dK []) a = some u := fun a u e => by rw [upd_ne (fun z => by rw [z, hD] at e; cases e)]; exact e
  generalize hturn : (fun d => bnd (asgT T t d (Fs.wipe env own)) fun σ' => bnd (evTs T ifs σ') fun b => match b with
        | true => bnd (ev T A σ') fun x => bnd (ev T B σ') fun y => opt (keyOf x) fun q => ret (some (q, y))
        | false => ret none : Fs.D -> Sto -> R (Option (Ky × Fs.D))) = turn at h1
  refine ⟨fun i m H' => ∃ ρ' st' Fi ys vs, Now Z ρ H ρ' st' H' (D :: Fi) /\ H' D = some (.dK vs) /\ RpK Z ρ' H' ys vs [] /\ (ys.map (·.1)).Nodup /\ I i ρ' H' Fi /\ Post (Rp Z) Z W (bnd (dcLoop w turn m i ys) (fun ys => ret (.dic ys)) st') ρ σ H Q,
    ⟨w.len st1 + 1, ρ1, st1, G, [], [], n1.new sr hD, upd_same, ⟨rfl, rfl⟩, List.nodup_nil, fol.stay (fun _ _ e => e) (fun a u e _ => up a u e) (fun a _ u e => up a u e) hI, h1⟩, ?_⟩
  rintro i m H' ⟨ρ', st', Fi, ys, vs, n, hDv, rys, hnd, hI', h'⟩
  cases m with
  | zero => exact h'.elim
  | succ m =>
    unfold bnd at h'
    simp only [dcLoop] at h'
    cases e1 : w.next i st' with
    | none => rw [e1] at h'; exact h'.elim
    | some o => cases o with
      | none =>
        rw [e1] at h'
        refine .inl ⟨fol.stop n.sr hI' e1, ?_⟩
        exact Post.ok h' (n.less (List.cons_sublist_cons.mpr (List.nil_sublist _))) ⟨D, [], rfl, rfl, .inl ⟨vs, hDv, rys⟩⟩
      | some d =>
        rw [e1] at h'
        simp only at h'
        obtain ⟨hgo, hy⟩ := fol.item n.sr hI' e1
        refine .inr ⟨hgo, fun H2 => ∃ ρ' st' Fi ys vs, Now Z ρ H ρ' st' H2 (D :: Fi) /\ H2 D = some (.dK vs) /\ RpK Z ρ' H2 ys vs [] /\ (ys.map (·.1)).Nodup /\ I (i + 1) ρ' H2 Fi /\ Post (Rp Z) Z W (bnd (dcLoop w turn m (i + 1) ys) (fun ys => ret (.dic ys)) st') ρ σ H Q,
          fun H2 hN => ⟨m, Nat.lt_succ_self m, hN⟩, fun x Hx hyl => ?_⟩
        obtain ⟨hH, F1, F2, hperm, rx, hI2⟩ := hy x Hx hyl
        have perm : (F1 ++ (D :: F2)).Perm (D :: Fi) := by
          exact (List.perm_middle).trans (List.Perm.cons D hperm)
        obtain ⟨nx, erx⟩ := (n.perm perm).tupd sr hH
        have stx : (∀ a u, H' a = some u -> Hx a = some u) := by
          rcases hH with rfl | ⟨T0, vs0, hT, rfl⟩
          · exact fun a u e => e
          · exact fun a u e => by rw [upd_ne (fun z => by rw [z, hT] at e; cases e)]; exact e
        have rysx : RpK Z ρ' Hx ys vs [] := rys.stay (fun _ _ e => e) (fun a u e _ => stx a u e) (fun a _ u e => stx a u e)
        refine ⟨ρ', Fs.wipe env own, st', d, F1, (nx.less (List.sublist_append_left _ _)).hand, (erx (n.stp.env sr er)).wipe own, rx, ?_⟩
        have et : turn d st' = bnd (asgT T t d (Fs.wipe env own)) (fun σ' => bnd (evTs T ifs σ') fun b => match b with
            | true => bnd (ev T A σ') fun x => bnd (ev T B σ') fun y => opt (keyOf x) fun q => ret (some (q, y))
            | false => ret none) st' := by rw [<- hturn]
        rw [et] at h'
        simp only [bnd] at h'
        cases e2 : asgT T t d (Fs.wipe env own) st' with
        | exc _ _ => simp only [e2] at h'; exact h'.elim
        | bad => simp only [e2] at h'; exact h'.elim
        | ok env3 st3 =>
          simp only [e2] at h'
          intro ρ3 H3 σ3 t3 sr3 er3 m3
          have n3 := nx.landR sr t3 sr3
          obtain ⟨k1, k2, k3⟩ := t3.kept nx.hand rx.hcells
          refine ⟨wipe_sm m3 hsub, ρ3, env3, st3, er3, sr3, ?_⟩
          cases e3 : evTs T ifs env3 st3 with
          | exc _ _ => simp only [e3] at h'; exact h'.elim
          | bad => simp only [e3] at h'; exact h'.elim
          | ok b st4 =>
            simp only [e3] at h'
            rintro ρ4 H4 bb F t4 sr4 ⟨rfl, rfl⟩
            have n4 := n3.more sr t4 sr4 (by simp)
            rw [List.append_nil] at n4
            obtain ⟨q1, q2, q3⟩ := t4.kept sr3 n3.out
            have hD4 : H4 D = some (.dK vs) := q3 D List.mem_cons_self _ (k3 D List.mem_cons_self _ (stx _ _ hDv))
            have rys4 : RpK Z ρ4 H4 ys vs [] := (rysx.stay k1 k2 (by simp)).stay q1 q2 (by simp)
            have hI4 : I (i + 1) ρ4 H4 F2 := fol.stay q1 q2 (fun a ha => q3 a (List.mem_cons_of_mem _ ha)) (fol.stay k1 k2 (fun a ha => k3 a (List.mem_cons_of_mem _ ha)) hI2)
            cases b with
            | false =>
              simp only [ret] at h'
              exact ⟨ρ4, st4, F2, ys, vs, n4, hD4, rys4, hnd, hI4, h'⟩
            | true =>
              refine ⟨ρ4, env3, st4, t4.env sr3 er3, sr4, ?_⟩
              cases e4 : ev T A env3 st4 with
              | exc _ _ => simp only [bnd, e4, ret, opt] at h'; exact h'.elim
              | bad => simp only [bnd, e4, ret, opt] at h'; exact h'.elim
              | ok kd st5 =>
                simp only [bnd, e4, ret, opt] at h'
                intro ρ5 H5 kv G5 t5 sr5 r5
                refine ⟨ρ5, env3, st5, t5.env sr4 (t4.env sr3 er3), sr5, ?_⟩
                have n5 := n4.more sr t5 sr5 r5.there
                obtain ⟨u1, u2, u3⟩ := t5.kept sr4 n4.out
                cases e5 : ev T B env3 st5 with
                | exc _ _ => simp only [e5] at h'; exact h'.elim
                | bad => simp only [e5] at h'; exact h'.elim
                | ok y st6 =>
                  simp only [e5] at h'
                  intro ρ6 H6 v G6 t6 sr6 r6
                  have n6 := n5.more sr t6 sr6 r6.there
                  obtain ⟨w1, w2, w3⟩ := t6.kept sr5 n5.out
                  cases hq : keyOf kd with
                  | none => simp only [hq, bad] at h'; exact h'.elim
                  | some q =>
                    simp only [hq, ret] at h'
                    by_cases hz : ys.length < sizeLine /\ okKeys q ys = true /\ Fs.D.pur y = true
                    · rw [if_pos hz] at h'
                      obtain ⟨k, rfl, rfl, rfl⟩ := key_ok r5 hq
                      obtain rfl := r6.pure hz.2.2
                      have hD6 := w3 D (List.mem_append_left _ List.mem_cons_self) _ (u3 D List.mem_cons_self _ hD4)
                      have rys6 : RpK Z ρ6 H6 ys vs [] := (rys4.stay u1 u2 (by simp)).stay w1 w2 (by simp)
                      obtain ⟨G, rp, hs⟩ := dput_ok (k := k) r6 hnd rys6
                      obtain rfl := List.sublist_nil.mp hs
                      have hlen : ys.length = vs.length := by simpa using congrArg List.length rys6.keysEq
                      have n6' : Now Z ρ H ρ6 st6 H6 (D :: F2) := by simpa using n6
                      have nd6 := n6'.nd
                      simp only [List.nodup_cons] at nd6
                      refine ⟨vs, k, rfl, hD6, by rw [<- hlen]; exact hz.1, ρ6, st6, F2, _, _, n6'.updF sr List.mem_cons_self hD6 rfl, upd_same, RpK.stay (fun _ _ e => e) (upd_keep hD6 rfl) (by simp) rp, dput_nodup hnd, ?_, h'⟩
                      exact fol.stay (fun _ _ e => e) (upd_keep hD6 rfl) (upd_off nd6.1) (fol.stay w1 w2 (fun a ha => w3 a (List.mem_append_left _ (List.mem_cons_of_mem _ ha))) (fol.stay u1 u2 (fun a ha => u3 a (List.mem_cons_of_mem _ ha)) hI4))
                    · rw [if_neg hz] at h'; exact h'.elim
theorem se_dct0 : PE X (.Dict [] [] pos) (iE T Z W (.dct [])) :=
  pe_weak pe_dnewK fun σ H Q ⟨ρ, env, st, er, sr, h⟩ p hp => by
    simp only [ev, evkv, bnd, ret, gd] at h
    exact Post.ok h ((Now.start sr).new sr hp) ⟨p, [], rfl, rfl, .inl ⟨[], upd_same, ⟨rfl, rfl⟩⟩⟩
end
end Fs
namespace Fs
open PySem L2 PyProof.Rows PySem.Spec
section
variable {X : L2.Cx} {T : Tbl} {Z : Wc} {W : WX} {pos pt px py pz pt2 : Pos} {a b c : Expr} {A B C : Ex} {x y z : Str} {i j l kt k2 : Nat}
theorem par_pre {ts : List Tg} {As : List Ex} {Dn : Ends} {σ : L2.St} {H : Hp} (h : iS T Z W (.asg (.tup ts) (.tup As)) Dn σ H) :
    iEs T Z W As σ H (fun vs H1 => ∃ ρ1 st1 env ds F, Hand Z ρ1 st1 H1 F /\ ER Z ρ1 H1 env σ /\ Rps Z ρ1 H1 ds vs F /\ ∃ env' st', asgTs T ts ds env st1 = .ok env' st' /\ ∀ ρ' H' σ', StpF ρ1 H1 F ρ' H' -> SR Z ρ' st' H' -> ER Z ρ' H' env' σ' -> Dn.nx σ' H') := by
  obtain ⟨ρ, env, st, er, sr, h⟩ := h
  simp only [exS, ev] at h
  refine ⟨ρ, env, st, er, sr, ?_⟩
  have h' : PostS Z W (lft env (evs T As env) (fun ds => fun s => lft env (gd (decide (ds.length <= sizeLine)) (ret (.tup ds))) (fun x => bnd (noX (asgT T (.tup ts) x env)) fun σ' => ret (.nx σ')) s) st) ρ H Dn := by
    unfold lft bnd at h ⊢
    cases e : evs T As env st <;> simp only [e] at h ⊢ <;> exact h
  refine (PostS.lft rpsOk (Now.start sr) sr er h').mono ?_
  rintro vs H1 ⟨ρ1, ds, st1, G, n, t, er1, r, h1⟩
  cases hz : decide (ds.length <= sizeLine) with
  | false => simp only [hz, gd, lft, bad] at h1; exact h1.elim
  | true =>
    simp only [hz, gd, lft, ret, bnd, noX, asgT, ofTup] at h1
    cases e1 : asgTs T ts ds env st1 with
    | exc _ _ => rw [e1] at h1; exact h1.elim
    | bad => rw [e1] at h1; exact h1.elim
    | ok env' st' =>
      rw [e1] at h1
      have n' : Now Z ρ H ρ1 st1 H1 G := n
      exact ⟨ρ1, st1, env, ds, G, n'.hand, er1, r, env', st', e1, fun ρ' H' σ' t2 sr2 er2 => h1 ρ' H' σ' (n'.land sr t2) sr2 er2⟩
theorem asg2 {ds : List D} {env env' : Env} {st st' : Sto} {ρ : List Addr} {H : Hp} {σ : L2.St} {vs : List V} {F : List Addr} (hd : Hand Z ρ st H F) (er : ER Z ρ H env σ) (r : Rps Z ρ H ds vs F) (e : asgTs T [.nm i, .nm j] ds env st = .ok env' st') :
    ∃ v w N, vs = [v, w] /\ N.Perm F /\ SR Z (ρ ++ N) st' H /\ ER Z (ρ ++ N) H env' ((σ.set i (some v)).set j (some w)) := by
  match ds, r, e with
  | [], _, e => cases e
  | [_], _, e => simp only [asgTs, asgT, bnd, landM, ret] at e; cases e
  | [d1, d2], r, e =>
    obtain ⟨N, pm, s', q⟩ := lands_ok _ hd.sr r hd.out hd.nd
    simp only [lands] at s' q
    simp only [asgTs, asgT, bnd, landM, ret] at e
    cases e
    obtain ⟨v, ws, F1, F2, rfl, q1, q2, f⟩ := q
    obtain ⟨w, ws2, F3, F4, rfl, q3, ⟨rfl, rfl⟩, f2⟩ := q2
    obtain ⟨rfl, rfl⟩ := List.append_eq_nil_iff.mp f.symm
    obtain ⟨rfl, _⟩ := List.append_eq_nil_iff.mp f2.symm
    have er' : ER Z (ρ ++ N) H env σ := ⟨er.1, fun k x hx => let ⟨u, h1, h2⟩ := er.2 k x hx; ⟨u, h1, h2.wide⟩⟩
    exact ⟨v, w, N, rfl, pm, s', (er'.set q1).set q3⟩
  | _ :: _ :: _ :: _, _, e => simp only [asgTs, asgT, bnd, landM, ret] at e; cases e
theorem ss_par2 (hc : X.calm = true) (hN : X.N.Nodup) (hi : X.N[i]? = some x) (hj : X.N[j]? = some y) (hij : i ≠ j)
    (hx : X.env.scope.names.lookup x = some .local) (hy : X.env.scope.names.lookup y = some .local) (ha : PA X [a, b] (iEs T Z W [A, B]))
    (hw : swappedStores [.Tuple [.Name x px, .Name y py] kt pt] (.Tuple [a, b] k2 pt2) X.env = pure (some [x, y]))
    (hs : swapsWithSole [.Tuple [.Name x px, .Name y py] kt pt] (.Tuple [a, b] k2 pt2) pos.line X.env = pure false := by rfl) :
    PS X (.Assign [.Tuple [.Name x px, .Name y py] kt pt] (.Tuple [a, b] k2 pt2) pos) (iS T Z W (.asg (.tup [.nm i, .nm j]) (.tup [A, B]))) :=
  ps_weak (ps_par hc hN hi hj hij hx hy ha hw hs) fun Dn σ H h => by
    obtain ⟨ρ, env, st, er, sr, q⟩ := par_pre h
    refine ⟨ρ, env, st, er, sr, q.mono ?_⟩
    rintro vs H1 ⟨ρ1, st1, env1, ds, F, hd, er1, r, env', st', e, q1⟩
    obtain ⟨v, w, N, rfl, pm, s', er2⟩ := asg2 hd er1 r e
    exact ⟨v, w, rfl, q1 _ _ _ ⟨N, rfl, pm.nodup_iff.mpr hd.nd, fun b hb => .inl (pm.mem_iff.mp hb), fun _ _ e _ _ => e⟩ s' er2⟩
end
end Fs
namespace Fs
open PySem L2 PyProof.Rows PySem.Spec
section
variable {Z : Wc}
theorem er_start {ρ : List Addr} {H : Hp} {ds : List D} {vs : List V} (r : Rps Z ρ H ds vs []) (m : Nat) : ER Z ρ H (ds.map some ++ List.replicate m none) (vs.map some ++ List.replicate m none) := by
  refine ⟨by simp [r.length], fun i d h => ?_⟩
  by_cases hi : i < ds.length
  · rw [List.getElem?_append_left (by simpa using hi), List.getElem?_map] at h
    cases hd : ds[i]? with
    | none => rw [hd] at h; cases h
    | some d' =>
      rw [hd] at h
      cases h
      obtain ⟨v, G, hv, rv, sub⟩ := r.get hd
      obtain rfl := List.sublist_nil.mp sub
      refine ⟨v, ?_, rv⟩
      rw [List.getElem?_append_left (by simp [<- r.length]; exact hi), List.getElem?_map, hv]
      rfl
  · rw [List.getElem?_append_right (by simpa using Nat.le_of_not_lt hi), List.getElem?_replicate] at h
    split at h <;> cases h
theorem enter_ok {P : Pr} {n i : Nat} {F : Fn} {N : List Str} {vs : List V} {H : Hp} {Q : VK} {E : XK} (hF : P.fns i = some F) (hN : N.length = F.ns) (h : spI Z (call P (n + 1) i) F.np vs H Q E) :
    iL (P.tbl n) Z (fun cls dx _ H' => E cls dx H') F.body { nx := fun _ H' => Q .non H', rt := Q } (start N vs) H := by
  obtain ⟨hl, ρ0, st0, H0, ρ, st, ds, FF, sr0, n0, r, h⟩ := h
  have hd : ds.length = F.np := by rw [r.length, hl]
  rw [call_succ] at h
  unfold runF at h
  simp only [hF, hd, decide_true] at h
  obtain ⟨M, pm, s1, r1⟩ := lands_ok ds n0.sr r n0.out n0.nd
  have n0' : Now Z ρ0 H0 ρ st H ([] ++ FF) := n0
  have n1 := n0'.landed pm s1
  refine ⟨ρ ++ M, (lands ds st).1.map some ++ List.replicate (F.ns - F.np) none, (lands ds st).2, ?_, s1, ?_⟩
  · have := er_start r1 (F.ns - F.np)
    unfold L2.start
    rw [hN, hl]
    exact this
  · have tk : ∀ ρ', (∃ K, ρ' = (ρ ++ M) ++ K) -> ρ'.take st.length = ρ := by
      rintro ρ' ⟨K, rfl⟩
      rw [<- n0.sr.len, List.append_assoc]
      simp
    show PostS Z _ (exL (P.tbl n) F.body _ _) _ _ _
    cases e : exL (P.tbl n) F.body ((lands ds st).1.map some ++ List.replicate (F.ns - F.np) none) (lands ds st).2 with
    | exc _ _ => rw [e] at h; exact h.elim
    | bad => rw [e] at h; exact h.elim
    | ok f s' =>
      rw [e] at h
      cases f with
      | br _ => exact h.elim
      | ct _ => exact h.elim
      | rt d =>
        intro ρ' H' v G t sr r'
        have n2 : Now Z ρ0 H0 ρ' s' H' ([] ++ G) := n1.more sr0 t sr r'.there
        exact leave_ok (N := []) (st1 := []) sr0 n0 n2 (tk ρ' (let ⟨K, e, _⟩ := t; ⟨K, e⟩)) r' h
      | nx _ =>
        intro ρ' H' σ' t sr _
        have n2 : Now Z ρ0 H0 ρ' s' H' ([] ++ []) := n1.more sr0 t sr (by simp)
        exact leave_ok (N := []) (st1 := []) sr0 n0 n2 (tk ρ' (let ⟨K, e, _⟩ := t; ⟨K, e⟩)) (d := .non) ⟨rfl, rfl⟩ h
      | ex _ x =>
        intro ρ' H' σ' cls dx t sr _ rx
        have n2 : Now Z ρ0 H0 ρ' s' H' ([] ++ []) := n1.more sr0 t sr (by simp)
        exact leaveX_ok (st0 := []) (st1 := []) n0 n2 (tk ρ' (let ⟨K, e, _⟩ := t; ⟨K, e⟩)) rx h
end
section
variable {P : Program} {w : World} {K : PySem.W.Frag} {mg : Str -> Option Value} {base : Heap} {Z : Wc}
theorem fg_zero {Pp : Pr} {k : Nat} {f : Addr} {fd : FuncData} {ps : List Str} {i np : Nat} (h : ps.length = np) : FgOk P w K mg base k f fd ps (spI Z (call Pp 0 i) np) :=
  ⟨fun vs H Q E ⟨hl, _⟩ => by rw [hl, h], fun A outer s H args us vs Q E _ _ _ _ _ ⟨_, _, _, _, _, _, _, _, _, _, _, q⟩ => by
    simp only [call, bad] at q
    exact q.elim⟩
end
end Fs
namespace Fs
open PySem L2 PyProof.Rows PySem.Spec
theorem noCX (P : Program) (w : World) (J : Hp) (s : Shared) (e : Value) (s' : Shared) (h : L2.CX P w [] J s (fun _ _ _ => False) e s') : False := by
  obtain ⟨_, _, _, _, _, _, _, _, _, _, _, _, z⟩ := h
  exact z
end Fs
namespace Fs
open PySem L2 PyProof.Rows PySem.Spec
section
variable {X : L2.Cx} {T : Tbl} {Z : Wc} {W : WX} {a b c e : Expr} {A B C : Ex} {pos p : Pos} {es : List Expr} {As : List Ex}
theorem se_bin {op : Bop} (hK : X.K = Z.K) (ha : PE X a (iE T Z W A)) (hb : PE X b (iE T Z W B)) : PE X (.BinOp a (pyB op) b pos) (iE T Z W (.bin op A B)) := se_op (fun _ => bin_ok hK) ha hb fun env => by simp only [ev]
theorem se_cmp1 {op : Cop} (hK : X.K = Z.K) (hu : X.A.units + 65 < cLine) (ha : PE X a (iE T Z W A)) (hb : PE X b (iE T Z W B)) (hm : behindInMarks (pyC op) b = false := by rfl) : PE X (.Compare a [pyC op] [b] pos) (iE T Z W (.cmp op A B)) :=
  se_cmp (f := fC op) (fun _ => cmp_ok hK hu) ha hb hm fun env => by simp only [ev]
theorem tkF : Takes X WF := fun u s' ⟨_, _, _, _, _, _, _, _, _, _, _, _, _, _, _, _, z⟩ => z.elim
end
def Cal (Pw : Program) (w : World) (K : PySem.W.Frag) (mg : Str -> Option Value) (base : Heap) (Z : Wc) (Pp : Pr) (n i : Nat) (x : Str) (ps : List Str) : Prop :=
  ∃ f fd, FgOk Pw w K mg base (n + 2) f fd ps (spI Z (call Pp n i) ps.length) /\ mg x = some (.ref f) /\ PySem.W.keepIn K (.ref f) = true /\ Binds K fd ps []
section
variable {X : L2.Cx} {Pp : Pr} {n i : Nat} {Z : Wc} {W : WX} {e : Expr} {A : Ex} {pos p : Pos} {es : List Expr} {As : List Ex} {x : Str} {ps : List Str}
theorem se_callC (c : Cal X.prog X.w X.K X.mg X.base Z Pp n i x ps) (hr : Room (n + 2) X.A) (hgd : X.A.guards = some []) (tk : Takes X W) (hg : Gl X x) (ha : PA X (e :: es) (iEs (Pp.tbl n) Z W As)) (hlen : As.length = ps.length := by rfl) (hdb : (x == ("__debug__" : Str)) = false := by rfl)
    (he : starEach (e :: es) X.env = (false, eval e X.env) :: starEach es X.env := by rfl) (hpl : (backTo pos (starEach es X.env)).any (·.1) = false := by rfl) : PE X (.Call (.Name x p) (e :: es) [] pos) (iE (Pp.tbl n) Z W (.call i As)) := by
  obtain ⟨f, fd, F, hm, hk, hb⟩ := c
  exact se_call (T := Pp.tbl n) F hr hgd tk hg hm hk hb ha hlen hdb he hpl
theorem se_callC0 (c : Cal X.prog X.w X.K X.mg X.base Z Pp n i x []) (hr : Room (n + 2) X.A) (hgd : X.A.guards = some []) (tk : Takes X W) (hg : Gl X x) (hdb : (x == ("__debug__" : Str)) = false := by rfl) : PE X (.Call (.Name x p) [] [] pos) (iE (Pp.tbl n) Z W (.call i [])) := by
  obtain ⟨f, fd, F, hm, hk, hb⟩ := c
  exact se_call0 (T := Pp.tbl n) F hr hgd tk hg hm hk hb rfl hdb
end
end Fs
namespace Fs
open PySem L2 PyProof.Rows PySem.Spec
section
variable {X : L2.Cx} {T : Tbl} {Z : Wc} {W : WX} {a b c e : Expr} {A B C : Ex} {pos p : Pos}
theorem st_w {C1 : Cn} (h : PW X a (iT T Z W C1)) : PT X a (iT T Z W C1) := ⟨fun pins s σ H Q I q => h.run _ pins s σ H Q I q⟩
theorem bl_pre {E : Ex} {σ : L2.St} {H : Hp} {Q : Bool -> Hp -> Prop} (hb : ∀ env st d st', ev T E env st = .ok d st' -> ∃ k, d = .bl k) (h : iT T Z W (.val E) σ H Q) : iE T Z W E σ H (fun x H' => ∃ k, x = .bl k /\ Q k H') := by
  obtain ⟨ρ, env, st, er, sr, h⟩ := h
  simp only [evT] at h
  refine ⟨ρ, env, st, er, sr, ?_⟩
  unfold bnd at h
  cases e : ev T E env st with
  | exc x s => rw [e] at h; exact h
  | bad => rw [e] at h; exact h
  | ok d s =>
    rw [e] at h
    obtain ⟨k, rfl⟩ := hb _ _ _ _ e
    intro ρ' H' v F t sr' r
    obtain ⟨rfl, rfl⟩ := r
    refine ⟨k, rfl, ?_⟩
    simp only [truth, opt, ret] at h
    exact h ρ' H' k [] t sr' ⟨rfl, rfl⟩
theorem cmp_bl {op : Cop} {env : Env} {st st' : Sto} {d : D} (h : ev T (.cmp op A B) env st = .ok d st') : ∃ k, d = .bl k := by
  simp only [ev, bnd] at h
  cases e1 : ev T A env st with
  | ok x s1 =>
    simp only [e1] at h
    cases e2 : ev T B env s1 with
    | ok y s2 =>
      simp only [e2] at h
      cases e : cmpD op x y s2 with
      | none => rw [e] at h; cases h
      | some k => rw [e] at h; cases h; exact ⟨k, rfl⟩
    | exc _ _ => simp only [e2] at h; cases h
    | bad => simp only [e2] at h; cases h
  | exc _ _ => simp only [e1] at h; cases h
  | bad => simp only [e1] at h; cases h
theorem chn_bl {o1 o2 : Cop} {env : Env} {st st' : Sto} {d : D} (h : ev T (.chn o1 o2 A B C) env st = .ok d st') : ∃ k, d = .bl k := by
  simp only [ev, bnd] at h
  cases e1 : ev T A env st with
  | ok x s1 =>
    simp only [e1] at h
    cases x with
    | int i =>
      simp only [intv, opt, bnd] at h
      cases e2 : ev T B env s1 with
      | ok y s2 =>
        simp only [e2] at h
        cases y with
        | int j =>
          simp only [intv, opt, bnd] at h
          cases e : cmpI o1 i j with
          | none => rw [e] at h; cases h
          | some k =>
            rw [e] at h
            cases k with
            | false => cases h; exact ⟨_, rfl⟩
            | true =>
              simp only [bnd] at h
              cases e3 : ev T C env s2 with
              | ok z s3 =>
                simp only [e3] at h
                cases z with
                | int m =>
                  simp only [intv, opt] at h
                  cases e4 : cmpI o2 j m with
                  | none => rw [e4] at h; cases h
                  | some k => rw [e4] at h; cases h; exact ⟨_, rfl⟩
                | _ => cases h
              | exc _ _ => simp only [e3] at h; cases h
              | bad => simp only [e3] at h; cases h
        | _ => cases h
      | exc _ _ => simp only [e2] at h; cases h
      | bad => simp only [e2] at h; cases h
    | _ => cases h
  | exc _ _ => simp only [e1] at h; cases h
  | bad => simp only [e1] at h; cases h
theorem st_cmp1 {op : Cop} (hK : X.K = Z.K) (hu : X.A.units + 65 < cLine) (ha : PE X a (iE T Z W A)) (hb : PE X b (iE T Z W B)) (hm : behindInMarks (pyC op) b = false := by rfl) : PT X (.Compare a [pyC op] [b] pos) (iT T Z W (.val (.cmp op A B))) :=
  ⟨fun pins s σ H Q I q => by
    refine (pt_cmpR (cmp_ok (W := W) (σ0 := σ) hK hu) ha hb hm).run pins s σ H Q I ?_
    obtain ⟨ρ, env, st, er, sr, h⟩ := bl_pre (fun _ _ _ _ => cmp_bl) q
    simp only [ev] at h
    exact two_ok (f := fC op) ⟨ρ, env, st, er, sr, h⟩⟩
theorem st_chn {o1 o2 : Cop} (ha : PE X a (iE T Z W A)) (hb : PE X b (iE T Z W B)) (hc : PE X c (iE T Z W C)) (hm : lastMarks [pyC o1, pyC o2] [b, c] = false) : PT X (.Compare a [pyC o1, pyC o2] [b, c] pos) (iT T Z W (.val (.chn o1 o2 A B C))) :=
  ⟨fun pins s σ H Q I q => by
    refine (pt_chain cmpI_op cmpI_op ha hb hc hm).run pins s σ H Q I ?_
    obtain ⟨ρ, env, st, er, sr, h⟩ := bl_pre (fun _ _ _ _ => chn_bl) q
    simp only [ev] at h
    refine ⟨ρ, env, st, er, sr, (Post.seq rpOk (Now.start sr) sr h).mono ?_⟩
    rintro x H1 ⟨ρ1, d1, st1, F1, n1, t1, r1, h1⟩
    cases d1 with
    | int i =>
      obtain ⟨rfl, rfl⟩ := r1
      refine ⟨ρ1, env, st1, t1.env sr er, n1.sr, (Post.seq rpOk n1 sr (by simpa only [intv, opt] using h1)).mono ?_⟩
      rintro y H2 ⟨ρ2, d2, st2, F2, n2, t2, r2, h2⟩
      cases d2 with
      | int j =>
        obtain ⟨rfl, rfl⟩ := r2
        simp only [intv, opt] at h2
        cases e : cmpI o1 i j with
        | none => rw [e] at h2; exact h2.elim
        | some k =>
          rw [e] at h2
          refine ⟨i, j, k, rfl, rfl, e, k, rfl, ?_⟩
          cases k with
          | false => exact Post.ok h2 n2 ⟨rfl, rfl⟩
          | true =>
            rw [if_pos rfl]
            refine ⟨ρ2, env, st2, t2.env n1.sr (t1.env sr er), n2.sr, (Post.seq rpOk n2 sr h2).mono ?_⟩
            rintro z H3 ⟨ρ3, d3, st3, F3, n3, t3, r3, h3⟩
            cases d3 with
            | int m =>
              obtain ⟨rfl, rfl⟩ := r3
              simp only [intv, opt] at h3
              cases e2 : cmpI o2 j m with
              | none => rw [e2] at h3; exact h3.elim
              | some k2 => rw [e2] at h3; exact ⟨j, m, k2, rfl, rfl, e2, Post.ok h3 n3 ⟨rfl, rfl⟩⟩
            | _ => exact h3.elim
      | _ => exact h2.elim
    | _ => exact h1.elim⟩
end
end Fs
namespace Fs
open PySem L2 PyProof.Rows PySem.Spec
section
variable {X : L2.Cx} {T : Tbl} {Z : Wc} {W : WX} {pos p : Pos} {tg e c : Expr} {A B : Ex}
theorem ss_setDc {i : Nat} {y : Str} {py spos : Pos} {kx vx iter : Expr} {ifs : List Expr} {scope : Scope} {own : List (Str × Nat)} {it : Ix} {t : Tg} {Cs : List Cn} (hc : X.calm = true) (hN : X.N.Nodup) (hy : X.N[i]? = some y) (hyl : X.env.scope.names.lookup y = some .local)
    (hsw : swapsWith (.DictComp kx vx [⟨tg, iter, ifs, 0⟩] scope pos) (some (.Name y py)) spos.line X.env = pure true) (ok : blkC X.N X.env.scope scope own = true) (hsub : (tgN t).all ((own.map (·.2)).contains ·) = true)
    (hi : PI X tg iter (iI T Z W it)) (hg : ∀ (s : Shared) (H : Hp) (C : Addr) (cl : List (Str × Addr)) (fp : List Addr), PG (X.blk s H scope (compEnvC scope cl C X.env) fp) tg (iG T Z t))
    (ht : ∀ (s : Shared) (H : Hp) (C : Addr) (cl : List (Str × Addr)) (fp : List Addr), PTs (X.blk s H scope (compEnvC scope cl C X.env) fp) ifs (iTs T Z WF Cs))
    (hk : ∀ (s : Shared) (H : Hp) (C : Addr) (cl : List (Str × Addr)) (fp : List Addr), PE (X.blk s H scope (compEnvC scope cl C X.env) fp) kx (iE T Z WF A))
    (he : ∀ (s : Shared) (H : Hp) (C : Addr) (cl : List (Str × Addr)) (fp : List Addr), PE (X.blk s H scope (compEnvC scope cl C X.env) fp) vx (iE T Z WF B)) (hs : ∀ x, foldedSetIterable iter X.env x = pure x := by intro _; rfl) :
    PS X (.Assign [.Name y py] (.DictComp kx vx [⟨tg, iter, ifs, 0⟩] scope pos) spos) (iS T Z W (.asg (.nm i) (.dc (own.map (·.2)) it t Cs A B))) := by
  refine ⟨fun pins s σ H Dn I h0 => ?_⟩
  obtain ⟨ρ, env, st, er, sr, h2⟩ := asg_ok h0
  have h : tDc (iI T Z W it) (iG T Z t) (iTs T Z WF Cs) (iE T Z WF A) (iE T Z WF B) (own.map (·.2)) σ H (fun x H1 => gName i x σ H1 Dn.nx) := dc_ok (subN hsub) ⟨ρ, env, st, er, sr, h2.mono fun v H1 q => ig_nm q⟩
  rw [exec_Assign_Name_used _ _ _ _ hsw]
  refine wpAny_bind (wpAny_standAt (wpAny_bind ?_))
  show wpAny _ X.A (do let _ <- comprehension (.DictComp kx vx [⟨tg, iter, ifs, 0⟩] scope pos) scope X.env (firstIterPos [⟨tg, iter, ifs, 0⟩] pos) newDict false (eval iter X.env) (some (assign (.Name y py) X.env))) _ _ s
  refine wpAny_bind (thn (dc_core (Qf := fun _ s' => SP X pins Dn .next s') hc hN I hi (blkOk_by ok) hg ht hk he hs h fun L C s' m H' I' q hn f => ?_) fun _ s' hq => wpAny_pure (wpAny_pure hq))
  show wpAny _ _ (assign (.Name y py) X.env (.ref L)) _ _ _
  refine wpAny_assign_Name (store_ok2 (v := V.ref L) I' hN hy (.inl hyl) rfl (fun s2 I2 ⟨a, sb, ha⟩ => ?_) (.inr hyl))
  obtain ⟨f0, f1, f2, f3, f4, f5⟩ := f
  have off : C ≠ a := by
    rcases ha with z | z
    · rw [z]; exact f1
    · exact fun e => f4 y a z e.symm
  refine ⟨m, hn.sameBut sb off, fun h3 sb3 => ?_⟩
  exact ⟨_, H', I2.turned (t' := s2.toks) (fun b o hb e => (sb3.2 b hb).trans e) f0 f1 f3 f4 f5, q⟩
end
end Fs
namespace Fs
open PySem L2 PyProof.Rows PySem.Spec
section
variable {X : Cx} {Z : Wc} {W : WX} {T : Tbl} {σ0 : L2.St} {p p2 q pos : Pos}
end
end Fs
namespace Fs
open PySem L2 PyProof.Rows PySem.Spec
def kdel (K : PySem.W.Frag) (a : Addr) : PySem.W.Frag := K.filter fun p => p.1 != a
theorem kdel_at {K : PySem.W.Frag} {a b : Addr} : (kdel K a).lookup b = if b = a then none else K.lookup b := by
  induction K with
  | nil => simp [kdel]
  | cons q K ih =>
    obtain ⟨x, o⟩ := q
    simp only [kdel] at ih ⊢
    by_cases hx : x = a
    · subst hx
      rw [List.filter_cons_of_neg (by simp), ih]
      by_cases hb : b = x
      · rw [if_pos hb, if_pos hb]
      · rw [if_neg hb, if_neg hb, List.lookup_cons]
        have : (b == x) = false := by simpa using hb
        rw [this]
    · rw [List.filter_cons_of_pos (by simpa using hx), List.lookup_cons, List.lookup_cons, ih]
      by_cases hb : b = x
      · subst hb
        simp [hx]
      · have : (b == x) = false := by simpa using hb
        rw [this]
theorem kdel_in {K : PySem.W.Frag} {a : Addr} {h : Heap} (X : K.In h) : (kdel K a).In h := fun b o e => by
  rw [kdel_at] at e
  split at e
  · cases e
  · exact X b o e
def LstAt (K : PySem.W.Frag) (a : Addr) : Prop := ∀ o, K.lookup a = some o -> ∃ xs n, o.data = .seq xs n
theorem kdel_keep {K : PySem.W.Frag} {a b : Addr} {o : Obj} (hL : LstAt K a) (e : K.lookup b = some o) (hd : ∀ xs n, o.data ≠ .seq xs n) : (kdel K a).lookup b = some o := by
  rw [kdel_at, if_neg]
  · exact e
  · rintro rfl
    obtain ⟨xs, n, h⟩ := hL o e
    exact hd xs n h
theorem kdel_code {K : PySem.W.Frag} {a : Addr} {c : Value} {q : Str} (hL : LstAt K a) (e : PySem.W.codeIn K c q = true) : PySem.W.codeIn (kdel K a) c q = true := by
  unfold PySem.W.codeIn at e ⊢
  cases c with
  | ref b =>
    simp only at e ⊢
    cases h : K.lookup b with
    | none => rw [h] at e; cases e
    | some o =>
      obtain ⟨oc, od, data, sl⟩ := o
      rw [h] at e
      cases data with
      | fields vs =>
        rw [kdel_keep hL h (by intro xs n z; cases z)]
        exact e
      | _ => cases e
  | _ => cases e
theorem FunD.del {K : PySem.W.Frag} {a : Addr} {x q : Str} {ps : Arguments} {body : List Stmt} {sc : Scope} {f : Addr} {fd : FuncData} (hL : LstAt K a) (F : FunD K x q ps body sc [] [] f fd) : FunD (kdel K a) x q ps body sc [] [] f fd := by
  obtain ⟨oc, od, dV, kV, doc, pm, an, cdv, ct, osl, e, lk, hc, hD, hK⟩ := F.ex
  have lk2 : (kdel K a).lookup f = some ⟨oc, od, .func fd, osl⟩ := kdel_keep hL lk (by intro xs n z; cases z)
  refine ⟨⟨oc, od, dV, kV, doc, pm, an, cdv, ct, osl, e, lk2, kdel_code hL hc, ?_, .inl rfl⟩, ?_⟩
  · rcases hD with h | ⟨h, _⟩
    · exact .inl h
    · exact absurd rfl h
  · show PySem.W.keepIn (kdel K a) (.ref f) = true
    simp only [PySem.W.keepIn, lk2]
end Fs
namespace Fs
open PySem L2 PyProof.Rows PySem.Spec
section
variable {X : L2.Cx} {T : Tbl} {Z : Wc} {W : WX} {σ0 : L2.St}
end
end Fs
namespace Fs
open PySem L2 PyProof.Rows PySem.Spec
section
variable {X : L2.Cx} {T : Tbl} {Z : Wc} {W : WX} {σ0 : L2.St}
end
end Fs
namespace Fs
open PySem L2 PyProof.Rows PySem.Spec
section kle
variable {K K' : PySem.W.Frag}
def KLe (K K' : PySem.W.Frag) : Prop := ∀ b o, K.lookup b = some o -> (∀ xs n, o.data ≠ .seq xs n) -> K'.lookup b = some o
theorem kle_del {a : Addr} (hL : LstAt K a) : KLe K (kdel K a) := fun b o e h => kdel_keep hL e h
theorem nsIn_le (h : KLe K K') {ns : Addr} {x : Str} {r : Option Value} (e : PySem.W.nsIn K ns x = some r) : PySem.W.nsIn K' ns x = some r := by
  unfold PySem.W.nsIn at e ⊢
  cases hl : K.lookup ns with
  | none => rw [hl] at e; cases e
  | some o =>
    obtain ⟨c, d, data, sl⟩ := o
    rw [hl] at e
    cases data with
    | dict es n => rw [h _ _ hl (by intro xs n z; cases z)]; exact e
    | _ => cases e
theorem nsOkIn_le (h : KLe K K') {ns : Addr} (e : PySem.W.nsOkIn K ns = true) : PySem.W.nsOkIn K' ns = true := by
  unfold PySem.W.nsOkIn at e ⊢
  cases hl : K.lookup ns with
  | none => rw [hl] at e; cases e
  | some o =>
    obtain ⟨c, d, data, sl⟩ := o
    rw [hl] at e
    cases data with
    | dict es n => rw [h _ _ hl (by intro xs n z; cases z)]; exact e
    | _ => cases e
theorem ownIn_le (h : KLe K K') {x : Str} : ∀ {v : Value} {r : Option Value}, PySem.W.ownIn K x v = some r -> PySem.W.ownIn K' x v = some r
  | .ref a, r, e => by
    unfold PySem.W.ownIn at e ⊢
    cases hl : K.lookup a with
    | none => simp only [hl] at e; cases e
    | some o =>
      obtain ⟨c, d, data, sl⟩ := o
      simp only [hl] at e
      cases data with
      | cls cd => simp only [h _ _ hl (by intro xs n z; cases z)]; exact nsIn_le h e
      | _ => cases e
  | .type n, r, e => e
  | .none, r, e => e
  | .ellipsis, r, e => e
  | .notImplemented, r, e => e
  | .bool _, r, e => e
  | .int _ _, r, e => e
  | .float _ _, r, e => e
  | .str _ _, r, e => e
  | .bytes _ _, r, e => e
  | .builtin _, r, e => e
theorem alongIn_le (h : KLe K K') {x : Str} : ∀ {l : List Value} {r : Option Value}, PySem.W.alongIn K x l = some r -> PySem.W.alongIn K' x l = some r
  | [], r, e => e
  | c :: l, r, e => by
    unfold PySem.W.alongIn at e ⊢
    cases ho : PySem.W.ownIn K x c with
    | none => rw [ho] at e; cases e
    | some o =>
      rw [ho] at e
      rw [ownIn_le h ho]
      cases o with
      | none => exact alongIn_le h e
      | some v => exact e
theorem findIn_le (h : KLe K K') {t : Value} {x : Str} {r : Option Value} (e : PySem.W.findIn K t x = some r) : PySem.W.findIn K' t x = some r := by
  unfold PySem.W.findIn at e ⊢
  cases t with
  | ref a =>
    simp only at e ⊢
    cases hl : K.lookup a with
    | none => rw [hl] at e; cases e
    | some o =>
      obtain ⟨c, d, data, sl⟩ := o
      rw [hl] at e
      cases data with
      | cls cd => rw [h _ _ hl (by intro xs n z; cases z)]; exact alongIn_le h e
      | _ => cases e
  | _ => exact e
theorem tailIn_le (h : KLe K K') {bm : List Value} : ∀ {l : List Value}, PySem.W.tailIn K bm l = true -> PySem.W.tailIn K' bm l = true
  | [], e => e
  | v :: r, e => by
    unfold PySem.W.tailIn at e ⊢
    rcases Bool.or_eq_true_iff.mp e with q | q
    · exact Bool.or_eq_true_iff.mpr (.inl q)
    · refine Bool.or_eq_true_iff.mpr (.inr ?_)
      cases v with
      | ref a =>
        simp only at q ⊢
        cases hl : K.lookup a with
        | none => rw [hl] at q; cases q
        | some o =>
          obtain ⟨c, d, data, sl⟩ := o
          rw [hl] at q
          cases data with
          | cls cd =>
            rw [h _ _ hl (by intro xs n z; cases z)]
            simp only [Bool.and_eq_true, beq_iff_eq] at q ⊢
            exact ⟨⟨nsOkIn_le h q.1.1, nsIn_le h q.1.2⟩, tailIn_le h q.2⟩
          | _ => cases q
      | _ => cases q
theorem excIn_cls {C : Addr} {bm : List Value} {i : String} (e : PySem.W.excIn K C bm i = true) : ∃ o, K.lookup C = some o /\ ∀ xs n, o.data ≠ .seq xs n := by
  unfold PySem.W.excIn at e
  cases hl : K.lookup C with
  | none => rw [hl] at e; cases e
  | some o =>
    obtain ⟨c, d, data, sl⟩ := o
    refine ⟨_, rfl, ?_⟩
    rw [hl] at e
    intro xs n z
    dsimp only at z
    subst z
    split at e
    · rename_i q; cases q
    · cases e
theorem excIn_le (h : KLe K K') {C : Addr} {bm : List Value} {i : String} (e : PySem.W.excIn K C bm i = true) : PySem.W.excIn K' C bm i = true := by
  obtain ⟨o, hl, ho⟩ := excIn_cls e
  unfold PySem.W.excIn at e ⊢
  rw [h _ _ hl ho]
  rw [hl] at e
  split at e
  · rename_i dd cd sl q
    cases q
    split at e
    · simp only [Bool.and_eq_true, beq_iff_eq, Bool.not_eq_true'] at e ⊢
      obtain ⟨⟨⟨⟨⟨h1, h2⟩, h3⟩, h4⟩, h5⟩, h6⟩ := e
      exact ⟨⟨⟨⟨⟨h1, h2⟩, h3⟩, tailIn_le h h4⟩, nsOkIn_le h h5⟩, nsIn_le h h6⟩
    · cases e
  · cases e
theorem keepIn_le (h : KLe K K') {C : Addr} (e : PySem.W.keepIn K (.ref C) = true) : PySem.W.keepIn K' (.ref C) = true := by
  unfold PySem.W.keepIn at e ⊢
  simp only at e ⊢
  cases hl : K.lookup C with
  | none => rw [hl] at e; cases e
  | some o =>
    obtain ⟨c, d, data, sl⟩ := o
    rw [hl] at e
    cases data with
    | func fd => rw [h _ _ hl (by intro xs n z; cases z)]
    | cls cd =>
      have hl' := h _ _ hl (by intro xs n z; cases z)
      rw [hl']
      simp only [beq_iff_eq, PySem.W.specialIn, PySem.W.typeIn, hl, hl', Option.map_some, Option.bind_some] at e ⊢
      exact findIn_le h e
    | _ => cases e
end kle
structure ExF (K : PySem.W.Frag) (mg : Str -> Option Value) (x : Str) (C : Addr) : Prop where
  gC : mg x = some (.ref C)
  q : PySem.W.excIn K C He.veBase "ValueError.__new__" = true ∨ PySem.W.excIn K C reBase "RuntimeError.__new__" = true ∨ PySem.W.excIn K C aeBase "ArithmeticError.__new__" = true
  kp : PySem.W.keepIn K (.ref C) = true
  sb : PySem.W.subIn K (.ref C) (.type "BaseException") = some true
  ty : PySem.W.typeIn K (.ref C) = some (.type "type")
theorem ExF.obj0 {K : PySem.W.Frag} {mg : Str -> Option Value} {x : Str} {C : Addr} (F : ExF K mg x C) : ∃ o, K.lookup C = some o /\ ∀ xs n, o.data ≠ .seq xs n := by
  rcases F.q with q | q | q <;> exact excIn_cls q
theorem ExF.del {K : PySem.W.Frag} {mg : Str -> Option Value} {x : Str} {C a : Addr} (hL : LstAt K a) (F : ExF K mg x C) : ExF (kdel K a) mg x C := by
  obtain ⟨o, hl, ho⟩ := F.obj0
  have hl' := kdel_keep hL hl ho
  refine ⟨F.gC, F.q.imp (excIn_le (kle_del hL)) (Or.imp (excIn_le (kle_del hL)) (excIn_le (kle_del hL))), keepIn_le (kle_del hL) F.kp, ?_, ?_⟩
  · have e := F.sb
    simp only [PySem.W.subIn, PySem.W.mroIn, PySem.W.clsIn, hl, hl'] at e ⊢
    exact e
  · have e := F.ty
    simp only [PySem.W.typeIn, hl, hl'] at e ⊢
    exact e
section
variable {X : L2.Cx} {T : Tbl} {Z : Wc} {W : WX} {e : Expr} {es : List Expr} {As : List Ex} {pos p pos' : Pos} {x : Str}
end
theorem inv_track {X : L2.Cx} {pins : List (Addr × Obj)} {σ : L2.St} {H : Hp} {s : Shared} {a : Addr} {o : HO} (I : Inv X pins σ H s) (na : H a = none) (nL : a ≠ X.env.locals) (nC : ∀ x c, X.env.cells.lookup x = some c -> c ≠ a)
    (nP : ∀ p ∈ X.pn ++ pins, p.1 ≠ a) (n0 : X.s_0.heap.get? a = none) (ok : ObjOk X.prog X.w (upd H a o) s.heap a o) : Inv X pins σ (upd H a o) s := by
  have ne : ∀ {b : Addr} {u : HO}, H b = some u -> b ≠ a := fun e z => by rw [z, na] at e; cases e
  refine ⟨I.ok, I.os, I.bare, ⟨I.base.keep, I.base.slot, fun b ob q n hx => ?_, I.base.there, fun b xs q => ?_, fun b ob u q => ?_, fun b ps q => ?_⟩, I.loc, I.cell, ?_, fun x c q => ?_, fun p hp => ?_, fun b u q => ?_, I.len⟩
  · rw [upd_ne]
    · exact I.base.free b ob q n hx
    · intro z; rw [z, n0] at q; cases q
  · have := I.base.tups b xs q
    rw [upd_ne (ne this)]; exact this
  · have := I.base.frzs b ob u q
    rw [upd_ne (ne this)]; exact this
  · obtain ⟨m, this⟩ := I.base.tbls b ps q
    exact ⟨m, by rw [upd_ne (ne this)]; exact this⟩
  · rw [upd_ne (Ne.symm nL)]; exact I.free
  · rw [upd_ne (nC x c q)]; exact I.freeC x c q
  · obtain ⟨h1, h2, h3⟩ := I.pin p hp
    exact ⟨h1, by rw [upd_ne (nP p hp)]; exact h2, h3⟩
  · by_cases hb : b = a
    · subst hb
      rw [upd_same] at q; cases q
      exact ok
    · rw [upd_ne hb] at q
      exact (I.hok b u q).stay (fun _ _ _ e => e) (fun _ z => by rw [upd_ne (ne z)]; exact z) (fun _ _ z => by rw [upd_ne (ne z)]; exact z)
section
variable {X : L2.Cx} {x n : Str} {c : Value} {i : Nat} {body suite : List Stmt} {b₀ : Stmt} {np pos pos' : Pos} {tb : WX -> TS} {ts : TS} {Wout : WX}
end
def endN (i : Nat) (D : Ends) : Ends := { nx := fun σ' H' => D.nx (σ'.set i none) H', rt := D.rt, bk := fun σ' H' => D.bk (σ'.set i none) H', ct := fun σ' H' => D.ct (σ'.set i none) H' }
theorem PostS.outF {Z : Wc} {W W' : WX} {ρ : List Addr} {H : Hp} {D : Ends} {i : Nat} {m : M Fl} {st : Sto} (h : PostS Z W (Fs.outF (some i) m st) ρ H D) : PostS Z W' (m st) ρ H (endN i D) := by
  unfold Fs.outF at h
  cases e : m st with
  | exc x s' => rw [e] at h; exact h.elim
  | bad => rw [e] at h; exact h.elim
  | ok f s' =>
    rw [e] at h
    cases f with
    | nx e' => exact fun ρ' H' σ' t sr er => h ρ' H' _ t sr (ER.gone er)
    | br e' => exact fun ρ' H' σ' t sr er => h ρ' H' _ t sr (ER.gone er)
    | ct e' => exact fun ρ' H' σ' t sr er => h ρ' H' _ t sr (ER.gone er)
    | rt d => exact h
    | ex e' x => exact h.elim
section
variable {X : L2.Cx} {T : Tbl} {Z : Wc} {W : WX} {x n : Str} {i k : Nat} {body suite : List Stmt} {b₀ : Stmt} {np pos pos' : Pos} {Bs Ss : List Sx}
end
end Fs
namespace Fs
open PySem L2 PyProof.Rows PySem.Spec
section
variable {X : L2.Cx} {T : Tbl} {Z : Wc} {W : WX} {x : Str} {k : Nat} {body suite : List Stmt} {b₀ : Stmt} {np pos pos' : Pos} {Bs Ss : List Sx}
end
end Fs
namespace Fs
open PySem L2 PyProof.Rows PySem.Spec
theorem rfs_or {tl : List Value} : ∀ l : List Value, rfsB tl l = true -> (∃ c r, l = .ref c :: r /\ rfsB tl r = true) ∨ l = tl := fun l e => by
  cases l with
  | nil => exact Or.inr (beq_iff_eq.mp e)
  | cons v r => cases v with
    | ref c => exact Or.inl ⟨c, r, rfl, e⟩
    | _ => exact Or.inr (beq_iff_eq.mp e)
open Builtin Builtin.ObjectAttr in
structure Bse (B nw it : String) (tl : List Value) : Prop where
  eb : ExcBaseFacts B nw it tl
  ps : ∀ u : Value, refuseLoop u "__setattr__" tl = pure ()
  ob : tl.contains (.type "object") = true
theorem bse_VE : Bse "ValueError" "ValueError.__new__" "ValueError.__init__" [.type "ValueError", .type "Exception", .type "BaseException", .type "object"] := ⟨F.excBase_ValueError, fun u => by kernel_rfl, by decide +kernel⟩
theorem bse_RE : Bse "RuntimeError" "RuntimeError.__new__" "RuntimeError.__init__" [.type "RuntimeError", .type "Exception", .type "BaseException", .type "object"] := ⟨F.excBase_RuntimeError, fun u => by kernel_rfl, by decide +kernel⟩
theorem bse_AE : Bse "ArithmeticError" "ArithmeticError.__new__" "ArithmeticError.__init__" [.type "ArithmeticError", .type "Exception", .type "BaseException", .type "object"] := ⟨F.excBase_ArithmeticError, fun u => by kernel_rfl, by decide +kernel⟩
theorem bsB_ok {n : String} {bm : List Value} (h : bsB n bm = true) : ∃ B it tl, Bse B n it tl /\ rfsB tl bm = true := by
  obtain ⟨b, hb, h⟩ := List.any_eq_true.mp h
  obtain ⟨h1, h2⟩ := Bool.and_eq_true_iff.mp h
  have h1 := beq_iff_eq.mp h1
  subst h1
  simp only [bss, List.mem_cons, List.not_mem_nil, or_false] at hb
  rcases hb with rfl | rfl | rfl
  · exact ⟨_, _, _, bse_VE, h2⟩
  · exact ⟨_, _, _, bse_RE, h2⟩
  · exact ⟨_, _, _, bse_AE, h2⟩
section
open Builtin Builtin.ObjectAttr
variable {B nw it : String} {tl : List Value}
theorem Bse.pass (b : Bse B nw it tl) (u : Value) : ∀ l : List Value, rfsB tl l = true -> refuseLoop u "__setattr__" l = pure ()
  | [], e => by rcases rfs_or _ e with ⟨c, r, q, _⟩ | q; · cases q
                · rw [q]; exact b.ps u
  | v :: l, e => by
    rcases rfs_or _ e with ⟨c, r, q, y⟩ | q
    · obtain ⟨z1, z2⟩ := List.cons.inj q
      subst z1 z2
      rw [refuseLoop_ref]; exact b.pass u l y
    · rw [q]; exact b.ps u
theorem rfs_has (X : String) : ∀ l : List Value, rfsB tl l = true -> l.contains (.type X) = tl.contains (.type X)
  | [], e => by rcases rfs_or _ e with ⟨c, r, q, _⟩ | q; · cases q
                · rw [q]
  | v :: l, e => by
    rcases rfs_or _ e with ⟨c, r, q, y⟩ | q
    · obtain ⟨z1, z2⟩ := List.cons.inj q
      subst z1 z2
      rw [List.contains_cons, rfs_has X l y]; rfl
    · rw [q]
theorem Bse.ne (b : Bse B nw it tl) {l : List Value} (e : rfsB tl l = true) : l.isEmpty = false := by
  cases l with
  | nil =>
    have h1 := (rfs_has "object" [] e).trans b.ob
    cases h1
  | cons _ _ => rfl
variable {prog : Program} {w : World} {A : Around} {R : Result -> Shared -> Prop} {hp : Heap} {g : Array GenState} {d : Drawn} {t : Nat} {os : OsState}
theorem exf_new (b : Bse B nw it tl) {K : PySem.W.Frag} {fd : Str} {tk : Tok} {u : Value} {x C : Addr} {fs : Array Value} {cd : ClassData} (X : K.In hp) (ox : hp.get? x = some { cls := .ref C, data := .fields fs }) (oc : PySem.W.clsIn K C = some cd) (om : rfsB tl cd.mro = true) (od : cd.hasDict = true) (no : PySem.W.findIn K (.ref C) fd = some none)
    (q : ∀ hh tt dx, (∀ y o, y ≠ x -> hp.get? y = some o -> hh.get? y = some o) -> hp.objs.size <= dx -> dx ≠ x -> hh.get? x = some { cls := .ref C, dict := some dx, data := .fields fs } -> hh.Ns1 dx (fun y => if y = fd then some u else none) -> R (.ok (.ret .none)) ⟨hh, g, d, tt, os⟩) :
    codeAny (model prog w) A (.call (.builtin "object.__setattr__") ⟨[.ref x, .str fd tk, u], []⟩) R ⟨hp, g, d, t, os⟩ := by
  have J : PySem.W.InstAt hp x { cls := .ref C, data := .fields fs } C none := ⟨ox, rfl, rfl, trivial⟩
  have S := F.store_object
  have e1 := b.ne om
  have e2 : cd.mro.contains (.type "object") = true := (rfs_has "object" _ om).trans b.ob
  have e3 : x ≠ hp.objs.size := Nat.ne_of_lt (Heap.lt_size ox)
  have e4 : PySem.W.Looks (model prog w) hp (isInstance (.ref x) (.type "object")) true := J.type.andThen (PySem.W.looks_mroIn X (by unfold PySem.W.mroIn; rw [oc, Option.bind_some, if_neg (by rw [e1]; decide), e2]))
  refine codeAny_call_builtin S.slot.plain S.entry (@PySem.W.check_slot (model prog w) _ _ ⟨hp, g, d, t, os⟩ "object.__setattr__" "object" "__setattr__" (.ref x) [.str fd tk, u] [] _ S.kind S.split e4 (S.args (.ref x) (.str fd tk) u) ?_)
  have l1 : PySem.W.Looks (model prog w) hp (mroOf (.ref C)) cd.mro := (PySem.W.looks_clsIn X oc).andThen .now
  have l2 : PySem.W.Looks (model prog w) hp (storeTaker? none) none := .now
  have l3 : PySem.W.Looks (model prog w) hp (classData C) cd := PySem.W.looks_clsIn X oc
  rw [PySem.W.osa_eq, refuse_eq]
  refine wpAny_bind (wpAny_bind (J.type.at (wpAny_bind (l1.at ?_))))
  rw [b.pass _ _ om]
  refine wpAny_pure (wpAny_bind (J.type.at (wpAny_bind ((PySem.W.looks_findIn X no).at (wpAny_bind (l2.at ?_))))))
  show wpAny _ _ (storeInOwnDict (.ref x) (.ref C) (.str fd tk) fd u false) _ _ _
  obtain ⟨c1, c2, c3, c4, c5, c6, c7, c8, c9, c10, c11⟩ := cd
  simp only at od
  subst od
  unfold storeInOwnDict ownDictForStores
  repeat (first | with_reducible refine HandSPX.store_in_new ?_ ?_ | with_reducible refine wpAny_loadPart_at ox ?_ | with_reducible refine l3.at ?_ | wp_step)
  · exact ⟨_, #[], _, (Heap.get?_update_ne _ _ _ _ e3.symm).trans (Heap.get?_push_at rfl rfl), rfl, fun e z => absurd z (by simp), fun _ => rfl⟩
  · intro hh tt n1 n2
    have o1 : (hp.push { cls := .type "dict", data := .dict #[] }).get? x = some { cls := .ref C, data := .fields fs } := Heap.get?_push_of_some _ ox
    refine q hh tt hp.objs.size (fun y o hy ho => ?_) (Nat.le_refl _) e3.symm ?_ n1
    · exact (n2.2 y (Nat.ne_of_lt (Heap.lt_size ho))).trans ((Heap.get?_update_ne _ _ _ _ hy).trans (Heap.get?_push_of_some _ ho))
    · exact (n2.2 x e3).trans (Heap.get?_update_self _ o1 rfl)
end
structure OexK (K : PySem.W.Frag) (C : Addr) : Prop where
  cls : ∃ B nw it tl, Bse B nw it tl /\ ∃ nm q N bs bm sn sub ab col dd k0 k1 k2 k3 k5, K.lookup C = some (excClassObj nm q C N bs bm true sn sub ab col dd k0 k1 k2 k3 k5 nw) /\ rfsB tl bm = true
  sa : PySem.W.findIn K (.ref C) "__setattr__" = some (some (.builtin "object.__setattr__"))
  exC : PySem.W.subIn K (.ref C) (.type "BaseException") = some true
  tyC : PySem.W.typeIn K (.ref C) = some (.type "type")
  kC : PySem.W.keepIn K (.ref C) = true
section
variable {X : Cx} {pins : List (Addr × Obj)} {σ : L2.St} {H : Hp} {s : Shared} {a C : Addr} {f : Str} {y : V} {u : Value} {Q : Unit -> Shared -> Prop} {E : Value -> Shared -> Prop} {A : Around}
theorem ostK (T : OexK X.K C) (I : L2.Inv X pins σ H s) (e : H a = some (exo a C none)) (no : PySem.W.findIn X.K (.ref C) f = some none) (r : RelV y u)
    (h : ∀ dx z, H dx = none -> dx ≠ a -> L2.Inv X pins σ (upd (upd H dx (exd dx [(f, y)])) a (exo a C (some dx))) z -> Q () z) : wpAny (model X.prog X.w) A (setAttr (.ref a) f u) Q E s := by
  obtain ⟨B, nw, it, tl, b, nm, q, N, bs, bm, sn, sub, ab, col, dd, k0, k1, k2, k3, k5, kc, kb⟩ := T.cls
  have cl : PySem.W.clsIn X.K C = some { name := nm, bases := bs, mro := .ref C :: bm, ns := N, qualname := q, hasDict := true, slotNames := sn, subclasses := sub, abstract := ab, collection := col, hasDel := false } := by unfold PySem.W.clsIn; rw [kc] <;> rfl
  obtain ⟨t1, o1⟩ := exo_at I.hok e
  obtain ⟨hp, g, d, t, os⟩ := s
  refine PySem.W.set_plain I.kIn (ox := { cls := .ref C, dict := none, data := .fields #[.ref t1, .none, .none, .none, .bool false, .none] }) (od := none) ⟨o1, rfl, rfl, trivial⟩ T.sa ?_
  refine exf_new b I.kIn o1 cl (show rfsB tl (.ref C :: bm) = true from kb) rfl no (fun hh tt dx k dn dne hx hn => ?_)
  have hd : H dx = none := I.hok.fresh dn
  have nd : ∀ {y : Addr} {o : Obj}, hp.get? y = some o -> y ≠ dx := fun {y o} q => Nat.ne_of_lt (Nat.lt_of_lt_of_le (Heap.lt_size q) dn)
  have na : ∀ {y : Addr}, H y = none -> y ≠ a := fun {y} n z => by rw [z, e] at n; cases n
  have U : Un X.fs [] H (upd (upd H dx (exd dx [(f, y)])) a (exo a C (some dx))) hp hh := {
    keep := fun y o q n _ _ => k y o (na n) q
    slot := fun y o q n _ _ => ⟨o.slots, k y o (na n) q⟩
    free := fun y o q n _ => by rw [upd_ne (na n), upd_ne (nd q)]; exact n
    there := fun y o q _ => by
      by_cases hy : y = a
      · exact ⟨_, by rw [hy]; exact hx⟩
      · exact ⟨o, k y o hy q⟩
    tups := fun y xs q => by rw [upd_ne (at_ne e q exo_tup), upd_ne (ne_of_none q hd)]; exact q
    frzs := fun y o v q => by rw [upd_ne (at_ne e q exo_frz), upd_ne (ne_of_none q hd)]; exact q
    tbls := fun y ps q => ⟨#[], by rw [upd_ne (at_ne e q exo_tbl), upd_ne (ne_of_none q hd), q]; simp⟩ }
  refine h dx _ hd dne (I.un (t' := tt) U fun y o q => ?_)
  by_cases hy : y = a
  · subst hy
    rw [upd_same] at q
    cases q
    exact exo_ok hx
  rw [upd_ne hy] at q
  by_cases hz : y = dx
  · subst hz
    rw [upd_same] at q
    cases q
    exact exd_ok hn (relO_put (fs := []) r fun g => True.intro)
  rw [upd_ne hz] at q
  exact (I.hok y o q).stay (fun c v hc z => k c v (hc.elim (fun hc => by rw [hc]; exact hy) fun hc => at_ne e hc exo_own) z) (fun c hc => by rw [upd_ne (at_ne e hc exo_own), upd_ne (ne_of_none hc hd)]; exact hc) (fun c xs hc => by rw [upd_ne (at_ne e hc exo_tup), upd_ne (ne_of_none hc hd)]; exact hc)
end
def tOsK (K : PySem.W.Frag) (f : Str) (to te : TE) : TS := fun D σ H => te σ H fun y H1 => to σ H1 fun x H2 => ∃ a C : Addr, x = .ref a /\ OexK K C /\ PySem.W.findIn K (.ref C) f = some none /\ H2 a = some (exo a C none) /\ ∀ dx, H2 dx = none -> dx ≠ a -> D.nx σ (upd (upd H2 dx (exd dx [(f, y)])) a (exo a C (some dx)))
section
variable {X : Cx} {o e : Expr} {es : List Expr} {to te : TE} {ta : TA} {f : Str} {p p' pos : Pos}
theorem ps_osK (ho : PE X o to) (he : PE X e te) (hs : swapsWith e (some (.Attribute o f p')) pos.line X.env = pure false := by rfl) : PS X (.Assign [.Attribute o f p'] e pos) (tOsK X.K f to te) :=
  ⟨fun pins s σ H D I h => plainObj_wpAny_Assign_Attribute (thn (he.run pins s σ H _ I h) fun v s1 ⟨y, H1, I1, r1, q1⟩ => thn (ho.run pins s1 σ H1 _ I1 q1) fun u s2 ⟨x, H2, I2, r2, a, C, ex, T, no, ea, q⟩ => by
    subst ex
    obtain rfl : u = Value.ref a := r2
    exact ostK T I2 ea no r1 fun dx z n ne J => ⟨σ, _, J, q dx n ne⟩) hs⟩
theorem pmkK {CX : CXT} {x : Str} {C fI : Addr} {k : Nat} {fd : FuncData} {ps : List Str} {sp : Sp} {ds : List Value} {dvs : List V} (T : OexK X.K C) (iC : PySem.W.findIn X.K (.ref C) "__init__" = some (some (.ref fI))) (tI : PySem.W.typeIn X.K (.ref fI) = some (.type "function"))
    (F1 : FnOk X.prog X.w X.K X.mg X.base CX k fI fd ps sp) (hr : Room (k + 1) X.A) (hb : Binds X.K fd ps ds) (hd : Vals dvs ds) (hx : Passes CX X (fun _ _ _ => False)) (hg : Gl X x) (hm : X.mg x = some (.ref C)) (ha : PA X (e :: es) ta)
    (hdb : (x == ("__debug__" : Str)) = false) (he : starEach (e :: es) X.env = (false, eval e X.env) :: starEach es X.env) (hpl : (backTo pos (starEach es X.env)).any (·.1) = false) :
    PMk X (.Call (.Name x p) (e :: es) [] pos) (tMkO C sp dvs ta) := fun pins s σ H Q I h => by
  obtain ⟨B, nw, it, tl, b, nm, q, N, bs, bm, sn, sub, ab, col, dd, k0, k1, k2, k3, k5, kc, kb⟩ := T.cls
  refine wpAny_Call_Name_kw (ld_glob I hg hm ?_ hdb)
  refine PySem.W.callWith_K (h₀ := X.base) I.ok.mod.kin T.kC (thn (ha.run pos pins s σ H _ I h) fun us z1 ⟨vs, H1, I1, r1, hz, q1⟩ => ⟨I1.kIn, ?_⟩) he hpl
  show wpAny _ _ (PySem.call (.ref C) us) _ _ _
  obtain ⟨hp, g, dr, tk, os⟩ := z1
  have m1 : hp.objs.size <= hp.objs.size + 1 := Nat.le_succ _
  have m2 : H1 (hp.objs.size + 1) = none := I1.hok.fresh m1
  have m3 := q1 (hp.objs.size + 1) m2
  have m4 : ∀ y o, hp.get? y = some o -> ((hp.push (PySem.W.kdv_tup us)).push (PySem.HandSPX.excO C hp.objs.size)).get? y = some o := fun y o z => Heap.get?_push_of_some _ (Heap.get?_push_of_some _ z)
  have m5 : ((hp.push (PySem.W.kdv_tup us)).push (PySem.HandSPX.excO C hp.objs.size)).get? (hp.objs.size + 1) = some (PySem.HandSPX.excO C hp.objs.size) := by heap_get
  have I2 : L2.Inv X pins σ (upd H1 (hp.objs.size + 1) (exo (hp.objs.size + 1) C none)) ⟨(hp.push (PySem.W.kdv_tup us)).push (PySem.HandSPX.excO C hp.objs.size), g, dr, tk, os⟩ := I1.laid (t' := tk) (a := hp.objs.size + 1) (o := exo (hp.objs.size + 1) C none) (h' := (hp.push (PySem.W.kdv_tup us)).push (PySem.HandSPX.excO C hp.objs.size)) m4 m1 (exo_ok m5)
  have m6 : Vals (V.ref (hp.objs.size + 1) :: (vs ++ dvs)) (Value.ref (hp.objs.size + 1) :: (us ++ ds)) := .cons rfl (r1.append hd)
  have m7 : (Value.ref (hp.objs.size + 1) :: us ++ ds).length = ps.length := (m6.length.symm.trans (F1.len _ _ _ _ m3))
  have m8 : us.length <= sizeLine := by rw [<- Paired.length r1, sizeLine_eq]; omega
  refine wpAny_call (PySem.HandSPX.call_own b.eb (fun Y => rfs_has Y bm kb) (I1.kIn _ _ kc) (PySem.W.looks_findIn I1.kIn iC) (fun self => PySem.W.bind_fn I1.kIn self tI) m8
    (codeAny_mono (F1.run _ X.stack _ _ ⟨Value.ref (hp.objs.size + 1) :: us, []⟩ (Value.ref (hp.objs.size + 1) :: (us ++ ds)) _ _ (fun _ _ _ => False) (hr.make C us []) (I2.env0.make C us []) (hb _ (Value.ref (hp.objs.size + 1) :: us) I2.kIn m7) m6 m3) fun r z m9 => ?_))
  cases r with
  | error er => exact hx pins σ _ _ er z I2 m9
  | ok fl => cases fl with
    | ret u =>
      obtain ⟨v, H2, n1, n2, n3, n4, rv, ev, d, fs, ea, ed, n5, n6⟩ := m9
      subst ev
      obtain ⟨h2, g2, d2, t2, os'⟩ := z
      exact ⟨rv, mk_end (raises_own T.exC T.tyC) I1 m1 m4 n3 n4 n1 n2 ea ed n5 n6⟩
    | _ => exact False.elim m9
end
end Fs
namespace Fs
open PySem L2 PyProof.Rows PySem.Spec
def spF (K : PySem.W.Frag) (f : Str) : Sp := fun vs H Q _ => ∃ (a C : Addr) (y : V), vs = [.ref a, y] /\ OexK K C /\ PySem.W.findIn K (.ref C) f = some none /\ H a = some (exo a C none) /\
  ∀ dx, H dx = none -> dx ≠ a -> Q .non (upd (upd H dx (exd dx [(f, y)])) a (exo a C (some dx)))
structure OxF (Pw : Program) (w : World) (K : PySem.W.Frag) (mg : Str -> Option Value) (base : Heap) (x f : Str) (C : Addr) : Prop where
  gC : mg x = some (.ref C)
  T : OexK K C
  no : PySem.W.findIn K (.ref C) f = some none
  ini : ∃ fI fd ps, PySem.W.findIn K (.ref C) "__init__" = some (some (.ref fI)) /\ PySem.W.typeIn K (.ref fI) = some (.type "function") /\ Binds K fd ps [] /\ FnOk Pw w K mg base (L2.CX Pw w) 1 fI fd ps (spF K f)
section
variable {Pw : Program} {w : World} {K : PySem.W.Frag} {mg : Str -> Option Value} {base : Heap}
theorem ini_ok {fI : Addr} {fd : FuncData} {qual : Str} {params : Arguments} {scope : Scope} {s v f : Str} {p1 p2 p3 p4 : Pos} (D : FunD K "__init__" qual params [.Assign [.Attribute (.Name s p1) f p2] (.Name v p3) p4] scope [] [] fI fd) (S : FnScope [s, v] [s, v] scope)
    (h1 : Vis scope s) (h2 : Vis scope v) (d1 : (s == ("__debug__" : Str)) = false) (d2 : (v == ("__debug__" : Str)) = false) (c1 : (s == ("__classdict__" : Str)) = false) (c2 : (v == ("__classdict__" : Str)) = false) : FnOk Pw w K mg base (L2.CX Pw w) 1 fI fd [s, v] (spF K f) :=
  FunD.ok D S (fun vs H Q E ⟨a, C, y, e, _⟩ => by rw [e]; rfl) fun cdv A outer sh H vs Q E hr ⟨a, C, y, e, T, no, ha, q⟩ => by
    subst e
    refine ⟨_, pss_one (ps_osK (pe_var (i := 0) rfl h1 d1 c1) (pe_var (i := 1) rfl h2 d2 c2)), ?_⟩
    exact ⟨y, rfl, .ref a, rfl, a, C, rfl, T, no, ha, fun dx n ne => q dx n ne⟩
end
section
variable {X : L2.Cx} {T : Tbl} {Z : Wc} {W : WX} {e : Expr} {es : List Expr} {A : Ex} {pos p pos' : Pos} {x f : Str}
theorem del_upd {H : Hp} {a dx : Addr} {o o1 o2 o3 : HO} (hn : H a = none) (ne : dx ≠ a) : upd (del (upd (upd (upd H a o) dx o1) a o2) a) dx o3 = upd H dx o3 := by
  funext b
  by_cases hd : b = dx
  · rw [hd, upd_same, upd_same]
  · rw [upd_ne hd, upd_ne hd]
    by_cases hb : b = a
    · rw [hb, del_same, hn]
    · rw [del_ne hb, upd_ne hb, upd_ne hd, upd_ne hb]
theorem ss_rse1 {c : Nat} (hc : X.calm = true) (tk : Takes X W) (hK : X.K = Z.K) (F : OxF X.prog X.w X.K X.mg X.base x f (Z.ca c)) (hfl : Z.fl c = some f) (hT : T.fld c = some f) (hr : Room 2 X.A) (hg : Gl X x) (ha : PA X [e] (iEs T Z W [A]))
    (hdb : (x == ("__debug__" : Str)) = false) (he : starEach [e] X.env = (false, eval e X.env) :: starEach [] X.env) (hpl : (backTo pos (starEach [] X.env)).any (·.1) = false) :
    PS X (.Raise (some (.Call (.Name x p) [e] [] pos)) none pos') (iS T Z W (.rse c [A])) := by
  obtain ⟨fI, fd, ps, iC, tI, hb, F1⟩ := F.ini
  refine ps_weak (ps_raise hc tk (pmkK (p := p) F.T iC tI F1 hr hb (dvs := []) (ds := []) .nil (passes_call tk fun _ _ _ _ h => h.elim) hg F.gC ha hdb he hpl)) fun D σ H ⟨ρ, env, st, er, sr, h⟩ => ?_
  refine ⟨ρ, env, st, er, sr, ?_⟩
  simp only [exS, ev] at h
  unfold lft bnd at h
  cases e1 : evs T [A] env st with
  | ok ds st1 =>
    rw [e1] at h
    intro ρ' H' vs F2 t sr' r
    cases ds with
    | nil => simp only [hT, Fs.bad] at h; exact h.elim
    | cons d ds =>
      cases ds with
      | cons d2 ds => simp only [hT, Fs.bad] at h; exact h.elim
      | nil =>
        simp only [hT, landM, ret] at h
        obtain ⟨y, ws, Fa, Fb, rfl, ry, ⟨rfl, rfl⟩, rfl⟩ := r
        have n1 : Now Z ρ H ρ' st1 H' ([] ++ (Fa ++ [])) := (Now.start sr).more sr t sr' (fun a ha => by rw [List.append_nil] at ha; exact ry.there a ha)
        rw [List.append_nil, List.nil_append] at n1
        obtain ⟨N, pm, s2, r2⟩ := land_ok d sr' ry n1.out n1.nd
        have n2 : Now Z ρ H (ρ' ++ N) (land d st1).2 H' [] := Now.landed (F := []) n1 pm s2
        refine ⟨by simp, fun a hna => ⟨a, _, y, rfl, F.T, F.no, upd_same, fun dx hdx ne => ?_⟩⟩
        have hdx' : H' dx = none := by rw [upd_ne ne] at hdx; exact hdx
        refine ⟨rfl, dx, [(f, y)], upd_same, by rw [upd_ne ne, upd_same], hdx', ?_⟩
        rw [del_upd hna ne]
        have n3 : Now Z ρ H (ρ' ++ N) (land d st1).2 (upd H' dx (.xd [(f, y)])) [] := (n2.new sr hdx').less (List.nil_sublist _)
        refine h (ρ' ++ N) _ σ _ (some dx) n3.stp n3.sr (n3.stp.env sr er) ⟨c, [(land d st1).1], rfl, rfl, ?_⟩
        rw [hfl]
        exact ⟨rfl, f, dx, y, rfl, rfl, upd_same, rp_up hdx' r2⟩
  | exc x st1 =>
    rw [e1] at h
    intro ρ' H' cls dx t sr' r
    exact h ρ' H' σ cls dx t sr' (t.env sr er) r
  | bad => rw [e1] at h; exact h.elim
end
end Fs
namespace Fs
open PySem L2 PyProof.Rows PySem.Spec
section
variable {X : L2.Cx} {T : Tbl} {Z : Wc} {W : WX} {e : Expr} {es : List Expr} {As : List Ex} {pos p : Pos} {x : Str} {k i n : Nat} {f : Addr} {fd : FuncData} {ps : List Str} {d : D} {dv : V} {u : Value} {Pp : Pr}
end
section
variable {X : L2.Cx} {Pp : Pr} {n i : Nat} {Z : Wc} {W : WX} {e : Expr} {pos p : Pos} {es : List Expr} {As : List Ex} {x : Str} {ps : List Str} {b : Bool}
end
def LstInts (K : PySem.W.Frag) (a : Addr) : Prop := ∀ o, K.lookup a = some o -> ∃ xs n, o.data = .seq xs n /\ ∀ v ∈ xs.toList, ∃ i t, v = Value.int i t
theorem LstInts.at_ {K : PySem.W.Frag} {a : Addr} (h : LstInts K a) : LstAt K a := fun o e => let ⟨xs, n, q, _⟩ := h o e; ⟨xs, n, q⟩
section
variable {K : PySem.W.Frag} {x qual : Str} {params : Arguments} {body : List Stmt} {scope : Scope} {b : Bool} {f : Addr} {fd : FuncData} {ps : List Str}
end
theorem ints_all : ∀ {vs : List Value} {ns : List Int}, IntsAre vs ns -> ∀ v ∈ vs, ∃ i t, v = Value.int i t
  | _, _, .nil, v, h => nomatch h
  | _, _, .cons n t r, v, h => by
    rcases List.mem_cons.1 h with rfl | h
    · exact ⟨_, _, rfl⟩
    · exact ints_all r v h
end Fs
namespace Fs
open PySem L2 PyProof.Rows PySem.Spec
structure OxW (K : PySem.W.Frag) (mg : Str -> Option Value) (x f qual : Str) (m : Stmt) (C : Addr) : Prop where
  gC : mg x = some (.ref C)
  T : OexK K C
  no : PySem.W.findIn K (.ref C) f = some none
  ini : ∃ fI fd, PySem.W.findIn K (.ref C) "__init__" = some (some (.ref fI)) /\ PySem.W.typeIn K (.ref fI) = some (.type "function") /\ FunD K "__init__" qual (defArgs m) (defBody m) (defScope m) [] [] fI fd
theorem oexC_obj {K : PySem.W.Frag} {C : Addr} (T : OexK K C) : ∃ o, K.lookup C = some o /\ ∀ xs n, o.data ≠ .seq xs n := by
  obtain ⟨B, nw, it, tl, bb, nm, q, N, bs, bm, sn, sub, ab, col, dd, k0, k1, k2, k3, k5, hC, hbm⟩ := T.cls
  exact ⟨_, hC, fun xs n z => by cases z⟩
theorem oexC_del {K : PySem.W.Frag} {C a : Addr} (hL : LstAt K a) (T : OexK K C) : OexK (kdel K a) C := by
  obtain ⟨o, hl, ho⟩ := oexC_obj T
  have hl' := kdel_keep hL hl ho
  obtain ⟨B, nw, it, tl, bb, nm, q, N, bs, bm, sn, sub, ab, col, dd, k0, k1, k2, k3, k5, hC, hbm⟩ := T.cls
  refine ⟨⟨B, nw, it, tl, bb, nm, q, N, bs, bm, sn, sub, ab, col, dd, k0, k1, k2, k3, k5, ?_, hbm⟩, findIn_le (kle_del hL) T.sa, ?_, ?_, keepIn_le (kle_del hL) T.kC⟩
  · rw [hl']; rw [hl] at hC; exact hC
  · have e := T.exC
    simp only [PySem.W.subIn, PySem.W.mroIn, PySem.W.clsIn, hl, hl'] at e ⊢
    exact e
  · have e := T.tyC
    simp only [PySem.W.typeIn, hl, hl'] at e ⊢
    exact e
theorem OxW.del {K : PySem.W.Frag} {mg : Str -> Option Value} {x f qual : Str} {m : Stmt} {C a : Addr} (hL : LstAt K a) (h : OxW K mg x f qual m C) : OxW (kdel K a) mg x f qual m C := by
  obtain ⟨fI, fd, h1, h2, D⟩ := h.ini
  refine ⟨h.gC, oexC_del hL h.T, findIn_le (kle_del hL) h.no, fI, fd, findIn_le (kle_del hL) h1, ?_, FunD.del hL D⟩
  obtain ⟨oc, od, dV, kV, doc, pm, an, cdv, ct, osl, rfl, lk, hcd, _⟩ := D.ex
  have hl' := kdel_keep hL lk (by intro xs n z; cases z)
  simp only [PySem.W.typeIn, lk, hl'] at h2 ⊢
  exact h2
theorem exm_del2 {K : PySem.W.Frag} {C D a : Addr} {b : Bool} (hL : LstAt K a) (F : ∃ o, K.lookup C = some o /\ ∀ xs n, o.data ≠ .seq xs n) (G : ∃ o, K.lookup D = some o /\ ∀ xs n, o.data ≠ .seq xs n) (e : PySem.W.exmOne K (.ref C) (.ref D) = some b) : PySem.W.exmOne (kdel K a) (.ref C) (.ref D) = some b := by
  obtain ⟨o, hl, ho⟩ := F
  have hl' := kdel_keep hL hl ho
  obtain ⟨o2, hl2, ho2⟩ := G
  have hl2' := kdel_keep hL hl2 ho2
  simp only [PySem.W.exmOne, PySem.W.subIn, PySem.W.mroIn, PySem.W.clsIn, PySem.W.kitCls, PySem.W.typeIn, hl, hl', hl2, hl2'] at e ⊢
  exact e
theorem ExF.obj {K : PySem.W.Frag} {mg : Str -> Option Value} {x : Str} {C : Addr} (F : ExF K mg x C) : ∃ o, K.lookup C = some o /\ ∀ xs n, o.data ≠ .seq xs n := F.obj0
theorem OxW.obj {K : PySem.W.Frag} {mg : Str -> Option Value} {x f qual : Str} {m : Stmt} {C : Addr} (h : OxW K mg x f qual m C) : ∃ o, K.lookup C = some o /\ ∀ xs n, o.data ≠ .seq xs n := oexC_obj h.T
theorem OxW.ox {Pw : Program} {w : World} {K : PySem.W.Frag} {mg : Str -> Option Value} {base : Heap} {x f qual : Str} {m : Stmt} {C : Addr} {ps : List Str} (h : OxW K mg x f qual m C)
    (hf : ∀ fI fd, FunD K "__init__" qual (defArgs m) (defBody m) (defScope m) [] [] fI fd -> Binds K fd ps [] /\ FnOk Pw w K mg base (L2.CX Pw w) 1 fI fd ps (spF K f)) : OxF Pw w K mg base x f C := by
  obtain ⟨fI, fd, h1, h2, D⟩ := h.ini
  obtain ⟨h3, h4⟩ := hf fI fd D
  exact ⟨h.gC, h.T, h.no, fI, fd, ps, h1, h2, h3, h4⟩
theorem oexB_ok {K : PySem.W.Frag} {C : Addr} (h : oexB K C = true) : OexK K C := by
  obtain ⟨q, c⟩ := He.ba h
  obtain ⟨c1, c⟩ := He.ba c
  obtain ⟨c2, c⟩ := He.ba c
  obtain ⟨c3, c4⟩ := He.ba c
  refine ⟨?_, He.eqO_ok c1, of_decide_eq_true c3, of_decide_eq_true c4, c2⟩
  split at q
  · rename_i dd cd sl ho
    split at q
    · rename_i C' bm k0 k1 k2 k3 n k5 hm hs
      simp only [Bool.and_eq_true, beq_iff_eq, Bool.not_eq_true'] at q
      obtain ⟨⟨⟨rfl, hdel⟩, hdic⟩, ht⟩ := q
      obtain ⟨B, it, tl, hB, ht⟩ := bsB_ok ht
      obtain ⟨nm, bs, mro, ns, qn, hd, sn, sub, ab, col, del⟩ := cd
      dsimp only at hm hdel hdic
      subst hm hdel hdic
      have hsl : sl = #[k0, k1, k2, k3, some (.builtin n), k5] := by
        obtain ⟨l⟩ := sl
        simp only at hs
        rw [hs]
      subst hsl
      exact ⟨B, n, it, tl, hB, nm, qn, ns, bs, bm, sn, sub, ab, col, dd, k0, k1, k2, k3, k5, ho, ht⟩
    · cases q
  · cases q
theorem exB_two {xs : List (Bool × Str)} {K : PySem.W.Frag} (h : exB xs K = true) (i : Nat) {x : Str} (hx : xs[i]? = some (true, x)) : oexB K (He.ga K x) = true /\ xfB K (He.ga K x) = true := by
  have h1 : (oexB K (He.ga K x) && xfB K (He.ga K x)) = true := List.all_eq_true.mp h _ (List.mem_of_getElem? hx)
  exact He.ba h1
theorem exB_ok {xs : List (Bool × Str)} {K : PySem.W.Frag} (h : exB xs K = true) (i : Nat) {x : Str} (hx : xs[i]? = some (true, x)) : OexK K (He.ga K x) := oexB_ok (exB_two h i hx).1
theorem exB_xf {xs : List (Bool × Str)} {K : PySem.W.Frag} (h : exB xs K = true) (i : Nat) {x : Str} (hx : xs[i]? = some (true, x)) : XfC K (He.ga K x) := xfB_ok (exB_two h i hx).2
theorem xfC_del {K : PySem.W.Frag} {C a : Addr} (hL : LstAt K a) (F : ∃ o, K.lookup C = some o /\ ∀ xs n, o.data ≠ .seq xs n) (T : XfC K C) : XfC (kdel K a) C := by
  obtain ⟨o, hl, ho⟩ := F
  have hl' := kdel_keep hL hl ho
  refine ⟨findIn_le (kle_del hL) T.ga, findIn_le (kle_del hL) T.gg, ?_, ?_⟩
  · have e := T.exC
    simp only [PySem.W.subIn, PySem.W.mroIn, PySem.W.clsIn, hl, hl'] at e ⊢
    exact e
  · have e := T.hdC
    simp only [PySem.W.hasDictIn, PySem.W.clsIn, hl, hl'] at e ⊢
    exact e
theorem exB_re {xs : List (Bool × Str)} {K : PySem.W.Frag} (h : exB xs K = true) (i : Nat) {x : Str} (hx : xs[i]? = some (false, x)) : (PySem.W.excIn K (He.ga K x) reBase "RuntimeError.__new__" = true ∨ PySem.W.excIn K (He.ga K x) aeBase "ArithmeticError.__new__" = true) /\ PySem.W.keepIn K (.ref (He.ga K x)) = true /\ PySem.W.subIn K (.ref (He.ga K x)) (.type "BaseException") = some true /\ PySem.W.typeIn K (.ref (He.ga K x)) = some (.type "type") := by
  have h1 : rexB K (He.ga K x) = true := List.all_eq_true.mp h _ (List.mem_of_getElem? hx)
  obtain ⟨c1, c⟩ := He.ba h1
  obtain ⟨c2, c⟩ := He.ba c
  obtain ⟨c3, c4⟩ := He.ba c
  exact ⟨Bool.or_eq_true_iff.mp c1, c2, of_decide_eq_true c3, of_decide_eq_true c4⟩
theorem oxw_of {K : PySem.W.Frag} {mg : Str -> Option Value} {x f qual : Str} {m : Stmt} (hg : mg x = some (.ref (He.ga K x))) (T : OexK K (He.ga K x)) (cm : (He.Fa.meth x "__init__").ok K = true) (cn : (He.Fa.noat x f).ok K = true)
    (D : ∃ fd, FunD K "__init__" qual (defArgs m) (defBody m) (defScope m) [] [] (He.fAd K (x, some "__init__")) fd) : OxW K mg x f qual m (He.ga K x) := by
  obtain ⟨c1, c⟩ := He.ba cm
  obtain ⟨c2, c3⟩ := He.ba c
  obtain ⟨fd, D⟩ := D
  exact ⟨hg, T, He.eqO_ok cn, _, fd, He.eqO_ok c1, by simpa [PySem.W.isFn] using c2, D⟩
end Fs
namespace Fs
open PySem L2 PyProof.Rows PySem.Spec
def tXh (K : PySem.W.Frag) (f : Str) (te : TE) : TE := fun σ H Q => te σ H fun x H1 => ∃ (a C dd : Addr) (fs : List (Str × V)) (v : V), x = .ref a /\ H1 a = some (exoH a C (some dd)) /\ XfC K C /\ PySem.W.findIn K (.ref C) f = some none /\ H1 dd = some (.xd fs) /\ fs.lookup f = some v /\ Q v H1
theorem pe_xh {X : L2.Cx} {e : Expr} {te : TE} {pos : Pos} {n : Str} (he : PE X e te) (hb : attributeBase e n X.env (eval e X.env) = eval e X.env) : PE X (.Attribute e n pos) (tXh X.K n te) := by
  refine ⟨fun pins s σ H Q I h => ?_⟩
  refine attr_of hb (thn (he.run pins s σ H _ I h) fun u s1 hh => ?_)
  obtain ⟨x, H1, I1, rx, a, C, dd, fs, v, ex, hx0, T, hno, ea, l, q⟩ := hh
  subst ex
  obtain rfl : u = Value.ref a := rx
  obtain ⟨⟨oe, vs, ha, hc, hdd, hd⟩, _⟩ := I1.hok a _ hx0
  have hx : ObjOk X.prog X.w H1 s1.heap dd (.xd fs) := I1.hok dd _ ea
  obtain ⟨mA, hns, hr⟩ := hx
  obtain ⟨od, ho, hl⟩ := lookIn_ns hns
  obtain ⟨u, hu, ru⟩ := RelO.some_of (v := v) (o := mA n) (by rw [<- l]; exact hr n)
  have J : PySem.W.InstAt s1.heap a oe C (some od) := ⟨ha, hc, by unfold PySem.W.notCls; rw [hd] <;> rfl, by rw [hdd]; exact ho⟩
  exact HandSPX.exc_get I1.kIn J T.ga T.gg T.exC (PySem.W.findObj_own T.hdC hno rfl (by rw [hl, hu])) (handed_of ru) ⟨v, H1, I1.tok _, ru, q⟩
section
variable {X : L2.Cx} {T : Tbl} {Z : Wc} {W : WX} {e : Expr} {A : Ex} {pos : Pos} {f : Str}
theorem se_attr (hK : X.K = Z.K) (he : PE X e (iE T Z W A)) (hx : ∀ c, T.fld c = some f -> Z.fl c = some f /\ XfC X.K (Z.ca c) /\ PySem.W.findIn X.K (.ref (Z.ca c)) f = some none) (hb : attributeBase e f X.env (eval e X.env) = eval e X.env) : PE X (.Attribute e f pos) (iE T Z W (.attr A f)) :=
  ⟨fun pins s σ H Q I q => by
    refine (pe_xh he hb).run pins s σ H Q I ?_
    obtain ⟨ρ, env, st, er, sr, q⟩ := q
    simp only [ev] at q
    refine ⟨ρ, env, st, er, sr, (Post.seq rpOk (Now.start sr) sr q).mono ?_⟩
    rintro x H1 ⟨ρ1, d1, st1, F1, n1, t1, r1, h1⟩
    cases d1 with
    | exc c fs =>
      cases fs with
      | nil => exact h1.elim
      | cons y r =>
        cases r with
        | cons z r => exact h1.elim
        | nil =>
          obtain ⟨a, dx, rfl, ha, hr, rfl⟩ := r1
          by_cases hf : T.fld c = some f
          · obtain ⟨h2, h3, h4⟩ := hx c hf
            rw [h2] at hr
            obtain ⟨_, n, xd, u, e1, rfl, e3, e4⟩ := hr
            cases e1
            have h5 : (gd (decide (T.fld c = some f)) (ret y) : M D) = ret y := by rw [decide_eq_true hf]; rfl
            refine ⟨a, _, xd, [(f, u)], u, rfl, ha, h3, h4, e3, ?_, ?_⟩
            · exact List.lookup_cons_self
            · dsimp only at h1
              rw [h5] at h1
              exact Post.ret h1 n1 e4
          · exfalso
            have h5 : (gd (decide (T.fld c = some f)) (ret y) : M D) = bad := by rw [decide_eq_false hf]; rfl
            dsimp only at h1
            rw [h5] at h1
            exact h1.elim
    | _ => exact h1.elim⟩
end
end Fs
namespace Fs
open PySem L2 PyProof.Rows PySem.Spec
section
variable {Z : Wc} {ρ ρ' : List Addr} {H H' : Hp}
mutual
theorem Rp.pln (ht : ∀ a xs, SqT Z.K H a xs -> SqT Z.K H' a xs) : ∀ {d : D} {v : V} {F : List Addr}, D.pln d = true -> Rp Z ρ H d v F -> Rp Z ρ' H' d v F
  | .non, v, F, _, h => h
  | .bl b, v, F, _, h => h
  | .int i, v, F, _, h => h
  | .str s, v, F, _, h => h
  | .tup ds, v, F, p, h => by
    obtain ⟨a, vs, e, h2, h3⟩ := h
    exact ⟨a, vs, e, ht _ _ h2, Rps.pln ht (by simpa only [D.pln] using p) h3⟩
  | .ref _, _, _, p, _ => by simp [D.pln] at p
  | .lst _, _, _, p, _ => by simp [D.pln] at p
  | .frl _, _, _, p, _ => by simp [D.pln] at p
  | .dic _, _, _, p, _ => by simp [D.pln] at p
  | .set _, _, _, p, _ => by simp [D.pln] at p
  | .exc _ _, _, _, p, _ => by simp [D.pln] at p
  | .lam _ _, _, _, p, _ => by simp [D.pln] at p
theorem Rps.pln (ht : ∀ a xs, SqT Z.K H a xs -> SqT Z.K H' a xs) : ∀ {ds : List D} {vs : List V} {F : List Addr}, D.plns ds = true -> Rps Z ρ H ds vs F -> Rps Z ρ' H' ds vs F
  | [], vs, F, _, h => h
  | d :: ds, vs, F, p, h => by
    obtain ⟨v, ws, F1, F2, rfl, h1, h2, rfl⟩ := h
    simp only [D.plns, Bool.and_eq_true] at p
    exact ⟨v, ws, F1, F2, rfl, Rp.pln ht p.1 h1, Rps.pln ht p.2 h2, rfl⟩
end
mutual
theorem D.pln_pur : ∀ {d : D}, D.pln d = true -> D.pur d = true
  | .non, _ => rfl
  | .bl _, _ => rfl
  | .int _, _ => rfl
  | .str _, _ => rfl
  | .tup ds, p => by
    simp only [D.pur]
    exact D.plns_pur (by simpa only [D.pln] using p)
  | .ref _, p => by simp [D.pln] at p
  | .lst _, p => by simp [D.pln] at p
  | .frl _, p => by simp [D.pln] at p
  | .dic _, p => by simp [D.pln] at p
  | .set _, p => by simp [D.pln] at p
  | .exc _ _, p => by simp [D.pln] at p
  | .lam _ _, p => by simp [D.pln] at p
theorem D.plns_pur : ∀ {ds : List D}, D.plns ds = true -> D.purs ds = true
  | [], _ => rfl
  | d :: ds, p => by
    simp only [D.plns, Bool.and_eq_true] at p
    simp only [D.purs, D.pln_pur p.1, D.plns_pur p.2, Bool.and_self]
end
theorem RpK.get : ∀ {kvs : List (Ky × D)} {ws : List (L2.Key × V)} {i : Nat} {d : D} {k : L2.Key} {x : V}, RpK Z ρ H kvs ws [] -> (kvs.map (·.2))[i]? = some d -> ws[i]? = some (k, x) -> Rp Z ρ H d x []
  | [], ws, i, d, k, x, h, e, _ => by simp at e
  | (q, y) :: r, ws, 0, d, k, x, h, e, e2 => by
    obtain ⟨j, v, ws', F1, F2, _, rfl, h1, h2, f⟩ := h
    cases e; cases e2
    obtain ⟨rfl, _⟩ := List.append_eq_nil_iff.1 f.symm
    exact h1
  | (q, y) :: r, ws, i + 1, d, k, x, h, e, e2 => by
    obtain ⟨j, v, ws', F1, F2, _, rfl, h1, h2, f⟩ := h
    obtain ⟨_, rfl⟩ := List.append_eq_nil_iff.1 f.symm
    exact RpK.get h2 (by simpa using e) (by simpa using e2)
theorem RpK.length {kvs : List (Ky × D)} {ws : List (L2.Key × V)} {F : List Addr} (h : RpK Z ρ H kvs ws F) : kvs.length = ws.length := by simpa using congrArg List.length h.keysEq
end
section
variable {X : L2.Cx} {T : Tbl} {Z : Wc} {W : WX} {pos p : Pos} {tg e c : Expr} {A B : Ex} {σ : L2.St} {H : Hp}
structure Iso (Z : Wc) (ρ : List Addr) (st : Sto) (H H' : Hp) (a : Addr) (od : Obj) (ws : List (L2.Key × V)) : Prop where
  n : Now Z ρ H ρ st H' []
  at_ : H' a = some (.dK ws)
end
end Fs
namespace Fs
open PySem L2 PyProof.Rows PySem.Spec
section
variable {X : L2.Cx} {T : Tbl} {Z : Wc} {W : WX} {pos apos : Pos} {o : Expr} {A : Ex}
end
end Fs
namespace Fs
open PySem L2 PyProof.Rows PySem.Spec
def rIsX (K : PySem.W.Frag) : List V -> Hp -> VK -> Prop := fun xs H Q => ∃ (a C : Addr) (dx : Option Addr) (c : V) (cv : Value) (b : Bool), xs = [.ref a, c] /\ H a = some (exoH a C dx) /\ (∀ d, dx = some d -> H d ≠ none) /\ ExcC K C /\ (∀ u, RelV c u -> u = cv) /\ PySem.W.kitOne K (.ref C) cv = some b /\ Q (.bl b) H
theorem call_isX {X : L2.Cx} : CallR X (.builtin "isinstance") (rIsX X.K) := by
  intro pins s σ H xs us Q I r h
  obtain ⟨a, C, dx, c, cv, b, rfl, ha, hd0, T, hcv, e, q⟩ := h
  cases r with
  | cons rx rr => cases rr with
    | cons rt rr =>
      cases rr
      cases rx
      have ec := hcv _ rt
      subst ec
      obtain ⟨⟨oe, vs, he, hc, hdd, hd⟩, _⟩ := I.hok a _ ha
      have hI : ∃ od, PySem.W.InstAt s.heap a oe C od := by
        cases dx with
        | none => exact ⟨none, he, hc, by unfold PySem.W.notCls; rw [hd] <;> rfl, by rw [hdd]; trivial⟩
        | some d =>
          cases eH : H d with
          | none => exact absurd eH (hd0 d rfl)
          | some u =>
            have lt := (I.hok d u eH).lt
            have : ∃ o, s.heap.get? d = some o := by
              have x := I.hok d u eH
              clear hd0
              cases u with
              | lst xs => obtain ⟨_, _, _, _, e⟩ := x; exact ⟨_, e⟩
              | tup xs => obtain ⟨_, _, _, o, p, _⟩ := x; exact ⟨_, p⟩
              | dK kvs => obtain ⟨_, _, _, _, o, _, _, e, _⟩ := x; exact ⟨_, e⟩
              | dT kvs => obtain ⟨_, _, _, _, o, _, _, e, _⟩ := x; exact ⟨_, e⟩
              | set S n => obtain ⟨o, _, _, _, e, _⟩ := x; exact ⟨_, e⟩
              | ins C dx fs => obtain ⟨_, _, _, e, _⟩ := x; exact ⟨_, e⟩
              | own y => exact x
              | xd fs => obtain ⟨_, ⟨_, _, _, e, _⟩, _⟩ := x; exact ⟨_, e⟩
              | rng lo hi => obtain ⟨_, _, _, e⟩ := x; exact ⟨_, e⟩
              | frz ob u => exact ⟨_, x.1⟩
              | tbl ps => exact ⟨_, x⟩
              | met f y => exact ⟨_, x⟩
              | ext φ => exact x.2.1
            obtain ⟨o, ho⟩ := this
            exact ⟨some o, he, hc, by unfold PySem.W.notCls; rw [hd] <;> rfl, by rw [hdd]; exact ho⟩
      obtain ⟨od, J⟩ := hI
      have hcl : (PySem.W.clsIn X.K C).isSome = true := by
        obtain ⟨cd, hcd, _⟩ := PySem.W.any_some T.hd
        rw [hcd]; rfl
      exact PySem.W.kia_one (PySem.W.kitx_exc (od := od) (ox := oe) hcl T.hg T.hk T.hs T.ha T.hn T.ht T.hm) I.kIn J e (fun z => nomatch z) fun tk => ⟨.bl b, H, I.kept (t' := tk) fun _ _ z => z, rfl, q⟩
section
variable {X : L2.Cx} {T : Tbl} {Z : Wc} {W : WX} {e : Expr} {A : Ex} {p p2 pos : Pos} {k : Nat} {x : Str}
theorem kit_of {K : PySem.W.Frag} {C D : Addr} {b : Bool} (h : PySem.W.exmOne K (.ref C) (.ref D) = some b) (hs : C = D -> b = true) : PySem.W.kitOne K (.ref C) (.ref D) = some b := by
  unfold PySem.W.kitOne
  by_cases hc : (Value.ref C == Value.ref D) = true
  · rw [if_pos hc, hs (Value.ref.inj (beq_iff_eq.mp hc))]
  · rw [if_neg hc]
    unfold PySem.W.exmOne at h
    split at h
    · exact h
    · cases h
theorem se_isE (hK : X.K = Z.K) (hg : Gl X "isinstance") (hm : X.mg "isinstance" = none) (hgx : Gl X x) (F : X.mg x = some (.ref (Z.ca k))) (hx : ∀ c, ExcC X.K (Z.ca c)) (hxm : ∀ c, PySem.W.exmOne X.K (.ref (Z.ca c)) (.ref (Z.ca k)) = some (T.anc c k)) (hkk : T.anc k k = true)
    (ha : PE X e (iE T Z W A)) (hdb : (x == ("__debug__" : Str)) = false) (he : starEach [e, .Name x p2] X.env = (false, eval e X.env) :: starEach [.Name x p2] X.env) (he2 : starEach [.Name x p2] X.env = (false, eval (.Name x p2) X.env) :: starEach [] X.env)
    (hpl : (backTo pos (starEach [.Name x p2] X.env)).any (·.1) = false) : PE X (.Call (.Name "isinstance" p) [e, .Name x p2] [] pos) (iE T Z W (.bi (.isC [k]) [A])) :=
  ⟨fun pins s σ H Q I q => by
    refine (pe_callB (call_isX (X := X)) hg hm (by decide +kernel) (pa_cons ha (pa_cons (pe_glob (v := .ref (Z.ca k)) hgx F rfl hdb) pa_nil he2) he) (by decide) (by decide) he hpl).run pins s σ H Q I ?_
    obtain ⟨ρ, env, st, er, sr, h⟩ := q
    simp only [ev] at h
    refine ⟨ρ, env, st, er, sr, (Post.seq rpOk (Now.start sr) sr (evs_one h)).mono ?_⟩
    rintro x H1 ⟨ρ1, d, st1, F1, n1, t1, r1, h1⟩
    have h2 : Post (Rp Z) Z W (fIsC T [k] d st1) ρ σ H Q := h1
    cases d with
    | exc c fs =>
      obtain ⟨a, dx, rfl, hx0, hr, rfl⟩ := r1
      refine ⟨a, Z.ca c, dx, .ref (Z.ca k), .ref (Z.ca k), T.anc c k, rfl, hx0, ?_, hx c, fun u hu => hu, kit_of (hxm c) fun hz => ?_, ?_⟩
      · intro d ed eH
        cases fs with
        | nil => rw [hr.2] at ed; cases ed
        | cons y r =>
          obtain ⟨_, n, xd, u, _, e2, e3, _⟩ := hr
          rw [ed] at e2; cases e2
          rw [e3] at eH; cases eH
      · have h3 := hxm c
        rw [hz, hxm k] at h3
        rw [<- Option.some.inj h3]; exact hkk
      · have h4 : Post (Rp Z) Z W (ret (D.bl ([k].any fun k => T.anc c k)) st1) ρ σ H Q := h2
        have e4 : ([k].any fun k => T.anc c k) = T.anc c k := by simp
        rw [e4] at h4
        exact Post.ret h4 (n1.less (List.nil_sublist _)) (by exact ⟨rfl, rfl⟩)
    | non => exact h2.elim
    | _ => exact h2.elim⟩
end
end Fs
namespace Fs
open PySem L2 PyProof.Rows PySem.Spec LamX
section
variable {X : L2.Cx} {pins : List (Addr × Obj)} {σ : L2.St} {H : Hp} {s : Shared}
abbrev lamO (X : L2.Cx) (params : Arguments) (body : Expr) (scope : Scope) (pm : Value) (c' : Addr) (ctv : Value) : Obj :=
  PySem.W.kla_obj "<lambda>" (X.env.qual ++ "<lambda>") params body scope (cloFrom X.env.cells scope.names []) pm c' ctv
theorem tab_grow {P c' : Addr} {q : Str} {ps : Array Value} {pos : Pos} (hP : H P = some (.tbl ps)) (hc : H c' = none) (ht : TriplesOk ps.toList)
    (ha : ∀ (p : Pos) (cv : Value), codeAmong p ps.toList = some cv -> ∃ c, cv = .ref c /\ H c = some (CodeO c q)) :
    TabS (upd (upd H P (.tbl (ps ++ #[rawInt pos.line, rawInt pos.col, .ref c']))) c' (CodeO c' q)) P q := by
  have n1 : P ≠ c' := ne_of_none hP hc
  have e1 : (ps ++ #[rawInt pos.line, rawInt pos.col, .ref c']).toList = ps.toList ++ [rawInt pos.line, rawInt pos.col, .ref c'] := by simp
  refine ⟨_, by rw [upd_ne n1, upd_same], by rw [e1]; exact PySem.TriplesOk_snoc _ _ _ _ ht, fun p cv z => ?_⟩
  rw [e1] at z
  rcases among_app _ ht z with z | z
  · obtain ⟨c, h1, h2⟩ := ha p cv z
    refine ⟨c, h1, ?_⟩
    rw [upd_ne (ne_of_none h2 hc), upd_ne]
    · exact h2
    · intro y; rw [y, hP] at h2; exact codeO_ne _ (Option.some.inj h2).symm
  · exact ⟨c', z, upd_same⟩
theorem lam_make3 {c P : Addr} {params : Arguments} {body : Expr} {scope : Scope} {pos : Pos} {E Q : Value -> Shared -> Prop} (I : Inv X pins σ H s) (TB : TabB X.base X.mg c P) (hcode : X.env.code = .ref c)
    (hT : TabS H P (X.env.qual ++ "<lambda>")) (hdef : defaultsOf params X.env = ([], [])) (hfree : ∀ y ∈ scope.names, y.2 = .free -> ∃ c, X.env.cells.lookup y.1 = some c)
    (h : ∀ (f c' : Addr) (pm ctv : Value) (H1 : Hp) (s' : Shared), Inv X pins σ H1 s' -> (∀ b o, H b = some o -> b ≠ P -> H1 b = some o) -> TabS H1 P (X.env.qual ++ "<lambda>") -> H1 f = some (.frz (lamO X params body scope pm c' ctv) (.ext fun _ => True)) ->
      H f = none -> H1 c' = some (CodeO c' (X.env.qual ++ "<lambda>")) -> Q (.ref f) s') : wpAny (model X.prog X.w) X.A (eval (.Lambda params body scope pos) X.env) Q E s := by
  obtain ⟨ps, hP, ht, ha⟩ := hT
  refine PySem.W.kla_eval hdef ?_
  have hP' : s.heap.get? P = some { cls := .none, data := .fields ps } := I.hok P _ hP
  have bP : s.heap.BuiltinsAt X.mg P := TB.bm.keeps I.bk
  have okO : ∀ {h0 : Heap} {o : Obj} {J : Hp}, o.isFreed = false -> ObjOk X.prog X.w J (h0.push o) h0.objs.size (.frz o (.ext fun _ => True)) := fun {h0 o J} z =>
    ⟨Heap.get?_push_size _ z, trivial, ⟨o, Heap.get?_push_size _ z⟩, fun _ _ _ _ => trivial⟩
  have kp : ∀ {h0 : Heap} {o : Obj}, ∀ b u, h0.get? b = some u -> (h0.push o).get? b = some u := fun b u e => Heap.get?_push_of_some _ e
  cases hc : codeAmong pos ps.toList with
  | none =>
    refine PySem.W.kla_makeFunction (mg := X.mg) (c := c) (P := P) (ps := ps) (closure_ok hfree) I.ok.glob (I.mod.glob.keeps I.bk) hcode (TB.code.keeps I.bk) hP' ht hc TB.gP bP ?_
    intro c' ctv h' tk hx hge hlt hrec htb
    obtain ⟨c2, oc, vs, t, e2, hoc, hd, hv⟩ := hrec
    cases e2
    have nC : H c' = none := I.hok.fresh hge
    have hsz : s.heap.objs.size <= h'.objs.size := Nat.le_trans hge (Nat.le_of_lt hlt)
    have nF : H h'.objs.size = none := I.hok.fresh hsz
    have I1 := inv_table (t' := tk) (more := #[rawInt pos.line, rawInt pos.col, .ref c']) I hP (fun b o hb e => hx b o hb e) htb hge ⟨oc, vs, t, hoc, hd, hv⟩
    have I2 := I1.laid (t' := tk) kp (Nat.le_refl _) (okO (o := lamO X params body scope ((X.mg "__name__").getD .none) c' ctv) rfl)
    have T1 := tab_grow (pos := pos) hP nC ht ha
    have ne1 : h'.objs.size ≠ c' := Nat.ne_of_gt hlt
    have ne2 : P ≠ h'.objs.size := ne_of_none hP nF
    have st : ∀ b o, upd (upd H P (.tbl (ps ++ #[rawInt pos.line, rawInt pos.col, .ref c']))) c' (CodeO c' (X.env.qual ++ "<lambda>")) b = some o -> b ≠ h'.objs.size := fun b o e z => by
      rw [z, upd_ne ne1, upd_ne ne2.symm, nF] at e; cases e
    refine h _ c' _ ctv _ _ I2 (fun b o e n => ?_) (T1.ext fun b o e => ?_) upd_same nF ?_
    · rw [upd_ne (ne_of_none e nF), upd_ne (ne_of_none e nC), upd_ne n]; exact e
    · rw [upd_ne (st b o e)]; exact e
    · rw [upd_ne ne1.symm, upd_same]
  | some cv =>
    obtain ⟨c', rfl, hco⟩ := ha pos cv hc
    refine PySem.W.kla_makeFunctionHit (mg := X.mg) (c := c) (P := P) (ps := ps) (closure_ok hfree) I.ok.glob (I.mod.glob.keeps I.bk) hcode (TB.code.keeps I.bk) hP' ht hc bP ?_
    intro ctv h' tk hx hsz
    have nF : H h'.objs.size = none := I.hok.fresh hsz
    have I1 : Inv X pins σ H { s with heap := h', toks := tk } := I.kept hx
    have I2 := I1.laid (t' := tk) kp (Nat.le_refl _) (okO (o := lamO X params body scope ((X.mg "__name__").getD .none) c' ctv) rfl)
    refine h _ c' _ ctv _ _ I2 (fun b o e _ => ?_) ?_ upd_same nF ?_
    · rw [upd_ne (ne_of_none e nF)]; exact e
    · refine TabS.ext ⟨ps, hP, ht, ha⟩ fun b o e => ?_
      rw [upd_ne (ne_of_none e nF)]; exact e
    · rw [upd_ne (ne_of_none hco nF)]; exact hco
theorem act_run {CXg : CXT} {Eg : XK} {Ng : List Str} {qg : Str} {sg : Scope} {g f c' : Addr} {cdg pm ctv : Value} {params : Arguments} {body : Expr} {scope : Scope} {k i : Nat} {a : Str} {pn : List (Addr × Obj)} {xe : Value -> Shared -> Prop} {W : WX} {p1 p2 : Pos} {φ : Heap -> Prop} {t : XK -> TE}
    (I : Inv X pins σ H s) (L : LamS X.env.scope scope) (hf : H f = some (.frz (lamO X params body scope pm c' ctv) (.ext φ)))
    (hbind : ∀ (q : Str) (cl : List (Str × Addr)) (pm cv ctv : Value), bindArgs (PySem.W.kla_fn "<lambda>" q params body scope cl pm cv ctv) ⟨[], []⟩ = pure [])
    (tk : Takes ((cxOf CXg X.prog X.w X.K X.mg X.base Ng qg sg g cdg X.A X.stack s H Eg).tr pn xe) W) (hr : Room (k + 1) (X.A.deeper (envOfC qg sg s.heap.objs.size g cdg)))
    (hbody : ∀ (A : Around) (outer : List PySem.Env) (s : Shared) (H : Hp) (E : XK), Room k (A.deeper (lamEnv X scope s.heap.objs.size f c')) -> A.guards = X.A.guards -> PE (lamCx X A outer s H E scope f c') body (t E))
    (hN : Ng[i]? = some a) (hv : Vis sg a) (hd : (a == ("__debug__" : Str)) = false) (hcd : (a == ("__classdict__" : Str)) = false) :
    PE ((cxOf CXg X.prog X.w X.K X.mg X.base Ng qg sg g cdg X.A X.stack s H Eg).tr pn xe) (.Call (.Name a p1) [] [] p2)
      (fun σZ HZ Q => σZ[i]? = some (some (.ref f)) /\ HZ c' = some (CodeO c' (X.env.qual ++ "<lambda>")) /\ t (fun cls d H' => W cls d σZ H') σ HZ Q) := by
  refine ⟨fun pZ sZ σZ HZ Q IZ ⟨hs, hc, ht⟩ => ?_⟩
  refine wpAny_Call_Name_kw (thn ((pe_var (pos := p1) (i := i) hN hv hd hcd).run pZ sZ σZ HZ (fun v H1 => v = .ref f /\ H1 = HZ) IZ ⟨.ref f, hs, rfl, rfl⟩) fun u s1 ⟨v, H1, I1, r1, ev, eH⟩ => ?_)
  subst ev
  rw [eH] at I1
  have ru : u = Value.ref f := r1
  subst ru
  have un : Un (frs X.stack) [] H HZ s.heap s1.heap := I1.base
  have of1 : s1.heap.get? f = some (lamO X params body scope pm c' ctv) := (I1.hok f _ (un.frzs f _ _ hf)).1
  refine PySem.W.callWith_F0 ⟨_, _, _, _, of1⟩ ?_
  obtain ⟨⟨oc, vs, t0, hoc, hdc, hvc⟩, _, _⟩ := I1.hok c' _ hc
  have rc : codeAny (model X.prog X.w) (X.A.deeper (envOfC qg sg s.heap.objs.size g cdg)) (.call (.ref f) ⟨[], []⟩) (CR (L2.CX X.prog X.w) (envOfC qg sg s.heap.objs.size g cdg :: X.stack) X.prog X.w HZ s1 Q (fun cls d H' => W cls d σZ H')) s1 := by
    refine PySem.W.kla_callFunE hr.depth of1 rfl L.co L.gen rfl ⟨c', oc, vs, t0, rfl, hoc, hdc, hvc⟩ ?_
    rw [hbind]
    refine wpAny_pure (wpAny_newFunctionEnv (fun y hy => (L.own y hy).2) (fun y hy => absurd hy (by simp)) (fun h1 hns hsb => ⟨I1.nolimit.fresh _ hsb, ?_⟩) L.kind)
    have kp : ∀ b o, s1.heap.get? b = some o -> h1.get? b = some o := fun b o e => hsb.extBut b o (Nat.ne_of_lt (Heap.lt_size e)) (Heap.get?_push_of_some _ e)
    have J := lam_start2 (A := X.A.deeper (envOfC qg sg s.heap.objs.size g cdg)) (outer := envOfC qg sg s.heap.objs.size g cdg :: X.stack) (E := fun cls d H' => W cls d σZ H') (f := f) (c' := c') (tk := s1.toks + ([] : List (Str × Value)).length) I L I1.env0 hr.hd un hns kp
    refine PySem.W.kla_codeExpr (wpAny_mono ((hbody _ _ s1 HZ _ (hr.deeper _) rfl).run [] _ _ HZ Q J ht) (fun v s' hq => ?_) fun e s' hq => hq)
    obtain ⟨w', H', J', rv, q⟩ := hq
    exact ⟨w', H', J'.os, J'.bare, J'.base, J'.hok, rv, q⟩
  refine wpAny_call (codeAny_mono rc fun r s' hq => ?_)
  cases r with
  | error e => exact tk e s' (XE.of_call I1 (fun _ _ _ z => z) hq)
  | ok fl => cases fl with
    | ret u => exact I1.after hq
    | next => exact hq.elim
    | brk => exact hq.elim
    | cont => exact hq.elim
end
end Fs
namespace Fs
open PySem L2 PyProof.Rows PySem.Spec LamX
section
variable {Z : Wc} {W : WX} {g : Option (List Addr × Hp)} {ρ : List Addr} {H : Hp} {st : Sto}
theorem rpL_gb {a : Addr} : ∀ {n : Nat} {cs : List D}, RpL { Z with gb := g } H a n cs = RpL Z H a n cs := by
  intro n cs
  unfold RpL
  split <;> rfl
mutual
theorem rp_eq : ∀ (d : D) (v : V) (F : List Addr), Rp { Z with gb := g } ρ H d v F = Rp Z ρ H d v F
  | .non, v, F => by simp only [Rp]
  | .bl b, v, F => by simp only [Rp]
  | .int i, v, F => by simp only [Rp]
  | .str s, v, F => by simp only [Rp]
  | .tup ds, v, F => by simp only [Rp, rps_eq ds]
  | .ref l, v, F => by simp only [Rp]
  | .lst ds, v, F => by simp only [Rp, rps_eq ds]
  | .frl ds, v, F => by simp only [Rp, rps_eq ds]
  | .dic kvs, v, F => by simp only [Rp, rpK_eq kvs, rpT_eq kvs]
  | .set xs, v, F => by simp only [Rp]
  | .exc c fs, v, F => by simp only [Rp, rpX_eq fs]
  | .lam n cs, v, F => by simp only [Rp, rpL_gb]
theorem rpX_eq : ∀ (ds : List D) (f : Option Str) (dx : Option Addr), RpX { Z with gb := g } ρ H f dx ds = RpX Z ρ H f dx ds
  | [], f, dx => by simp only [RpX]
  | d :: r, f, dx => by simp only [RpX, rp_eq d]
theorem rps_eq : ∀ (ds : List D) (vs : List V) (F : List Addr), Rps { Z with gb := g } ρ H ds vs F = Rps Z ρ H ds vs F
  | [], vs, F => by simp only [Rps]
  | d :: ds, vs, F => by simp only [Rps, rp_eq d, rps_eq ds]
theorem rpK_eq : ∀ (ds : List (Ky × D)) (vs : List (L2.Key × V)) (F : List Addr), RpK { Z with gb := g } ρ H ds vs F = RpK Z ρ H ds vs F
  | [], vs, F => by simp only [RpK]
  | (k, d) :: ds, vs, F => by simp only [RpK, rp_eq d, rpK_eq ds]
theorem rpT_eq : ∀ (ds : List (Ky × D)) (vs : List (List L2.Key × V)) (F : List Addr), RpT { Z with gb := g } ρ H ds vs F = RpT Z ρ H ds vs F
  | [], vs, F => by simp only [RpT]
  | (k, d) :: ds, vs, F => by simp only [RpT, rp_eq d, rpT_eq ds]
end
theorem rp_gb : Rp { Z with gb := g } = Rp Z := by funext ρ H d v F; exact rp_eq d v F
theorem rps_gb : Rps { Z with gb := g } = Rps Z := by funext ρ H d v F; exact rps_eq d v F
theorem xc_gb {d : D} {cls : Value} {dx : Option Addr} (h : XcR { Z with gb := g } ρ H d cls dx) : XcR Z ρ H d cls dx := by
  obtain ⟨c, fs, e1, e2, r⟩ := h
  exact ⟨c, fs, e1, e2, by rw [rpX_eq] at r; exact r⟩
theorem xc_bg {d : D} {cls : Value} {dx : Option Addr} (h : XcR Z ρ H d cls dx) : XcR { Z with gb := g } ρ H d cls dx := by
  obtain ⟨c, fs, e1, e2, r⟩ := h
  exact ⟨c, fs, e1, e2, by rw [rpX_eq]; exact r⟩
theorem SR.free (s : SR { Z with gb := g } ρ st H) (hgb : Z.gb = none) : SR Z ρ st H := ⟨s.len, s.nd, s.kind, by have := s.cell; rw [rp_gb] at this; exact this, fun p hp => by rw [hgb] at hp; cases hp⟩
theorem SR.bind (s : SR Z ρ st H) (h : Gb { Z with gb := g } ρ H) : SR { Z with gb := g } ρ st H := ⟨s.len, s.nd, s.kind, by rw [rp_gb]; exact s.cell, h⟩
theorem Post.free {r : R D} {σ : L2.St} {Q : VK} (s : SR { Z with gb := g } ρ st H) (hgb : Z.gb = none) (h : Post (Rp { Z with gb := g }) { Z with gb := g } W r ρ σ H Q) : Post (Rp Z) Z W r ρ σ H Q := by
  cases r with
  | ok d st' => exact fun ρ' H' v F t sr r => h ρ' H' v F t (sr.bind (t.gb s)) (by rw [rp_gb]; exact r)
  | exc e st' => exact fun ρ' H' cls dx t sr r => h ρ' H' cls dx t (sr.bind (t.gb s)) (xc_bg r)
  | bad => exact h
theorem Now.free {ρ' : List Addr} {st' : Sto} {H' : Hp} {F : List Addr} (n : Now { Z with gb := g } ρ H ρ' st' H' F) (hgb : Z.gb = none) : Now Z ρ H ρ' st' H' F := ⟨n.stp, n.sr.free hgb, n.th, n.out, n.nd⟩
theorem spI_free {f : List D -> M D} {np : Nat} {vs : List V} {Q : VK} {E : XK} (hgb : Z.gb = none) (h : spI { Z with gb := g } f np vs H Q E) : spI Z f np vs H Q E := by
  obtain ⟨hl, ρ0, st0, H0, ρ, st, ds, F, s0, n, r, h⟩ := h
  exact ⟨hl, ρ0, st0, H0, ρ, st, ds, F, s0.free hgb, n.free hgb, by rw [rps_gb] at r; exact r, h.free s0 hgb⟩
theorem FgOk.le {P : Program} {w : World} {K : PySem.W.Frag} {mg : Str -> Option Value} {base : Heap} {k : Nat} {f : Addr} {fd : FuncData} {ps : List Str} {sp sp' : Sp} (F : FgOk P w K mg base k f fd ps sp) (h : ∀ vs H Q E, sp' vs H Q E -> sp vs H Q E) : FgOk P w K mg base k f fd ps sp' :=
  ⟨fun vs H Q E q => F.len vs H Q E (h _ _ _ _ q), fun A outer s H args us vs Q E hr hg e0 hb r q => F.run A outer s H args us vs Q E hr hg e0 hb r (h _ _ _ _ q)⟩
theorem Cal.gb {Pw : Program} {w : World} {K : PySem.W.Frag} {mg : Str -> Option Value} {base : Heap} {Pp : Pr} {n i : Nat} {x : Str} {ps : List Str} (hgb : Z.gb = none) (c : Cal Pw w K mg base Z Pp n i x ps) : Cal Pw w K mg base { Z with gb := g } Pp n i x ps := by
  obtain ⟨f, fd, F, r⟩ := c
  exact ⟨f, fd, F.le fun _ _ _ _ q => spI_free hgb q, r⟩
end
section
variable {X : L2.Cx} {Z : Wc} {W : WX} {Pp : Pr}
def TellBd (X : L2.Cx) (Z : Wc) (Pp : Pr) (n : Nat) (a x : Str) (Ng : List Str) (sg : Scope) (g : Addr) (cdv : Value) (bg : List Stmt) (b : List Sx) : Prop :=
  ∀ (s : Shared) (H : Hp) (Ek : XK) (gb : Option (List Addr × Hp)) (m : Fs.Env -> M D),
    (∀ (pn : List (Addr × Obj)) (xe : Value -> Shared -> Prop) (W' : WX) (p1 p2 : Pos), Takes ((cxOf (L2.CX X.prog X.w) X.prog X.w X.K X.mg X.base Ng x sg g cdv X.A X.stack s H Ek).tr pn xe) W' ->
      PE ((cxOf (L2.CX X.prog X.w) X.prog X.w X.K X.mg X.base Ng x sg g cdv X.A X.stack s H Ek).tr pn xe) (.Call (.Name a p1) [] [] p2) (iE { Pp.tbl (n + 1) with act := m } { Z with gb := gb } W' .act)) ->
    Room (n + 3) (X.A.deeper (envOfC x sg s.heap.objs.size g cdv)) ->
    PSs (cxOf (L2.CX X.prog X.w) X.prog X.w X.K X.mg X.base Ng x sg g cdv X.A X.stack s H Ek) bg (iL { Pp.tbl (n + 1) with act := m } { Z with gb := gb } (fun cls dx _ H' => Ek cls dx H') b)
theorem isTab_ok {st : Sto} {q : Nat} {l : Option (Str × Ex)} (h : isTab st q l = true) : ∃ p, l = some p /\ st[q]? = some (.lam 0 [.str p.1]) := by
  unfold isTab at h
  split at h
  · rename_i n p e
    exact ⟨p, rfl, by rw [e, of_decide_eq_true h]⟩
  · cases h
theorem se_tell {n fI q k : Nat} {F : Fn} {e : Ex} {nm x a : Str} {g c P : Addr} {pg : Arguments} {bg : List Stmt} {sg : Scope} {dV kV doc pm cdv ct oc : Value} {an od : Option Addr} {osl : Array (Option Value)} {Ng : List Str}
    {params : Arguments} {body : Expr} {scope : Scope} {p lpos pos : Pos} (hgb : Z.gb = none) (hg : Gl X x) (hm : X.mg x = some (.ref g)) (hk : PySem.W.keepIn X.K (.ref g) = true)
    (lk : X.K.lookup g = some ⟨oc, od, .func (PySem.W.fnOf x x pg bg sg dV kV doc pm an cdv ct), osl⟩) (hcg : PySem.W.codeIn X.K cdv x = true) (hb : L2.Binds X.K (PySem.W.fnOf x x pg bg sg dV kV doc pm an cdv ct) [a] []) (Sg : FnScope Ng [a] sg) (hNg : Ng[0]? = some a) (hva : Vis sg a)
    (hF : Pp.fns fI = some F) (hlen : Ng.length = F.ns) (hlam : Pp.lams k = some (nm, e)) (hnm : X.env.qual ++ "<lambda>" = nm) (hP : Z.tb nm = some P) (TB : TabB X.base X.mg c P) (hcode : X.env.code = .ref c)
    (hr : Room (n + 4) X.A) (hgd : X.A.guards = some []) (tk : Takes X W) (L : LamS X.env.scope scope) (hdef : defaultsOf params X.env = ([], []))
    (hbind : ∀ (q : Str) (cl : List (Str × Addr)) (pm cv ctv : Value), bindArgs (PySem.W.kla_fn "<lambda>" q params body scope cl pm cv ctv) ⟨[], []⟩ = pure [])
    (hbody : ∀ (A : Around) (outer : List PySem.Env) (s : Shared) (H : Hp) (E : XK) (f c' : Addr), Room (n + 2) (A.deeper (lamEnv X scope s.heap.objs.size f c')) -> A.guards = some [] -> PE (lamCx X A outer s H E scope f c') body (iE (Pp.tbl n) Z (fun cls dx _ H' => E cls dx H') e))
    (hbd : TellBd X Z Pp n a x Ng sg g cdv bg F.body)
    (hdb : (x == ("__debug__" : Str)) = false := by decide) (hd : (a == ("__debug__" : Str)) = false := by decide) (hcd : (a == ("__classdict__" : Str)) = false := by decide) :
    PE X (.Call (.Name x p) [.Lambda params body scope lpos] [] pos) (iE (Pp.tbl (n + 2)) Z W (.tell fI q k)) := by
  refine ⟨fun pins s σ H Q I ⟨ρ, env, st, er, sr, h⟩ => ?_⟩
  have h : Post (Rp Z) Z W (tellM Pp (Pp.tbl n) (Pp.tbl (n + 1)) fI q k env st) ρ σ H Q := by simpa only [ev, tbl_tl] using h
  unfold tellM at h
  cases hq : isTab st q (Pp.lams k) with
  | false => rw [hq] at h; exact h.elim
  | true =>
  rw [hq, hF] at h
  simp only at h
  cases hnp : decide (F.np = 1) with
  | false => rw [hnp] at h; exact h.elim
  | true =>
  rw [hnp] at h
  simp only at h
  obtain ⟨p0, e0, hst⟩ := isTab_ok hq
  rw [hlam] at e0
  cases e0
  obtain ⟨P', hρ, _, b, ez, _, hPb, hT⟩ := sr.at hst
  cases ez
  rw [hP] at hPb
  cases hPb
  have hPρ : P ∈ ρ := List.mem_of_getElem? hρ
  obtain ⟨oP, hoP, hcP⟩ := sr.hcell hPρ
  refine wpAny_Call_Name_kw (ld_glob I hg hm ?_ hdb)
  refine PySem.W.callWith_K (h₀ := X.base) I.ok.mod.kin hk ?_ (by rfl) (by rfl)
  show wpAny _ _ (spliced ((false, eval (.Lambda params body scope lpos) X.env) :: backTo pos (starEach [] X.env))) _ _ s
  refine Calls.spliced_cons (lam_make3 I TB hcode (by rw [hnm]; exact hT) hdef (L.has I.ok) fun f c' pm' ctv H1 s' I1 eN T1 hf hfn hco => ?_)
  refine Calls.spliced_nil ⟨I1.kIn, ?_⟩
  have fρ : f ∉ ρ := sr.fresh hfn
  have nonC : ∀ a o, H a = some o -> HCell o = false -> H1 a = some o := fun a o ea ho => eN a o ea fun z => by rw [z, hoP] at ea; cases ea; rw [hcP] at ho; cases ho
  have st1 : Stp ρ H (ρ ++ [f]) H1 [] := ⟨[f], rfl, by simp, by simpa using hfn, fun a o ea za => eN a o ea fun y => za (y ▸ hPρ)⟩
  have sr0 : SR Z ρ st H1 := by
    refine ⟨sr.len, sr.nd, sr.kind, fun l d a h1 h2 => ?_, sr.gb.up nonC⟩
    by_cases hl : a = P
    · subst hl
      have : l = q := nd_inj sr.nd h2 hρ
      subst this
      rw [hst] at h1
      cases h1
      exact ⟨a, rfl, rfl, hP, by rw [<- hnm]; exact T1⟩
    · exact (sr.cell l d a h1 h2).stay (fun _ _ e => e) nonC fun b hb o eo => by
        rw [List.mem_singleton.mp hb] at eo ⊢
        exact eN a o eo hl
  have sr1 : SR Z (ρ ++ [f]) (st ++ [.lam 1 []]) H1 := sr0.push fρ rfl ⟨f, rfl, rfl, _, _, hf⟩
  have er1 : ER Z (ρ ++ [f]) H1 env σ := st1.env sr er
  have hl0 : (ρ ++ [f])[st.length]? = some f := by rw [<- sr.len]; simp
  have sr2 : SR { Z with gb := some (ρ ++ [f], H1) } (ρ ++ [f]) (st ++ [.lam 1 []]) H1 := sr1.bind fun p hp => by cases hp; exact ⟨⟨[], by simp⟩, fun a o e _ => e⟩
  have rc : codeAny (model X.prog X.w) X.A (.call (.ref g) ⟨[.ref f], []⟩) (CR (L2.CX X.prog X.w) X.stack X.prog X.w H1 s' Q (fun cls d H' => W cls d σ H')) s' := by
    refine run_ofS (N := Ng) (ps := [a]) (us := [.ref f]) (vs := [.ref f]) lk hcg Sg hr I1.env0 (hb s' [.ref f] I1.kIn rfl) (.cons rfl .nil) rfl fun hr2 =>
      ⟨_, hbd s' H1 (fun cls d H' => W cls d σ H') (some (ρ ++ [f], H1)) (actM (Pp.tbl n) (Pp.lams k) st.length env) (fun pn xe W' p1 p2 tk' => ?_) hr2, ?_⟩
    · refine pe_weak (act_run (t := fun E => iE (Pp.tbl n) Z (fun cls dx _ H' => E cls dx H') e) (i := 0) I1 L hf hbind tk' hr2 (fun A outer s H E h1 h2 => hbody A outer s H E f c' h1 (h2.trans hgd)) hNg hva hd hcd) ?_
      rintro σZ HZ Q' ⟨ρz, envz, stz, erz, srz, hz⟩
      simp only [ev] at hz
      unfold actM at hz
      rw [hlam] at hz
      cases ez : (envz[0]? : Option (Option D)) with
      | none => rw [ez] at hz; exact hz.elim
      | some oz => cases oz with
        | none => rw [ez] at hz; exact hz.elim
        | some dz => cases dz with
          | ref l' =>
            rw [ez] at hz
            simp only at hz
            cases hl' : decide (l' = st.length) with
            | false => rw [hl'] at hz; exact hz.elim
            | true =>
              rw [hl'] at hz
              simp only at hz
              have hl2 : l' = st.length := of_decide_eq_true hl'
              subst hl2
              obtain ⟨⟨N, eN2⟩, kN⟩ := srz.gb _ rfl
              obtain ⟨v, hv1, a', ha', hv2, _⟩ := erz.2 0 _ ez
              simp only at eN2 kN
              have : a' = f := by
                rw [eN2, List.getElem?_append_left (List.getElem?_eq_some_iff.mp hl0).1, hl0] at ha'
                exact (Option.some.inj ha').symm
              subst this
              refine ⟨by rw [hv1, hv2], kN _ _ hco rfl, ρz, env, stz, ⟨er1.1, fun i d hd => ?_⟩, srz.free hgb, ?_⟩
              · obtain ⟨v2, h1, h2⟩ := er1.2 i d hd
                exact ⟨v2, h1, h2.stay (fun l b hb => by rw [eN2, List.getElem?_append_left (List.getElem?_eq_some_iff.mp hb).1]; exact hb) kN (by simp)⟩
              · have hz2 := hz.free srz hgb
                cases er : ev (Pp.tbl n) e env stz with
                | ok d s2 => rw [er] at hz2; exact hz2
                | exc x s2 => rw [er] at hz2; exact hz2
                | bad => rw [er] at hz2; exact hz2
          | _ => rw [ez] at hz; exact hz.elim
    · have n1 : Now Z ρ H (ρ ++ [f]) (st ++ [.lam 1 []]) H1 [] := ⟨st1, sr1, by simp, by simp, .nil⟩
      have tkq : ∀ ρ', (∃ K, ρ' = (ρ ++ [f]) ++ K) -> ρ'.take st.length = ρ := by
        rintro ρ' ⟨K, rfl⟩
        rw [<- sr.len, List.append_assoc]
        simp
      refine ⟨ρ ++ [f], some (.ref st.length) :: List.replicate (F.ns - 1) none, st ++ [.lam 1 []], ?_, sr2, ?_⟩
      · have := er_start (Z := { Z with gb := some (ρ ++ [f], H1) }) (ρ := ρ ++ [f]) (H := H1) (ds := [.ref st.length]) (vs := [.ref f]) ⟨.ref f, [], [], [], rfl, ⟨f, hl0, rfl, rfl⟩, ⟨rfl, rfl⟩, rfl⟩ (F.ns - 1)
        unfold L2.start
        rw [hlen]
        exact this
      · show PostS _ _ (exL _ F.body _ _) _ _ _
        cases e9 : exL { Pp.tbl (n + 1) with act := actM (Pp.tbl n) (Pp.lams k) st.length env } F.body (some (.ref st.length) :: List.replicate (F.ns - 1) none) (st ++ [.lam 1 []]) with
        | exc _ _ => rw [e9] at h; exact h.elim
        | bad => rw [e9] at h; exact h.elim
        | ok fl s2 =>
          rw [e9] at h
          cases fl with
          | br _ => exact h.elim
          | ct _ => exact h.elim
          | rt d =>
            intro ρ' H' v G t srx r'
            rw [rp_gb] at r'
            have n2 : Now Z ρ H ρ' s2 H' ([] ++ G) := n1.more sr t (srx.free hgb) (Rp.there r')
            exact leave_ok (N := []) (st1 := []) sr (Now.start sr) n2 (tkq ρ' (let ⟨K, e, _⟩ := t; ⟨K, e⟩)) r' h
          | nx _ =>
            intro ρ' H' σ' t srx _
            have n2 : Now Z ρ H ρ' s2 H' ([] ++ []) := n1.more sr t (srx.free hgb) (by simp)
            exact leave_ok (N := []) (st1 := []) sr (Now.start sr) n2 (tkq ρ' (let ⟨K, e, _⟩ := t; ⟨K, e⟩)) (d := .non) ⟨rfl, rfl⟩ h
          | ex _ x =>
            intro ρ' H' σ' cls dx t srx _ rx
            have n2 : Now Z ρ H ρ' s2 H' ([] ++ []) := n1.more sr t (srx.free hgb) (by simp)
            exact leaveX_ok (st0 := []) (st1 := []) (Now.start sr) n2 (tkq ρ' (let ⟨K, e, _⟩ := t; ⟨K, e⟩)) (xc_gb rx) h
  refine wpAny_call (codeAny_mono rc fun r s2 hq => ?_)
  cases r with
  | error e => exact tk e s2 (XE.of_call I1 (fun _ _ _ z => z) hq)
  | ok fl => cases fl with
    | ret u => exact I1.after hq
    | next => exact hq.elim
    | brk => exact hq.elim
    | cont => exact hq.elim
def TbF (K : PySem.W.Frag) (mg : Str -> Option Value) (base : Heap) (Z : Wc) (x nm : Str) : Prop :=
  ∀ (f : Addr) (oc : Value) (od : Option Addr) (fd : FuncData) (osl : Array (Option Value)), mg x = some (.ref f) -> K.lookup f = some ⟨oc, od, .func fd, osl⟩ -> ∃ c P, fd.code = .ref c /\ Z.tb nm = some P /\ TabB base mg c P
theorem se_tellD {n fI q k : Nat} {F : Fn} {e : Ex} {nm x a : Str} {st : Stmt} {Ng : List Str} {params : Arguments} {body : Expr} {scope : Scope} {p lpos pos : Pos} (hgb : Z.gb = none) (hg : Gl X x)
    (hd : ∃ f fd, FunD X.K x x (defArgs st) (defBody st) (defScope st) [] [] f fd /\ X.mg x = some (.ref f)) (hb : ∀ f fd, FunD X.K x x (defArgs st) (defBody st) (defScope st) [] [] f fd -> L2.Binds X.K fd [a] [])
    (Sg : FnScope Ng [a] (defScope st)) (hNg : Ng[0]? = some a) (hva : Vis (defScope st) a) (hF : Pp.fns fI = some F) (hlen : Ng.length = F.ns) (hlam : Pp.lams k = some (nm, e)) (hnm : X.env.qual ++ "<lambda>" = nm)
    (tb : ∃ c P, X.env.code = .ref c /\ Z.tb nm = some P /\ TabB X.base X.mg c P) (hr : Room (n + 2) X.A) (hgd : X.A.guards = some []) (tk : Takes X W) (L : LamS X.env.scope scope) (hdef : defaultsOf params X.env = ([], []))
    (hbind : ∀ (q : Str) (cl : List (Str × Addr)) (pm cv ctv : Value), bindArgs (PySem.W.kla_fn "<lambda>" q params body scope cl pm cv ctv) ⟨[], []⟩ = pure [])
    (hbody : ∀ m, n = m + 2 -> ∀ (A : Around) (outer : List PySem.Env) (s : Shared) (H : Hp) (E : XK) (f c' : Addr), Room (m + 2) (A.deeper (lamEnv X scope s.heap.objs.size f c')) -> A.guards = some [] -> Takes (lamCx X A outer s H E scope f c') (fun cls dx _ H' => E cls dx H') ->
      (lamCx X A outer s H E scope f c').A.units + 65 < cLine -> PE (lamCx X A outer s H E scope f c') body (iE (Pp.tbl m) Z (fun cls dx _ H' => E cls dx H') e))
    (hbd : ∀ m, n = m + 2 -> ∀ (g : Addr) (cdv : Value), TellBd X Z Pp m a x Ng (defScope st) g cdv (defBody st) F.body)
    (hdb : (x == ("__debug__" : Str)) = false := by decide) (hda : (a == ("__debug__" : Str)) = false := by decide) (hcd : (a == ("__classdict__" : Str)) = false := by decide) :
    PE X (.Call (.Name x p) [.Lambda params body scope lpos] [] pos) (iE (Pp.tbl n) Z W (.tell fI q k)) := by
  match n, hr, hbody, hbd with
  | 0, _, _, _ => exact ⟨fun pins s σ H Q I ⟨ρ, env, st, er, sr, h⟩ => by simp only [ev, tbl_tl0] at h; exact h.elim⟩
  | 1, _, _, _ => exact ⟨fun pins s σ H Q I ⟨ρ, env, st, er, sr, h⟩ => by simp only [ev, tbl_tl1] at h; exact h.elim⟩
  | m + 2, hr, hbody, hbd =>
    obtain ⟨f, fd, D, hm⟩ := hd
    obtain ⟨c, P, hcode, hP, TB⟩ := tb
    have hbf := hb f fd D
    obtain ⟨oc, od, dV, kV, doc, pm, an, cdv, ct, osl, rfl, lk, hc, _⟩ := D.ex
    refine se_tell hgb hg hm D.kp lk hc hbf Sg hNg hva hF hlen hlam hnm hP TB hcode hr hgd tk L hdef hbind (fun A outer s H E f c' h1 h2 => hbody m rfl A outer s H E f c' h1 h2 (takes_of rfl rfl rfl rfl) ?_) (hbd m rfl f cdv) hdb hda hcd
    have h3 := h1.un
    show (A.deeper (lamEnv X scope s.heap.objs.size f c')).units + 65 < cLine
    omega
theorem se_callT {T : Tbl} {n i : Nat} {e : Expr} {As : List Ex} {pos p : Pos} {es : List Expr} {x : Str} {ps : List Str} (hT : T.fn = call Pp n) (c : Cal X.prog X.w X.K X.mg X.base Z Pp n i x ps) (hr : Room (n + 2) X.A) (hgd : X.A.guards = some []) (tk : Takes X W) (hg : Gl X x) (ha : PA X (e :: es) (iEs T Z W As)) (hlen : As.length = ps.length := by rfl)
    (hdb : (x == ("__debug__" : Str)) = false := by rfl) (he : starEach (e :: es) X.env = (false, eval e X.env) :: starEach es X.env := by rfl) (hpl : (backTo pos (starEach es X.env)).any (·.1) = false := by rfl) : PE X (.Call (.Name x p) (e :: es) [] pos) (iE T Z W (.call i As)) := by
  obtain ⟨f, fd, F, hm, hk, hb⟩ := c
  exact se_call (T := T) (by rw [hT]; exact F) hr hgd tk hg hm hk hb ha hlen hdb he hpl
end
end Fs
namespace Fs
open PySem L2 PyProof.Rows PySem.Spec LamX
structure TabsE (cs : List (Addr × Addr)) (K : PySem.W.Frag) (h : Heap) : Prop where
  tab : ∀ p ∈ cs, h.get? p.2 = some { cls := .none, data := .fields #[] }
  off : ∀ p ∈ cs, K.lookup p.2 = none
  code : ∀ p ∈ cs, PySem.W.CodeHd h p.1 p.2
def startH (K : PySem.W.Frag) (cs : List (Addr × Addr)) (a : Addr) (o : Obj) (ns : List Int) : Hp := fun b =>
  if b ∈ cs.map (·.2) then some (.tbl #[]) else if b = a /\ K.lookup a = none then some (.frz o (.lst (ns.map V.int))) else none
section
variable {P : Program} {w : World} {K : PySem.W.Frag} {mg mb : Str -> Option Value} {k : Nat} {fa a : Addr} {cs : List (Addr × Addr)} {fd : FuncData} {x : Str} {sp : Sp} {sx : Shared} {vs : List Value} {ns : List Int}
theorem law_callTG (KX : K.In sx.heap) (hns : sx.heap.Ns mainGlobals mg) (hb : sx.heap.Ns builtinsNs mb) (hbb : ∀ x : Str, x ≠ "__name__" -> mb x = bootBuiltins x) (hlim : sx.heap.NoLimit) (hg : sx.gens = #[]) (T : TabsE cs K sx.heap)
    (hbm : ∃ (bm : Addr) (ob : Obj), mg "__builtins__" = some (.ref bm) /\ bm ≠ builtinsNs /\ sx.heap.get? bm = some ob /\ ob.cls = .type "module" /\ ob.dict = some builtinsNs /\ ob.data = .plain)
    (ha : sx.heap.get? a = some { cls := .type "list", data := .seq vs.toArray }) (hi : IntsAre vs ns) (hl : ns.length <= sizeLine) (hr : Room k callerA)
    (F : ∀ base : Heap, K.In base -> base.Ns mainGlobals mg -> (∀ p ∈ cs, TabB base mg p.1 p.2) -> FgOk P w K mg base k fa fd [x] sp) (hbind : ∀ (s : Shared) (u : Value), BindsTo s fd ⟨[u], []⟩ [(x, u)])
    (hsp : ∀ J : Hp, (∀ p ∈ cs, J p.2 = some (.tbl #[])) -> (∀ b, J b = none ∨ b ∈ cs.map (·.2) ∨ ∃ o xs, J b = some (.frz o (.lst xs))) -> a ∉ cs.map (·.2) -> SqL K J a (ns.map V.int) -> sp [.ref a] J (fun v _ => v = .bl true) fun _ _ _ => False)
    (hCX : ∀ J e s', L2.CX P w [] J sx (fun _ _ _ => False) e s' -> False) :
    codeAny (model P w) callerA (.call (.ref fa) ⟨[.ref a], []⟩) (fun r s' => r = .ok (.ret (.bool true)) /\ OldK sx.heap s'.heap /\ s'.os = sx.os /\ AllBare s'.gens) sx := by
  have rv := vals_ints hi
  have lenV := hi.length
  obtain ⟨hT, nT, C⟩ := T
  have tabIs : ∀ b, b ∈ cs.map (·.2) -> sx.heap.get? b = some { cls := .none, data := .fields #[] } := fun b hb => by
    obtain ⟨p, hp, rfl⟩ := List.mem_map.mp hb
    exact hT p hp
  have aT : a ∉ cs.map (·.2) := fun z => by
    have q := tabIs a z
    rw [ha] at q
    cases q
  generalize hJ : startH K cs a { cls := .type "list", data := .seq vs.toArray } ns = J
  have Jt : ∀ p ∈ cs, J p.2 = some (.tbl #[]) := fun p hp => by
    rw [<- hJ]; unfold startH
    rw [if_pos (List.mem_map.mpr ⟨p, hp, rfl⟩)]
  have Ja : ∀ b, b ∉ cs.map (·.2) -> J b = if b = a /\ K.lookup a = none then some (.frz { cls := .type "list", data := .seq vs.toArray } (.lst (ns.map V.int))) else none := fun b hb => by
    rw [<- hJ]; unfold startH
    rw [if_neg hb]
  have JO : ∀ b, J b = none ∨ b ∈ cs.map (·.2) ∨ ∃ o xs, J b = some (.frz o (.lst xs)) := fun b => by
    by_cases hb : b ∈ cs.map (·.2)
    · exact .inr (.inl hb)
    · rw [Ja b hb]
      by_cases hz : b = a /\ K.lookup a = none
      · rw [if_pos hz]; exact .inr (.inr ⟨_, _, rfl⟩)
      · rw [if_neg hz]; exact .inl rfl
  have JS : SqL K J a (ns.map V.int) := by
    cases hk : K.lookup a with
    | some o =>
      have e := KX a o hk
      rw [ha] at e
      cases e
      exact .inr ⟨_, vs.toArray, _, hk, rfl, rfl, rfl, by rw [List.size_toArray, lenV]; exact hl, by simpa using rv⟩
    | none => exact .inl (.inr ⟨_, by rw [Ja a aT, if_pos ⟨rfl, hk⟩]⟩)
  have Jok : HOk P w J sx.heap := fun b u z => by
    by_cases hb : b ∈ cs.map (·.2)
    · obtain ⟨p, hp, rfl⟩ := List.mem_map.mp hb
      rw [Jt p hp] at z
      cases z
      exact hT p hp
    · rw [Ja b hb] at z
      split at z
      · rename_i hz
        cases z
        rw [hz.1]
        exact ⟨ha, by rw [List.length_map]; exact hl, vs, _, rv, ha⟩
      · cases z
  have off : ∀ {b : Addr} {o : Obj}, sx.heap.get? b = some o -> b ≠ a -> o ≠ { cls := .none, data := .fields #[] } -> J b = none := fun {b o} e n1 n2 => by
    have hb : b ∉ cs.map (·.2) := fun z => by
      have q := tabIs b z
      rw [e] at q
      exact n2 (Option.some.inj q)
    rw [Ja b hb, if_neg fun z => n1 z.1]
  have seen : ∀ {b : Addr} {o : Obj}, sx.heap.get? b = some o -> J b = none -> (hidT sx.heap J).get? b = some o := fun e n => hidT_get e n
  have offD : ∀ {b : Addr} {o : Obj} {es : Array DictEntry} {ep : Nat}, sx.heap.get? b = some o -> o.data = .dict es ep -> J b = none := fun {b o es ep} e d => by
    refine off e (fun z => ?_) fun z => ?_
    · rw [z, ha] at e; cases e; cases d
    · rw [z] at d; cases d
  have nsJ : ∀ {b : Addr} {m : Str -> Option Value}, sx.heap.Ns b m -> (hidT sx.heap J).Ns b m := fun {b m} ⟨o, es, ep, e, d, r⟩ => ⟨o, es, ep, seen e (offD e d), d, r⟩
  have KJ : K.In (hidT sx.heap J) := fun b o e => seen (KX b o e) (by
    have hb : b ∉ cs.map (·.2) := fun z => by
      obtain ⟨p, hp, rfl⟩ := List.mem_map.mp z
      rw [nT p hp] at e; cases e
    rw [Ja b hb, if_neg fun z => by rw [z.1, z.2] at e; cases e])
  have hM : Mod K mg (hidT sx.heap J) := ⟨KJ, nsJ hns, ⟨mb, nsJ hb, hbb⟩, let ⟨mc, h1, h2⟩ := hlim; ⟨mc, nsJ h1, h2⟩⟩
  have TB : ∀ p ∈ cs, TabB (hidT sx.heap J) mg p.1 p.2 := fun p hp => by
    refine ⟨?_, ?_, fun z => ?_⟩
    · obtain ⟨o, us, file, tf, flags, tg, inF, text, tt, e1, r1, r2, r3, r⟩ := C p hp
      refine ⟨o, us, file, tf, flags, tg, inF, text, tt, seen e1 (off e1 (fun z => ?_) fun z => ?_), r1, r2, r3, r⟩
      · rw [z, ha] at e1; cases e1
        have r4 : Value.type "list" = .type "code" := r1
        injection r4 with r5
        exact absurd r5 (by decide)
      · rw [z] at r1; cases r1
    · obtain ⟨bm, ob, b1, b2, b3, b4, b5, b6⟩ := hbm
      have nD : ∀ {d : Obj} {es : Array DictEntry} {ep : Nat}, sx.heap.get? bm = some d -> d.data = .dict es ep -> False := fun e d => by
        rw [b3] at e; cases e
        rw [b6] at d; cases d
      refine ⟨bm, ob, b1, b2, fun z => ?_, fun z => ?_, seen b3 (off b3 (fun z => ?_) fun z => ?_), b4, b5, b6⟩
      · obtain ⟨o, es, ep, e, hd, _⟩ := hns
        exact nD (by rw [z]; exact e) hd
      · have q := hT p hp
        rw [<- z, b3] at q
        cases q
        cases b6
      · rw [z, ha] at b3; cases b3; cases b6
      · rw [z] at b6; cases b6
    · obtain ⟨o, es, ep, e, hd, _⟩ := hns
      have q := hT p hp
      rw [<- z, e] at q
      cases q
      cases hd
  have e0 : Env0 P w K mg (hidT sx.heap J) callerA [] sx J := ⟨rfl, hM, fun b o e => of_hidT e, Nat.le_of_eq (hidT_size _ _), trivial, fun b hb => absurd (show b ∈ ([] : List Addr) from hb) (by simp), Jok, .of_eq hg⟩
  refine codeAny_mono ((F _ KJ (nsJ hns) TB).run callerA [] sx J ⟨[.ref a], []⟩ [.ref a] [.ref a] _ _ hr rfl e0 (hbind sx (.ref a)) (.cons rfl .nil) (hsp J Jt JO aT JS)) fun r s' h => ?_
  cases r with
  | error e => exact (hCX J e s' h).elim
  | ok fl =>
    cases fl with
    | next => exact False.elim h
    | brk => exact False.elim h
    | cont => exact False.elim h
    | ret u =>
      obtain ⟨v, J', os, bare, un, hok', r', q⟩ := h
      have q' : v = .bl true := q
      subst q'
      have eu : u = Value.bool true := r'
      subst eu
      have same : ∀ b o, b ∉ cs.map (·.2) -> sx.heap.get? b = some o -> s'.heap.get? b = some o := fun b o nb e => by
        rcases JO b with z | z | ⟨ob, xs, z⟩
        · exact un.keep b o e z (fun y => absurd (show b ∈ ([] : List Addr) from y) (by simp)) (by simp)
        · exact absurd z nb
        · obtain ⟨e1, _⟩ := Jok b _ z
          obtain ⟨e2, _⟩ := hok' b _ (un.frzs b ob _ z)
          rw [e] at e1; cases e1
          exact e2
      have grown : ∀ p ∈ cs, ∃ more : Array Value, s'.heap.get? p.2 = some { cls := .none, data := .fields more } := fun p hp => by
        obtain ⟨more, z⟩ := un.tbls p.2 #[] (Jt p hp)
        exact ⟨_, hok' p.2 _ z⟩
      refine ⟨rfl, ⟨fun b o e => ?_, fun b o e => ?_⟩, os, bare⟩
      · by_cases hb : b ∈ cs.map (·.2)
        · obtain ⟨p, hp, rfl⟩ := List.mem_map.mp hb
          obtain ⟨more, hm⟩ := grown p hp
          rw [hT p hp] at e
          cases e
          exact .inr (.inl ⟨((C p hp).tab (hT p hp)).isCodeTable, rfl, #[], more, rfl, by rw [Array.empty_append]; exact hm⟩)
        · exact .inl (same b o hb e)
      · by_cases hb : b ∈ cs.map (·.2)
        · obtain ⟨p, hp, rfl⟩ := List.mem_map.mp hb
          obtain ⟨more, hm⟩ := grown p hp
          exact ⟨_, hm⟩
        · exact ⟨o, same b o hb e⟩
end
theorem walk_hT {l : PySem.W.OpenLaw} {n k : Nat} {q : Program} {loose : List Str} {XP : (Str -> Option Value) -> Heap -> Prop} {YP : World -> Heap -> Prop} {d : DefRec} {x : Str}
    (hn : l.most = some n) (hn2 : n <= sizeLine) (hdf : d.params.defaults = []) (hr : Room k callerA)
    (F : ∀ (w : World) (mg : Str -> Option Value) (fa : Addr) (h : Heap) (a : Addr) (vs : List Value), YP w h -> h.Ns mainGlobals mg -> mg d.name = some (.ref fa) -> h.get? a = some { cls := .type "list", data := .seq vs.toArray } -> (∀ v ∈ vs, ∃ i t, v = Value.int i t) ->
      ∃ (K : PySem.W.Frag) (cs : List (Addr × Addr)) (fd : FuncData) (sp : Sp), K.In h /\ TabsE cs K h /\ (∀ (s : Shared) (u : Value), BindsTo s fd ⟨[u], []⟩ [(x, u)]) /\
        (∀ (J : Hp) (ns : List Int), ns.length <= n -> (∀ p ∈ cs, J p.2 = some (.tbl #[])) -> (∀ b, J b = none ∨ b ∈ cs.map (·.2) ∨ ∃ o xs, J b = some (.frz o (.lst xs))) -> a ∉ cs.map (·.2) -> SqL K J a (ns.map V.int) -> sp [.ref a] J (fun v _ => v = .bl true) fun _ _ _ => False) /\
        ∀ base : Heap, K.In base -> base.Ns mainGlobals mg -> (∀ p ∈ cs, TabB base mg p.1 p.2) -> FgOk l.prog w K mg base k fa fd [x] sp) :
    PySem.W.WalkO q loose XP YP l.row.toRowW d [] (fun f vs => PySem.call f vs) := by
  refine Att.attach_call hn hdf fun w s0 s1 mg mb fa o pm cd doc a vs ns G Y ho hd hcd hmg hobj hints hlen hg => ?_
  obtain ⟨K, cs, fd, sp, KX, T, hb, hsp, hF⟩ := F w mg fa _ a vs Y G.T.g hmg hobj (ints_all hints)
  exact law_callTG KX G.T.g G.T.b G.T.builtins G.T.nolimit hg T G.T.bmain hobj hints (Nat.le_trans hlen hn2) hr hF hb (fun J h1 h2 h3 hS => hsp J ns hlen h1 h2 h3 hS) fun J e s' => noCX _ _ J s1 e s'
def tabSt (ts : List Str) : Sto := ts.map fun t => .lam 0 [.str t]
theorem sp_startT {Z : Wc} {g : List D -> M D} {J : Hp} {a : Addr} {ns : List Int} {ts : List Str} {Ps : List Addr} (hgb : Z.gb = none) (hJt : ∀ b ∈ Ps, J b = some (.tbl #[])) (hO : ∀ b, J b = none ∨ b ∈ Ps ∨ ∃ o xs, J b = some (.frz o (.lst xs))) (haP : a ∉ Ps) (hnd : Ps.Nodup)
    (hz : Ps.length = ts.length) (htb : ∀ (i : Nat) (t : Str) (b : Addr), ts[i]? = some t -> Ps[i]? = some b -> Z.tb t = some b) (hK : Z.K.lookup a = none) (hS : SqL Z.K J a (ns.map V.int)) (hg : ∃ s', g [.ref 0] (.frl (ns.map D.int) :: tabSt ts) = .ok (.bl true) s') :
    spI Z g 1 [.ref a] J (fun v _ => v = .bl true) fun _ _ _ => False := by
  have hJ : ∃ o, J a = some (.frz o (.lst (ns.map V.int))) := by
    rcases hS with h | ⟨o, its, n, h, _⟩
    · rcases h with h | ⟨o, h⟩
      · rcases hO a with z | z | ⟨o, xs, z⟩
        · rw [h] at z; cases z
        · exact absurd z haP
        · rw [h] at z; cases z
      · exact ⟨o, h⟩
    · rw [hK] at h; cases h
  obtain ⟨o, hJ⟩ := hJ
  have sr : SR Z (a :: Ps) (.frl (ns.map D.int) :: tabSt ts) J := by
    refine ⟨by simp [tabSt, hz], List.nodup_cons.mpr ⟨haP, hnd⟩, ?_, ?_, fun p hp => by rw [hgb] at hp; cases hp⟩
    · intro l c h
      cases l with
      | zero => cases h; rfl
      | succ l =>
        simp only [List.getElem?_cons_succ, tabSt, List.getElem?_map] at h
        cases e : ts[l]? with
        | none => rw [e] at h; cases h
        | some t => rw [e] at h; cases h; rfl
    · intro l c b h hb
      cases l with
      | zero =>
        cases h
        have : a = b := by simpa using hb
        subst this
        exact ⟨a, o, ns.map V.int, [], rfl, hJ, Rps.ofInts ns, rfl⟩
      | succ l =>
        simp only [List.getElem?_cons_succ, tabSt, List.getElem?_map] at h hb
        cases e : ts[l]? with
        | none => rw [e] at h; cases h
        | some t =>
          rw [e] at h
          cases h
          exact ⟨b, rfl, rfl, htb l t b e hb, TabS.nil (hJt b (List.mem_of_getElem? hb))⟩
  refine ⟨rfl, a :: Ps, .frl (ns.map D.int) :: tabSt ts, J, a :: Ps, .frl (ns.map D.int) :: tabSt ts, [.ref 0], [], sr, Now.start sr, ?_, ?_⟩
  · exact ⟨.ref a, [], [], [], rfl, ⟨a, rfl, rfl, rfl⟩, ⟨rfl, rfl⟩, rfl⟩
  · obtain ⟨s', hg⟩ := hg
    show Post (Rp Z) Z _ (g [.ref 0] (.frl (ns.map D.int) :: tabSt ts)) (a :: Ps) [] J _
    rw [hg]
    intro ρ' H' v F _ _ r
    exact r.1
end Fs
namespace Fs
open PySem L2 PyProof.Rows PySem.Spec
section
variable {X : L2.Cx} {T : Tbl} {Z : Wc} {W : WX} {σ0 : L2.St}
end
end Fs
namespace Fs
open PySem L2 PyProof.Rows PySem.Spec
abbrev ZipAt (S : Bool) (h : Heap) (z TI TO : Addr) (f0 : Value) : Prop :=
  h.get? z = some { cls := .type "zip", dict := none, data := .fields #[f0, .bool false, .bool S, .ref TI, .ref TO], slots := #[] }
abbrev TupAt (h : Heap) (T : Addr) (vs : List Value) : Prop := h.get? T = some { cls := .type "tuple", data := .seq vs.toArray }
structure Tk where
  b : Bool
  a : Addr
  it : Addr
  xs : Array Value
def TkAt (h : Heap) (ts : List Tk) (i : Nat) : Prop := ∀ t ∈ ts, ItB t.b h t.it t.a i /\ HeB t.b h t.a t.xs
section
variable {prog : Program} {w : World} {A : Around} {E : Value -> Shared -> Prop} {s : Shared}
structure ZipNew (S : Bool) (h' : Heap) (N : Nat) (ts : List Tk) (z TI TO : Addr) : Prop where
  zip : ZipAt S h' z TI TO .none
  ti : TupAt h' TI (ts.map fun t => .ref t.it)
  to : TupAt h' TO (ts.map fun _ => .none)
  tk : TkAt h' ts 0
  nd : (z :: TI :: TO :: ts.map Tk.it).Nodup
  ge : ∀ c ∈ z :: TI :: TO :: ts.map Tk.it, N <= c
  lt : ∀ t ∈ ts, t.a < N
end
end Fs
namespace Fs
open PySem L2 PyProof.Rows PySem.Spec
section
variable {prog : Program} {w : World} {A : Around} {E : Value -> Shared -> Prop} {s : Shared}
structure ZAp (N : Nat) (ts : List Tk) (z TI TO : Addr) : Prop where
  nd : (z :: TI :: TO :: ts.map Tk.it).Nodup
  ge : ∀ c ∈ z :: TI :: TO :: ts.map Tk.it, N <= c
  lt : ∀ t ∈ ts, t.a < N
end
end Fs
namespace Fs
open PySem L2 PyProof.Rows PySem.Spec
section
variable {X : L2.Cx} {pins : List (Addr × Obj)} {σ : L2.St} {H : Hp} {s : Shared}
end
end Fs
namespace Fs
open PySem L2 PyProof.Rows PySem.Spec
section
variable {prog : Program} {w : World} {A : Around} {E : Value -> Shared -> Prop} {s : Shared}
end
end Fs
namespace Fs
open PySem L2 PyProof.Rows PySem.Spec
section
variable {M : Model} {A : Around} {E : Value -> Shared -> Prop} {s : Shared} {env : PySem.Env}
end
section
variable {X : L2.Cx} {e e2 e3 : Expr} {ta : TA} {p pos tpos : Pos} {elts : List Expr} {kk : Nat} {kws : List Keyword}
end
end Fs
namespace Fs
open PySem L2 PyProof.Rows PySem.Spec
structure ZSrc where
  s : Src
  b : Bool
  a : Addr
  I : Nat -> List Addr -> Hp -> List Addr -> Prop
section
variable {Z : Wc}
end
section
variable {X : L2.Cx} {T : Tbl} {Z : Wc} {W : WX} {pos p tpos : Pos} {e e2 e3 : Expr} {As : List Ex} {elts : List Expr} {kk : Nat} {kws : List Keyword}
end
end Fs
namespace Fs
open PySem L2 PyProof.Rows PySem.Spec
section
variable {X : L2.Cx} {T : Tbl} {Z : Wc} {W : WX} {σ0 : L2.St}
end
end Fs
namespace Fs
open PySem L2 PyProof.Rows PySem.Spec HT
section
variable {prog : Program} {w : World} {A : Around} {E : Value -> Shared -> Prop} {s : Shared}
end
section
variable {X : L2.Cx} {T : Tbl} {Z : Wc} {W : WX} {σ0 : L2.St} {A : Ex} {a : Expr} {pos : Pos}
end
end Fs
namespace Fs
open PySem L2 PyProof.Rows PySem.Spec
section
variable {X : L2.Cx} {T : Tbl} {Z : Wc} {W : WX} {pos p : Pos} {tg e c : Expr} {A : Ex}
end
end Fs
namespace Fs
open PySem L2 PyProof.Rows PySem.Spec
section
variable {X : L2.Cx} {T : Tbl} {Z : Wc} {W : WX} {e : Expr} {es : List Expr} {As Bs : List Ex} {pos p : Pos} {x : Str} {k i n : Nat} {f : Addr} {fd : FuncData} {ps ks : List Str} {d : D} {dv : V} {u : Value} {Pp : Pr} {kws : List Keyword} {nm : Option Str} {kpos : Pos} {A : Ex}
theorem sk_nil : PK X [] (iEs T Z W []) := ⟨fun _ pins s σ H Q I ⟨ρ, env, st, er, sr, h⟩ => wpAny_evalAll_nil ⟨[], H, I, .nil, by
  simp only [evs] at h
  exact Post.ret h (Now.start sr) ⟨rfl, rfl⟩⟩⟩
theorem pk_weakK {t t' : TA} (h : PK X kws t) (w : ∀ σ H Q, t' σ H Q -> t σ H Q) : PK X kws t' := ⟨fun pos pins s σ H Q I q => h.run pos pins s σ H Q I (w σ H Q q)⟩
theorem sk_cons (ha : PE X e (iE T Z W A)) (hr : PK X kws (iEs T Z W As)) : PK X (⟨nm, e, kpos⟩ :: kws) (iEs T Z W (A :: As)) := by
  refine pk_weakK (pk_cons ha hr) fun σ H Q ⟨ρ, env, st, er, sr, h⟩ => ?_
  simp only [evs] at h
  refine ⟨ρ, env, st, er, sr, (Post.seq rpOk (Now.start sr) sr h).mono ?_⟩
  rintro x H1 ⟨ρ1, d1, st1, F1, n1, t1, r1, h1⟩
  refine ⟨ρ1, env, st1, t1.env sr er, n1.sr, (Post.seq rpsOk n1 sr h1).mono ?_⟩
  rintro xs H2 ⟨ρ2, d2, st2, F2, n2, t2, r2, h2⟩
  exact Post.ret h2 n2 ⟨x, xs, F1, F2, rfl, t2.val n1.sr (fun a ha => n1.out a (List.mem_append_right _ ha)) r1, r2, rfl⟩
theorem se_callKw0 (F : FgOk X.prog X.w X.K X.mg X.base k f fd ps (spI Z (T.fn i) ps.length)) (hr : Room k X.A) (hgd : X.A.guards = some []) (tk : Takes X W) (hg : Gl X x) (hm : X.mg x = some (.ref f)) (hk : PySem.W.keepIn X.K (.ref f) = true)
    (hb : KBn X.K fd ps 0 ks (fun us ws => us ++ ws) (fun vs zs => vs ++ zs)) (hkw : PK X kws (iEs T Z W Bs)) (hlen : Bs.length = ps.length) (hkl : Bs.length = ks.length)
    (hall : (backToKw pos (keywordEach kws X.env)).all (·.1.isSome) = true) (hks : (backToKw pos (keywordEach kws X.env)).filterMap (·.1) = ks) (hdb : (x == ("__debug__" : Str)) = false)
    (hpl : ((backTo pos (starEach [] X.env)).any (·.1) || (backToKw pos (keywordEach kws X.env)).any (·.1.isNone)) = false) :
    PE X (.Call (.Name x p) [] kws pos) (iE T Z W (.call i Bs)) := by
  refine ⟨fun pins s σ H Q I h => ?_⟩
  have h' := give_ok (g := T.fn i) (np := ps.length) (As := Bs) (by simpa only [iE, ev] using h) hlen
  refine wpAny_Call_Name_kw (ld_glob I hg hm ?_ hdb)
  refine PySem.W.callWith_KW0 (h₀ := X.base) I.ok.mod.kin hk hall (thn (hkw.run pos pins s σ H _ I h') fun ws s2 ⟨zs, H2, I2, rz, q2⟩ => ⟨I2.kIn, ?_⟩) hpl
  rw [hks]
  have hl : ws.length = ks.length := rz.length.symm.trans (q2.1.trans (hlen.symm.trans hkl))
  refine wpAny_call (codeAny_mono (run_fg (us := ws) F hr hgd (fun e s' c => tk e s' (XE.of_call I2 (fun _ _ _ z => z) c)) I2 (hb.to s2 [] ws I2.kIn rfl hl) rz q2) fun rr s' hq => ?_)
  cases rr with
  | error e => exact hq
  | ok fl => cases fl with
    | ret u => exact hq
    | next => exact hq
    | brk => exact hq
    | cont => exact hq
end
def CalK (Pw : Program) (w : World) (K : PySem.W.Frag) (mg : Str -> Option Value) (base : Heap) (Z : Wc) (Pp : Pr) (n i : Nat) (x : Str) (ps : List Str) (nk : Nat) (ks : List Str) : Prop :=
  ∃ f fd, FgOk Pw w K mg base (n + 2) f fd ps (spI Z (call Pp n i) ps.length) /\ mg x = some (.ref f) /\ PySem.W.keepIn K (.ref f) = true /\ KBn K fd ps nk ks (fun us ws => us ++ ws) (fun vs zs => vs ++ zs)
section
variable {X : L2.Cx} {Pp : Pr} {n i nk : Nat} {Z : Wc} {W : WX} {e : Expr} {pos p : Pos} {es : List Expr} {As Bs : List Ex} {x : Str} {ps ks : List Str} {kws : List Keyword}
theorem se_callCK0 (c : CalK X.prog X.w X.K X.mg X.base Z Pp n i x ps 0 ks) (hr : Room (n + 2) X.A) (hgd : X.A.guards = some []) (tk : Takes X W) (hg : Gl X x) (hkw : PK X kws (iEs (Pp.tbl n) Z W Bs))
    (hlen : Bs.length = ps.length := by rfl) (hkl : Bs.length = ks.length := by rfl) (hall : (backToKw pos (keywordEach kws X.env)).all (·.1.isSome) = true := by rfl) (hks : (backToKw pos (keywordEach kws X.env)).filterMap (·.1) = ks := by rfl)
    (hdb : (x == ("__debug__" : Str)) = false := by rfl) (hpl : ((backTo pos (starEach [] X.env)).any (·.1) || (backToKw pos (keywordEach kws X.env)).any (·.1.isNone)) = false := by rfl) : PE X (.Call (.Name x p) [] kws pos) (iE (Pp.tbl n) Z W (.call i Bs)) := by
  obtain ⟨f, fd, F, hm, hk, hb⟩ := c
  exact se_callKw0 (T := Pp.tbl n) F hr hgd tk hg hm hk hb hkw hlen hkl hall hks hdb hpl
end
section
variable {K : PySem.W.Frag} {x qual : Str} {params : Arguments} {body : List Stmt} {scope : Scope} {dvs : List V} {f : Addr} {fd : FuncData} {ps : List Str}
theorem FunD.kbN (F : FunD K x qual params body scope [] [] f fd) (n : Nat) (ks : List Str)
    (h : ∀ (kV doc pm : Value) (an : Option Addr) (cdv ct : Value) (us ws : List Value), us.length = n -> ws.length = ks.length -> bindArgs (PySem.W.fnOf x qual params body scope .none kV doc pm an cdv ct) ⟨us, ks.zip ws⟩ = pure (ps.zip (us ++ ws))) :
    KBn K fd ps n ks (fun us ws => us ++ ws) (fun vs zs => vs ++ zs) := by
  obtain ⟨oc, od, dV, kV, doc, pm, an, cdv, ct, osl, rfl, lk, hcd, hD, hK⟩ := F.ex
  rcases hD with ⟨_, rfl⟩ | ⟨e, _⟩
  · refine ⟨fun s us ws X l1 l2 => ?_, fun r1 r2 => r1.append r2⟩
    exact .of_eq (h kV doc pm an cdv ct us ws l1 l2)
  · exact absurd rfl e
end
end Fs
namespace Fs
open PySem L2 PyProof.Rows PySem.Spec
section
variable {X : L2.Cx} {T : Tbl} {Z : Wc} {W : WX} {e : Expr} {pos p p1 pos1 : Pos} {a b c : Int} {ea eb ec : Expr}
theorem evs_ints {env : Env} {st : Sto} : ∀ L : List Int, evs T (L.map fun i => .con (.int i)) env st = .ok (L.map .int) st
  | [] => by simp only [List.map_nil, evs, ret]
  | i :: L => by
    simp only [List.map_cons, evs, ev, bnd, ret]
    rw [evs_ints L]
end
end Fs
namespace Fs
open PySem L2 PyProof.Rows PySem.Spec
section
variable {X : L2.Cx} {Z : Wc} {pins : List (Addr × Obj)} {σ : L2.St} {H : Hp} {s : Shared} {a : Addr}
theorem RpT.keysEq {ρ : List Addr} : ∀ {kvs : List (Ky × D)} {ws : List (List L2.Key × V)} {F : List Addr}, RpT Z ρ H kvs ws F -> kvs.map (·.1) = ws.map (fun p => Ky.t p.1)
  | [], _, _, r => by obtain ⟨rfl, _⟩ := r; rfl
  | (q, d) :: kvs, _, _, r => by
    obtain ⟨j, u, ws', F1, F2, rfl, rfl, r1, r2, rfl⟩ := r
    simp [RpT.keysEq r2]
end
section
variable {X : L2.Cx} {T : Tbl} {Z : Wc} {W : WX} {pos p1 p2 p3 p4 : Pos} {i j k m : Nat} {x y z : Str}
end
end Fs
namespace Fs
open PySem L2 PyProof.Rows PySem.Spec
section
variable {X : L2.Cx} {T : Tbl} {Z : Wc} {W : WX} {e : Expr} {A : Ex} {pos pos' : Pos}
end
end Fs
namespace Fs
open PySem L2 PyProof.Rows PySem.Spec
theorem flyingZ_keep {B h h' : Heap} {l : List PySem.Env} {a : Addr} {Z : Obj -> Prop} (x : HandSPX.FlyingZ B l a Z h) (k : ∀ b o, h.get? b = some o -> h'.get? b = some o) : HandSPX.FlyingZ B l a Z h' := by
  obtain ⟨h1, h2, h3, oe, vs, T, oT, ts, e1, e2, e3, e4, e5, e6, e7, e8, e9⟩ := x
  exact ⟨fun b o e => k b o (h1 b o e), h2, Heap.FunFrames.of_keeps (fun b o e _ => ⟨o, k b o e, rfl⟩) h3, oe, vs, T, oT, ts, k _ _ e1, e2, e3, e4, e5, e6, k _ _ e7, e8, e9⟩
def TestOk (X : L2.Cx) (t : Expr) (ans : Value -> Option Bool) : Prop :=
  ∀ {a : Addr} {pn : List (Addr × Obj)} {σ : L2.St} {H : Hp} {s : Shared} {cls : Value} {b : Bool}, Inv (X.suite a pn) [] σ H s -> PySem.W.Looks (model X.prog X.w) s.heap (typeOf (.ref a)) cls -> ans cls = some b ->
    ∀ {Q : Bool -> Shared -> Prop} {E : Value -> Shared -> Prop}, (∀ h', (∀ q o, s.heap.get? q = some o -> h'.get? q = some o) -> Q b { s with heap := h' }) ->
      wpAny (model X.prog X.w) (X.A.mark (some (.ref a))) (eval t X.env) (fun c s1 => wpAny (model X.prog X.w) (X.A.mark (some (.ref a))) (excMatches (.ref a) c) Q E s1) E s
theorem test3 {X : L2.Cx} {x1 x2 x3 : Str} {c1 c2 c3 : Addr} {p1 p2 p3 pt : Pos} {kk : Nat} (g1 : Gl X x1) (m1 : X.mg x1 = some (.ref c1)) (d1 : (x1 == ("__debug__" : Str)) = false) (g2 : Gl X x2) (m2 : X.mg x2 = some (.ref c2)) (d2 : (x2 == ("__debug__" : Str)) = false)
    (g3 : Gl X x3) (m3 : X.mg x3 = some (.ref c3)) (d3 : (x3 == ("__debug__" : Str)) = false) : TestOk X (.Tuple [.Name x1 p1, .Name x2 p2, .Name x3 p3] kk pt) fun cls => PySem.W.exmAny X.K cls [.ref c1, .ref c2, .ref c3] := by
  intro a pn σ H s cls b S LT hb Q E q
  refine wpAny_Tuple ?_
  refine wpAny_items_cons (ld_glob (X := X.suite a pn) S g1 m1 ?_ d1)
  refine wpAny_items_cons (ld_glob (X := X.suite a pn) S g2 m2 ?_ d2)
  refine wpAny_items_cons (ld_glob (X := X.suite a pn) S g3 m3 ?_ d3)
  refine wpAny_items_nil ⟨by size_fits, ?_⟩
  have kp : ∀ b o, s.heap.get? b = some o -> (s.heap.push { cls := .type "tuple", data := .seq [Value.ref c1, .ref c2, .ref c3].toArray }).get? b = some o := fun _ _ z => Heap.get?_push_of_some _ z
  have KI : X.K.In s.heap := S.kIn
  exact (PySem.W.exm_tup3 (KI.keeps kp) (LT.keeps kp) (Heap.get?_push_size s.heap rfl) hb).here (q _ kp)
def wAsU (ans : Value -> Option Bool) (i : Nat) (ts : TS) (Wout : WX) (D : Ends) : WX := fun cls d σ H =>
  ∃ b, ans cls = some b /\ (b = true -> ∃ C, cls = .ref C /\ ∀ a, H a = none -> ts (endN i D) (σ.set i (some (.ref a))) (upd H a (exoH a C d))) /\ (b = false -> Wout cls d σ H)
section
variable {X : L2.Cx} {n : Str} {t : Expr} {ans : Value -> Option Bool} {i : Nat} {body suite : List Stmt} {b₀ : Stmt} {pos pos' : Pos} {tb : WX -> TS} {ts : TS} {Wout : WX}
theorem ps_try_asU (hex : X.ex = []) (hs : X.stack = X.env :: X.outer) (hf : X.env.frame = some X.env.locals) (hN : X.N.Nodup) (hi : X.N[i]? = some n) (hln : X.env.kindOf n = some .local) (hc : TestOk X t ans) (tk : Takes X Wout)
    (hb : ∀ (W : WX) (pn : List (Addr × Obj)) (xe : Value -> Shared -> Prop), Takes (X.tr pn xe) W -> PassesOwn (model X.prog X.w) X.A X.env xe -> PSs (X.tr pn xe) body (tb W))
    (hsu : ∀ (a : Addr) (pn : List (Addr × Obj)), PSs (X.suite a pn) (b₀ :: suite) ts) :
    PS X (.Try body [.ExceptHandler (some t) (some n) (b₀ :: suite) pos'] [] [] pos) (fun D σ H => tb (wAsU ans i ts Wout D) D σ H) := by
  refine ⟨fun pins s σ H D I h => ?_⟩
  have ok := I.ok
  have hfr : X.A.frames = some (X.env :: X.outer) := by rw [ok.frames, hs]
  have hloc : Loc X.env.scope n := .inl hln
  refine wpAny_Try_except ?_
  refine wpAny_mono ((hb (wAsU ans i ts Wout D) (X.pn ++ pins) (fun e s₁ => wpAny (model X.prog X.w) X.A (noteFrame e X.env) (fun _ s₂ => wpAny (model X.prog X.w) X.A (setFlight e none) (fun _ s₃ =>
    wpAny (model X.prog X.w) X.A (handleBy e X.env [.ExceptHandler (some t) (some n) (b₀ :: suite) pos']) (SP X pins D) X.xe s₃) X.xe s₂) X.xe s₁) (fun u s' xx => ?_) PassesOwn.looking).run [] s σ H D (I.toTry _) h) (fun f s1 hsp => ?_) (fun e s1 he => he)
  · obtain ⟨a, B, sI, pins', σ', H', cls, d, rfl, J', nb, up, sky, na, os, ag, b, hb1, hyes, hno⟩ := xx
    have J : Inv X pins σ' H' sI := J'.ofTry ok
    have sky' : Sky B (X.env :: X.outer) a (Zc cls d) X.env.locals s'.heap := by rw [<- hs]; exact sky
    show wpAny (model X.prog X.w) X.A (noteFrame (.ref a) X.env) _ _ _
    refine Sky.land Zc.steady hfr hf sky' fun h3 fl3 up3 => ?_
    have J3 : Inv X pins σ' H' { s' with heap := h3 } := J.landed nb fl3.1 (up.trans up3) os ag
    obtain ⟨oe3, vs3, he3, hz3, hd3⟩ := fl3.there
    have notFr : ∀ {h : Heap} {o : Obj} {vs : Array Value}, h.FunFrames B (X.env :: X.outer) -> h.get? a = some o -> o.data = .fields vs -> a ∉ frs (X.env :: X.outer) := fun {h o vs} ff e dd hm => by
      obtain ⟨_, o', e', hnf⟩ := ff.mem hm
      rw [e] at e'; cases e'
      exact hnf _ dd
    have nfr := notFr fl3.2.2.1 he3 hd3
    have nL : a ≠ X.env.locals := fun z => nfr (List.mem_filterMap.mpr ⟨X.env, List.mem_cons_self, by rw [hf, z]⟩)
    have nF : a ∉ X.fs := fun hm => by
      obtain ⟨e, he, q⟩ := List.mem_filterMap.mp hm
      exact nfr (List.mem_filterMap.mpr ⟨e, List.mem_cons_of_mem _ he, q⟩)
    have nI : sI.heap.get? a = none := by
      cases q : sI.heap.get? a with
      | none => rfl
      | some o =>
        have := nb a o q (by rw [hs]; exact nfr)
        rw [fl3.2.1] at this; cases this
    have n0 : X.s_0.heap.get? a = none := by
      cases q : X.s_0.heap.get? a with
      | none => rfl
      | some o =>
        obtain ⟨o', q'⟩ := J.base.there a o q (by rw [hex]; simp)
        rw [nI] at q'; cases q'
    have nC : ∀ x c, X.env.cells.lookup x = some c -> c ≠ a := fun x c e z => by
      obtain ⟨v, q⟩ := J.cell x c e
      rw [z] at q
      obtain ⟨o, e1, _⟩ := q
      rw [nI] at e1; cases e1
    have nP : ∀ p ∈ X.pn ++ pins, p.1 ≠ a := fun p hp z => by
      have := (J.pin p hp).1
      rw [z, nI] at this; cases this
    have S3 := J3.suite he3 hd3 na nL nF
    refine wpAny_handleBy_cons (codeAny_handlers_test ?_) (by intro q; cases q)
    have LT : PySem.W.Looks (model X.prog X.w) h3 (typeOf (.ref a)) cls := fun A Q E s k q => wpAny_typeOf_ref (k _ _ he3) (by rw [hz3.1]; exact q)
    refine hc S3 LT hb1 fun h5 k5 => ?_
    have fl5 : HandSPX.FlyingZ B (X.env :: X.outer) a (Zc cls d) h5 := flyingZ_keep fl3 k5
    have up5 := up3.trans (Heap.UpToSlots.of_keeps k5)
    cases b with
    | true =>
      obtain ⟨C, hC, hy2⟩ := hyes rfl
      subst hC
      refine codeAny_handlers_suite_as ?_
      refine HandSPX.lands_againZ fl5 fun h4 fl4 up4 => ?_
      have J4 : Inv X pins σ' H' { s' with heap := h4 } := J.landed nb fl4.1 ((up.trans up5).trans up4) os ag
      obtain ⟨oe4, vs4, he4, hz4, hd4⟩ := fl4.there
      have T4 : Inv X pins σ' (upd H' a (exoH a C d)) { s' with heap := h4 } := inv_track J4 na nL nC nP n0 ⟨⟨oe4, vs4, he4, hz4.1, hz4.2, hd4⟩, ⟨_, he4⟩, fun h1 h2 ⟨oe, vs, e1, e2⟩ k => ⟨oe, vs, k _ e1, e2⟩⟩
      have S4 : Inv (X.suite a (X.pn ++ pins)) [] σ' (upd H' a (exoH a C d)) { s' with heap := h4 } :=
        ⟨T4.ok.suite _ _, T4.os, T4.bare, T4.base, T4.loc, T4.cell, T4.free, T4.freeC, fun p hp => T4.pin p (by rw [List.append_nil] at hp; exact hp), T4.hok, T4.len⟩
      refine store_ok (X := X.suite a (X.pn ++ pins)) (v := .ref a) S4 hN hi hloc rfl (fun s5 S5 => ?_) (.inr hln)
      refine wpAny_mono ((hsu a (X.pn ++ pins)).run [] s5 _ _ _ S5 (hy2 a na)) (fun f s6 hsp => ?_) (fun _ _ z => False.elim z)
      have end_ : ∀ {σ6 : L2.St} {H6 : Hp} {Q : Shared -> Prop}, Inv (X.suite a (X.pn ++ pins)) [] σ6 H6 s6 -> (∀ s7, Inv X pins (σ6.set i none) H6 s7 -> Q s7) ->
          wpAny (model X.prog X.w) X.A (do bindName X.env n .none; unbindBehindTheSuite X.env n pos') (fun _ s7 => Q s7) X.xe s6 := fun {σ6 H6 Q} S6 hq => by
        have U : Inv X pins σ6 H6 s6 := ⟨ok, S6.os, S6.bare, S6.base, S6.loc, S6.cell, S6.free, S6.freeC, fun p hp => S6.pin p (by rw [List.append_nil]; exact hp), S6.hok, S6.len⟩
        exact gone_ok U hN hi hln hq
      cases f with
      | next =>
        obtain ⟨σ6, H6, S6, q6⟩ := hsp
        exact end_ S6 fun s7 J7 => ⟨_, _, J7, q6⟩
      | brk =>
        obtain ⟨σ6, H6, S6, q6⟩ := hsp
        exact end_ S6 fun s7 J7 => ⟨_, _, J7, q6⟩
      | cont =>
        obtain ⟨σ6, H6, S6, q6⟩ := hsp
        exact end_ S6 fun s7 J7 => ⟨_, _, J7, q6⟩
      | ret u =>
        obtain ⟨v6, σ6, H6, S6, r6, q6⟩ := hsp
        exact end_ S6 fun s7 J7 => ⟨_, _, _, J7, r6, q6⟩
    | false =>
      show wpAny _ X.A (handleBy (.ref a) X.env []) _ _ _
      refine wpAny_handleBy_nil ?_
      obtain ⟨k1, k2, k3, oe, vs, T, oT, ts', he, hz, hd, h1, hr⟩ := id fl5
      unfold PySem.passOn
      refine wpAny_bind (wpAny_field he hd h1 ?_)
      rw [if_neg (show ¬ ((Value.ref T == Value.none) = true) from by simp)]
      have fin : wpAny (model X.prog X.w) X.A (setFlight (.ref a) X.env.frame) (fun _ s4 => wpAny (model X.prog X.w) X.A (throw (.ref a) : Sem Flow) (SP X pins D) X.xe s4) X.xe { s' with heap := h5 } := by
        rw [hf]
        refine HandSPX.setFlight_upZ fl5 fun h4 hh4 up4 => wpAny_throw (tk _ _ ?_)
        exact ⟨a, B, sI, pins, σ', H', cls, d, rfl, J, nb, (up.trans up5).trans up4, .inr (.inr (by rw [hs]; exact hh4)), na, os, ag, hno rfl⟩
      first
        | exact wpAny_bind (wpAny_pure (wpAny_bind fin))
        | exact wpAny_bind fin
  · cases f with
    | next =>
      obtain ⟨σ', H', J', q⟩ := hsp
      exact wpAny_execs_nil ⟨σ', H', J'.ofTry ok, q⟩
    | brk =>
      obtain ⟨σ', H', J', q⟩ := hsp
      exact ⟨σ', H', J'.ofTry ok, q⟩
    | cont =>
      obtain ⟨σ', H', J', q⟩ := hsp
      exact ⟨σ', H', J'.ofTry ok, q⟩
    | ret u =>
      obtain ⟨v, σ', H', J', r, q⟩ := hsp
      exact ⟨v, σ', H', J'.ofTry ok, r, q⟩
end
section
variable {X : L2.Cx} {T : Tbl} {Z : Wc} {W : WX} {n : Str} {t : Expr} {ans : Value -> Option Bool} {i : Nat} {ks : List Nat} {body suite : List Stmt} {b₀ : Stmt} {pos pos' : Pos} {Bs Ss : List Sx}
theorem ss_triU (hex : X.ex = []) (hs : X.stack = X.env :: X.outer) (hf : X.env.frame = some X.env.locals) (hN : X.N.Nodup) (hi : X.N[i]? = some n) (hln : X.env.kindOf n = some .local) (hc : TestOk X t ans)
    (hm : ∀ c, ans (.ref (Z.ca c)) = some (ks.any fun k => T.anc c k)) (tk : Takes X W)
    (hb : ∀ (W : WX) (pn : List (Addr × Obj)) (xe : Value -> Shared -> Prop), Takes (X.tr pn xe) W -> PassesOwn (model X.prog X.w) X.A X.env xe -> PSs (X.tr pn xe) body (iL T Z W Bs))
    (hsu : ∀ (a : Addr) (pn : List (Addr × Obj)), PSs (X.suite a pn) (b₀ :: suite) (iL T Z (fun _ _ _ _ => False) Ss)) :
    PS X (.Try body [.ExceptHandler (some t) (some n) (b₀ :: suite) pos'] [] [] pos) (iS T Z W (.tri Bs [(ks, some i, Ss)])) := by
  refine ps_weak (ps_try_asU (i := i) hex hs hf hN hi hln hc tk hb hsu) fun D σ H ⟨ρ, env, st, er, sr, h⟩ => ?_
  refine ⟨ρ, env, st, er, sr, ?_⟩
  simp only [exS] at h
  cases e1 : exL T Bs env st with
  | exc x s' => rw [e1] at h; exact h.elim
  | bad => rw [e1] at h; exact h.elim
  | ok f s' =>
    rw [e1] at h
    cases f with
    | nx e' => exact h
    | br e' => exact h
    | ct e' => exact h
    | rt d => exact h
    | ex env' e =>
      simp only at h
      rintro ρ' H' σ' cls dx t sr' er' ⟨c, fs, rfl, rfl, hx⟩
      have n1 : Now Z ρ H ρ' s' H' [] := ⟨t, sr', by simp, by simp, .nil⟩
      simp only [exH] at h
      refine ⟨ks.any fun k => T.anc c k, hm c, fun hy => ?_, fun hn => ?_⟩
      · refine ⟨Z.ca c, rfl, fun a na => ?_⟩
        rw [hy] at h
        simp only at h
        have n2 : Now Z ρ H ρ' s' (upd H' a (exoH a (Z.ca c) dx)) [] := (n1.new sr na).less (List.nil_sublist _)
        have er2 : ER Z ρ' (upd H' a (exoH a (Z.ca c) dx)) env' σ' := ⟨er'.1, fun j d hd => by
          obtain ⟨v, h1, h2⟩ := er'.2 j d hd
          exact ⟨v, h1, rp_up na h2⟩⟩
        have re : Rp Z ρ' (upd H' a (exoH a (Z.ca c) dx)) (.exc c fs) (.ref a) [] := by
          refine ⟨a, dx, rfl, upd_same, ?_, rfl⟩
          refine RpX.stay (fun _ _ e => e) (fun b u e _ => ?_) hx
          rw [upd_ne (fun z => by rw [z, na] at e; cases e)]; exact e
        exact ⟨ρ', env'.set i (some (.exc c fs)), s', er2.set re, n2.sr, (PostS.outF h).tail n2 sr⟩
      · rw [hn] at h
        simp only [ret] at h
        exact h ρ' H' σ' _ dx t sr' er' ⟨c, fs, rfl, rfl, hx⟩
theorem exm3 {K : PySem.W.Frag} {cls c1 c2 c3 : Value} {b1 b2 b3 : Bool} (h1 : PySem.W.exmOne K cls c1 = some b1) (h2 : PySem.W.exmOne K cls c2 = some b2) (h3 : PySem.W.exmOne K cls c3 = some b3) : PySem.W.exmAny K cls [c1, c2, c3] = some (b1 || (b2 || (b3 || false))) := by
  simp only [PySem.W.exmAny, h1, h2, h3]
end
end Fs
namespace Fs
open PySem L2 PyProof.Rows PySem.Spec
section
variable {Z : Wc} {ρ : List Addr} {H : Hp}
end
section
variable {X : L2.Cx} {T : Tbl} {Z : Wc} {W : WX} {pos p : Pos} {x : Str} {k i n : Nat} {f : Addr} {fd : FuncData} {ps ks : List Str} {kws : List Keyword} {As : List Ex} {is : List Nat} {pm : List (Sum Nat D)}
end
section
variable {X : L2.Cx} {Pp : Pr} {n i : Nat} {Z : Wc} {W : WX} {pos p : Pos} {Bs : List Ex} {x : Str} {ps ks : List Str} {kws : List Keyword} {is : List Nat} {pm : List (Sum Nat D)}
end
section
variable {K : PySem.W.Frag} {x qual : Str} {params : Arguments} {body : List Stmt} {scope : Scope} {f : Addr} {fd : FuncData} {ps : List Str}
end
end Fs
namespace Fs
open PySem L2 PyProof.Rows PySem.Spec LamX
theorem icB_ok {K : PySem.W.Frag} {C : Addr} (h : icB K C = true) : ExcC K C := by
  obtain ⟨h0, h⟩ := He.ba h
  obtain ⟨h1, h⟩ := He.ba h
  obtain ⟨h2, h⟩ := He.ba h
  obtain ⟨h3, h4⟩ := He.ba h
  have T := xfB_ok h0
  exact ⟨T.ga, T.gg, T.exC, T.hdC, of_decide_eq_true h1, of_decide_eq_true h2, of_decide_eq_true h3, of_decide_eq_true h4⟩
theorem excC_del {K : PySem.W.Frag} {C a : Addr} (hL : LstAt K a) (F : ∃ o, K.lookup C = some o /\ ∀ xs n, o.data ≠ .seq xs n) (T : ExcC K C) : ExcC (kdel K a) C := by
  have X := xfC_del hL F ⟨T.hg, T.hk, T.hs, T.hd⟩
  obtain ⟨o, hl, ho⟩ := F
  have hl' := kdel_keep hL hl ho
  refine ⟨X.ga, X.gg, X.exC, X.hdC, findIn_le (kle_del hL) T.ha, ?_, ?_, ?_⟩
  · have e := T.hn
    unfold PySem.W.specialIn at e ⊢
    obtain ⟨t, h1, h2⟩ := Option.bind_eq_some_iff.mp e
    exact Option.bind_eq_some_iff.mpr ⟨t, h1, findIn_le (kle_del hL) h2⟩
  · have e := T.ht
    first
      | exact e
      | (unfold PySem.W.takesIn at e ⊢; exact e)
  · have e := T.hm
    simp only [PySem.W.mroIn, PySem.W.clsIn, hl, hl'] at e ⊢
    exact e
theorem tab0_ok {o : Option Obj} (h : tab0 o = true) : o = some { cls := .none, data := .fields #[] } := by
  unfold tab0 at h
  split at h
  · rename_i vs sl
    obtain ⟨h1, h2⟩ := He.ba h
    have e1 : vs = #[] := Array.eq_empty_of_size_eq_zero (eq_of_beq h1)
    have e2 : sl = #[] := Array.eq_empty_of_size_eq_zero (eq_of_beq h2)
    rw [e1, e2] <;> rfl
  · cases h
theorem codeB_ok {h : Heap} {c P : Addr} {o : Option Obj} (e : codeB c P o = true) (hc : ∀ u, o = some u -> h.get? c = some u) : PySem.W.CodeHd h c P := by
  unfold codeB at e
  split at e
  · rename_i t d vs sl
    obtain ⟨e0, e⟩ := He.ba e
    obtain ⟨e1, e⟩ := He.ba e
    obtain ⟨e2, e⟩ := He.ba e
    obtain ⟨e3, e⟩ := He.ba e
    obtain ⟨e4, e⟩ := He.ba e
    obtain ⟨e5, e⟩ := He.ba e
    obtain ⟨e6, e7⟩ := He.ba e
    have hs : vs.size > 18 := of_decide_eq_true e1
    have ht : t = "code" := eq_of_beq e0
    subst ht
    split at e2
    · rename_i Q q2
      have : Q = P := eq_of_beq e2
      subst this
      split at e3
      · rename_i f tf q3
        split at e4
        · rename_i fl tg q4
          split at e5
          · rename_i inF q5
            split at e6
            · rename_i tx tt q6
              refine ⟨_, vs, f, tf, fl, tg, inF, tx, tt, hc _ rfl, rfl, rfl, ?_, q2, q3, q4, q5, q6, by simpa using e7⟩
              rw [Array.getElem?_eq_getElem (by omega)]
              rw [Array.getD_eq_getD_getElem?, Array.getElem?_eq_getElem (by omega)] at q2
              simpa using q2
            · cases e6
          · cases e5
        · cases e4
      · cases e3
    · cases e2
  · cases e
theorem tbB_ok {K Kt : PySem.W.Frag} {h : Heap} {x : Str} (X : K.In h) (Xt : Kt.In h) (e : tbB K Kt x = true) : ∃ p, tabOf K x = some p /\ h.get? p.2 = some { cls := .none, data := .fields #[] } /\ K.lookup p.2 = none /\ PySem.W.CodeHd h p.1 p.2 := by
  unfold tbB at e
  split at e
  · rename_i c P q
    obtain ⟨e1, e⟩ := He.ba e
    obtain ⟨e2, e3⟩ := He.ba e
    refine ⟨(c, P), q, Xt _ _ (tab0_ok e2), by simpa using e3, codeB_ok e1 fun u hu => X _ _ hu⟩
  · cases e
theorem distB_ok : ∀ {l : List Addr}, distB l = true -> l.Nodup
  | [], _ => List.nodup_nil
  | a :: r, h => by
    obtain ⟨h1, h2⟩ := He.ba h
    refine List.nodup_cons.mpr ⟨fun z => ?_, distB_ok h2⟩
    have := List.all_eq_true.mp h1 a z
    simp at this
theorem tabsOf_at {K : PySem.W.Frag} : ∀ {xs : List Str}, (∀ x ∈ xs, ∃ p, tabOf K x = some p) -> (tabsOf K xs).length = xs.length /\ ∀ (i : Nat) (x : Str) (p : Addr × Addr), xs[i]? = some x -> (tabsOf K xs)[i]? = some p -> tabOf K x = some p
  | [], _ => ⟨rfl, fun i x p e _ => by simp at e⟩
  | x :: xs, h => by
    obtain ⟨p, hp⟩ := h x List.mem_cons_self
    obtain ⟨h1, h2⟩ := tabsOf_at (xs := xs) fun y hy => h y (List.mem_cons_of_mem _ hy)
    have e : tabsOf K (x :: xs) = p :: tabsOf K xs := by unfold tabsOf; rw [List.filterMap_cons, hp]
    rw [e]
    refine ⟨by simp [h1], fun i y q e1 e2 => ?_⟩
    cases i with
    | zero => cases e1; cases e2; exact hp
    | succ i => exact h2 i y q (by simpa using e1) (by simpa using e2)
def tbK (K : PySem.W.Frag) (L : List (Str × Str)) (nm : Str) : Option Addr := (L.lookup nm).bind fun x => (tabOf K x).map (·.2)
theorem lookup_at : ∀ {L : List (Str × Str)} {i : Nat} {t x : Str}, (L.map (·.1)).Nodup -> L[i]? = some (t, x) -> L.lookup t = some x
  | [], i, t, x, _, e => by simp at e
  | (t0, x0) :: L, 0, t, x, n, e => by
    cases e
    simp
  | (t0, x0) :: L, i + 1, t, x, n, e => by
    rw [List.map_cons] at n
    obtain ⟨n1, n2⟩ := List.nodup_cons.mp n
    have e' : L[i]? = some (t, x) := by simpa using e
    have : t ≠ t0 := fun z => n1 (List.mem_map.mpr ⟨(t, x), List.mem_of_getElem? e', z⟩)
    rw [List.lookup_cons]
    have : (t == t0) = false := by simpa using this
    rw [this]
    exact lookup_at n2 e'
theorem tabs_ok {K Kt : PySem.W.Frag} {h : Heap} {L : List (Str × Str)} (X : K.In h) (Xt : Kt.In h) (h1 : ((L.map (·.2)).all (tbB K Kt)) = true) (h2 : distB ((tabsOf K (L.map (·.2))).map (·.2)) = true) (hn : (L.map (·.1)).Nodup) :
    TabsE (tabsOf K (L.map (·.2))) K h /\ ((tabsOf K (L.map (·.2))).map (·.2)).Nodup /\ ((tabsOf K (L.map (·.2))).map (·.2)).length = (L.map (·.1)).length /\
      (∀ (i : Nat) (t : Str) (b : Addr), (L.map (·.1))[i]? = some t -> ((tabsOf K (L.map (·.2))).map (·.2))[i]? = some b -> tbK K L t = some b) /\ ∀ t x, L.lookup t = some x -> ∃ p, p ∈ tabsOf K (L.map (·.2)) /\ tabOf K x = some p /\ tbK K L t = some p.2 := by
  have hp : ∀ x ∈ L.map (·.2), ∃ p, tabOf K x = some p := fun x hx => let ⟨p, e, _⟩ := tbB_ok X Xt (List.all_eq_true.mp h1 x hx); ⟨p, e⟩
  obtain ⟨len, at_⟩ := tabsOf_at hp
  have mem : ∀ p ∈ tabsOf K (L.map (·.2)), h.get? p.2 = some { cls := .none, data := .fields #[] } /\ K.lookup p.2 = none /\ PySem.W.CodeHd h p.1 p.2 := fun p hp => by
    obtain ⟨x, hx, e⟩ := List.mem_filterMap.mp hp
    obtain ⟨p', e', r⟩ := tbB_ok X Xt (List.all_eq_true.mp h1 x hx)
    rw [e] at e'; cases e'
    exact r
  refine ⟨⟨fun p hp => (mem p hp).1, fun p hp => (mem p hp).2.1, fun p hp => (mem p hp).2.2⟩, distB_ok h2, by simp [len], fun i t b e1 e2 => ?_, fun t x e => ?_⟩
  · rw [List.getElem?_map] at e1 e2
    cases eL : L[i]? with
    | none => rw [eL] at e1; cases e1
    | some q =>
      obtain ⟨t', x⟩ := q
      rw [eL] at e1
      cases e1
      cases eP : (tabsOf K (L.map (·.2)))[i]? with
      | none => rw [eP] at e2; cases e2
      | some p =>
        rw [eP] at e2
        cases e2
        have := at_ i x p (by rw [List.getElem?_map, eL]; rfl) eP
        unfold tbK
        rw [lookup_at hn eL, Option.bind_some, this] <;> rfl
  · have hx : x ∈ L.map (·.2) := by
      clear len at_ mem hp h1 h2 hn
      induction L with
      | nil => cases e
      | cons q L ih =>
        rw [List.lookup_cons] at e
        split at e
        · cases e; exact List.mem_cons_self
        · exact List.mem_cons_of_mem _ (ih e)
    obtain ⟨p, hp1⟩ := hp x hx
    exact ⟨p, List.mem_filterMap.mpr ⟨x, hx, hp1⟩, hp1, by unfold tbK; rw [e, Option.bind_some, hp1] <;> rfl⟩
theorem kdel_sub {K : PySem.W.Frag} {a b : Addr} {o : Obj} (e : (kdel K a).lookup b = some o) : K.lookup b = some o := by
  rw [kdel_at] at e
  split at e
  · cases e
  · exact e
theorem tbF_of {K : PySem.W.Frag} {mg : Str -> Option Value} {base : Heap} {Z : Wc} {a : Addr} {x nm : Str} {p : Addr × Addr} (hg : mg x = some (.ref (He.ga K x))) (hp : tabOf K x = some p) (hz : Z.tb nm = some p.2) (hb : TabB base mg p.1 p.2) : TbF (kdel K a) mg base Z x nm := by
  intro f oc od fd osl e1 e2
  rw [hg] at e1
  cases e1
  have e3 := kdel_sub e2
  unfold tabOf at hp
  rw [e3] at hp
  simp only at hp
  split at hp
  · rename_i c hc
    refine ⟨c, p.2, hc, hz, ?_⟩
    have : p.1 = c := by
      split at hp
      · split at hp
        · cases hp; rfl
        · cases hp
      · cases hp
    rw [<- this]; exact hb
  · cases hp
theorem CalK.gb {Z : Wc} {g : Option (List Addr × Hp)} {Pw : Program} {w : World} {K : PySem.W.Frag} {mg : Str -> Option Value} {base : Heap} {Pp : Pr} {n i : Nat} {x : Str} {ps : List Str} {nk : Nat} {ks : List Str} (hgb : Z.gb = none) (c : CalK Pw w K mg base Z Pp n i x ps nk ks) : CalK Pw w K mg base { Z with gb := g } Pp n i x ps nk ks := by
  obtain ⟨f, fd, F, r⟩ := c
  exact ⟨f, fd, F.le fun _ _ _ _ q => spI_free hgb q, r⟩
end Fs
namespace Fs
open PySem L2 PyProof.Rows PySem.Spec
def SmF (K : PySem.W.Frag) : Prop := ∃ o, K.lookup sysModules = some o /\ ∀ xs n, o.data ≠ .seq xs n
mutual
inductive DpE (K : PySem.W.Frag) (H : Hp) : V -> PyData -> Prop
  | non : DpE K H .non .none
  | bl (b : Bool) : DpE K H (.bl b) (.bool b)
  | int (i : Int) : DpE K H (.int i) (.int i)
  | str (x : Str) : DpE K H (.str x) (.str x)
  | lst {a : Addr} {xs : List V} {ds : List PyData} : SqL K H a xs -> DpEs K H xs ds -> DpE K H (.ref a) (.list ds)
  | tup {a : Addr} {xs : List V} {ds : List PyData} : SqT K H a xs -> DpEs K H xs ds -> DpE K H (.ref a) (.tuple ds)
  | dic {a : Addr} : (H a = some (.dK []) ∨ H a = some (.dT [])) -> DpE K H (.ref a) (.dict [])
inductive DpEs (K : PySem.W.Frag) (H : Hp) : List V -> List PyData -> Prop
  | nil : DpEs K H [] []
  | cons {v : V} {vs : List V} {d : PyData} {ds : List PyData} : DpE K H v d -> DpEs K H vs ds -> DpEs K H (v :: vs) (d :: ds)
end
section
variable {X : L2.Cx} {pins : List (Addr × Obj)} {σ : L2.St} {H : Hp} {s : Shared}
theorem dic_reads {a : Addr} (I : Inv X pins σ H s) (h : H a = some (.dK []) ∨ H a = some (.dT [])) : ∃ as, Reads s.heap (.ref a) (.dict []) as /\ sysModules ∉ as := by
  rcases h with h | h
  · obtain ⟨_, hd, vs, kv, o, es, ep, ho, ex, hdt, _, pr, _⟩ := dk_of I.hok h
    cases kv
    have e : es.toList = [] := by
      cases he : es.toList with
      | nil => rfl
      | cons x y => rw [he] at pr; cases pr
    refine ⟨_, Reads.dict (kvs := []) (as := []) (bs := []) ho ex.1 hdt (by rw [e]; exact .nil) (by rw [e]; exact .nil), fun z => ?_⟩
    have : sysModules = a := by simpa using z
    rw [<- this] at hd
    exact absurd hd (by decide)
  · obtain ⟨_, hd, vs, kv, o, es, ep, ho, ex, hdt, pr, _⟩ := dt_of I.hok h
    cases kv
    have e : es.toList = [] := by simpa using pr
    refine ⟨_, Reads.dict (kvs := []) (as := []) (bs := []) ho ex.1 hdt (by rw [e]; exact .nil) (by rw [e]; exact .nil), fun z => ?_⟩
    have : sysModules = a := by simpa using z
    rw [<- this] at hd
    exact absurd hd (by decide)
mutual
theorem DpE.reads (I : Inv X pins σ H s) (sm : SmF X.K) : ∀ (d : PyData) (v : V) (u : Value), DpE X.K H v d -> RelV v u -> ∃ as, Reads s.heap u d as /\ sysModules ∉ as
  | .none, _, _, h, r => by
    cases h
    cases r
    exact ⟨_, Reads.none, by simp⟩
  | .bool b, _, _, h, r => by
    cases h
    cases r
    exact ⟨_, Reads.bool b, by simp⟩
  | .int i, _, _, h, r => by
    cases h
    obtain ⟨t, rfl⟩ := r
    exact ⟨_, Reads.int i t, by simp⟩
  | .str x, _, _, h, r => by
    cases h
    obtain ⟨t, rfl⟩ := r
    exact ⟨_, Reads.str x t, by simp⟩
  | .list ds, _, _, h, r => by
    cases h with
    | lst hs ha =>
      cases r
      obtain ⟨its, rv, ⟨o, n, ho, hc, _, hd⟩, _⟩ := I.list hs
      obtain ⟨as, hr, hn⟩ := DpE.readsAll I sm ds _ its ha rv
      refine ⟨_, Reads.list ho hc hd hr, fun z => ?_⟩
      rcases List.mem_cons.1 z with z | z
      · obtain ⟨o2, h2, h3⟩ := sm
        have h4 := I.kIn _ _ h2
        rw [z] at h4
        rw [ho] at h4
        cases h4
        exact h3 _ _ hd
      · exact hn z
  | .tuple ds, _, _, h, r => by
    cases h with
    | tup hs ha =>
      cases r
      obtain ⟨its, rv, ⟨o, ho, hc, n, hd⟩, _⟩ := I.tuple hs
      obtain ⟨as, hr, hn⟩ := DpE.readsAll I sm ds _ its ha rv
      exact ⟨_, Reads.tuple ho hc hd hr, hn⟩
  | .dict kvs, _, _, h, r => by
    cases h with
    | dic h =>
      cases r
      exact dic_reads I h
theorem DpE.readsAll (I : Inv X pins σ H s) (sm : SmF X.K) : ∀ (ds : List PyData) (vs : List V) (us : List Value), DpEs X.K H vs ds -> Vals vs us -> ∃ as, ReadsAll s.heap us ds as /\ sysModules ∉ as
  | [], _, _, h, r => by
    cases h
    cases r
    exact ⟨_, ReadsAll.nil, by simp⟩
  | d :: ds, _, _, h, r => by
    cases h with
    | cons h1 h2 =>
      cases r with
      | cons r1 r2 =>
        obtain ⟨as, q1, n1⟩ := DpE.reads I sm d _ _ h1 r1
        obtain ⟨bs, q2, n2⟩ := DpE.readsAll I sm ds _ _ h2 r2
        exact ⟨_, ReadsAll.cons q1 q2, fun z => (List.mem_append.1 z).elim n1 n2⟩
end
end
section
variable {Z : Wc} {W : WX} {ρ : List Addr} {H : Hp} {st : Sto}
theorem dpEs_ok {f : D -> Option PyData} (hf : ∀ d v F p, Rp Z ρ H d v F -> f d = some p -> DpE Z.K H v p) : ∀ {ds : List D} {vs : List V} {F : List Addr} {ps : List PyData}, Rps Z ρ H ds vs F -> optL f ds = some ps -> DpEs Z.K H vs ps
  | [], vs, F, ps, r, e => by
    obtain ⟨rfl, _⟩ := r
    cases e
    exact .nil
  | d :: ds, vs, F, ps, r, e => by
    obtain ⟨v, ws, F1, F2, rfl, r1, r2, _⟩ := r
    simp only [optL] at e
    cases e1 : f d with
    | none => rw [e1] at e; cases e
    | some p =>
      rw [e1] at e
      cases e2 : optL f ds with
      | none => rw [e2] at e; cases e
      | some qs =>
        rw [e2] at e
        cases e
        exact .cons (hf d v F1 p r1 e1) (dpEs_ok hf r2 e2)
theorem dic0_dp {v : V} {F : List Addr} (r : Rp Z ρ H (.dic []) v F) : DpE Z.K H v (.dict []) := by
  obtain ⟨a, G, rfl, _, r⟩ := r
  rcases r with ⟨ws, h, h2⟩ | ⟨ws, h, h2⟩
  · obtain ⟨rfl, _⟩ := h2
    exact .dic (.inl h)
  · obtain ⟨rfl, _⟩ := h2
    exact .dic (.inr h)
theorem toP_okE (s : SR Z ρ st H) : ∀ (n : Nat) (d : D) (v : V) (F : List Addr) (p : PyData), Rp Z ρ H d v F -> toP true st n d = some p -> DpE Z.K H v p
  | 0, d, v, F, p, r, e => by simp [toP] at e
  | n + 1, d, v, F, p, r, e => by
    have ih := toP_okE s n
    cases d with
    | non => obtain ⟨rfl, _⟩ := r; simp only [toP, Option.some.injEq] at e; subst e; exact .non
    | bl b => obtain ⟨rfl, _⟩ := r; simp only [toP, Option.some.injEq] at e; subst e; exact .bl b
    | int i => obtain ⟨rfl, _⟩ := r; simp only [toP, Option.some.injEq] at e; subst e; exact .int i
    | str z => obtain ⟨rfl, _⟩ := r; simp only [toP, Option.some.injEq] at e; subst e; exact .str z
    | tup ds =>
      obtain ⟨a, vs, rfl, h, r⟩ := r
      simp only [toP, Option.map_eq_some_iff] at e
      obtain ⟨ps, e, rfl⟩ := e
      exact .tup h (dpEs_ok ih r e)
    | lst ds =>
      obtain ⟨a, vs, G, rfl, h, r, _⟩ := r
      simp only [toP, Option.map_eq_some_iff] at e
      obtain ⟨ps, e, rfl⟩ := e
      exact .lst (SqL.of h) (dpEs_ok ih r e)
    | frl ds =>
      obtain ⟨a, o, vs, G, rfl, h, r, _⟩ := r
      simp only [toP, Option.map_eq_some_iff] at e
      obtain ⟨ps, e, rfl⟩ := e
      exact .lst (.inl (.inr ⟨o, h⟩)) (dpEs_ok ih r e)
    | ref l =>
      obtain ⟨a, hl, rfl, _⟩ := r
      simp only [toP] at e
      split at e
      · rename_i xs hc
        simp only [Option.map_eq_some_iff] at e
        obtain ⟨ps, e, rfl⟩ := e
        obtain ⟨vs, hv, rs⟩ := s.list hl (.inl hc)
        exact .lst hv (dpEs_ok ih rs e)
      · rename_i xs hc
        simp only [Option.map_eq_some_iff] at e
        obtain ⟨ps, e, rfl⟩ := e
        obtain ⟨vs, hv, rs⟩ := s.list hl (.inr hc)
        exact .lst hv (dpEs_ok ih rs e)
      · rename_i hc
        cases e
        exact dic0_dp (s.cell l _ a hc hl)
      · cases e
    | dic kvs =>
      cases kvs with
      | nil => simp only [toP, if_true, Option.some.injEq] at e; subst e; exact dic0_dp r
      | cons x y => simp [toP] at e
    | _ => simp [toP] at e
end
theorem smB_ok {K : PySem.W.Frag} (h : smB K = true) : SmF K := by
  unfold smB at h
  split at h
  · rename_i o e
    refine ⟨o, e, fun xs n z => ?_⟩
    rw [z] at h
    cases h
  · cases h
theorem SmF.del {K : PySem.W.Frag} {a : Addr} (hL : LstAt K a) (h : SmF K) : SmF (kdel K a) := by
  obtain ⟨o, e, n⟩ := h
  exact ⟨o, kdel_keep hL e n, n⟩
section
variable {X : L2.Cx} {Z : Wc} {W : WX} {σ0 : L2.St}
theorem bi_reprE (hK : X.K = Z.K) (sm : SmF X.K) (hg : X.A.guards = some []) (hu : X.A.units + 64 < cLine) : CallR X (.builtin "repr") (rL Z W σ0 (b1 fReprE)) := callOne fun pins s σ H x us Q ρ st H0 ρ2 st2 d F I rv sr n r h => by
  obtain ⟨p, e, h⟩ := opt_ok h
  obtain ⟨hz, h⟩ := gd_ok h
  obtain ⟨z1, z2, z3⟩ := of_decide_eq_true hz
  have fin : Q (.str p.shown) H := Post.ret h (n.less (List.nil_sublist _)) ⟨rfl, rfl⟩
  have dp := toP_okE n.sr _ _ _ _ _ r e
  rw [<- hK] at dp
  obtain ⟨u, rfl, ru⟩ := vals1 rv
  obtain ⟨as, rd, hn⟩ := DpE.reads I sm p x u dp ru
  have ref : isDisplay p = true -> wpAny (model X.prog X.w) X.A (PySem.call (.builtin "repr") [u]) (EP X pins σ Q) X.xe s := fun hd => by
    obtain ⟨a, rfl⟩ := isRef_of_reads rd hd
    exact repr_of_reads' rd z1 (fun _ => hn) hg (by omega) (fun _ _ e => e) (fun h' w tk hk => ⟨.str p.shown, H, I.kept hk, ⟨w, rfl⟩, fin⟩) z2
  cases dp with
  | non =>
    cases ru
    exact P.repr_of_none (show EP X pins σ Q _ _ from ⟨.str _, H, I.tok _, ⟨_, rfl⟩, fin⟩)
  | bl b =>
    cases ru
    exact P.repr_of_bool (show EP X pins σ Q _ _ from ⟨.str _, H, I.tok _, ⟨_, rfl⟩, by cases b <;> exact fin⟩)
  | int i =>
    obtain ⟨t, rfl⟩ := ru
    exact P.repr_of_int (of_decide_eq_true z1) (show EP X pins σ Q _ _ from ⟨.str _, H, I.tok _, ⟨_, rfl⟩, fin⟩)
  | str z =>
    obtain ⟨t, rfl⟩ := ru
    exact P.repr_of_str (show EP X pins σ Q _ _ from ⟨.str _, H, I.tok _, ⟨_, rfl⟩, fin⟩) z2
  | lst _ _ => exact ref rfl
  | tup _ _ => exact ref rfl
  | dic _ =>
    cases ru
    exact repr_of_reads' rd z1 (fun _ => hn) hg (by omega) (fun _ _ e => e) (fun h' w tk hk => ⟨.str _, H, I.kept hk, ⟨w, rfl⟩, fin⟩) z2
end
end Fs
namespace Fs
open PySem L2 PyProof.Rows PySem.Spec
section
variable {X : L2.Cx} {Z : Wc} {W : WX} {T : Tbl} {A B : Ex} {a : Expr} {ρ : List Addr} {H : Hp} {st : Sto} {σ : L2.St}
end
end Fs
namespace Fs
open PySem L2 PyProof.Rows PySem.Spec
section
variable {X : L2.Cx} {T : Tbl} {Z : Wc} {W : WX} {e : Expr} {pos p1 pos1 q1 q2 q3 : Pos} {j1 j2 j3 : Nat} {a b c : Int} {A : Ex}
theorem vals3K {x y z : V} {us : List Value} (r : Vals [x, y, z] us) : ∃ u w' t', us = [u, w', t'] /\ RelV x u /\ RelV y w' /\ RelV z t' := by
  cases r with
  | cons r1 r => cases r with
    | cons r2 r => cases r with
      | cons r3 r => cases r; exact ⟨_, _, _, rfl, r1, r2, r3⟩
def rg3 (p : Addr) (a b c : Int) : HO := .ext fun h => ∃ t u v, h.get? p = some { cls := .type "range", data := .fields #[.int a t, .int b u, .int c v] }
theorem cr_range3 (hc : c ≠ 0) (hdv : Builtin.divisionGoesByPylong (b - a) c = false) : CallR X (.type "range") (fun vs H Q => vs = [V.int a, V.int b, V.int c] /\ ∀ p, H p = none -> Q (.ref p) (upd H p (rg3 p a b c))) := by
  intro pins s σ H vs us Q I r h
  obtain ⟨rfl, q⟩ := h
  obtain ⟨u1, u2, u3, rfl, ⟨t1, rfl⟩, ⟨t2, rfl⟩, ⟨t3, rfl⟩⟩ := vals3K r
  refine call_range_3 hc ⟨.ref s.heap.objs.size, upd H s.heap.objs.size (rg3 s.heap.objs.size a b c), I.laid (t' := s.toks) (fun b o e => Heap.get?_push_of_some _ e) (Nat.le_refl _) ?_, rfl, q _ (I.hok.fresh (Nat.le_refl _))⟩ (.inl hdv)
  exact ⟨⟨t1, t2, t3, Heap.get?_push_size _ rfl⟩, ⟨_, Heap.get?_push_size _ rfl⟩, fun h1 h2 ⟨t, u, v, z⟩ k => ⟨t, u, v, k _ z⟩⟩
theorem q_contains3 (r : Addr) (a b c i : Int) (t u v k : Tok) :
    Meets (Builtin.«range.__contains__» ⟨[.ref r, .int i k], []⟩) (fun _ R s => s.heap.get? r = some { cls := .type "range", dict := none, data := .fields #[.int a t, .int b u, .int c v], slots := #[] } /\ R (.ok (.ret (.bool (Builtin.Range.rangePlace? a b c i).isSome))) s) :=
  .of_wp fun prog w A R s h => by obtain ⟨hp, g, d, tk, os⟩ := s; obtain ⟨hl, h⟩ := h; wp_walk; exact ⟨_, rfl, h⟩
theorem op_in_rg3 : OpR X (compareOp .In) (fun x y H Q => ∃ i p, x = V.int i /\ y = V.ref p /\ H p = some (rg3 p a b c) /\ Q (.bl (Builtin.Range.rangePlace? a b c i).isSome) H) := by
  intro pins s σ H x y v u Q I rx ry h
  obtain ⟨i, p, rfl, rfl, ha, q⟩ := h
  obtain ⟨k, rfl⟩ := rx
  obtain rfl : u = Value.ref p := ry
  obtain ⟨⟨t1, t2, t3, ho⟩, _, _⟩ := I.hok p _ ha
  show wpAny _ _ (do return Value.bool (<- contains (Value.ref p) (Value.int i k))) _ _ s
  exact wpAny_bind (wpAny_contains_slot (T := "range") ⟨_, ho, rfl⟩ F.slot_range_contains (call_meets F.slot_range_contains ⟨_, ho, rfl⟩ F.entry_range_contains (F.args_range_contains_2 _ _) (q_contains3 p a b c i t1 t2 t3 k)
    ⟨ho, wpAny_truthy_bool (wpAny_pure ⟨.bl _, H, I, rfl, q⟩)⟩))
abbrev inR (A : Ex) (L : List Int) : Ex := .cmp .inn (.bin .add A (.con (.int 0))) (.tup (L.map fun i => .con (.int i)))
theorem ev_inR {L : List Int} {env : Env} : ev T (inR A L) env = bnd (ev T A env) fun x => bnd (binD .add x (.int 0)) fun x => bnd (gd (decide ((L.map D.int).length <= sizeLine)) (ret (D.tup (L.map D.int)))) fun y => fC .inn x y := by
  funext st
  have e : ∀ st, ev T (.tup (L.map fun i => .con (.int i))) env st = gd (decide ((L.map D.int).length <= sizeLine)) (ret (D.tup (L.map D.int))) st := fun st => by
    simp only [ev, bnd, evs_ints]
  show bnd (bnd (ev T A env) fun x => bnd (ev T (.con (.int 0)) env) fun y => binD .add x y) (fun x => bnd (ev T (.tup (L.map fun i => .con (.int i))) env) fun y => fC .inn x y) st = _
  unfold bnd
  cases h : ev T A env st with
  | bad => rfl
  | exc x s => rfl
  | ok d s =>
    simp only [ev, ret]
    cases h2 : binD .add d (.int 0) s with
    | bad => rfl
    | exc x s => rfl
    | ok d2 s2 =>
      simp only []
      rw [show (bnd (evs T (L.map fun i => .con (.int i)) env) (fun ds => gd (decide (ds.length <= sizeLine)) (ret (D.tup ds))) s2) = gd (decide ((L.map D.int).length <= sizeLine)) (ret (D.tup (L.map D.int))) s2 from by unfold bnd; rw [evs_ints L]]
theorem inR_core {L : List Int} (hL : ∀ i, (L.map D.int).any (fun z => eqF z (.int i)) = (Builtin.Range.rangePlace? a b c i).isSome) {σ : L2.St} {H : Hp} {Q : VK} (q : iE T Z W (inR A L) σ H Q) :
    tOp (fun x y H Q => ∃ i p, x = V.int i /\ y = V.ref p /\ H p = some (rg3 p a b c) /\ Q (.bl (Builtin.Range.rangePlace? a b c i).isSome) H) (iE T Z W A)
      (tCB (fun vs H Q => vs = [V.int a, V.int b, V.int c] /\ ∀ p, H p = none -> Q (.ref p) (upd H p (rg3 p a b c))) (tCons (tC (.int a)) (tCons (tC (.int b)) (tCons (tC (.int c)) tNil)))) σ H Q := by
  obtain ⟨ρ, env, st, er, sr, h⟩ := q
  rw [ev_inR] at h
  refine ⟨ρ, env, st, er, sr, (Post.seq rpOk (Now.start sr) sr h).mono ?_⟩
  rintro x H1 ⟨ρ1, d1, st1, F1, n1, t1, r1, h1⟩
  cases d1 with
  | int i =>
    obtain ⟨rfl, rfl⟩ := r1
    refine ⟨rfl, fun p hp => ⟨i, p, rfl, rfl, upd_same, ?_⟩⟩
    have e1 : binD .add (.int i) (.int 0) st1 = .ok (.int i) st1 := by simp [binD, intOp]
    have h2 : Post (Rp Z) Z W (gd (decide ((L.map D.int).length <= sizeLine)) (fC .inn (.int i) (.tup (L.map D.int))) st1) ρ σ H Q := by
      have : (bnd (binD .add (.int i) (.int 0)) (fun x => bnd (gd (decide ((L.map D.int).length <= sizeLine)) (ret (D.tup (L.map D.int)))) fun y => fC .inn x y)) st1 = gd (decide ((L.map D.int).length <= sizeLine)) (fC .inn (.int i) (.tup (L.map D.int))) st1 := by
        unfold bnd
        rw [e1]
        simp only []
        cases decide ((L.map D.int).length <= sizeLine) <;> rfl
      rw [<- this]; exact h1
    obtain ⟨_, h3⟩ := gd_ok h2
    have e2 : fC .inn (.int i) (.tup (L.map D.int)) st1 = ret (.bl (Builtin.Range.rangePlace? a b c i).isSome) st1 := by
      have fl : (L.map D.int).all flatD = true := by rw [List.all_map]; exact List.all_eq_true.2 fun x _ => rfl
      have e3 : inD st1 (.int i) (.tup (L.map D.int)) = some ((L.map D.int).any fun z => eqF z (.int i)) := by
        show (if flatD (.int i) /\ (L.map D.int).all flatD then _ else none) = _
        rw [if_pos ⟨rfl, fl⟩]
      have e4 : cmpD .inn (.int i) (.tup (L.map D.int)) st1 = inD st1 (.int i) (.tup (L.map D.int)) := rfl
      simp only [fC, e4, e3, hL]; rfl
    rw [e2] at h3
    exact Post.ret h3 (n1.newS sr hp) ⟨rfl, rfl⟩
  | _ => exact h1.elim
theorem st_inr3 {L : List Int} (hL : ∀ i, (L.map D.int).any (fun z => eqF z (.int i)) = (Builtin.Range.rangePlace? a b c i).isSome) (hc : c ≠ 0) (hdv : Builtin.divisionGoesByPylong (b - a) c = false) (hg : Gl X "range") (hm : X.mg "range" = none)
    (ha : PE X e (iE T Z W A)) (hmk : behindInMarks .In (.Call (.Name "range" p1) [.Constant (.int a) j1 q1, .Constant (.int b) j2 q2, .Constant (.int c) j3 q3] [] pos1) = false := by rfl)
    (h1 : starEach [.Constant (.int a) j1 q1, .Constant (.int b) j2 q2, .Constant (.int c) j3 q3] X.env = (false, eval (.Constant (.int a) j1 q1) X.env) :: starEach [.Constant (.int b) j2 q2, .Constant (.int c) j3 q3] X.env := by rfl)
    (h2 : starEach [.Constant (.int b) j2 q2, .Constant (.int c) j3 q3] X.env = (false, eval (.Constant (.int b) j2 q2) X.env) :: starEach [.Constant (.int c) j3 q3] X.env := by rfl)
    (h3 : starEach [.Constant (.int c) j3 q3] X.env = (false, eval (.Constant (.int c) j3 q3) X.env) :: starEach [] X.env := by rfl)
    (hpl : (backTo pos1 (starEach [.Constant (.int b) j2 q2, .Constant (.int c) j3 q3] X.env)).any (·.1) = false := by rfl) :
    PT X (.Compare e [.In] [.Call (.Name "range" p1) [.Constant (.int a) j1 q1, .Constant (.int b) j2 q2, .Constant (.int c) j3 q3] [] pos1] pos) (iT T Z W (.val (inR A L))) :=
  ⟨fun pins s σ H Q I q => (pt_cmpR op_in_rg3 ha (pe_callTy (cr_range3 hc hdv) hg hm boot_range (pa_cons pe_int (pa_cons pe_int (pa_cons pe_int pa_nil h3) h2) h1) (by decide) (by decide) h1 hpl) hmk).run pins s σ H Q I
    (inR_core hL (bl_pre (fun _ _ _ _ => cmp_bl) q))⟩
theorem inR_list {k : Nat} (hc : c = 2) (hb : b = a + 2 * (k : Int) - 1 ∨ b = a + 2 * (k : Int)) (i : Int) : (((List.range k).map fun (j : Nat) => a + (j : Int) * 2).map D.int).any (fun z => eqF z (.int i)) = (Builtin.Range.rangePlace? a b c i).isSome := by
  subst hc
  rw [Bool.eq_iff_iff, List.any_map, List.any_map, List.any_eq_true]
  have f1 : ∀ j : Nat, ((fun z => eqF z (.int i)) ∘ D.int ∘ fun (j : Nat) => a + (j : Int) * 2) j = decide (a + (j : Int) * 2 = i) := fun j => by
    show eqF (.int (a + (j : Int) * 2)) (.int i) = _
    rw [Bool.eq_iff_iff]; simp [eqF]
  unfold Builtin.Range.rangePlace?
  constructor
  · rintro ⟨j, hj, h⟩
    have hj := List.mem_range.1 hj
    have h : ((fun z => eqF z (.int i)) ∘ D.int ∘ fun (j : Nat) => a + (j : Int) * 2) j = true := h
    rw [f1, decide_eq_true_eq] at h
    have c1 : (decide (a <= i) && decide (i < b)) = true := by simp; omega
    have c2 : ((i - a) % 2 == 0) = true := by simp; omega
    simp [c1, c2]
  · intro h
    have h4 : a <= i /\ i < b /\ (i - a) % 2 = 0 := by
      by_cases q1 : a <= i <;> by_cases q2 : i < b <;> by_cases q3 : (i - a) % 2 = 0 <;> simp [q1, q2, q3] at h <;> exact ⟨q1, q2, q3⟩
    refine ⟨((i - a) / 2).toNat, List.mem_range.2 (by omega), ?_⟩
    show ((fun z => eqF z (.int i)) ∘ D.int ∘ fun (j : Nat) => a + (j : Int) * 2) _ = true
    rw [f1, decide_eq_true_eq]
    omega
end
end Fs
namespace Fs
open PySem L2 PyProof.Rows PySem.Spec
theorem tuple_mulE (l : Addr) (items : Array Value) (n : Nat) (dd : Option Addr) (sl : Array (Option Value)) (x : Int) (u : Tok) (c0 : (decide (x < -(2 ^ 63)) || decide (x ≥ 2 ^ 63)) = false) (c1 : (items.isEmpty || x == 1) = true) :
    Meets (Builtin.«tuple.__mul__» ⟨[.ref l, .int x u], []⟩) (fun _ R s => s.heap.get? l = some { cls := .type "tuple", dict := dd, data := .seq items n, slots := sl } /\
      R (.ok (.ret (Value.ref l))) s) :=
  .of_wp fun prog w A R s h => by
    obtain ⟨hp, g, d, tk, os⟩ := s
    obtain ⟨hl, h⟩ := h
    have f1 := AutoSeq1.idx_int
    wp_walk using wpAny_loadPart' hl
    repeat (first
      | (refine wpAny_ite_false (decide_eq_false (by rw [c0]; exact Bool.false_ne_true)) ?_; wp_walk using wpAny_loadPart' hl)
      | (refine wpAny_ite_true (decide_eq_true (by rw [c1])) ?_; wp_walk using wpAny_loadPart' hl))
    exact ⟨_, rfl, h⟩
section
variable {X : L2.Cx} {T : Tbl} {Z : Wc} {W : WX} {σ0 : L2.St} {a b : Expr} {A B : Ex} {pos : Pos}
theorem op_repE : OpR X (binaryOp .Mult) (fun x y H Q => ∃ l k, x = V.ref l /\ y = V.int k /\ SqT X.K H l [] /\ 0 <= k /\ k <= 1000 /\ Q (.ref l) H) := by
  intro pins s σ H x y v u Q I rx ry h
  obtain ⟨l, k, rfl, rfl, hT, h1, h2, q⟩ := h
  cases rx
  obtain ⟨t, rfl⟩ := ry
  obtain ⟨its, r, ⟨⟨cls, dd, data, sl⟩, ho, hc, n, hd⟩, hs⟩ := I.tuple hT
  simp only at hc hd
  subst hc hd
  have hle : its.length = 0 := r.length.symm
  have hi : its.toArray.isEmpty = true := by
    cases its with
    | nil => rfl
    | cons a b => cases hle
  have c0 : (decide (k < -(2 ^ 63)) || decide (k ≥ 2 ^ 63)) = false := by
    rw [decide_eq_false (by omega), decide_eq_false (by omega)] <;> rfl
  have c1 : (its.toArray.isEmpty || k == 1) = true := by rw [hi]; rfl
  exact wpAny_binaryOp_repeat_ref (T := "tuple") (U := "int") (by decide) ⟨_, ho, rfl⟩ (fun s' => typeIs_int s' k t) noFill_tuple_mul F.fills_int_mul F.slot_int_rmul repeat_tuple F.slot_int_index.lookup
    (call_meets F.slot_int_rmul (typeIs_int s k t) F.entry_int_rmul (F.args_int_rmul_2 _ _) (int_rmul_tuple k t l its.toArray n dd sl)
      ⟨ho, rfl, ⟨_, ho, rfl⟩, call_meets F.slot_tuple_mul ⟨_, ho, rfl⟩ F.entry_tuple_mul (F.args_tuple_mul_2 _ _) (tuple_mulE l its.toArray n dd sl k t c0 c1) ⟨ho, .ref l, H, I, rfl, q⟩⟩)
theorem rep_nilE : ∀ k : Nat, rep k [] = ([] : List D)
  | 0 => rfl
  | k + 1 => by
    have := rep_nilE k
    unfold rep at this ⊢
    rw [List.replicate_succ, List.flatten_cons, this]; rfl
theorem mulE_ok (hK : X.K = Z.K) : OpR X (binaryOp .Mult) (rB Z W σ0 fMulE) := by
  intro pins s σ H x y v u Q I rx ry h
  obtain ⟨ρ, st, H0, ρ2, st2, d1, d2, F1, F2, sr, n, r1, r2, h⟩ := h
  cases d1 with
  | tup xs =>
    cases d2 with
    | int k =>
      by_cases hc : D.purs xs = true /\ 0 <= k /\ k <= 1000 /\ xs.length <= 1000
      · have e1 : fMulE (.tup xs) (.int k) st2 = .ok (.tup (rep k.toNat xs)) st2 := by simp only [fMulE, if_pos hc]
        rw [e1] at h
        cases hx : xs.isEmpty with
        | true =>
          have : xs = [] := by cases xs with
            | nil => rfl
            | cons a b => cases hx
          subst this
          rw [rep_nilE] at h
          obtain ⟨l, vs, rfl, hT, rs⟩ := r1
          obtain ⟨rfl, rfl⟩ := rs
          obtain ⟨rfl, rfl⟩ := r2
          refine op_repE pins s σ H _ _ v u Q I rx ry ⟨l, k, rfl, rfl, by rw [hK]; exact hT, hc.2.1, hc.2.2.1, ?_⟩
          exact Post.ok h (by simpa using n) ⟨l, [], rfl, hT, rfl, rfl⟩
        | false =>
          refine bin_ok (op := .mul) (W := W) (σ0 := σ0) hK pins s σ H x y v u Q I rx ry ⟨ρ, st, H0, ρ2, st2, .tup xs, .int k, F1, F2, sr, n, r1, r2, ?_⟩
          have e2 : binD .mul (.tup xs) (.int k) st2 = .ok (.tup (rep k.toNat xs)) st2 := by
            simp only [binD, if_pos (show D.purs xs = true /\ xs.isEmpty = false /\ 0 <= k /\ k <= 1000 /\ xs.length <= 1000 from ⟨hc.1, hx, hc.2⟩)]
          rw [e2]; exact h
      · have e1 : fMulE (.tup xs) (.int k) st2 = .bad := by simp only [fMulE, if_neg hc]
        rw [e1] at h; exact h.elim
    | _ => exact h.elim
  | _ => exact h.elim
theorem se_mulE (hK : X.K = Z.K) (ha : PE X a (iE T Z W A)) (hb : PE X b (iE T Z W B)) : PE X (.BinOp a .Mult b pos) (iE T Z W (.bi .mulE [A, B])) :=
  se_op (fun _ => mulE_ok hK) ha hb fun env => by
    funext st
    simp only [ev, evs, bnd]
    cases ev T A env st with
    | bad => rfl
    | exc x s => rfl
    | ok d s =>
      simp only []
      cases ev T B env s with
      | bad => rfl
      | exc x s => rfl
      | ok d2 s2 => rfl
end
end Fs
namespace Fs
open PySem L2 PyProof.Rows PySem.Spec
section
variable {X : L2.Cx} {T : Tbl} {Z : Wc} {W : WX} {σ0 : L2.St} {a b : Expr} {A B : Ex} {pos p1 : Pos}
theorem op_eqNil (hu : X.A.units < cLine) : OpR X (compareOp .Eq) (fun x y H Q => ∃ l k xs, x = V.ref l /\ y = V.ref k /\ SqL X.K H l xs /\ SqL X.K H k [] /\ Q (.bl xs.isEmpty) H) := by
  intro pins s σ H x y v u Q I rx ry h
  obtain ⟨l, k, xs, rfl, rfl, h1, h2, q⟩ := h
  cases rx
  cases ry
  obtain ⟨its, rv, hl, _⟩ := I.list h1
  obtain ⟨its2, rv2, hl2, _⟩ := I.list h2
  cases rv2
  cases rv with
  | nil => exact SeqAt.eq_listAt (e := fun _ => true) hl.isList hl2.isList rfl hu (fun j h => absurd h (Nat.not_lt_zero _)) ⟨.bl true, H, I, rfl, q⟩
  | cons r1 r2 => exact SeqAt.eq_list_lengthsAt hl.isList hl2.isList (by simp) hu ⟨.bl false, H, I, rfl, q⟩
def fEN (d1 d2 : D) : M D := fun st => match d2, lstv st d1 with
  | .lst [], some xs => if xs.length <= sizeLine then .ok (.bl xs.isEmpty) st else .bad
  | _, _ => .bad
abbrev eqN (A : Ex) : Ex := .cmp .eq (.bi .len [.bin .add A (.lst [])]) (.con (.int 0))
theorem fEN_is {d1 : D} {st : Sto} : fEN d1 (.lst []) st = bnd (binD .add d1 (.lst [])) (fun z => bnd (biD T .len [z]) fun y => fC .eq y (.int 0)) st := by
  have e : binD .add d1 (.lst []) st = match lstv st d1 with
    | some xs => if xs.length + 0 <= sizeLine then .ok (.lst (xs ++ [])) st else .bad
    | none => .bad := by
    cases d1 with
    | ref l =>
      simp only [binD]
      have e : lstv st (.lst []) = some [] := rfl
      rw [e]
      cases lstv st (.ref l) <;> rfl
    | _ => rfl
  simp only [bnd, e, fEN]
  cases lstv st d1 with
  | none => rfl
  | some xs =>
    simp only [Nat.add_zero, List.append_nil]
    by_cases h : xs.length <= sizeLine
    · simp only [if_pos h]
      have e2 : biD T .len [.lst xs] st = .ok (.int xs.length) st := rfl
      simp only [e2, fC, cmpD]
      have e3 : eqD st (.int (xs.length : Nat)) (.int 0) = some xs.isEmpty := by
        have h1 : toP false st 66 (.int (xs.length : Nat)) = some (.int (xs.length : Nat)) := rfl
        have h2 : toP false st 66 (.int 0) = some (.int 0) := rfl
        have h3 : ∀ i : Int, SeqAt.shaped (.int i) = true := fun i => rfl
        simp only [eqD, h1, h2, if_pos (And.intro (h3 _) (h3 _))]
        cases xs with
        | nil => rfl
        | cons x xs =>
          simp only [PyData.eqv, List.length_cons, List.isEmpty_cons]
          have : ((xs.length : Int) + 1 == 0) = false := by rw [beq_eq_false_iff_ne]; omega
          first | rfl | (congr 1) | (simp; omega)
      rw [e3]; rfl
    · simp only [if_neg h]
theorem eqNil_ok (hK : X.K = Z.K) (hu : X.A.units + 65 < cLine) : OpR X (compareOp .Eq) (rB Z W σ0 fEN) := by
  intro pins s σ H x y v u Q I rx ry h
  obtain ⟨ρ, st, H0, ρ2, st2, d1, d2, F1, F2, sr, n, r1, r2, h⟩ := h
  cases d2 with
  | lst ys =>
    cases ys with
    | cons a b => exact h.elim
    | nil =>
      cases e : lstv st2 d1 with
      | none => simp only [fEN, e] at h; exact h.elim
      | some xs =>
        by_cases hc : xs.length <= sizeLine
        · simp only [fEN, e, if_pos hc] at h
          obtain ⟨l, vs, hx, hs, hl⟩ : ∃ l vs, x = V.ref l /\ SqL Z.K H l vs /\ vs.length = xs.length := by
            cases d1 with
            | lst zs =>
              obtain ⟨a, vs, G, rfl, ha, rs, _⟩ := r1
              cases e
              exact ⟨a, vs, rfl, SqL.of ha, (Rps.length rs).symm⟩
            | ref l =>
              obtain ⟨a, hl, rfl, _⟩ := r1
              simp only [lstv] at e
              split at e
              · rename_i zs hc
                cases e
                obtain ⟨vs, hv, rs⟩ := n.sr.list hl (.inl hc)
                exact ⟨a, vs, rfl, hv, (Rps.length rs).symm⟩
              · cases e
            | _ => simp [lstv] at e
          obtain ⟨k, ws, G, rfl, hk, rs, _⟩ := r2
          obtain ⟨rfl, _⟩ := rs
          subst hx
          have he : vs.isEmpty = xs.isEmpty := by cases vs <;> cases xs <;> first | rfl | cases hl
          refine op_eqNil (by omega) pins s σ H _ _ v u Q I rx ry ⟨l, k, vs, rfl, rfl, by rw [hK]; exact hs, by rw [hK]; exact SqL.of hk, ?_⟩
          rw [he]
          exact Post.ok h (by simpa using n.less (List.nil_sublist _)) ⟨rfl, rfl⟩
        · simp only [fEN, e, if_neg hc] at h; exact h.elim
  | _ => exact h.elim
theorem eqN_env {env : Env} : ev T (eqN A) env = bnd (ev T A env) (fun x => bnd (ev T (.lst []) env) fun y => fEN x y) := by
  funext st
  have e0 : ∀ st, ev T (.lst []) env st = .ok (.lst []) st := fun st => by
    simp only [ev, evs]; rfl
  simp only [eqN, ev, evs, bnd]
  cases ev T A env st with
  | bad => rfl
  | exc x s => rfl
  | ok d s =>
    simp only []
    have er : ∀ {α : Type} (a : α) (s : Sto), ret a s = .ok a s := fun _ _ => rfl
    have g0 : decide (([] : List D).length <= sizeLine) = true := decide_eq_true (Nat.zero_le _)
    have g2 : gd (decide (([] : List D).length <= sizeLine)) (ret (D.lst [])) s = .ok (.lst []) s := by
      rw [g0]; rfl
    simp only [er, g2]
    rw [fEN_is (T := T)]
    simp only [bnd]
    cases binD .add d (.lst []) s with
    | bad => rfl
    | exc x s => rfl
    | ok z s2 => first | rfl | (simp only []; cases biD T .len [z] s2 <;> rfl)
theorem st_eqN (hK : X.K = Z.K) (hu : X.A.units + 65 < cLine) (ha : PE X a (iE T Z W A)) (hb : PE X b (iE T Z W (.lst []))) (hm : behindInMarks .Eq b = false := by rfl) : PT X (.Compare a [.Eq] [b] pos) (iT T Z W (.val (eqN A))) :=
  ⟨fun pins s σ H Q I q => by
    refine (pt_cmpR (eqNil_ok (W := W) (σ0 := σ) hK hu) ha hb hm).run pins s σ H Q I ?_
    obtain ⟨ρ, env, st, er, sr, h⟩ := bl_pre (fun _ _ _ _ => cmp_bl) q
    have h : Post (Rp Z) Z W (ev T (eqN A) env st) ρ σ H fun x H' => ∃ k, x = V.bl k /\ Q k H' := h
    rw [eqN_env] at h
    exact two_ok (f := fEN) ⟨ρ, env, st, er, sr, h⟩⟩
end
end Fs
namespace Fs
open PySem
abbrev F.zq0 : Nat := 0
abbrev F.zq1 : Nat := 1
abbrev F.zq2 : Nat := 2
abbrev F.zq3 : Nat := 3
abbrev F.zq4 : Nat := 4
abbrev F.zq5 : Nat := 5
abbrev F.zq6 : Nat := 6
abbrev F.zq7 : Nat := 7
abbrev F.zq8 : Nat := 8
abbrev F.zq9 : Nat := 9
abbrev F.zq10 : Nat := 10
abbrev F.zq11 : Nat := 11
abbrev F.zq12 : Nat := 12
abbrev F.zq13 : Nat := 13
abbrev F.law : Nat := 14
abbrev Kx.InvalidValue : Nat := 0
abbrev Kx.InvalidState : Nat := 1
abbrev Kx.LimitReached : Nat := 2
abbrev Kx.BadGraph : Nat := 3
def c_zq0 : Fn := ⟨2, 2, [.ret (.and2 (.bi (.isT "int") [.loc 0]) (.and2 (.nt (.val (.bi (.isT "bool") [.loc 0]))) (.chn .le .lt (.con (.int 0)) (.loc 0) (.loc 1))))]⟩
def c_zq1 : Fn := ⟨1, 5, [.iff (.or2 (.nt (.val (.bi (.isT "tuple") [.loc 0]))) (.val (.cmp .gt (.bi .len [.loc 0]) (.con (.int 60))))) [.ret (.con (.str "form"))] [], .iff (.nt (.val (.bi .all [.lc [1] (.val (.loc 0)) (.nm 1) [] (.bi (.isT "tuple") [.loc 1])]))) [.ret (.con (.str "form"))] [], .asg (.nm 2) (.bi .sum [.lc [1] (.val (.loc 0)) (.nm 1) [] (.bi .len [.loc 1])]), .iff (.or2 (.val (.cmp .gt (.loc 2) (.bin .mul (.con (.int 2)) (.con (.int 120))))) (.val (.cmp .eq (.bin .mod (.loc 2) (.con (.int 2))) (.con (.int 1))))) [.ret (.con (.str "darts"))] [], .asg (.nm 3) (.dc [4] (.rng [.loc 2]) (.nm 4) [] (.loc 4) (.con (.bl true))), .forr (.val (.loc 0)) (.nm 1) [.forr (.val (.loc 1)) (.nm 4) [.iff (.or2 (.nt (.val (.call F.zq0 [.loc 4, .loc 2]))) (.val (.cmp .nin (.loc 4) (.loc 3)))) [.ret (.con (.str "darts"))] [], .xpr (.me .popi (.loc 3) [.loc 4])]], .ret (.con .non)]⟩
def c_zq2 : Fn := ⟨1, 1, [.ret (.cmp .isN (.call F.zq1 [.loc 0]) (.con .non))]⟩
def c_zq3 : Fn := ⟨1, 2, [.asg (.nm 1) (.call F.zq1 [.loc 0]), .iff (.val (.cmp .ntN (.loc 1) (.con .non))) [.rse Kx.BadGraph [.loc 1]] []]⟩
def c_zq4 : Fn := ⟨2, 3, [.asg (.nm 2) (.ife (.val (.cmp .ne (.loc 0) (.lst []))) (.sub (.loc 0) (.bin .mod (.loc 1) (.bi .len [.loc 0]))) (.con (.int 1))), .ret (.lst [.loc 2, .bin .mul (.con (.int 3)) (.loc 1), .ife (.val (.cmp .ge (.loc 2) (.bin .pow (.con (.int 10)) (.con (.int 18))))) (.bin .fdiv (.loc 2) (.bin .pow (.con (.int 10)) (.con (.int 18)))) (.con (.int 0))])]⟩
def c_zq5 : Fn := ⟨2, 5, [.iff (.val (.cmp .gt (.sub (.loc 0) (.con (.int 2))) (.con (.int 0)))) [.asg (.nm 2) (.bin .mod (.sub (.loc 0) (.con (.int 2))) (.loc 1)), .asg (.sub (.loc 0) (.con (.int 2))) (.bin .fdiv (.sub (.loc 0) (.con (.int 2))) (.loc 1)), .ret (.loc 2)] [], .asg (.sub (.loc 0) (.con (.int 1))) (.bin .add (.sub (.loc 0) (.con (.int 1))) (.con (.int 1))), .asg (.nm 3) (.lst [.con (.int 2147483647), .con (.int 2147483629), .con (.int 2147483587), .con (.int 2147483579), .con (.int 2147483563), .con (.int 2147483549), .con (.int 2147483543), .con (.int 2147483497)]), .asg (.nm 4) (.sub (.bin .add (.loc 3) (.lst [.con (.int 2147483489), .con (.int 2147483477), .con (.int 2147483423)])) (.bin .mod (.sub (.loc 0) (.con (.int 1))) (.con (.int 11)))), .ret (.bin .mod (.bin .fdiv (.bin .mod (.bin .pow (.bin .add (.bin .add (.bin .mod (.sub (.loc 0) (.con (.int 0))) (.loc 4)) (.bin .mul (.con (.int 7919)) (.sub (.loc 0) (.con (.int 1))))) (.con (.int 1))) (.con (.int 5))) (.loc 4)) (.con (.int 13))) (.loc 1))]⟩
def c_zq6 : Fn := ⟨2, 4, [.asg (.tup [.nm 2, .nm 3]) (.tup [.bi .list [.loc 1], .lst []]), .whl (.val (.cmp .ne (.loc 2) (.lst []))) [.xpr (.me .append (.loc 3) [.me .popi (.loc 2) [.call F.zq5 [.loc 0, .bi .len [.loc 2]]]])], .ret (.loc 3)]⟩
def c_zq7 : Fn := ⟨3, 7, [.asg (.nm 3) (.lc [4] (.rng [.bin .add (.con (.int 1)) (.call F.zq5 [.loc 0, .loc 1])]) (.nm 4) [] (.lst [])), .forr (.val (.call F.zq6 [.loc 0, .bi .lrng [.bin .mul (.con (.int 2)) (.call F.zq5 [.loc 0, .bin .add (.loc 2) (.con (.int 1))])]])) (.nm 5) [.xpr (.me .append (.sub (.loc 3) (.call F.zq5 [.loc 0, .bi .len [.loc 3]])) [.loc 5])], .ret (.bi .tuple [.lc [6] (.val (.loc 3)) (.nm 6) [] (.bi .tuple [.loc 6])])]⟩
def c_zq8 : Fn := ⟨1, 7, [.asg (.tup [.nm 1, .nm 2]) (.tup [.con .non, .con .non]), .tri [.asg (.nm 2) (.act)] [([Kx.InvalidValue, Kx.InvalidState, Kx.LimitReached], some 3, [.asg (.nm 1) (.loc 3)])], .iff (.val (.cmp .isN (.loc 1) (.con .non))) [.ret (.lst [.loc 2])] [], .forr (.val (.call F.zq11 [.loc 1])) (.tup [.nm 4, .nm 5, .nm 6]) [.iff (.val (.loc 5)) [.ret (.tup [.loc 4, .loc 6])] []], .ret (.con (.str "other"))]⟩
def c_zq9 : Fn := ⟨1, 4, [.iff (.or2 (.nt (.val (.bi (.isT "tuple") [.loc 0]))) (.or2 (.val (.cmp .gt (.bi .len [.loc 0]) (.con (.int 60)))) (.val (.cmp .ne (.lc [1] (.val (.loc 0)) (.nm 1) [.nt (.val (.bi (.isT "tuple") [.loc 1]))] (.con (.int 1))) (.lst []))))) [.ret (.con (.str "form"))] [], .asg (.nm 2) (.lst []), .forr (.val (.loc 0)) (.nm 1) [.asg (.nm 2) (.bin .add (.loc 2) (.bi .list [.loc 1]))], .iff (.val (.cmp .ne (.lc [3] (.val (.loc 2)) (.nm 3) [.or2 (.nt (.val (.bi (.isT "int") [.loc 3]))) (.val (.bi (.isT "bool") [.loc 3]))] (.loc 3)) (.lst []))) [.ret (.con (.str "darts"))] [], .ret (.ife (.and2 (.val (.cmp .eq (.bi .sorted [.loc 2]) (.bi .lrng [.bi .len [.loc 2]]))) (.val (.cmp .inn (.bin .add (.bi .len [.loc 2]) (.con (.int 0))) (.tup (((List.range 121).map fun (j : Nat) => (0 : Int) + (j : Int) * 2).map fun i => .con (.int i)))))) (.con .non) (.con (.str "darts")))]⟩
def c_zq10 : Fn := ⟨2, 9, [.asg (.tup [.nm 2, .nm 3]) (.tup [.call F.zq5 [.loc 0, .con (.int 9)], .bi .list [.loc 1]]), .asg (.nm 4) (.call F.zq5 [.loc 0, .bi .len [.loc 3]]), .asg (.nm 5) (.sub (.loc 3) (.loc 4)), .asg (.nm 6) (.call F.zq5 [.loc 0, .bin .add (.bi .len [.loc 5]) (.con (.int 1))]), .asg (.nm 7) (.sub (.lst [.con (.int 0), .con (.int 1), .neg (.con (.int 1)), .bin .mul (.con (.int 2)) (.bi .len [.loc 3]), .bin .pow (.con (.int 10)) (.con (.int 30)), .con .non, .con (.bl true), .con (.bl false), .con (.str "0"), .tup [.con (.int 0)], .lst [.con (.int 1)]]) (.call F.zq5 [.loc 0, .con (.int 11)])), .iff (.val (.cmp .eq (.loc 2) (.con (.int 0)))) [.ret (.sub (.lst [.con .non, .con (.int 5), .con (.str "graph"), .bi .list [.loc 1], .dct [], .con (.bl true), .lst [.loc 1], .bin .mul (.loc 1) (.con (.int 61))]) (.call F.zq5 [.loc 0, .con (.int 8)]))] [], .iff (.val (.cmp .eq (.loc 2) (.con (.int 1)))) [.ret (.bin .add (.bin .add (.slc (.loc 1) none (some (.loc 4))) (.tup [.sub (.lst [.bi .list [.loc 5], .con .non, .con (.int 3), .con (.str "01"), .dct []]) (.call F.zq5 [.loc 0, .con (.int 5)])])) (.slc (.loc 1) (some (.bin .add (.loc 4) (.con (.int 1)))) none))] [], .iff (.val (.cmp .lt (.loc 2) (.con (.int 4)))) [.asg (.sub (.loc 3) (.loc 4)) (.bin .add (.bin .add (.slc (.loc 5) none (some (.loc 6))) (.tup [.loc 7])) (.slc (.loc 5) (some (.bin .sub (.bin .add (.loc 6) (.loc 2)) (.con (.int 2)))) none))] [.iff (.val (.cmp .eq (.loc 2) (.con (.int 4)))) [.asg (.sub (.loc 3) (.loc 4)) (.bin .add (.slc (.loc 5) none (some (.loc 6))) (.slc (.loc 5) (some (.bin .add (.loc 6) (.con (.int 1)))) none))] [.iff (.val (.cmp .eq (.loc 2) (.con (.int 5)))) [.asg (.sub (.loc 3) (.loc 4)) (.bin .add (.bin .add (.slc (.loc 5) none (some (.loc 6))) (.bi .mulE [.slc (.loc 5) (some (.loc 6)) (some (.bin .add (.loc 6) (.con (.int 1)))), .con (.int 2)])) (.slc (.loc 5) (some (.bin .add (.loc 6) (.con (.int 1)))) none))] [.iff (.val (.cmp .eq (.loc 2) (.con (.int 6)))) [.asg (.tup [.sub (.loc 3) (.loc 4), .nm 8]) (.tup [.slc (.loc 5) none (some (.loc 6)), .call F.zq5 [.loc 0, .bi .len [.loc 3]]]), .asg (.sub (.loc 3) (.loc 8)) (.bin .add (.sub (.loc 3) (.loc 8)) (.slc (.loc 5) (some (.loc 6)) none))] [.iff (.val (.cmp .eq (.loc 2) (.con (.int 7)))) [.asg (.nm 3) (.bin .add (.bin .add (.slc (.loc 3) none (some (.loc 4))) (.bin .mul (.lst [.tup []]) (.call F.zq5 [.loc 0, .con (.int 3)]))) (.slc (.loc 3) (some (.loc 4)) none))] [.asg (.nm 3) (.bin .add (.slc (.loc 3) none (some (.loc 4))) (.slc (.loc 3) (some (.bin .add (.loc 4) (.con (.int 1)))) none))]]]]], .ret (.bi .tuple [.loc 3])]⟩
def c_zq11 : Fn := ⟨1, 1, [.ret (.ife (.val (.bi (.isC [Kx.BadGraph]) [.loc 0])) (.lst [.tup [.con (.str "BadGraph"), .con (.bl true), .attr (.loc 0) "place"]]) (.lst []))]⟩
def c_zq12 : Fn := ⟨1, 5, [.asg (.tup [.nm 1, .nm 2]) (.tup [.call F.zq9 [.loc 0], .bi .reprE [.loc 0]]), .asg (.nm 3) (.ife (.val (.cmp .isN (.loc 1) (.con .non))) (.lst [.con .non]) (.tup [.con (.str "BadGraph"), .loc 1])), .asg (.nm 4) (.lst [.call F.zq2 [.loc 0], .call F.zq2 [.loc 0], .tell F.zq8 1 0]), .xpr (.me .append (.loc 4) [.tell F.zq8 1 1]), .ret (.and2 (.cmp .eq (.bi .reprE [.loc 4]) (.bi .reprE [.lst [.cmp .isN (.loc 1) (.con .non), .cmp .isN (.loc 1) (.con .non), .loc 3, .loc 3]])) (.cmp .eq (.bi .reprE [.loc 0]) (.loc 2)))]⟩
def c_zq13 : Fn := ⟨0, 3, [.asg (.nm 0) (.lst [.tup [], .bin .mul (.tup [.tup []]) (.con (.int 60)), .bin .mul (.tup [.tup []]) (.con (.int 61)), .tup [.bi .trng [.con (.int 240)]], .tup [.bi .trng [.con (.int 242)]], .bin .add (.bin .mul (.tup [.tup []]) (.con (.int 59))) (.tup [.bi .trng [.con (.int 240)]])]), .asg (.nm 0) (.bin .add (.loc 0) (.lst [.bin .add (.bin .mul (.tup [.tup []]) (.con (.int 60))) (.tup [.bi .trng [.con (.int 2)]]), .tup [.bi .trng [.con (.int 239)]], .bi .tuple [.lc [1] (.rng [.con (.int 60)]) (.nm 1) [] (.tup [.loc 1])]])), .ret (.cmp .eq (.lc [2] (.val (.loc 0)) (.nm 2) [.nt (.val (.call F.zq12 [.loc 2]))] (.loc 2)) (.lst []))]⟩
def c_law : Fn := ⟨1, 8, [.forr (.rng [.bi .max2 [.con (.int 1), .bi .min2 [.con (.int 8), .bi .len [.loc 0]]]]) (.nm 1) [.asg (.nm 2) (.call F.zq4 [.loc 0, .loc 1]), .asg (.nm 3) (.call F.zq7 [.loc 2, .con (.int 6), .con (.int 8)]), .asg (.nm 4) (.call F.zq10 [.loc 2, .loc 3]), .asg (.nm 5) (.lst [.loc 3, .loc 4, .call F.zq10 [.loc 2, .loc 3]]), .iff (.and2 (.val (.bi (.isT "tuple") [.loc 4])) (.and2 (.val (.chn .lt .lt (.con (.int 0)) (.bi .len [.loc 4]) (.con (.int 61)))) (.val (.cmp .eq (.bi .len [.bin .add (.lc [6] (.val (.loc 4)) (.nm 6) [.nt (.val (.bi (.isT "tuple") [.loc 6]))] (.loc 6)) (.lst [])]) (.con (.int 0)))))) [.xpr (.me .append (.loc 5) [.call F.zq10 [.loc 2, .loc 4]])] [], .iff (.val (.cmp .ne (.lc [7] (.val (.loc 5)) (.nm 7) [.nt (.val (.call F.zq12 [.loc 7]))] (.loc 7)) (.lst []))) [.ret (.con (.bl false))] []], .ret (.call F.zq13 [])]⟩
def fns : Nat -> Option Fn
  | 0 => some c_zq0
  | 1 => some c_zq1
  | 2 => some c_zq2
  | 3 => some c_zq3
  | 4 => some c_zq4
  | 5 => some c_zq5
  | 6 => some c_zq6
  | 7 => some c_zq7
  | 8 => some c_zq8
  | 9 => some c_zq9
  | 10 => some c_zq10
  | 11 => some c_zq11
  | 12 => some c_zq12
  | 13 => some c_zq13
  | 14 => some c_law
  | _ => none
def lamsF : Nat -> Option (Str × Ex)
  | 0 => some ("_law_right.<locals>.<lambda>", .call F.zq3 [.loc 0])
  | 1 => some ("_law_right.<locals>.<lambda>", .call F.zq3 [.loc 0])
  | _ => none
def fldF : Nat -> Option Str
  | 0 => none
  | 1 => none
  | 2 => none
  | 3 => some "place"
  | _ => none
def ancF : Nat -> Nat -> Bool
  | 0, 0 => true
  | 0, 1 => false
  | 0, 2 => false
  | 0, 3 => false
  | 1, 0 => false
  | 1, 1 => true
  | 1, 2 => false
  | 1, 3 => false
  | 2, 0 => false
  | 2, 1 => false
  | 2, 2 => true
  | 2, 3 => false
  | 3, 0 => true
  | 3, 1 => false
  | 3, 2 => false
  | 3, 3 => true
  | _, 0 => true
  | _, 1 => false
  | _, 2 => false
  | _, 3 => false
  | _, _ => false
def P : Pr := ⟨fns, fldF, ancF, lamsF⟩
end Fs
namespace Fs
open PySem L2 PyProof.Rows PySem.Spec
structure Ev (w : World) (K : PySem.W.Frag) (mg : Str -> Option Value) (base : Heap) (Z : Wc) (n : Nat) : Prop where
  f_all : mg "all" = none
  f_bool : mg "bool" = none
  f_int : mg "int" = none
  f_isinstance : mg "isinstance" = none
  f_len : mg "len" = none
  f_list : mg "list" = none
  f_max : mg "max" = none
  f_min : mg "min" = none
  f_range : mg "range" = none
  f_repr : mg "repr" = none
  f_sorted : mg "sorted" = none
  f_sum : mg "sum" = none
  f_tuple : mg "tuple" = none
  q_MAX_EDGES : ∃ t, mg "MAX_EDGES" = some (.int 120 t)
  q_MAX_NODES : ∃ t, mg "MAX_NODES" = some (.int 60 t)
  e_InvalidValue : ExF K mg "InvalidValue" (Z.ca Kx.InvalidValue)
  l_InvalidValue : Z.fl Kx.InvalidValue = fldF Kx.InvalidValue
  e_InvalidState : ExF K mg "InvalidState" (Z.ca Kx.InvalidState)
  l_InvalidState : Z.fl Kx.InvalidState = fldF Kx.InvalidState
  e_LimitReached : ExF K mg "LimitReached" (Z.ca Kx.LimitReached)
  l_LimitReached : Z.fl Kx.LimitReached = fldF Kx.LimitReached
  o_BadGraph : OxF pw w K mg base "BadGraph" "place" (Z.ca Kx.BadGraph)
  x_BadGraph : XfC K (Z.ca Kx.BadGraph)
  l_BadGraph : Z.fl Kx.BadGraph = fldF Kx.BadGraph
  m_InvalidValue : ∀ c, PySem.W.exmOne K (.ref (Z.ca c)) (.ref (Z.ca Kx.InvalidValue)) = some (ancF c Kx.InvalidValue)
  m_InvalidState : ∀ c, PySem.W.exmOne K (.ref (Z.ca c)) (.ref (Z.ca Kx.InvalidState)) = some (ancF c Kx.InvalidState)
  m_LimitReached : ∀ c, PySem.W.exmOne K (.ref (Z.ca c)) (.ref (Z.ca Kx.LimitReached)) = some (ancF c Kx.LimitReached)
  m_BadGraph : ∀ c, PySem.W.exmOne K (.ref (Z.ca c)) (.ref (Z.ca Kx.BadGraph)) = some (ancF c Kx.BadGraph)
  ic : ∀ c, ExcC K (Z.ca c)
  sm : SmF K
  d_zq8 : ∃ f fd, FunD K "_law_told" "_law_told" (defArgs (top 17)) (defBody (top 17)) (defScope (top 17)) [] [] f fd /\ mg "_law_told" = some (.ref f)
  C_zq0 : Cal pw w K mg base Z P n F.zq0 "is_index" ["value", "many"]
  C_zq1 : Cal pw w K mg base Z P n F.zq1 "graph_fault" ["value"]
  C_zq2 : Cal pw w K mg base Z P n F.zq2 "is_graph" ["value"]
  C_zq3 : Cal pw w K mg base Z P n F.zq3 "check_graph" ["graph"]
  C_zq4 : Cal pw w K mg base Z P n F.zq4 "_law_source" ["_law_script", "_law_k"]
  C_zq5 : Cal pw w K mg base Z P n F.zq5 "_law_next" ["_law_source_here", "_law_many"]
  C_zq6 : Cal pw w K mg base Z P n F.zq6 "_law_mixed" ["_law_source_here", "_law_items"]
  C_zq7 : Cal pw w K mg base Z P n F.zq7 "_law_any_graph" ["_law_source_here", "_law_nodes", "_law_edges"]
  C_zq9 : Cal pw w K mg base Z P n F.zq9 "_law_fault" ["_law_thing"]
  C_zq10 : Cal pw w K mg base Z P n F.zq10 "_law_bent" ["_law_source_here", "_law_thing"]
  C_zq11 : Cal pw w K mg base Z P n F.zq11 "_law_kinds" ["_law_caught"]
  C_zq12 : Cal pw w K mg base Z P n F.zq12 "_law_right" ["_law_thing"]
  C_zq13 : Cal pw w K mg base Z P n F.zq13 "_law_limits_right" []
  C_law : Cal pw w K mg base Z P n F.law "law" ["_law_script"]
  K_is_graph_0 : CalK pw w K mg base Z P n F.zq2 "is_graph" ["value"] 0 ["value"]
  K_check_graph_0 : CalK pw w K mg base Z P n F.zq3 "check_graph" ["graph"] 0 ["graph"]
theorem Ev.gb {w : World} {K : PySem.W.Frag} {mg : Str -> Option Value} {base : Heap} {Z : Wc} {n : Nat} {g0 : Option (List Addr × Hp)} (hgb : Z.gb = none) (E : Ev w K mg base Z n) : Ev w K mg base { Z with gb := g0 } n := { E with C_zq0 := E.C_zq0.gb hgb, C_zq1 := E.C_zq1.gb hgb, C_zq2 := E.C_zq2.gb hgb, C_zq3 := E.C_zq3.gb hgb, C_zq4 := E.C_zq4.gb hgb, C_zq5 := E.C_zq5.gb hgb, C_zq6 := E.C_zq6.gb hgb, C_zq7 := E.C_zq7.gb hgb, C_zq9 := E.C_zq9.gb hgb, C_zq10 := E.C_zq10.gb hgb, C_zq11 := E.C_zq11.gb hgb, C_zq12 := E.C_zq12.gb hgb, C_zq13 := E.C_zq13.gb hgb, C_law := E.C_law.gb hgb, K_is_graph_0 := E.K_is_graph_0.gb hgb, K_check_graph_0 := E.K_check_graph_0.gb hgb }
local macro_rules
  | `(tactic| trivial) => `(tactic| first | exact Or.inl rfl | exact Or.inr (Or.inl rfl) | exact Or.inr (Or.inr rfl) | exact Or.inr rfl)
abbrev nn0 : List Str := [("_law_call" : Str), ("_law_caught" : Str), ("_law_result" : Str), ("error" : Str), ("_law_word" : Str), ("_law_kind" : Str), ("_law_field" : Str)]
abbrev nn1 : List Str := [("value" : Str), ("many" : Str)]
abbrev nn2 : List Str := [("value" : Str), ("rotation" : Str), ("many" : Str), ("missing" : Str), ("dart" : Str)]
abbrev nn3 : List Str := [("value" : Str)]
abbrev nn4 : List Str := [("graph" : Str), ("place" : Str)]
abbrev nn5 : List Str := [("_law_script" : Str), ("_law_k" : Str), ("_law_cell" : Str)]
abbrev nn6 : List Str := [("_law_source_here" : Str), ("_law_many" : Str), ("_law_found" : Str), ("_law_primes" : Str), ("_law_prime" : Str)]
abbrev nn7 : List Str := [("_law_source_here" : Str), ("_law_items" : Str), ("_law_rest" : Str), ("_law_found" : Str)]
abbrev nn8 : List Str := [("_law_source_here" : Str), ("_law_nodes" : Str), ("_law_edges" : Str), ("_law_rotations" : Str), ("_law_turn" : Str), ("_law_end" : Str), ("_law_rotation" : Str)]
abbrev nn9 : List Str := [("_law_thing" : Str), ("_law_row" : Str), ("_law_ends" : Str), ("_law_end" : Str)]
abbrev nn10 : List Str := [("_law_source_here" : Str), ("_law_thing" : Str), ("_law_way" : Str), ("_law_rows" : Str), ("_law_at" : Str), ("_law_row" : Str), ("_law_spot" : Str), ("_law_odd" : Str), ("_law_far" : Str)]
abbrev nn11 : List Str := [("_law_caught" : Str)]
abbrev nn12 : List Str := [("_law_thing" : Str), ("_law_fault_here" : Str), ("_law_kept" : Str), ("_law_due" : Str), ("_law_told_here" : Str)]
abbrev nn13 : List Str := [("_law_many" : Str), ("_law_k" : Str), ("_law_thing" : Str)]
abbrev nn14 : List Str := [("_law_script" : Str), ("_law_k" : Str), ("_law_source_here" : Str), ("_law_drawing" : Str), ("_law_bent_here" : Str), ("_law_some" : Str), ("_law_row" : Str), ("_law_thing" : Str)]
theorem bd_zq8 {w : World} {K : PySem.W.Frag} {mg : Str -> Option Value} {base : Heap} {Z : Wc} {n : Nat} (hK : K = Z.K) (E : Ev w K mg base Z n) {act : Fs.Env -> M D} {cdv : Value} {A : Around} {outer : List PySem.Env} {s : Shared} {H : Hp} {Ek : XK} {fa : Addr} (hact : ∀ (pn : List (Addr × Obj)) (xe : Value -> Shared -> Prop) (W2 : WX) (p1 p2 : Pos), Takes ((cxOf (L2.CX pw w) pw w K mg base nn0 "_law_told" (defScope (top 17)) fa cdv A outer s H Ek).tr pn xe) W2 -> PE ((cxOf (L2.CX pw w) pw w K mg base nn0 "_law_told" (defScope (top 17)) fa cdv A outer s H Ek).tr pn xe) (.Call (.Name "_law_call" p1) [] [] p2) (iE { P.tbl n with act := act } Z W2 .act)) (hr : Room (n + 2) (A.deeper (envOfC "_law_told" (defScope (top 17)) s.heap.objs.size fa cdv))) (hgd : A.guards = some []) :
    PSs (cxOf (L2.CX pw w) pw w K mg base nn0 "_law_told" (defScope (top 17)) fa cdv A outer s H Ek) (defBody (top 17)) (iL { P.tbl n with act := act } Z (fun cls dx _ H' => Ek cls dx H') c_zq8.body) := by
  obtain ⟨t_MAX_EDGES, q_MAX_EDGES⟩ := E.q_MAX_EDGES
  obtain ⟨t_MAX_NODES, q_MAX_NODES⟩ := E.q_MAX_NODES
  have hu65 : (cxOf (L2.CX pw w) pw w K mg base nn0 "_law_told" (defScope (top 17)) fa cdv A outer s H Ek).A.units + 65 < cLine := (by have h := hr.un; show (A.deeper (envOfC "_law_told" (defScope (top 17)) s.heap.objs.size fa cdv)).units + 65 < cLine; omega)
  have hu64 : (cxOf (L2.CX pw w) pw w K mg base nn0 "_law_told" (defScope (top 17)) fa cdv A outer s H Ek).A.units + 64 < cLine := by omega
  have hu1 : (cxOf (L2.CX pw w) pw w K mg base nn0 "_law_told" (defScope (top 17)) fa cdv A outer s H Ek).A.units + 1 < cLine := by omega
  have hN : (cxOf (L2.CX pw w) pw w K mg base nn0 "_law_told" (defScope (top 17)) fa cdv A outer s H Ek).N.Nodup := by show List.Nodup nn0; decide +kernel
  have tk : Takes (cxOf (L2.CX pw w) pw w K mg base nn0 "_law_told" (defScope (top 17)) fa cdv A outer s H Ek) (fun cls dx _ H' => Ek cls dx H') := takes_of rfl rfl rfl rfl
  have hp : PassesOwn (model pw w) (cxOf (L2.CX pw w) pw w K mg base nn0 "_law_told" (defScope (top 17)) fa cdv A outer s H Ek).A (cxOf (L2.CX pw w) pw w K mg base nn0 "_law_told" (defScope (top 17)) fa cdv A outer s H Ek).env (cxOf (L2.CX pw w) pw w K mg base nn0 "_law_told" (defScope (top 17)) fa cdv A outer s H Ek).xe := passes_of rfl
  exact (ssl_cons (ss_asg (se_tup (sa_cons se_non (sa_cons se_non sa_nil rfl) rfl)) (sg_tup hK rfl (sgs_cons (sg_nm (i := 1) hN rfl (by trivial) (by trivial)) (sgs_cons (sg_nm (i := 2) hN rfl (by trivial) (by trivial)) sgs_nil rfl) rfl) rfl rfl rfl) rfl rfl rfl)
  (ssl_cons (ss_triU (i := 3) (ks := [Kx.InvalidValue, Kx.InvalidState, Kx.LimitReached]) rfl rfl rfl hN rfl rfl (test3 (by rfl) E.e_InvalidValue.gC (by rfl) (by rfl) E.e_InvalidState.gC (by rfl) (by rfl) E.e_LimitReached.gC (by rfl)) (fun c => exm3 (E.m_InvalidValue c) (E.m_InvalidState c) (E.m_LimitReached c)) tk (fun Wb pnb xeb tkb hp => (ssl_cons (ss_asg (hact pnb xeb Wb _ _ tkb) (sg_nm (i := 2) hN rfl (by trivial) (by trivial)) rfl rfl rfl)
  ssl_nil)) (fun ab pns => (ssl_cons (ss_asg (se_loc (i := 3) rfl (by trivial) rfl rfl) (sg_nm (i := 1) hN rfl (by trivial) (by trivial)) rfl rfl rfl)
  ssl_nil)))
  (ssl_cons (ss_if (st_cmp1 (op := .isN) hK hu65 (se_loc (i := 1) rfl (by trivial) rfl rfl) se_non) (ssl_cons (ss_ret (se_lst (sa_cons (se_loc (i := 2) rfl (by trivial) rfl rfl) sa_nil rfl)))
  ssl_nil) ssl_nil)
  (ssl_cons (ss_for hp rfl (si_val hK (se_callT (Pp := P) rfl E.C_zq11 hr hgd tk (by rfl) (sa_cons (se_loc (i := 1) rfl (by trivial) rfl rfl) sa_nil rfl))) (sg_tup hK rfl (sgs_cons (sg_nm (i := 4) hN rfl (by trivial) (by trivial)) (sgs_cons (sg_nm (i := 5) hN rfl (by trivial) (by trivial)) (sgs_cons (sg_nm (i := 6) hN rfl (by trivial) (by trivial)) sgs_nil rfl) rfl) rfl) rfl rfl rfl) (ssl_cons (ss_if (st_val (se_loc (i := 5) rfl (by trivial) rfl rfl) (fun _ => rfl) hK) (ssl_cons (ss_ret (se_tup (sa_cons (se_loc (i := 4) rfl (by trivial) rfl rfl) (sa_cons (se_loc (i := 6) rfl (by trivial) rfl rfl) sa_nil rfl) rfl)))
  ssl_nil) ssl_nil)
  ssl_nil) (fun _ => rfl))
  (ssl_cons (ss_ret se_str)
  ssl_nil)))))
section
abbrev bdS (w : World) (K : PySem.W.Frag) (mg : Str -> Option Value) (base : Heap) (Z : Wc) (n : Nat) (cdv : Value) (A : Around) (outer : List PySem.Env) (s : Shared) (H : Hp) (Ek : XK) (fa : Addr) (N : List Str) (x : Str) (i : Nat) (b : List Sx) : Prop :=
  Room (n + 2) (A.deeper (envOfC x (defScope (top i)) s.heap.objs.size fa cdv)) -> A.guards = some [] -> PSs (cxOf (L2.CX pw w) pw w K mg base N x (defScope (top i)) fa cdv A outer s H Ek) (defBody (top i)) (iL (P.tbl n) Z (fun cls dx _ H' => Ek cls dx H') b)
theorem bdP {w : World} {K : PySem.W.Frag} {mg : Str -> Option Value} {base : Heap} {Z : Wc} {n : Nat} {cdv : Value} {A : Around} {outer : List PySem.Env} {s : Shared} {H : Hp} {Ek : XK} {fa : Addr} {N : List Str} {x : Str} {i : Nat} {b : List Sx} (hn : N.Nodup)
    (h : Room (n + 2) (A.deeper (envOfC x (defScope (top i)) s.heap.objs.size fa cdv)) -> A.guards = some [] -> (cxOf (L2.CX pw w) pw w K mg base N x (defScope (top i)) fa cdv A outer s H Ek).A.units + 65 < cLine -> (cxOf (L2.CX pw w) pw w K mg base N x (defScope (top i)) fa cdv A outer s H Ek).A.units + 64 < cLine -> (cxOf (L2.CX pw w) pw w K mg base N x (defScope (top i)) fa cdv A outer s H Ek).A.units + 1 < cLine -> (cxOf (L2.CX pw w) pw w K mg base N x (defScope (top i)) fa cdv A outer s H Ek).N.Nodup -> Takes (cxOf (L2.CX pw w) pw w K mg base N x (defScope (top i)) fa cdv A outer s H Ek) (fun cls dx _ H' => Ek cls dx H') -> PassesOwn (model pw w) (cxOf (L2.CX pw w) pw w K mg base N x (defScope (top i)) fa cdv A outer s H Ek).A (cxOf (L2.CX pw w) pw w K mg base N x (defScope (top i)) fa cdv A outer s H Ek).env (cxOf (L2.CX pw w) pw w K mg base N x (defScope (top i)) fa cdv A outer s H Ek).xe -> PSs (cxOf (L2.CX pw w) pw w K mg base N x (defScope (top i)) fa cdv A outer s H Ek) (defBody (top i)) (iL (P.tbl n) Z (fun cls dx _ H' => Ek cls dx H') b)) : bdS w K mg base Z n cdv A outer s H Ek fa N x i b := by
  intro hr hgd
  have hu65 : (cxOf (L2.CX pw w) pw w K mg base N x (defScope (top i)) fa cdv A outer s H Ek).A.units + 65 < cLine := (by have h := hr.un; show (A.deeper (envOfC x (defScope (top i)) s.heap.objs.size fa cdv)).units + 65 < cLine; omega)
  exact h hr hgd hu65 (by omega) (by omega) hn (takes_of rfl rfl rfl rfl) (passes_of rfl)
theorem sl {X : Cx} {T : Tbl} {Z : Wc} {W : WX} {pos : Pos} (i : Nat) {x : Str} (hN : X.N[i]? = some x := by rfl) (hv : Vis X.env.scope x := by trivial) (hd : (x == ("__debug__" : Str)) = false := by rfl) (hcd : (x == ("__classdict__" : Str)) = false := by rfl) : PE X (.Name x pos) (iE T Z W (.loc i)) := se_loc hN hv hd hcd
theorem sn {X : L2.Cx} {T : Tbl} {Z : Wc} {pos : Pos} (i : Nat) {x : Str} (hN : X.N.Nodup) (hi : X.N[i]? = some x := by rfl) (hx : Loc X.env.scope x := by trivial) (hf : X.fn x = true ∨ X.env.scope.names.lookup x = some .local := by trivial) : PG X (.Name x pos) (iG T Z (.nm i)) := sg_nm hN hi hx hf
variable {w : World} {K : PySem.W.Frag} {mg : Str -> Option Value} {base : Heap} {Z : Wc} {n : Nat}
variable (hK : K = Z.K) (hgb : Z.gb = none) (E : Ev w K mg base Z n)
variable {cdv : Value} {A : Around} {outer : List PySem.Env} {s : Shared} {H : Hp} {Ek : XK} {fa : Addr}
include hK hgb E
theorem bd_zq0 : bdS w K mg base Z n cdv A outer s H Ek fa nn1 "is_index" 8 c_zq0.body := by
  refine bdP (by decide +kernel) fun hr hgd hu65 hu64 hu1 hN tk hp => ?_
  exact (ssl_cons (ss_ret (se_and (se_isT (t := "int") hK okT_int (by rfl) E.f_isinstance (by rfl) E.f_int (by decide +kernel) (sl 0) (by decide) (by rfl) rfl rfl rfl) (se_and (se_nt hK (se_isT (t := "bool") hK okT_bool (by rfl) E.f_isinstance (by rfl) E.f_bool (by decide +kernel) (sl 0) (by decide) (by rfl) rfl rfl rfl)) (se_one (se_chn (o1 := .le) (o2 := .lt) se_int (sl 0) (sl 1) (by rfl))))))
  ssl_nil)
theorem bd_zq1 : bdS w K mg base Z n cdv A outer s H Ek fa nn2 "graph_fault" 9 c_zq1.body := by
  refine bdP (by decide +kernel) fun hr hgd hu65 hu64 hu1 hN tk hp => ?_
  obtain ⟨t_MAX_EDGES, q_MAX_EDGES⟩ := E.q_MAX_EDGES
  obtain ⟨t_MAX_NODES, q_MAX_NODES⟩ := E.q_MAX_NODES
  exact (ssl_cons (ss_if (st_w (sw_or (st_not (st_val (se_isT (t := "tuple") hK okT_tuple (by rfl) E.f_isinstance (by rfl) E.f_tuple (by decide +kernel) (sl 0) (by decide) (by rfl) rfl rfl rfl) (fun _ => rfl) hK)) (sw_or1 (st_cmp1 (op := .gt) hK hu65 (se_bi (b := .len) (fun _ => bi_len hK) (by rfl) E.f_len (by decide +kernel) (sa_cons (sl 0) sa_nil rfl)) (se_glob (d := .int 60) (v := .int 60) (by rfl) q_MAX_NODES ⟨_, rfl⟩ (fun _ _ => ⟨rfl, rfl⟩) rfl))))) (ssl_cons (ss_ret se_str)
  ssl_nil) ssl_nil)
  (ssl_cons (ss_if (st_not (st_val (se_bi (b := .all) (fun _ => bi_all hK rfl) (by rfl) E.f_all (by decide +kernel) (sa_cons (se_lc (own := [("rotation", 1)]) rfl hN (by first | (show blkC nn2 (defScope (top 9)) _ _ = true; decide +kernel) | rfl) (by decide +kernel) (si_val hK (sl 0)) (fun _ _ _ _ _ => (sn 1 hN)) (fun _ _ _ _ _ => sts_nil) (fun _ _ _ _ _ => (se_isT (t := "tuple") hK okT_tuple (by rfl) E.f_isinstance (by rfl) E.f_tuple (by decide +kernel) (sl 1) (by decide) (by rfl) rfl rfl rfl))) sa_nil rfl)) (fun _ => rfl) hK)) (ssl_cons (ss_ret se_str)
  ssl_nil) ssl_nil)
  (ssl_cons (ss_asg (se_bi (b := .sum) (fun _ => bi_sum hK rfl) (by rfl) E.f_sum (by decide +kernel) (sa_cons (se_lc (own := [("rotation", 1)]) rfl hN (by first | (show blkC nn2 (defScope (top 9)) _ _ = true; decide +kernel) | rfl) (by decide +kernel) (si_val hK (sl 0)) (fun _ _ _ _ _ => (sn 1 hN)) (fun _ _ _ _ _ => sts_nil) (fun _ _ _ _ _ => (se_bi (b := .len) (fun _ => bi_len hK) (by rfl) E.f_len (by decide +kernel) (sa_cons (sl 1) sa_nil rfl)))) sa_nil rfl)) (sn 2 hN) rfl rfl rfl)
  (ssl_cons (ss_if (st_w (sw_or (st_cmp1 (op := .gt) hK hu65 (sl 2) (se_bin (op := .mul) hK se_int (se_glob (d := .int 120) (v := .int 120) (by rfl) q_MAX_EDGES ⟨_, rfl⟩ (fun _ _ => ⟨rfl, rfl⟩) rfl))) (sw_or1 (st_cmp1 (op := .eq) hK hu65 (se_bin (op := .mod) hK (sl 2) se_int) se_int)))) (ssl_cons (ss_ret se_str)
  ssl_nil) ssl_nil)
  (ssl_cons (ss_setDc (i := 3) (own := [("dart", 4)]) rfl hN rfl rfl (by rfl) (by first | (show blkC nn2 (defScope (top 9)) _ _ = true; decide +kernel) | rfl) (by decide +kernel) (si_rng1 (by rfl) E.f_range (sl 2) rfl) (fun _ _ _ _ _ => (sn 4 hN)) (fun _ _ _ _ _ => sts_nil) (fun _ _ _ _ _ => (sl 4)) (fun _ _ _ _ _ => se_bl))
  (ssl_cons (ss_for hp rfl (si_val hK (sl 0)) (sn 1 hN) (ssl_cons (ss_for hp rfl (si_val hK (sl 1)) (sn 4 hN) (ssl_cons (ss_if (st_w (sw_or (st_not (st_val (se_callC E.C_zq0 hr hgd tk (by rfl) (sa_cons (sl 4) (sa_cons (sl 2) sa_nil rfl) rfl)) (fun _ => rfl) hK)) (sw_or1 (st_cmp1 (op := .nin) hK hu65 (sl 4) (sl 3))))) (ssl_cons (ss_ret se_str)
  ssl_nil) ssl_nil)
  (ssl_cons (ss_xpr (se_me (m := .popi) hK (k_popi hu1) (sl 3) (sa_cons (sl 4) sa_nil rfl)) rfl)
  ssl_nil)) (fun _ => rfl))
  ssl_nil) (fun _ => rfl))
  (ssl_cons (ss_ret se_non)
  ssl_nil)))))))
theorem bd_zq2 : bdS w K mg base Z n cdv A outer s H Ek fa nn3 "is_graph" 10 c_zq2.body := by
  refine bdP (by decide +kernel) fun hr hgd hu65 hu64 hu1 hN tk hp => ?_
  exact (ssl_cons (ss_ret (se_cmp1 (op := .isN) hK hu65 (se_callC E.C_zq1 hr hgd tk (by rfl) (sa_cons (sl 0) sa_nil rfl)) se_non))
  ssl_nil)
theorem bd_zq3 : bdS w K mg base Z n cdv A outer s H Ek fa nn4 "check_graph" 11 c_zq3.body := by
  refine bdP (by decide +kernel) fun hr hgd hu65 hu64 hu1 hN tk hp => ?_
  exact (ssl_cons (ss_asg (se_callC E.C_zq1 hr hgd tk (by rfl) (sa_cons (sl 0) sa_nil rfl)) (sn 1 hN) rfl rfl rfl)
  (ssl_cons (ss_if (st_cmp1 (op := .ntN) hK hu65 (sl 1) se_non) (ssl_cons (ss_rse1 rfl tk hK E.o_BadGraph E.l_BadGraph rfl (hr.mono (by omega)) (by rfl) (sa_cons (sl 1) sa_nil rfl) (by decide) rfl rfl)
  ssl_nil) ssl_nil)
  ssl_nil))
theorem bd_zq4 : bdS w K mg base Z n cdv A outer s H Ek fa nn5 "_law_source" 13 c_zq4.body := by
  refine bdP (by decide +kernel) fun hr hgd hu65 hu64 hu1 hN tk hp => ?_
  exact (ssl_cons (ss_asg (se_ife (st_cmp1 (op := .ne) hK hu65 (sl 0) (se_lst sa_nil)) (se_sub hK hu1 (sl 0) (se_bin (op := .mod) hK (sl 1) (se_bi (b := .len) (fun _ => bi_len hK) (by rfl) E.f_len (by decide +kernel) (sa_cons (sl 0) sa_nil rfl))) (fun _ _ => rfl)) se_int) (sn 2 hN) rfl rfl rfl)
  (ssl_cons (ss_ret (se_lst (sa_cons (sl 2) (sa_cons (se_bin (op := .mul) hK se_int (sl 1)) (sa_cons (se_ife (st_cmp1 (op := .ge) hK hu65 (sl 2) (se_bin (op := .pow) hK se_int se_int)) (se_bin (op := .fdiv) hK (sl 2) (se_bin (op := .pow) hK se_int se_int)) se_int) sa_nil rfl) rfl) rfl)))
  ssl_nil))
theorem bd_zq5 : bdS w K mg base Z n cdv A outer s H Ek fa nn6 "_law_next" 14 c_zq5.body := by
  refine bdP (by decide +kernel) fun hr hgd hu65 hu64 hu1 hN tk hp => ?_
  exact (ssl_cons (ss_if (st_cmp1 (op := .gt) hK hu65 (se_sub hK hu1 (sl 0) se_int (fun _ _ => rfl)) se_int) (ssl_cons (ss_asg (se_bin (op := .mod) hK (se_sub hK hu1 (sl 0) se_int (fun _ _ => rfl)) (sl 1)) (sn 2 hN) rfl rfl rfl)
  (ssl_cons (ss_asg (se_bin (op := .fdiv) hK (se_sub hK hu1 (sl 0) se_int (fun _ _ => rfl)) (sl 1)) (sg_sub (W := fun cls dx _ H' => Ek cls dx H') hu1 (sl 0) se_int (fun _ => rfl)) rfl rfl rfl)
  (ssl_cons (ss_ret (sl 2))
  ssl_nil))) ssl_nil)
  (ssl_cons (ss_asg (se_bin (op := .add) hK (se_sub hK hu1 (sl 0) se_int (fun _ _ => rfl)) se_int) (sg_sub (W := fun cls dx _ H' => Ek cls dx H') hu1 (sl 0) se_int (fun _ => rfl)) rfl rfl rfl)
  (ssl_cons (ss_asg (se_lst (sa_cons se_int (sa_cons se_int (sa_cons se_int (sa_cons se_int (sa_cons se_int (sa_cons se_int (sa_cons se_int (sa_cons se_int sa_nil rfl) rfl) rfl) rfl) rfl) rfl) rfl) rfl)) (sn 3 hN) rfl rfl rfl)
  (ssl_cons (ss_asg (se_sub hK hu1 (se_bin (op := .add) hK (sl 3) (se_lst (sa_cons se_int (sa_cons se_int (sa_cons se_int sa_nil rfl) rfl) rfl))) (se_bin (op := .mod) hK (se_sub hK hu1 (sl 0) se_int (fun _ _ => rfl)) se_int) (fun _ _ => rfl)) (sn 4 hN) rfl rfl rfl)
  (ssl_cons (ss_ret (se_bin (op := .mod) hK (se_bin (op := .fdiv) hK (se_bin (op := .mod) hK (se_bin (op := .pow) hK (se_bin (op := .add) hK (se_bin (op := .add) hK (se_bin (op := .mod) hK (se_sub hK hu1 (sl 0) se_int (fun _ _ => rfl)) (sl 4)) (se_bin (op := .mul) hK se_int (se_sub hK hu1 (sl 0) se_int (fun _ _ => rfl)))) se_int) se_int) (sl 4)) se_int) (sl 1)))
  ssl_nil)))))
theorem bd_zq6 : bdS w K mg base Z n cdv A outer s H Ek fa nn7 "_law_mixed" 15 c_zq6.body := by
  refine bdP (by decide +kernel) fun hr hgd hu65 hu64 hu1 hN tk hp => ?_
  exact (ssl_cons (ss_par2 (i := 2) (j := 3) rfl hN rfl rfl (by decide) rfl rfl (sa_cons (se_bt (b := .list) (fun _ => bi_list hK) (by rfl) E.f_list (by decide +kernel) (sa_cons (sl 1) sa_nil rfl)) (sa_cons (se_lst sa_nil) sa_nil rfl) rfl) (by rfl))
  (ssl_cons (ss_whl hp (st_cmp1 (op := .ne) hK hu65 (sl 2) (se_lst sa_nil)) (ssl_cons (ss_xpr (se_me (m := .append) hK (k_append) (sl 3) (sa_cons (se_me (m := .popi) hK (k_popi hu1) (sl 2) (sa_cons (se_callC E.C_zq5 hr hgd tk (by rfl) (sa_cons (sl 0) (sa_cons (se_bi (b := .len) (fun _ => bi_len hK) (by rfl) E.f_len (by decide +kernel) (sa_cons (sl 2) sa_nil rfl)) sa_nil rfl) rfl)) sa_nil rfl)) sa_nil rfl)) rfl)
  ssl_nil))
  (ssl_cons (ss_ret (sl 3))
  ssl_nil)))
theorem bd_zq7 : bdS w K mg base Z n cdv A outer s H Ek fa nn8 "_law_any_graph" 16 c_zq7.body := by
  refine bdP (by decide +kernel) fun hr hgd hu65 hu64 hu1 hN tk hp => ?_
  exact (ssl_cons (ss_setLc (i := 3) (own := [("_law_turn", 4)]) rfl hN rfl rfl (by rfl) (by first | (show blkC nn8 (defScope (top 16)) _ _ = true; decide +kernel) | rfl) (by decide +kernel) (si_rng1 (by rfl) E.f_range (se_bin (op := .add) hK se_int (se_callC E.C_zq5 hr hgd tk (by rfl) (sa_cons (sl 0) (sa_cons (sl 1) sa_nil rfl) rfl))) rfl) (fun _ _ _ _ _ => (sn 4 hN)) (fun _ _ _ _ _ => sts_nil) (fun _ _ _ _ _ => (se_lst sa_nil)))
  (ssl_cons (ss_for hp rfl (si_val hK (se_callC E.C_zq6 hr hgd tk (by rfl) (sa_cons (sl 0) (sa_cons (se_lrng1 rfl (by rfl) E.f_list (by rfl) E.f_range (se_bin (op := .mul) hK se_int (se_callC E.C_zq5 hr hgd tk (by rfl) (sa_cons (sl 0) (sa_cons (se_bin (op := .add) hK (sl 2) se_int) sa_nil rfl) rfl))) rfl rfl) sa_nil rfl) rfl))) (sn 5 hN) (ssl_cons (ss_xpr (se_me (m := .append) hK (k_append) (se_sub hK hu1 (sl 3) (se_callC E.C_zq5 hr hgd tk (by rfl) (sa_cons (sl 0) (sa_cons (se_bi (b := .len) (fun _ => bi_len hK) (by rfl) E.f_len (by decide +kernel) (sa_cons (sl 3) sa_nil rfl)) sa_nil rfl) rfl)) (fun _ _ => rfl)) (sa_cons (sl 5) sa_nil rfl)) rfl)
  ssl_nil) (fun _ => rfl))
  (ssl_cons (ss_ret (se_bt (b := .tuple) (fun _ => bi_tuple hK) (by rfl) E.f_tuple (by decide +kernel) (sa_cons (se_lc (own := [("_law_rotation", 6)]) rfl hN (by first | (show blkC nn8 (defScope (top 16)) _ _ = true; decide +kernel) | rfl) (by decide +kernel) (si_val hK (sl 3)) (fun _ _ _ _ _ => (sn 6 hN)) (fun _ _ _ _ _ => sts_nil) (fun _ _ _ _ _ => (se_bt (b := .tuple) (fun _ => bi_tuple hK) (by rfl) E.f_tuple (by decide +kernel) (sa_cons (sl 6) sa_nil rfl)))) sa_nil rfl)))
  ssl_nil)))
theorem bd_zq9 : bdS w K mg base Z n cdv A outer s H Ek fa nn9 "_law_fault" 18 c_zq9.body := by
  refine bdP (by decide +kernel) fun hr hgd hu65 hu64 hu1 hN tk hp => ?_
  exact (ssl_cons (ss_if (st_w (sw_or (st_not (st_val (se_isT (t := "tuple") hK okT_tuple (by rfl) E.f_isinstance (by rfl) E.f_tuple (by decide +kernel) (sl 0) (by decide) (by rfl) rfl rfl rfl) (fun _ => rfl) hK)) (sw_or (st_cmp1 (op := .gt) hK hu65 (se_bi (b := .len) (fun _ => bi_len hK) (by rfl) E.f_len (by decide +kernel) (sa_cons (sl 0) sa_nil rfl)) se_int) (sw_or1 (st_cmp1 (op := .ne) hK hu65 (se_lc (own := [("_law_row", 1)]) rfl hN (by first | (show blkC nn9 (defScope (top 18)) _ _ = true; decide +kernel) | rfl) (by decide +kernel) (si_val hK (sl 0)) (fun _ _ _ _ _ => (sn 1 hN)) (fun _ _ _ _ _ => (sts_one (st_not (st_val (se_isT (t := "tuple") hK okT_tuple (by rfl) E.f_isinstance (by rfl) E.f_tuple (by decide +kernel) (sl 1) (by decide) (by rfl) rfl rfl rfl) (fun _ => rfl) hK)))) (fun _ _ _ _ _ => se_int)) (se_lst sa_nil)))))) (ssl_cons (ss_ret se_str)
  ssl_nil) ssl_nil)
  (ssl_cons (ss_asg (se_lst sa_nil) (sn 2 hN) rfl rfl rfl)
  (ssl_cons (ss_for hp rfl (si_val hK (sl 0)) (sn 1 hN) (ssl_cons (ss_asg (se_bin (op := .add) hK (sl 2) (se_bt (b := .list) (fun _ => bi_list hK) (by rfl) E.f_list (by decide +kernel) (sa_cons (sl 1) sa_nil rfl))) (sn 2 hN) rfl rfl rfl)
  ssl_nil) (fun _ => rfl))
  (ssl_cons (ss_if (st_cmp1 (op := .ne) hK hu65 (se_lc (own := [("_law_end", 3)]) rfl hN (by first | (show blkC nn9 (defScope (top 18)) _ _ = true; decide +kernel) | rfl) (by decide +kernel) (si_val hK (sl 2)) (fun _ _ _ _ _ => (sn 3 hN)) (fun _ _ _ _ _ => (sts_one (st_w (sw_or (st_not (st_val (se_isT (t := "int") hK okT_int (by rfl) E.f_isinstance (by rfl) E.f_int (by decide +kernel) (sl 3) (by decide) (by rfl) rfl rfl rfl) (fun _ => rfl) hK)) (sw_or1 (st_val (se_isT (t := "bool") hK okT_bool (by rfl) E.f_isinstance (by rfl) E.f_bool (by decide +kernel) (sl 3) (by decide) (by rfl) rfl rfl rfl) (fun _ => rfl) hK)))))) (fun _ _ _ _ _ => (sl 3))) (se_lst sa_nil)) (ssl_cons (ss_ret se_str)
  ssl_nil) ssl_nil)
  (ssl_cons (ss_ret (se_ife (st_w (sw_and (st_cmp1 (op := .eq) hK hu65 (se_bi (b := .sorted) (fun _ => bi_sorted hK rfl hu64) (by rfl) E.f_sorted (by decide +kernel) (sa_cons (sl 2) sa_nil rfl)) (se_lrng1 rfl (by rfl) E.f_list (by rfl) E.f_range (se_bi (b := .len) (fun _ => bi_len hK) (by rfl) E.f_len (by decide +kernel) (sa_cons (sl 2) sa_nil rfl)) rfl rfl)) (sw_and1 (st_inr3 (inR_list (k := 121) rfl (by decide)) (by decide) (by decide +kernel) (by rfl) E.f_range (se_bi (b := .len) (fun _ => bi_len hK) (by rfl) E.f_len (by decide +kernel) (sa_cons (sl 2) sa_nil rfl)))))) se_non se_str))
  ssl_nil)))))
theorem bd_zq10 : bdS w K mg base Z n cdv A outer s H Ek fa nn10 "_law_bent" 19 c_zq10.body := by
  refine bdP (by decide +kernel) fun hr hgd hu65 hu64 hu1 hN tk hp => ?_
  exact (ssl_cons (ss_par2 (i := 2) (j := 3) rfl hN rfl rfl (by decide) rfl rfl (sa_cons (se_callC E.C_zq5 hr hgd tk (by rfl) (sa_cons (sl 0) (sa_cons se_int sa_nil rfl) rfl)) (sa_cons (se_bt (b := .list) (fun _ => bi_list hK) (by rfl) E.f_list (by decide +kernel) (sa_cons (sl 1) sa_nil rfl)) sa_nil rfl) rfl) (by rfl))
  (ssl_cons (ss_asg (se_callC E.C_zq5 hr hgd tk (by rfl) (sa_cons (sl 0) (sa_cons (se_bi (b := .len) (fun _ => bi_len hK) (by rfl) E.f_len (by decide +kernel) (sa_cons (sl 3) sa_nil rfl)) sa_nil rfl) rfl)) (sn 4 hN) rfl rfl rfl)
  (ssl_cons (ss_asg (se_sub hK hu1 (sl 3) (sl 4) (fun _ _ => rfl)) (sn 5 hN) rfl rfl rfl)
  (ssl_cons (ss_asg (se_callC E.C_zq5 hr hgd tk (by rfl) (sa_cons (sl 0) (sa_cons (se_bin (op := .add) hK (se_bi (b := .len) (fun _ => bi_len hK) (by rfl) E.f_len (by decide +kernel) (sa_cons (sl 5) sa_nil rfl)) se_int) sa_nil rfl) rfl)) (sn 6 hN) rfl rfl rfl)
  (ssl_cons (ss_asg (se_sub hK hu1 (se_lst (sa_cons se_int (sa_cons se_int (sa_cons (se_neg se_int) (sa_cons (se_bin (op := .mul) hK se_int (se_bi (b := .len) (fun _ => bi_len hK) (by rfl) E.f_len (by decide +kernel) (sa_cons (sl 3) sa_nil rfl))) (sa_cons (se_bin (op := .pow) hK se_int se_int) (sa_cons se_non (sa_cons se_bl (sa_cons se_bl (sa_cons se_str (sa_cons (se_tup (sa_cons se_int sa_nil rfl)) (sa_cons (se_lst (sa_cons se_int sa_nil rfl)) sa_nil rfl) rfl) rfl) rfl) rfl) rfl) rfl) rfl) rfl) rfl) rfl)) (se_callC E.C_zq5 hr hgd tk (by rfl) (sa_cons (sl 0) (sa_cons se_int sa_nil rfl) rfl)) (fun _ _ => rfl)) (sn 7 hN) rfl rfl rfl)
  (ssl_cons (ss_if (st_cmp1 (op := .eq) hK hu65 (sl 2) se_int) (ssl_cons (ss_ret (se_sub hK hu1 (se_lst (sa_cons se_non (sa_cons se_int (sa_cons se_str (sa_cons (se_bt (b := .list) (fun _ => bi_list hK) (by rfl) E.f_list (by decide +kernel) (sa_cons (sl 1) sa_nil rfl)) (sa_cons se_dct0 (sa_cons se_bl (sa_cons (se_lst (sa_cons (sl 1) sa_nil rfl)) (sa_cons (se_bin (op := .mul) hK (sl 1) se_int) sa_nil rfl) rfl) rfl) rfl) rfl) rfl) rfl) rfl)) (se_callC E.C_zq5 hr hgd tk (by rfl) (sa_cons (sl 0) (sa_cons se_int sa_nil rfl) rfl)) (fun _ _ => rfl)))
  ssl_nil) ssl_nil)
  (ssl_cons (ss_if (st_cmp1 (op := .eq) hK hu65 (sl 2) se_int) (ssl_cons (ss_ret (se_bin (op := .add) hK (se_bin (op := .add) hK (se_slc hK (sl 1) so_none (so_some (sl 4))) (se_tup (sa_cons (se_sub hK hu1 (se_lst (sa_cons (se_bt (b := .list) (fun _ => bi_list hK) (by rfl) E.f_list (by decide +kernel) (sa_cons (sl 5) sa_nil rfl)) (sa_cons se_non (sa_cons se_int (sa_cons se_str (sa_cons se_dct0 sa_nil rfl) rfl) rfl) rfl) rfl)) (se_callC E.C_zq5 hr hgd tk (by rfl) (sa_cons (sl 0) (sa_cons se_int sa_nil rfl) rfl)) (fun _ _ => rfl)) sa_nil rfl))) (se_slc hK (sl 1) (so_some (se_bin (op := .add) hK (sl 4) se_int)) so_none)))
  ssl_nil) ssl_nil)
  (ssl_cons (ss_if (st_cmp1 (op := .lt) hK hu65 (sl 2) se_int) (ssl_cons (ss_asg (se_bin (op := .add) hK (se_bin (op := .add) hK (se_slc hK (sl 5) so_none (so_some (sl 6))) (se_tup (sa_cons (sl 7) sa_nil rfl))) (se_slc hK (sl 5) (so_some (se_bin (op := .sub) hK (se_bin (op := .add) hK (sl 6) (sl 2)) se_int)) so_none)) (sg_sub (W := fun cls dx _ H' => Ek cls dx H') hu1 (sl 3) (sl 4) (fun _ => rfl)) rfl rfl rfl)
  ssl_nil) (ssl_cons (ss_if (st_cmp1 (op := .eq) hK hu65 (sl 2) se_int) (ssl_cons (ss_asg (se_bin (op := .add) hK (se_slc hK (sl 5) so_none (so_some (sl 6))) (se_slc hK (sl 5) (so_some (se_bin (op := .add) hK (sl 6) se_int)) so_none)) (sg_sub (W := fun cls dx _ H' => Ek cls dx H') hu1 (sl 3) (sl 4) (fun _ => rfl)) rfl rfl rfl)
  ssl_nil) (ssl_cons (ss_if (st_cmp1 (op := .eq) hK hu65 (sl 2) se_int) (ssl_cons (ss_asg (se_bin (op := .add) hK (se_bin (op := .add) hK (se_slc hK (sl 5) so_none (so_some (sl 6))) (se_mulE hK (se_slc hK (sl 5) (so_some (sl 6)) (so_some (se_bin (op := .add) hK (sl 6) se_int))) se_int)) (se_slc hK (sl 5) (so_some (se_bin (op := .add) hK (sl 6) se_int)) so_none)) (sg_sub (W := fun cls dx _ H' => Ek cls dx H') hu1 (sl 3) (sl 4) (fun _ => rfl)) rfl rfl rfl)
  ssl_nil) (ssl_cons (ss_if (st_cmp1 (op := .eq) hK hu65 (sl 2) se_int) (ssl_cons (ss_asg (se_tup (sa_cons (se_slc hK (sl 5) so_none (so_some (sl 6))) (sa_cons (se_callC E.C_zq5 hr hgd tk (by rfl) (sa_cons (sl 0) (sa_cons (se_bi (b := .len) (fun _ => bi_len hK) (by rfl) E.f_len (by decide +kernel) (sa_cons (sl 3) sa_nil rfl)) sa_nil rfl) rfl)) sa_nil rfl) rfl)) (sg_tup hK rfl (sgs_cons (sg_sub (W := fun cls dx _ H' => Ek cls dx H') hu1 (sl 3) (sl 4) (fun _ => rfl)) (sgs_cons (sn 8 hN) sgs_nil rfl) rfl) rfl rfl rfl) rfl rfl rfl)
  (ssl_cons (ss_asg (se_bin (op := .add) hK (se_sub hK hu1 (sl 3) (sl 8) (fun _ _ => rfl)) (se_slc hK (sl 5) (so_some (sl 6)) so_none)) (sg_sub (W := fun cls dx _ H' => Ek cls dx H') hu1 (sl 3) (sl 8) (fun _ => rfl)) rfl rfl rfl)
  ssl_nil)) (ssl_cons (ss_if (st_cmp1 (op := .eq) hK hu65 (sl 2) se_int) (ssl_cons (ss_asg (se_bin (op := .add) hK (se_bin (op := .add) hK (se_slc hK (sl 3) so_none (so_some (sl 4))) (se_bin (op := .mul) hK (se_lst (sa_cons (se_tup sa_nil) sa_nil rfl)) (se_callC E.C_zq5 hr hgd tk (by rfl) (sa_cons (sl 0) (sa_cons se_int sa_nil rfl) rfl)))) (se_slc hK (sl 3) (so_some (sl 4)) so_none)) (sn 3 hN) rfl rfl rfl)
  ssl_nil) (ssl_cons (ss_asg (se_bin (op := .add) hK (se_slc hK (sl 3) so_none (so_some (sl 4))) (se_slc hK (sl 3) (so_some (se_bin (op := .add) hK (sl 4) se_int)) so_none)) (sn 3 hN) rfl rfl rfl)
  ssl_nil))
  ssl_nil))
  ssl_nil))
  ssl_nil))
  ssl_nil))
  (ssl_cons (ss_ret (se_bt (b := .tuple) (fun _ => bi_tuple hK) (by rfl) E.f_tuple (by decide +kernel) (sa_cons (sl 3) sa_nil rfl)))
  ssl_nil)))))))))
theorem bd_zq11 : bdS w K mg base Z n cdv A outer s H Ek fa nn11 "_law_kinds" 20 c_zq11.body := by
  refine bdP (by decide +kernel) fun hr hgd hu65 hu64 hu1 hN tk hp => ?_
  exact (ssl_cons (ss_ret (se_ife (st_val (se_isE (k := Kx.BadGraph) hK (by rfl) E.f_isinstance (by rfl) E.o_BadGraph.gC E.ic E.m_BadGraph rfl (sl 0) (by decide) rfl rfl rfl) (fun _ => rfl) hK) (se_lst (sa_cons (se_tup (sa_cons se_str (sa_cons se_bl (sa_cons (se_attr hK (sl 0) (fun c h => match c, h with | 0, h => nomatch h | 1, h => nomatch h | 2, h => nomatch h | 3, _ => ⟨E.l_BadGraph, E.x_BadGraph, E.o_BadGraph.no⟩ | _ + 4, h => nomatch h) rfl) sa_nil rfl) rfl) rfl)) sa_nil rfl)) (se_lst sa_nil)))
  ssl_nil)
theorem bd_zq12 (E2 : ∀ m, n = m + 2 -> Ev w K mg base Z (m + 1) /\ Ev w K mg base Z m) (htab : ∃ c P, cdv = .ref c /\ Z.tb "_law_right.<locals>.<lambda>" = some P /\ LamX.TabB base mg c P) : bdS w K mg base Z n cdv A outer s H Ek fa nn12 "_law_right" 21 c_zq12.body := by
  refine bdP (by decide +kernel) fun hr hgd hu65 hu64 hu1 hN tk hp => ?_
  exact (ssl_cons (ss_par2 (i := 1) (j := 2) rfl hN rfl rfl (by decide) rfl rfl (sa_cons (se_callC E.C_zq9 hr hgd tk (by rfl) (sa_cons (sl 0) sa_nil rfl)) (sa_cons (se_bi (b := .reprE) (fun _ => bi_reprE hK E.sm hgd hu64) (by rfl) E.f_repr (by decide +kernel) (sa_cons (sl 0) sa_nil rfl)) sa_nil rfl) rfl) (by rfl))
  (ssl_cons (ss_asg (se_ife (st_cmp1 (op := .isN) hK hu65 (sl 1) se_non) (se_lst (sa_cons se_non sa_nil rfl)) (se_tup (sa_cons se_str (sa_cons (sl 1) sa_nil rfl) rfl))) (sn 3 hN) rfl rfl rfl)
  (ssl_cons (ss_asg (se_lst (sa_cons (se_callC E.C_zq2 hr hgd tk (by rfl) (sa_cons (sl 0) sa_nil rfl)) (sa_cons (se_callCK0 (Bs := [.loc 0]) E.K_is_graph_0 hr hgd tk (by rfl) (sk_cons (sl 0) sk_nil)) (sa_cons (se_tellD (F := c_zq8) (k := 0) (a := "_law_call") (Ng := nn0) hgb (by rfl) E.d_zq8 (fun f fd D => D.bindsN fun _ _ _ _ _ _ us hl => match us, hl with | [_], _ => rfl) ⟨rfl, rfl, rfl, by decide +kernel, rfl, by decide +kernel, by decide +kernel⟩ rfl (by trivial) rfl rfl rfl (by rfl) htab hr hgd tk (LamX.lamS_by (by first | (show LamX.lamSB (defScope (top 21)) _ = true; decide +kernel) | rfl)) rfl (fun _ _ _ _ _ => rfl) (fun m em A outer s H Ek f c' hr hgd tk hu65 => (have E := (E2 m em).2; have hu64 := Nat.lt_of_le_of_lt (Nat.add_le_add_left (show 64 <= 65 by decide) _) hu65; have hu1 := Nat.lt_of_le_of_lt (Nat.add_le_add_left (show 1 <= 65 by decide) _) hu65; (se_callC E.C_zq3 hr hgd tk (by rfl) (sa_cons (sl 0) sa_nil rfl)))) (fun m em g cdv s H Ek gb act hact hr => bd_zq8 (Z := { Z with gb := gb }) hK ((E2 m em).1.gb hgb) hact hr hgd)) sa_nil rfl) rfl) rfl)) (sn 4 hN) rfl rfl rfl)
  (ssl_cons (ss_xpr (se_me (m := .append) hK (k_append) (sl 4) (sa_cons (se_tellD (F := c_zq8) (k := 1) (a := "_law_call") (Ng := nn0) hgb (by rfl) E.d_zq8 (fun f fd D => D.bindsN fun _ _ _ _ _ _ us hl => match us, hl with | [_], _ => rfl) ⟨rfl, rfl, rfl, by decide +kernel, rfl, by decide +kernel, by decide +kernel⟩ rfl (by trivial) rfl rfl rfl (by rfl) htab hr hgd tk (LamX.lamS_by (by first | (show LamX.lamSB (defScope (top 21)) _ = true; decide +kernel) | rfl)) rfl (fun _ _ _ _ _ => rfl) (fun m em A outer s H Ek f c' hr hgd tk hu65 => (have E := (E2 m em).2; have hu64 := Nat.lt_of_le_of_lt (Nat.add_le_add_left (show 64 <= 65 by decide) _) hu65; have hu1 := Nat.lt_of_le_of_lt (Nat.add_le_add_left (show 1 <= 65 by decide) _) hu65; (se_callCK0 (Bs := [.loc 0]) E.K_check_graph_0 hr hgd tk (by rfl) (sk_cons (sl 0) sk_nil)))) (fun m em g cdv s H Ek gb act hact hr => bd_zq8 (Z := { Z with gb := gb }) hK ((E2 m em).1.gb hgb) hact hr hgd)) sa_nil rfl)) rfl)
  (ssl_cons (ss_ret (se_and (se_cmp1 (op := .eq) hK hu65 (se_bi (b := .reprE) (fun _ => bi_reprE hK E.sm hgd hu64) (by rfl) E.f_repr (by decide +kernel) (sa_cons (sl 4) sa_nil rfl)) (se_bi (b := .reprE) (fun _ => bi_reprE hK E.sm hgd hu64) (by rfl) E.f_repr (by decide +kernel) (sa_cons (se_lst (sa_cons (se_cmp1 (op := .isN) hK hu65 (sl 1) se_non) (sa_cons (se_cmp1 (op := .isN) hK hu65 (sl 1) se_non) (sa_cons (sl 3) (sa_cons (sl 3) sa_nil rfl) rfl) rfl) rfl)) sa_nil rfl))) (se_one (se_cmp1 (op := .eq) hK hu65 (se_bi (b := .reprE) (fun _ => bi_reprE hK E.sm hgd hu64) (by rfl) E.f_repr (by decide +kernel) (sa_cons (sl 0) sa_nil rfl)) (sl 2)))))
  ssl_nil)))))
theorem bd_zq13 : bdS w K mg base Z n cdv A outer s H Ek fa nn13 "_law_limits_right" 22 c_zq13.body := by
  refine bdP (by decide +kernel) fun hr hgd hu65 hu64 hu1 hN tk hp => ?_
  exact (ssl_cons (ss_asg (se_lst (sa_cons (se_tup sa_nil) (sa_cons (se_bin (op := .mul) hK (se_tup (sa_cons (se_tup sa_nil) sa_nil rfl)) se_int) (sa_cons (se_bin (op := .mul) hK (se_tup (sa_cons (se_tup sa_nil) sa_nil rfl)) se_int) (sa_cons (se_tup (sa_cons (se_trng1 rfl (by rfl) E.f_tuple (by rfl) E.f_range se_int rfl rfl) sa_nil rfl)) (sa_cons (se_tup (sa_cons (se_trng1 rfl (by rfl) E.f_tuple (by rfl) E.f_range se_int rfl rfl) sa_nil rfl)) (sa_cons (se_bin (op := .add) hK (se_bin (op := .mul) hK (se_tup (sa_cons (se_tup sa_nil) sa_nil rfl)) se_int) (se_tup (sa_cons (se_trng1 rfl (by rfl) E.f_tuple (by rfl) E.f_range se_int rfl rfl) sa_nil rfl))) sa_nil rfl) rfl) rfl) rfl) rfl) rfl)) (sn 0 hN) rfl rfl rfl)
  (ssl_cons (ss_asg (se_bin (op := .add) hK (sl 0) (se_lst (sa_cons (se_bin (op := .add) hK (se_bin (op := .mul) hK (se_tup (sa_cons (se_tup sa_nil) sa_nil rfl)) se_int) (se_tup (sa_cons (se_trng1 rfl (by rfl) E.f_tuple (by rfl) E.f_range se_int rfl rfl) sa_nil rfl))) (sa_cons (se_tup (sa_cons (se_trng1 rfl (by rfl) E.f_tuple (by rfl) E.f_range se_int rfl rfl) sa_nil rfl)) (sa_cons (se_bt (b := .tuple) (fun _ => bi_tuple hK) (by rfl) E.f_tuple (by decide +kernel) (sa_cons (se_lc (own := [("_law_k", 1)]) rfl hN (by first | (show blkC nn13 (defScope (top 22)) _ _ = true; decide +kernel) | rfl) (by decide +kernel) (si_rng1 (by rfl) E.f_range se_int rfl) (fun _ _ _ _ _ => (sn 1 hN)) (fun _ _ _ _ _ => sts_nil) (fun _ _ _ _ _ => (se_tup (sa_cons (sl 1) sa_nil rfl)))) sa_nil rfl)) sa_nil rfl) rfl) rfl))) (sn 0 hN) rfl rfl rfl)
  (ssl_cons (ss_ret (se_cmp1 (op := .eq) hK hu65 (se_lc (own := [("_law_thing", 2)]) rfl hN (by first | (show blkC nn13 (defScope (top 22)) _ _ = true; decide +kernel) | rfl) (by decide +kernel) (si_val hK (sl 0)) (fun _ _ _ _ _ => (sn 2 hN)) (fun _ _ _ _ _ => (sts_one (st_not (st_val (se_callC E.C_zq12 hr hgd tkF (by rfl) (sa_cons (sl 2) sa_nil rfl)) (fun _ => rfl) hK)))) (fun _ _ _ _ _ => (sl 2))) (se_lst sa_nil)))
  ssl_nil)))
theorem bd_law : bdS w K mg base Z n cdv A outer s H Ek fa nn14 "law" 23 c_law.body := by
  refine bdP (by decide +kernel) fun hr hgd hu65 hu64 hu1 hN tk hp => ?_
  exact (ssl_cons (ss_for hp rfl (si_rng1 (by rfl) E.f_range (se_bi (b := .max2) (fun _ => bi_max2 rfl) (by rfl) E.f_max (by decide +kernel) (sa_cons se_int (sa_cons (se_bi (b := .min2) (fun _ => bi_min2 rfl) (by rfl) E.f_min (by decide +kernel) (sa_cons se_int (sa_cons (se_bi (b := .len) (fun _ => bi_len hK) (by rfl) E.f_len (by decide +kernel) (sa_cons (sl 0) sa_nil rfl)) sa_nil rfl) rfl)) sa_nil rfl) rfl)) rfl) (sn 1 hN) (ssl_cons (ss_asg (se_callC E.C_zq4 hr hgd tk (by rfl) (sa_cons (sl 0) (sa_cons (sl 1) sa_nil rfl) rfl)) (sn 2 hN) rfl rfl rfl)
  (ssl_cons (ss_asg (se_callC E.C_zq7 hr hgd tk (by rfl) (sa_cons (sl 2) (sa_cons se_int (sa_cons se_int sa_nil rfl) rfl) rfl)) (sn 3 hN) rfl rfl rfl)
  (ssl_cons (ss_asg (se_callC E.C_zq10 hr hgd tk (by rfl) (sa_cons (sl 2) (sa_cons (sl 3) sa_nil rfl) rfl)) (sn 4 hN) rfl rfl rfl)
  (ssl_cons (ss_asg (se_lst (sa_cons (sl 3) (sa_cons (sl 4) (sa_cons (se_callC E.C_zq10 hr hgd tk (by rfl) (sa_cons (sl 2) (sa_cons (sl 3) sa_nil rfl) rfl)) sa_nil rfl) rfl) rfl)) (sn 5 hN) rfl rfl rfl)
  (ssl_cons (ss_if (st_w (sw_and (st_val (se_isT (t := "tuple") hK okT_tuple (by rfl) E.f_isinstance (by rfl) E.f_tuple (by decide +kernel) (sl 4) (by decide) (by rfl) rfl rfl rfl) (fun _ => rfl) hK) (sw_and (st_chn (o1 := .lt) (o2 := .lt) se_int (se_bi (b := .len) (fun _ => bi_len hK) (by rfl) E.f_len (by decide +kernel) (sa_cons (sl 4) sa_nil rfl)) se_int (by rfl)) (sw_and1 (st_eqN hK hu65 (se_lc (own := [("_law_row", 6)]) rfl hN (by first | (show blkC nn14 (defScope (top 23)) _ _ = true; decide +kernel) | rfl) (by decide +kernel) (si_val hK (sl 4)) (fun _ _ _ _ _ => (sn 6 hN)) (fun _ _ _ _ _ => (sts_one (st_not (st_val (se_isT (t := "tuple") hK okT_tuple (by rfl) E.f_isinstance (by rfl) E.f_tuple (by decide +kernel) (sl 6) (by decide) (by rfl) rfl rfl rfl) (fun _ => rfl) hK)))) (fun _ _ _ _ _ => (sl 6))) (se_lst sa_nil)))))) (ssl_cons (ss_xpr (se_me (m := .append) hK (k_append) (sl 5) (sa_cons (se_callC E.C_zq10 hr hgd tk (by rfl) (sa_cons (sl 2) (sa_cons (sl 4) sa_nil rfl) rfl)) sa_nil rfl)) rfl)
  ssl_nil) ssl_nil)
  (ssl_cons (ss_if (st_cmp1 (op := .ne) hK hu65 (se_lc (own := [("_law_thing", 7)]) rfl hN (by first | (show blkC nn14 (defScope (top 23)) _ _ = true; decide +kernel) | rfl) (by decide +kernel) (si_val hK (sl 5)) (fun _ _ _ _ _ => (sn 7 hN)) (fun _ _ _ _ _ => (sts_one (st_not (st_val (se_callC E.C_zq12 hr hgd tkF (by rfl) (sa_cons (sl 7) sa_nil rfl)) (fun _ => rfl) hK)))) (fun _ _ _ _ _ => (sl 7))) (se_lst sa_nil)) (ssl_cons (ss_ret se_bl)
  ssl_nil) ssl_nil)
  ssl_nil)))))) (fun _ => rfl))
  (ssl_cons (ss_ret (se_callC0 E.C_zq13 hr hgd tk (by rfl)))
  ssl_nil))
end
structure Wf (w : World) (K : PySem.W.Frag) (mg : Str -> Option Value) (ca : Nat -> Addr) : Prop where
  z_ : ∀ c, ca (c + 4) = ca 0
  e_InvalidValue : ExF K mg "InvalidValue" (ca Kx.InvalidValue)
  e_InvalidState : ExF K mg "InvalidState" (ca Kx.InvalidState)
  e_LimitReached : ExF K mg "LimitReached" (ca Kx.LimitReached)
  o_BadGraph : OxW K mg "BadGraph" "place" "BadGraph.__init__" (mth 4 0) (ca Kx.BadGraph)
  x_BadGraph : XfC K (ca Kx.BadGraph)
  ic : ∀ c, ExcC K (ca c)
  sm : SmF K
  m_InvalidValue : ∀ c, PySem.W.exmOne K (.ref (ca c)) (.ref (ca Kx.InvalidValue)) = some (ancF c Kx.InvalidValue)
  m_InvalidState : ∀ c, PySem.W.exmOne K (.ref (ca c)) (.ref (ca Kx.InvalidState)) = some (ancF c Kx.InvalidState)
  m_LimitReached : ∀ c, PySem.W.exmOne K (.ref (ca c)) (.ref (ca Kx.LimitReached)) = some (ancF c Kx.LimitReached)
  m_BadGraph : ∀ c, PySem.W.exmOne K (.ref (ca c)) (.ref (ca Kx.BadGraph)) = some (ancF c Kx.BadGraph)
  f_all : mg "all" = none
  f_bool : mg "bool" = none
  f_int : mg "int" = none
  f_isinstance : mg "isinstance" = none
  f_len : mg "len" = none
  f_list : mg "list" = none
  f_max : mg "max" = none
  f_min : mg "min" = none
  f_range : mg "range" = none
  f_repr : mg "repr" = none
  f_sorted : mg "sorted" = none
  f_sum : mg "sum" = none
  f_tuple : mg "tuple" = none
  q_MAX_EDGES : ∃ t, mg "MAX_EDGES" = some (.int 120 t)
  q_MAX_NODES : ∃ t, mg "MAX_NODES" = some (.int 60 t)
  d_zq0 : ∃ f fd, FunD K "is_index" "is_index" (defArgs (top 8)) (defBody (top 8)) (defScope (top 8)) [] [] f fd /\ mg "is_index" = some (.ref f)
  d_zq1 : ∃ f fd, FunD K "graph_fault" "graph_fault" (defArgs (top 9)) (defBody (top 9)) (defScope (top 9)) [] [] f fd /\ mg "graph_fault" = some (.ref f)
  d_zq2 : ∃ f fd, FunD K "is_graph" "is_graph" (defArgs (top 10)) (defBody (top 10)) (defScope (top 10)) [] [] f fd /\ mg "is_graph" = some (.ref f)
  d_zq3 : ∃ f fd, FunD K "check_graph" "check_graph" (defArgs (top 11)) (defBody (top 11)) (defScope (top 11)) [] [] f fd /\ mg "check_graph" = some (.ref f)
  d_zq4 : ∃ f fd, FunD K "_law_source" "_law_source" (defArgs (top 13)) (defBody (top 13)) (defScope (top 13)) [] [] f fd /\ mg "_law_source" = some (.ref f)
  d_zq5 : ∃ f fd, FunD K "_law_next" "_law_next" (defArgs (top 14)) (defBody (top 14)) (defScope (top 14)) [] [] f fd /\ mg "_law_next" = some (.ref f)
  d_zq6 : ∃ f fd, FunD K "_law_mixed" "_law_mixed" (defArgs (top 15)) (defBody (top 15)) (defScope (top 15)) [] [] f fd /\ mg "_law_mixed" = some (.ref f)
  d_zq7 : ∃ f fd, FunD K "_law_any_graph" "_law_any_graph" (defArgs (top 16)) (defBody (top 16)) (defScope (top 16)) [] [] f fd /\ mg "_law_any_graph" = some (.ref f)
  d_zq8 : ∃ f fd, FunD K "_law_told" "_law_told" (defArgs (top 17)) (defBody (top 17)) (defScope (top 17)) [] [] f fd /\ mg "_law_told" = some (.ref f)
  d_zq9 : ∃ f fd, FunD K "_law_fault" "_law_fault" (defArgs (top 18)) (defBody (top 18)) (defScope (top 18)) [] [] f fd /\ mg "_law_fault" = some (.ref f)
  d_zq10 : ∃ f fd, FunD K "_law_bent" "_law_bent" (defArgs (top 19)) (defBody (top 19)) (defScope (top 19)) [] [] f fd /\ mg "_law_bent" = some (.ref f)
  d_zq11 : ∃ f fd, FunD K "_law_kinds" "_law_kinds" (defArgs (top 20)) (defBody (top 20)) (defScope (top 20)) [] [] f fd /\ mg "_law_kinds" = some (.ref f)
  d_zq12 : ∃ f fd, FunD K "_law_right" "_law_right" (defArgs (top 21)) (defBody (top 21)) (defScope (top 21)) [] [] f fd /\ mg "_law_right" = some (.ref f)
  d_zq13 : ∃ f fd, FunD K "_law_limits_right" "_law_limits_right" (defArgs (top 22)) (defBody (top 22)) (defScope (top 22)) [] [] f fd /\ mg "_law_limits_right" = some (.ref f)
  d_law : ∃ f fd, FunD K "law" "law" (defArgs (top 23)) (defBody (top 23)) (defScope (top 23)) [] [] f fd /\ mg "law" = some (.ref f)
theorem cal_of {w : World} {K : PySem.W.Frag} {mg : Str -> Option Value} {base : Heap} {Z : Wc} {n i t : Nat} {x : Str} {N ps : List Str} {F : Fn} {dvs : List V} {us : List Value} (hF : P.fns i = some F) (hN : N.length = F.ns) (hps : ps.length = F.np) (S : FnScope N ps (defScope (top t)))
    (hd : ∃ f fd, FunD K x x (defArgs (top t)) (defBody (top t)) (defScope (top t)) dvs [] f fd /\ mg x = some (.ref f))
    (hb : ∀ f fd, FunD K x x (defArgs (top t)) (defBody (top t)) (defScope (top t)) dvs [] f fd -> Binds K fd ps us)
    (body : ∀ (cdv : Value) (A : Around) (outer : List PySem.Env) (s : Shared) (H : Hp) (Ek : XK) (fa : Addr), Room (n + 2) (A.deeper (envOfC x (defScope (top t)) s.heap.objs.size fa cdv)) -> A.guards = some [] ->
      PSs (cxOf (L2.CX pw w) pw w K mg base N x (defScope (top t)) fa cdv A outer s H Ek) (defBody (top t)) (iL (P.tbl n) Z (fun cls dx _ H' => Ek cls dx H') F.body)) : ∃ f fd, FgOk pw w K mg base (n + 1 + 2) f fd ps (spI Z (call P (n + 1) i) ps.length) /\ mg x = some (.ref f) /\ PySem.W.keepIn K (.ref f) = true /\ Binds K fd ps us := by
  obtain ⟨f, fd, D, hm⟩ := hd
  refine ⟨f, fd, ?_, hm, D.kp, hb f fd D⟩
  obtain ⟨oc, od, dV, kV, doc, pm, an, cdv, ct, osl, rfl, lk, hc, _⟩ := D.ex
  rw [hps]
  exact fg_of lk hc S (fun vs H Q E ⟨hl, _⟩ => by rw [hl, hps]) fun A outer s H vs Q E hr hg h => ⟨_, body cdv A outer s H E f hr hg, enter_ok hF hN h⟩
theorem cal_ofT {w : World} {K : PySem.W.Frag} {mg : Str -> Option Value} {base : Heap} {Z : Wc} {n i t : Nat} {x nm : Str} {N ps : List Str} {F : Fn} {dvs : List V} {us : List Value} (hF : P.fns i = some F) (hN : N.length = F.ns) (hps : ps.length = F.np) (S : FnScope N ps (defScope (top t)))
    (hd : ∃ f fd, FunD K x x (defArgs (top t)) (defBody (top t)) (defScope (top t)) dvs [] f fd /\ mg x = some (.ref f))
    (hb : ∀ f fd, FunD K x x (defArgs (top t)) (defBody (top t)) (defScope (top t)) dvs [] f fd -> Binds K fd ps us) (ht : TbF K mg base Z x nm)
    (body : ∀ (cdv : Value) (A : Around) (outer : List PySem.Env) (s : Shared) (H : Hp) (Ek : XK) (fa : Addr), (∃ c P, cdv = .ref c /\ Z.tb nm = some P /\ LamX.TabB base mg c P) -> Room (n + 2) (A.deeper (envOfC x (defScope (top t)) s.heap.objs.size fa cdv)) -> A.guards = some [] ->
      PSs (cxOf (L2.CX pw w) pw w K mg base N x (defScope (top t)) fa cdv A outer s H Ek) (defBody (top t)) (iL (P.tbl n) Z (fun cls dx _ H' => Ek cls dx H') F.body)) : ∃ f fd, FgOk pw w K mg base (n + 1 + 2) f fd ps (spI Z (call P (n + 1) i) ps.length) /\ mg x = some (.ref f) /\ PySem.W.keepIn K (.ref f) = true /\ Binds K fd ps us := by
  obtain ⟨f, fd, D, hm⟩ := hd
  refine ⟨f, fd, ?_, hm, D.kp, hb f fd D⟩
  obtain ⟨oc, od, dV, kV, doc, pm, an, cdv, ct, osl, rfl, lk, hc, _⟩ := D.ex
  rw [hps]
  exact fg_of lk hc S (fun vs H Q E ⟨hl, _⟩ => by rw [hl, hps]) fun A outer s H vs Q E hr hg h => ⟨_, body cdv A outer s H E f (ht f _ _ _ _ hm lk) hr hg, enter_ok hF hN h⟩
theorem cal_ofK {w : World} {K : PySem.W.Frag} {mg : Str -> Option Value} {base : Heap} {Z : Wc} {n i t nk : Nat} {x : Str} {N ps ks : List Str} {F : Fn} {dvs : List V} (hF : P.fns i = some F) (hN : N.length = F.ns) (hps : ps.length = F.np) (S : FnScope N ps (defScope (top t)))
    (hd : ∃ f fd, FunD K x x (defArgs (top t)) (defBody (top t)) (defScope (top t)) dvs [] f fd /\ mg x = some (.ref f))
    (hb : ∀ f fd, FunD K x x (defArgs (top t)) (defBody (top t)) (defScope (top t)) dvs [] f fd -> KBn K fd ps nk ks (fun us ws => us ++ ws) (fun vs zs => vs ++ zs))
    (body : ∀ (cdv : Value) (A : Around) (outer : List PySem.Env) (s : Shared) (H : Hp) (Ek : XK) (fa : Addr), Room (n + 2) (A.deeper (envOfC x (defScope (top t)) s.heap.objs.size fa cdv)) -> A.guards = some [] ->
      PSs (cxOf (L2.CX pw w) pw w K mg base N x (defScope (top t)) fa cdv A outer s H Ek) (defBody (top t)) (iL (P.tbl n) Z (fun cls dx _ H' => Ek cls dx H') F.body)) : CalK pw w K mg base Z P (n + 1) i x ps nk ks := by
  obtain ⟨f, fd, D, hm⟩ := hd
  refine ⟨f, fd, ?_, hm, D.kp, hb f fd D⟩
  obtain ⟨oc, od, dV, kV, doc, pm, an, cdv, ct, osl, rfl, lk, hc, _⟩ := D.ex
  rw [hps]
  exact fg_of lk hc S (fun vs H Q E ⟨hl, _⟩ => by rw [hl, hps]) fun A outer s H vs Q E hr hg h => ⟨_, body cdv A outer s H E f hr hg, enter_ok hF hN h⟩
theorem ev_zero {w : World} {K : PySem.W.Frag} {mg : Str -> Option Value} {base : Heap} {Z : Wc} (hK : K = Z.K) (hgb : Z.gb = none) (hZ : Z.fl = fldF) (t__law_right : TbF K mg base Z "_law_right" "_law_right.<locals>.<lambda>") (X : Wf w K mg Z.ca) : Ev w K mg base Z 0 := {
    e_InvalidValue := X.e_InvalidValue
    l_InvalidValue := (by rw [hZ])
    e_InvalidState := X.e_InvalidState
    l_InvalidState := (by rw [hZ])
    e_LimitReached := X.e_LimitReached
    l_LimitReached := (by rw [hZ])
    o_BadGraph := X.o_BadGraph.ox (ps := ["self", "place"]) (fun fI fd D => ⟨D.bindsN fun _ _ _ _ _ _ us hl => match us, hl with | [_, _], _ => rfl, ini_ok (s := "self") (v := "place") (f := "place") D ⟨rfl, rfl, rfl, by decide +kernel, rfl, by decide +kernel, by decide +kernel⟩ (by trivial) (by trivial) (by decide) (by decide) (by decide) (by decide)⟩)
    x_BadGraph := X.x_BadGraph
    l_BadGraph := (by rw [hZ])
    sm := X.sm
    ic := X.ic
    d_zq8 := X.d_zq8
    m_InvalidValue := X.m_InvalidValue
    m_InvalidState := X.m_InvalidState
    m_LimitReached := X.m_LimitReached
    m_BadGraph := X.m_BadGraph
    f_all := X.f_all
    f_bool := X.f_bool
    f_int := X.f_int
    f_isinstance := X.f_isinstance
    f_len := X.f_len
    f_list := X.f_list
    f_max := X.f_max
    f_min := X.f_min
    f_range := X.f_range
    f_repr := X.f_repr
    f_sorted := X.f_sorted
    f_sum := X.f_sum
    f_tuple := X.f_tuple
    q_MAX_EDGES := X.q_MAX_EDGES
    q_MAX_NODES := X.q_MAX_NODES
    C_zq0 := (let ⟨f, fd, D, hm⟩ := X.d_zq0; ⟨f, fd, fg_zero rfl, hm, D.kp, D.bindsN fun _ _ _ _ _ _ us hl => match us, hl with | [_, _], _ => rfl⟩)
    C_zq1 := (let ⟨f, fd, D, hm⟩ := X.d_zq1; ⟨f, fd, fg_zero rfl, hm, D.kp, D.bindsN fun _ _ _ _ _ _ us hl => match us, hl with | [_], _ => rfl⟩)
    K_is_graph_0 := (let ⟨f, fd, D, hm⟩ := X.d_zq2; ⟨f, fd, fg_zero rfl, hm, D.kp, FunD.kbN D 0 ["value"] fun _ _ _ _ _ _ us ws hl hw => match us, hl, ws, hw with | [], _, [_], _ => rfl⟩)
    C_zq2 := (let ⟨f, fd, D, hm⟩ := X.d_zq2; ⟨f, fd, fg_zero rfl, hm, D.kp, D.bindsN fun _ _ _ _ _ _ us hl => match us, hl with | [_], _ => rfl⟩)
    K_check_graph_0 := (let ⟨f, fd, D, hm⟩ := X.d_zq3; ⟨f, fd, fg_zero rfl, hm, D.kp, FunD.kbN D 0 ["graph"] fun _ _ _ _ _ _ us ws hl hw => match us, hl, ws, hw with | [], _, [_], _ => rfl⟩)
    C_zq3 := (let ⟨f, fd, D, hm⟩ := X.d_zq3; ⟨f, fd, fg_zero rfl, hm, D.kp, D.bindsN fun _ _ _ _ _ _ us hl => match us, hl with | [_], _ => rfl⟩)
    C_zq4 := (let ⟨f, fd, D, hm⟩ := X.d_zq4; ⟨f, fd, fg_zero rfl, hm, D.kp, D.bindsN fun _ _ _ _ _ _ us hl => match us, hl with | [_, _], _ => rfl⟩)
    C_zq5 := (let ⟨f, fd, D, hm⟩ := X.d_zq5; ⟨f, fd, fg_zero rfl, hm, D.kp, D.bindsN fun _ _ _ _ _ _ us hl => match us, hl with | [_, _], _ => rfl⟩)
    C_zq6 := (let ⟨f, fd, D, hm⟩ := X.d_zq6; ⟨f, fd, fg_zero rfl, hm, D.kp, D.bindsN fun _ _ _ _ _ _ us hl => match us, hl with | [_, _], _ => rfl⟩)
    C_zq7 := (let ⟨f, fd, D, hm⟩ := X.d_zq7; ⟨f, fd, fg_zero rfl, hm, D.kp, D.bindsN fun _ _ _ _ _ _ us hl => match us, hl with | [_, _, _], _ => rfl⟩)
    C_zq9 := (let ⟨f, fd, D, hm⟩ := X.d_zq9; ⟨f, fd, fg_zero rfl, hm, D.kp, D.bindsN fun _ _ _ _ _ _ us hl => match us, hl with | [_], _ => rfl⟩)
    C_zq10 := (let ⟨f, fd, D, hm⟩ := X.d_zq10; ⟨f, fd, fg_zero rfl, hm, D.kp, D.bindsN fun _ _ _ _ _ _ us hl => match us, hl with | [_, _], _ => rfl⟩)
    C_zq11 := (let ⟨f, fd, D, hm⟩ := X.d_zq11; ⟨f, fd, fg_zero rfl, hm, D.kp, D.bindsN fun _ _ _ _ _ _ us hl => match us, hl with | [_], _ => rfl⟩)
    C_zq12 := (let ⟨f, fd, D, hm⟩ := X.d_zq12; ⟨f, fd, fg_zero rfl, hm, D.kp, D.bindsN fun _ _ _ _ _ _ us hl => match us, hl with | [_], _ => rfl⟩)
    C_zq13 := (let ⟨f, fd, D, hm⟩ := X.d_zq13; ⟨f, fd, fg_zero rfl, hm, D.kp, D.bindsN fun _ _ _ _ _ _ us hl => match us, hl with | [], _ => rfl⟩)
    C_law := (let ⟨f, fd, D, hm⟩ := X.d_law; ⟨f, fd, fg_zero rfl, hm, D.kp, D.bindsN fun _ _ _ _ _ _ us hl => match us, hl with | [_], _ => rfl⟩) }
theorem ev_step {w : World} {K : PySem.W.Frag} {mg : Str -> Option Value} {base : Heap} {Z : Wc} (hK : K = Z.K) (hgb : Z.gb = none) (hZ : Z.fl = fldF) (t__law_right : TbF K mg base Z "_law_right" "_law_right.<locals>.<lambda>") (X : Wf w K mg Z.ca) {n : Nat} (E : Ev w K mg base Z n) (E2 : ∀ m, n = m + 2 -> Ev w K mg base Z (m + 1) /\ Ev w K mg base Z m) : Ev w K mg base Z (n + 1) := {
    e_InvalidValue := X.e_InvalidValue
    l_InvalidValue := (by rw [hZ])
    e_InvalidState := X.e_InvalidState
    l_InvalidState := (by rw [hZ])
    e_LimitReached := X.e_LimitReached
    l_LimitReached := (by rw [hZ])
    o_BadGraph := X.o_BadGraph.ox (ps := ["self", "place"]) (fun fI fd D => ⟨D.bindsN fun _ _ _ _ _ _ us hl => match us, hl with | [_, _], _ => rfl, ini_ok (s := "self") (v := "place") (f := "place") D ⟨rfl, rfl, rfl, by decide +kernel, rfl, by decide +kernel, by decide +kernel⟩ (by trivial) (by trivial) (by decide) (by decide) (by decide) (by decide)⟩)
    x_BadGraph := X.x_BadGraph
    l_BadGraph := (by rw [hZ])
    sm := X.sm
    ic := X.ic
    d_zq8 := X.d_zq8
    m_InvalidValue := X.m_InvalidValue
    m_InvalidState := X.m_InvalidState
    m_LimitReached := X.m_LimitReached
    m_BadGraph := X.m_BadGraph
    f_all := X.f_all
    f_bool := X.f_bool
    f_int := X.f_int
    f_isinstance := X.f_isinstance
    f_len := X.f_len
    f_list := X.f_list
    f_max := X.f_max
    f_min := X.f_min
    f_range := X.f_range
    f_repr := X.f_repr
    f_sorted := X.f_sorted
    f_sum := X.f_sum
    f_tuple := X.f_tuple
    q_MAX_EDGES := X.q_MAX_EDGES
    q_MAX_NODES := X.q_MAX_NODES
    C_zq0 := cal_of (N := nn1) (F := c_zq0) rfl rfl rfl ⟨rfl, rfl, rfl, by decide +kernel, rfl, by decide +kernel, by decide +kernel⟩ X.d_zq0 (fun f fd D => D.bindsN fun _ _ _ _ _ _ us hl => match us, hl with | [_, _], _ => rfl) (fun _ _ _ _ _ _ _ hr hg => bd_zq0 hK hgb E hr hg)
    C_zq1 := cal_of (N := nn2) (F := c_zq1) rfl rfl rfl ⟨rfl, rfl, rfl, by decide +kernel, rfl, by decide +kernel, by decide +kernel⟩ X.d_zq1 (fun f fd D => D.bindsN fun _ _ _ _ _ _ us hl => match us, hl with | [_], _ => rfl) (fun _ _ _ _ _ _ _ hr hg => bd_zq1 hK hgb E hr hg)
    K_is_graph_0 := cal_ofK (N := nn3) (F := c_zq2) rfl rfl rfl ⟨rfl, rfl, rfl, by decide +kernel, rfl, by decide +kernel, by decide +kernel⟩ X.d_zq2 (fun f fd D => FunD.kbN D 0 ["value"] fun _ _ _ _ _ _ us ws hl hw => match us, hl, ws, hw with | [], _, [_], _ => rfl) (fun _ _ _ _ _ _ _ hr hg => bd_zq2 hK hgb E hr hg)
    C_zq2 := cal_of (N := nn3) (F := c_zq2) rfl rfl rfl ⟨rfl, rfl, rfl, by decide +kernel, rfl, by decide +kernel, by decide +kernel⟩ X.d_zq2 (fun f fd D => D.bindsN fun _ _ _ _ _ _ us hl => match us, hl with | [_], _ => rfl) (fun _ _ _ _ _ _ _ hr hg => bd_zq2 hK hgb E hr hg)
    K_check_graph_0 := cal_ofK (N := nn4) (F := c_zq3) rfl rfl rfl ⟨rfl, rfl, rfl, by decide +kernel, rfl, by decide +kernel, by decide +kernel⟩ X.d_zq3 (fun f fd D => FunD.kbN D 0 ["graph"] fun _ _ _ _ _ _ us ws hl hw => match us, hl, ws, hw with | [], _, [_], _ => rfl) (fun _ _ _ _ _ _ _ hr hg => bd_zq3 hK hgb E hr hg)
    C_zq3 := cal_of (N := nn4) (F := c_zq3) rfl rfl rfl ⟨rfl, rfl, rfl, by decide +kernel, rfl, by decide +kernel, by decide +kernel⟩ X.d_zq3 (fun f fd D => D.bindsN fun _ _ _ _ _ _ us hl => match us, hl with | [_], _ => rfl) (fun _ _ _ _ _ _ _ hr hg => bd_zq3 hK hgb E hr hg)
    C_zq4 := cal_of (N := nn5) (F := c_zq4) rfl rfl rfl ⟨rfl, rfl, rfl, by decide +kernel, rfl, by decide +kernel, by decide +kernel⟩ X.d_zq4 (fun f fd D => D.bindsN fun _ _ _ _ _ _ us hl => match us, hl with | [_, _], _ => rfl) (fun _ _ _ _ _ _ _ hr hg => bd_zq4 hK hgb E hr hg)
    C_zq5 := cal_of (N := nn6) (F := c_zq5) rfl rfl rfl ⟨rfl, rfl, rfl, by decide +kernel, rfl, by decide +kernel, by decide +kernel⟩ X.d_zq5 (fun f fd D => D.bindsN fun _ _ _ _ _ _ us hl => match us, hl with | [_, _], _ => rfl) (fun _ _ _ _ _ _ _ hr hg => bd_zq5 hK hgb E hr hg)
    C_zq6 := cal_of (N := nn7) (F := c_zq6) rfl rfl rfl ⟨rfl, rfl, rfl, by decide +kernel, rfl, by decide +kernel, by decide +kernel⟩ X.d_zq6 (fun f fd D => D.bindsN fun _ _ _ _ _ _ us hl => match us, hl with | [_, _], _ => rfl) (fun _ _ _ _ _ _ _ hr hg => bd_zq6 hK hgb E hr hg)
    C_zq7 := cal_of (N := nn8) (F := c_zq7) rfl rfl rfl ⟨rfl, rfl, rfl, by decide +kernel, rfl, by decide +kernel, by decide +kernel⟩ X.d_zq7 (fun f fd D => D.bindsN fun _ _ _ _ _ _ us hl => match us, hl with | [_, _, _], _ => rfl) (fun _ _ _ _ _ _ _ hr hg => bd_zq7 hK hgb E hr hg)
    C_zq9 := cal_of (N := nn9) (F := c_zq9) rfl rfl rfl ⟨rfl, rfl, rfl, by decide +kernel, rfl, by decide +kernel, by decide +kernel⟩ X.d_zq9 (fun f fd D => D.bindsN fun _ _ _ _ _ _ us hl => match us, hl with | [_], _ => rfl) (fun _ _ _ _ _ _ _ hr hg => bd_zq9 hK hgb E hr hg)
    C_zq10 := cal_of (N := nn10) (F := c_zq10) rfl rfl rfl ⟨rfl, rfl, rfl, by decide +kernel, rfl, by decide +kernel, by decide +kernel⟩ X.d_zq10 (fun f fd D => D.bindsN fun _ _ _ _ _ _ us hl => match us, hl with | [_, _], _ => rfl) (fun _ _ _ _ _ _ _ hr hg => bd_zq10 hK hgb E hr hg)
    C_zq11 := cal_of (N := nn11) (F := c_zq11) rfl rfl rfl ⟨rfl, rfl, rfl, by decide +kernel, rfl, by decide +kernel, by decide +kernel⟩ X.d_zq11 (fun f fd D => D.bindsN fun _ _ _ _ _ _ us hl => match us, hl with | [_], _ => rfl) (fun _ _ _ _ _ _ _ hr hg => bd_zq11 hK hgb E hr hg)
    C_zq12 := cal_ofT (N := nn12) (F := c_zq12) rfl rfl rfl ⟨rfl, rfl, rfl, by decide +kernel, rfl, by decide +kernel, by decide +kernel⟩ X.d_zq12 (fun f fd D => D.bindsN fun _ _ _ _ _ _ us hl => match us, hl with | [_], _ => rfl) t__law_right (fun _ _ _ _ _ _ _ htb hr hg => bd_zq12 hK hgb E (fun m e => E2 m e) htb hr hg)
    C_zq13 := cal_of (N := nn13) (F := c_zq13) rfl rfl rfl ⟨rfl, rfl, rfl, by decide +kernel, rfl, by decide +kernel, by decide +kernel⟩ X.d_zq13 (fun f fd D => D.bindsN fun _ _ _ _ _ _ us hl => match us, hl with | [], _ => rfl) (fun _ _ _ _ _ _ _ hr hg => bd_zq13 hK hgb E hr hg)
    C_law := cal_of (N := nn14) (F := c_law) rfl rfl rfl ⟨rfl, rfl, rfl, by decide +kernel, rfl, by decide +kernel, by decide +kernel⟩ X.d_law (fun f fd D => D.bindsN fun _ _ _ _ _ _ us hl => match us, hl with | [_], _ => rfl) (fun _ _ _ _ _ _ _ hr hg => bd_law hK hgb E hr hg) }
theorem ev_all {w : World} {K : PySem.W.Frag} {mg : Str -> Option Value} {base : Heap} {Z : Wc} (hK : K = Z.K) (hgb : Z.gb = none) (hZ : Z.fl = fldF) (t__law_right : TbF K mg base Z "_law_right" "_law_right.<locals>.<lambda>") (X : Wf w K mg Z.ca) : ∀ n, Ev w K mg base Z n := by
  have h : ∀ n, ∀ m, m <= n -> Ev w K mg base Z m := by
    intro n
    induction n with
    | zero => intro m hm; rw [Nat.le_zero.mp hm]; exact ev_zero hK hgb hZ t__law_right X
    | succ n ih =>
      intro m hm
      rcases Nat.lt_or_ge m (n + 1) with h1 | h1
      · exact ih m (by omega)
      · have : m = n + 1 := by omega
        subst this
        exact ev_step hK hgb hZ t__law_right X (ih n (Nat.le_refl n)) (fun m e => ⟨ih (m + 1) (by omega), ih m (by omega)⟩)
  exact fun n => h n n (Nat.le_refl n)
def caK (K : PySem.W.Frag) : Nat -> Addr
  | 0 => He.ga K "InvalidValue"
  | 1 => He.ga K "InvalidState"
  | 2 => He.ga K "LimitReached"
  | 3 => He.ga K "BadGraph"
  | _ => He.ga K "InvalidValue"
theorem wf_of {w : World} {K : PySem.W.Frag} {h : Heap} {mg : Str -> Option Value} (X : K.In h) (G : h.Ns mainGlobals mg) (c : He.SaysD faL fnL K) (hx : exB xsL K = true) (hi : (icL.all fun x => icB K (He.ga K x)) = true) (hs : smB K = true) : Wf w K mg (caK K) := {
  z_ := (fun _ => rfl)
  e_InvalidValue := (let q := He.exc_ok (c.fact 34 (f := .exc "InvalidValue") rfl); ⟨He.glo_ok X G (c.fact 30 (f := .glo "InvalidValue") rfl), .inl q.1, q.2.1, q.2.2.1, q.2.2.2⟩)
  e_InvalidState := (let q := exB_re hx 1 rfl; ⟨He.glo_ok X G (c.fact 31 (f := .glo "InvalidState") rfl), .inr q.1, q.2.1, q.2.2.1, q.2.2.2⟩)
  e_LimitReached := (let q := exB_re hx 2 rfl; ⟨He.glo_ok X G (c.fact 32 (f := .glo "LimitReached") rfl), .inr q.1, q.2.1, q.2.2.1, q.2.2.2⟩)
  o_BadGraph := oxw_of (He.glo_ok X G (c.fact 33 (f := .glo "BadGraph") rfl)) (exB_ok hx 0 rfl) (c.fact 37 (f := .meth "BadGraph" "__init__") rfl) (c.fact 54 (f := .noat "BadGraph" "place") rfl) (c.def_ 15 (d := ddm "BadGraph" "BadGraph.__init__" (mth 4 0)) rfl)
  x_BadGraph := exB_xf hx 0 rfl
  sm := smB_ok hs
  ic := (fun cc => match cc with | 0 => icB_ok (List.all_eq_true.mp hi "InvalidValue" (by decide)) | 1 => icB_ok (List.all_eq_true.mp hi "InvalidState" (by decide)) | 2 => icB_ok (List.all_eq_true.mp hi "LimitReached" (by decide)) | 3 => icB_ok (List.all_eq_true.mp hi "BadGraph" (by decide)) | _ + 4 => icB_ok (List.all_eq_true.mp hi "InvalidValue" (by decide)))
  m_InvalidValue := (fun cc => match cc with | 0 => He.exm_ok (c.fact 38 (f := .exm "InvalidValue" "InvalidValue" true) rfl) | 1 => He.exm_ok (c.fact 42 (f := .exm "InvalidState" "InvalidValue" false) rfl) | 2 => He.exm_ok (c.fact 46 (f := .exm "LimitReached" "InvalidValue" false) rfl) | 3 => He.exm_ok (c.fact 50 (f := .exm "BadGraph" "InvalidValue" true) rfl) | _ + 4 => He.exm_ok (c.fact 38 (f := .exm "InvalidValue" "InvalidValue" true) rfl))
  m_InvalidState := (fun cc => match cc with | 0 => He.exm_ok (c.fact 39 (f := .exm "InvalidValue" "InvalidState" false) rfl) | 1 => He.exm_ok (c.fact 43 (f := .exm "InvalidState" "InvalidState" true) rfl) | 2 => He.exm_ok (c.fact 47 (f := .exm "LimitReached" "InvalidState" false) rfl) | 3 => He.exm_ok (c.fact 51 (f := .exm "BadGraph" "InvalidState" false) rfl) | _ + 4 => He.exm_ok (c.fact 39 (f := .exm "InvalidValue" "InvalidState" false) rfl))
  m_LimitReached := (fun cc => match cc with | 0 => He.exm_ok (c.fact 40 (f := .exm "InvalidValue" "LimitReached" false) rfl) | 1 => He.exm_ok (c.fact 44 (f := .exm "InvalidState" "LimitReached" false) rfl) | 2 => He.exm_ok (c.fact 48 (f := .exm "LimitReached" "LimitReached" true) rfl) | 3 => He.exm_ok (c.fact 52 (f := .exm "BadGraph" "LimitReached" false) rfl) | _ + 4 => He.exm_ok (c.fact 40 (f := .exm "InvalidValue" "LimitReached" false) rfl))
  m_BadGraph := (fun cc => match cc with | 0 => He.exm_ok (c.fact 41 (f := .exm "InvalidValue" "BadGraph" false) rfl) | 1 => He.exm_ok (c.fact 45 (f := .exm "InvalidState" "BadGraph" false) rfl) | 2 => He.exm_ok (c.fact 49 (f := .exm "LimitReached" "BadGraph" false) rfl) | 3 => He.exm_ok (c.fact 53 (f := .exm "BadGraph" "BadGraph" true) rfl) | _ + 4 => He.exm_ok (c.fact 41 (f := .exm "InvalidValue" "BadGraph" false) rfl))
  f_all := He.free_ok X G (c.fact 15 (f := .free "all") rfl)
  f_bool := He.free_ok X G (c.fact 16 (f := .free "bool") rfl)
  f_int := He.free_ok X G (c.fact 17 (f := .free "int") rfl)
  f_isinstance := He.free_ok X G (c.fact 18 (f := .free "isinstance") rfl)
  f_len := He.free_ok X G (c.fact 19 (f := .free "len") rfl)
  f_list := He.free_ok X G (c.fact 20 (f := .free "list") rfl)
  f_max := He.free_ok X G (c.fact 21 (f := .free "max") rfl)
  f_min := He.free_ok X G (c.fact 22 (f := .free "min") rfl)
  f_range := He.free_ok X G (c.fact 23 (f := .free "range") rfl)
  f_repr := He.free_ok X G (c.fact 24 (f := .free "repr") rfl)
  f_sorted := He.free_ok X G (c.fact 25 (f := .free "sorted") rfl)
  f_sum := He.free_ok X G (c.fact 26 (f := .free "sum") rfl)
  f_tuple := He.free_ok X G (c.fact 27 (f := .free "tuple") rfl)
  q_MAX_EDGES := He.int_ok X G (c.fact 28 (f := .int "MAX_EDGES" 120) rfl)
  q_MAX_NODES := He.int_ok X G (c.fact 29 (f := .int "MAX_NODES" 60) rfl)
  d_zq0 := (let ⟨fd, F⟩ := c.def_ 0 (d := dd "is_index" 8) rfl; ⟨_, fd, F, He.glo_ok X G (c.fact 0 (f := .glo "is_index") rfl)⟩)
  d_zq1 := (let ⟨fd, F⟩ := c.def_ 1 (d := dd "graph_fault" 9) rfl; ⟨_, fd, F, He.glo_ok X G (c.fact 1 (f := .glo "graph_fault") rfl)⟩)
  d_zq2 := (let ⟨fd, F⟩ := c.def_ 2 (d := dd "is_graph" 10) rfl; ⟨_, fd, F, He.glo_ok X G (c.fact 2 (f := .glo "is_graph") rfl)⟩)
  d_zq3 := (let ⟨fd, F⟩ := c.def_ 3 (d := dd "check_graph" 11) rfl; ⟨_, fd, F, He.glo_ok X G (c.fact 3 (f := .glo "check_graph") rfl)⟩)
  d_zq4 := (let ⟨fd, F⟩ := c.def_ 4 (d := dd "_law_source" 13) rfl; ⟨_, fd, F, He.glo_ok X G (c.fact 4 (f := .glo "_law_source") rfl)⟩)
  d_zq5 := (let ⟨fd, F⟩ := c.def_ 5 (d := dd "_law_next" 14) rfl; ⟨_, fd, F, He.glo_ok X G (c.fact 5 (f := .glo "_law_next") rfl)⟩)
  d_zq6 := (let ⟨fd, F⟩ := c.def_ 6 (d := dd "_law_mixed" 15) rfl; ⟨_, fd, F, He.glo_ok X G (c.fact 6 (f := .glo "_law_mixed") rfl)⟩)
  d_zq7 := (let ⟨fd, F⟩ := c.def_ 7 (d := dd "_law_any_graph" 16) rfl; ⟨_, fd, F, He.glo_ok X G (c.fact 7 (f := .glo "_law_any_graph") rfl)⟩)
  d_zq8 := (let ⟨fd, F⟩ := c.def_ 8 (d := dd "_law_told" 17) rfl; ⟨_, fd, F, He.glo_ok X G (c.fact 8 (f := .glo "_law_told") rfl)⟩)
  d_zq9 := (let ⟨fd, F⟩ := c.def_ 9 (d := dd "_law_fault" 18) rfl; ⟨_, fd, F, He.glo_ok X G (c.fact 9 (f := .glo "_law_fault") rfl)⟩)
  d_zq10 := (let ⟨fd, F⟩ := c.def_ 10 (d := dd "_law_bent" 19) rfl; ⟨_, fd, F, He.glo_ok X G (c.fact 10 (f := .glo "_law_bent") rfl)⟩)
  d_zq11 := (let ⟨fd, F⟩ := c.def_ 11 (d := dd "_law_kinds" 20) rfl; ⟨_, fd, F, He.glo_ok X G (c.fact 11 (f := .glo "_law_kinds") rfl)⟩)
  d_zq12 := (let ⟨fd, F⟩ := c.def_ 12 (d := dd "_law_right" 21) rfl; ⟨_, fd, F, He.glo_ok X G (c.fact 12 (f := .glo "_law_right") rfl)⟩)
  d_zq13 := (let ⟨fd, F⟩ := c.def_ 13 (d := dd "_law_limits_right" 22) rfl; ⟨_, fd, F, He.glo_ok X G (c.fact 13 (f := .glo "_law_limits_right") rfl)⟩)
  d_law := (let ⟨fd, F⟩ := c.def_ 14 (d := dd "law" 23) rfl; ⟨_, fd, F, He.glo_ok X G (c.fact 14 (f := .glo "law") rfl)⟩) }
end Fs
namespace Fs
open PySem
section
variable {α β : Type}
def wr (r : R α) (Q : α -> Sto -> Prop) (E : D -> Sto -> Prop) : Prop := match r with
  | .ok a s' => Q a s'
  | .exc e s' => E e s'
  | .bad => False
structure wp (m : M α) (s : Sto) (Q : α -> Sto -> Prop) (E : D -> Sto -> Prop) : Prop where
  run : wr (m s) Q E
theorem wp_def {m : M α} {s : Sto} {Q : α -> Sto -> Prop} {E : D -> Sto -> Prop} : wp m s Q E = wr (m s) Q E := propext ⟨fun h => h.run, fun h => ⟨h⟩⟩
def wb (k : Bool) (A B : Prop) : Prop := match k with
  | true => A
  | false => B
def og (o : Option α) (f : α -> Prop) : Prop := match o with
  | some a => f a
  | none => False
theorem wb_t {A B : Prop} : wb true A B = A := propext Iff.rfl
theorem wb_f {A B : Prop} : wb false A B = B := propext Iff.rfl
theorem og_s {a : α} {f : α -> Prop} : og (some a) f = f a := propext Iff.rfl
theorem wb_of {k : Bool} {A B : Prop} (h1 : k = true -> A) (h2 : k = false -> B) : wb k A B := by
  cases k
  · exact h2 rfl
  · exact h1 rfl
theorem wr_ok {a : α} {s : Sto} {Q : α -> Sto -> Prop} {E : D -> Sto -> Prop} : wr (.ok a s) Q E = Q a s := propext Iff.rfl
theorem wr_exc {a : D} {s : Sto} {Q : α -> Sto -> Prop} {E : D -> Sto -> Prop} : wr (.exc a s) Q E = E a s := propext Iff.rfl
theorem wp_of {m : M α} {s : Sto} {Q Q' : α -> Sto -> Prop} {E E' : D -> Sto -> Prop} (h : wp m s Q E) (hq : ∀ a s', Q a s' -> Q' a s') (he : ∀ a s', E a s' -> E' a s') : wp m s Q' E' := by
  rw [wp_def] at *
  unfold wr at *
  cases e : m s with
  | ok a s' => rw [e] at h; exact hq _ _ h
  | exc a s' => rw [e] at h; exact he _ _ h
  | bad => rw [e] at h; exact h
theorem wp_q {m : M α} {s : Sto} {Q Q' : α -> Sto -> Prop} {E : D -> Sto -> Prop} (h : ∀ a s', Q a s' = Q' a s') : wp m s Q E = wp m s Q' E := by
  have : Q = Q' := funext fun a => funext fun s' => h a s'
  rw [this]
theorem og_q {o : Option α} {f g : α -> Prop} (h : ∀ a, f a = g a) : og o f = og o g := by
  have : f = g := funext h
  rw [this]
abbrev NX : D -> Sto -> Prop := fun _ _ => False
theorem wp_nx {m : M α} {s : Sto} {Q Q' : α -> Sto -> Prop} {E' : D -> Sto -> Prop} (h : wp m s Q NX) (hq : ∀ a s', Q a s' -> Q' a s') : wp m s Q' E' := wp_of h hq (fun _ _ h => h.elim)
theorem wp_run {m : M α} {s : Sto} {Q : α -> Sto -> Prop} (h : wp m s Q NX) : ∃ a s', m s = .ok a s' /\ Q a s' := by
  rw [wp_def] at h
  unfold wr at h
  cases e : m s with
  | ok a s' => rw [e] at h; exact ⟨a, s', rfl, h⟩
  | exc a s' => rw [e] at h; exact h.elim
  | bad => rw [e] at h; exact h.elim
variable {s : Sto} {E : D -> Sto -> Prop}
theorem wp_ret {a : α} {Q : α -> Sto -> Prop} : wp (ret a) s Q E = Q a s := by rw [wp_def]; exact propext Iff.rfl
theorem wp_bnd {m : M α} {f : α -> M β} {Q : β -> Sto -> Prop} : wp (bnd m f) s Q E = wp m s (fun a s' => wp (f a) s' Q E) E := by
  simp only [wp_def, bnd]
  cases m s <;> (first | rfl | (simp only [wp_def] <;> rfl))
theorem wp_opt {o : Option α} {f : α -> M β} {Q : β -> Sto -> Prop} : wp (opt o f) s Q E = og o (fun a => wp (f a) s Q E) := by
  cases o <;> (first | rfl | (simp only [wp_def] <;> rfl))
theorem wp_bndS {m : Sto -> M α} {f : α -> M β} {Q : β -> Sto -> Prop} : wp (fun st => bnd (m st) f st) s Q E = wp (m s) s (fun a s' => wp (f a) s' Q E) E := by
  rw [wp_def]
  show wr (bnd (m s) f s) Q E = _
  simp only [wp_def, bnd]
  cases m s s <;> (first | rfl | (simp only [wp_def] <;> rfl))
theorem wp_optS {o : Sto -> Option α} {f : α -> M β} {Q : β -> Sto -> Prop} : wp (fun st => opt (o st) f st) s Q E = og (o s) (fun a => wp (f a) s Q E) := by
  rw [wp_def]
  show wr (opt (o s) f s) Q E = _
  cases o s <;> (first | rfl | (simp only [wp_def] <;> rfl))
theorem wp_gdS {b : Sto -> Bool} {m : Sto -> M β} {Q : β -> Sto -> Prop} : wp (fun st => gd (b st) (m st) st) s Q E = (b s = true /\ wp (m s) s Q E) := by
  rw [wp_def]
  show wr (gd (b s) (m s) s) Q E = _
  cases b s <;> simp [gd, wp_def, wr, bad]
theorem wp_gd {b : Bool} {m : M α} {Q : α -> Sto -> Prop} : wp (gd b m) s Q E = (b = true /\ wp m s Q E) := by
  cases b <;> simp [gd, wp_def, wr, bad]
theorem wp_noX {m : M α} {Q : α -> Sto -> Prop} : wp (noX m) s Q E = wp m s Q NX := by
  simp only [wp_def, noX]
  cases m s <;> (first | rfl | (simp only [wp_def] <;> rfl))
theorem wp_lft {σ : Env} {m : M α} {f : α -> M Fl} {Q : Fl -> Sto -> Prop} : wp (lft σ m f) s Q E = wp m s (fun a s' => wp (f a) s' Q E) (fun e s' => Q (.ex σ e) s') := by
  simp only [wp_def, lft]
  cases m s <;> (first | rfl | (simp only [wp_def] <;> rfl))
def fq (k : Env -> Sto -> Prop) (Q : Fl -> Sto -> Prop) : Fl -> Sto -> Prop := fun f s' => match f with
  | .nx σ => k σ s'
  | f => Q f s'
theorem fq_nx {k : Env -> Sto -> Prop} {Q : Fl -> Sto -> Prop} {σ : Env} : fq k Q (.nx σ) s = k σ s := propext Iff.rfl
theorem fq_rt {k : Env -> Sto -> Prop} {Q : Fl -> Sto -> Prop} {d : D} : fq k Q (.rt d) s = Q (.rt d) s := propext Iff.rfl
theorem fq_br {k : Env -> Sto -> Prop} {Q : Fl -> Sto -> Prop} {d : Env} : fq k Q (.br d) s = Q (.br d) s := propext Iff.rfl
theorem fq_ct {k : Env -> Sto -> Prop} {Q : Fl -> Sto -> Prop} {d : Env} : fq k Q (.ct d) s = Q (.ct d) s := propext Iff.rfl
theorem fq_ex {k : Env -> Sto -> Prop} {Q : Fl -> Sto -> Prop} {d : Env} {e : D} : fq k Q (.ex d e) s = Q (.ex d e) s := propext Iff.rfl
theorem wp_seqF {m : M Fl} {k : Env -> M Fl} {Q : Fl -> Sto -> Prop} (hE : E = NX) : wp (seqF m k) s Q E = wp m s (fq (fun σ s' => wp (k σ) s' Q E) Q) E := by
  subst hE
  simp only [wp_def, seqF]
  cases m s with
  | ok f s' => cases f <;> (first | rfl | (simp only [wp_def] <;> rfl))
  | exc => first | rfl | (simp only [wp_def] <;> rfl)
  | bad => first | rfl | (simp only [wp_def] <;> rfl)
end
section
variable {T : Tbl} {σ : Env} {s : Sto} {E : D -> Sto -> Prop} {Q : D -> Sto -> Prop} {QB : Bool -> Sto -> Prop} {QF : Fl -> Sto -> Prop}
def lk (o : Option (Option D)) (f : D -> Prop) : Prop := match o with
  | some (some d) => f d
  | _ => False
theorem lk_s {d : D} {f : D -> Prop} : lk (some (some d)) f = f d := propext Iff.rfl
theorem e_loc {i : Nat} : wp (ev T (.loc i) σ) s Q E = lk σ[i]? (fun d => Q d s) := by
  simp only [ev]
  cases σ[i]? with
  | none => first | rfl | (simp only [wp_def] <;> rfl)
  | some o => cases o <;> (first | rfl | (simp only [wp_def] <;> rfl))
theorem e_con {d : D} : wp (ev T (.con d) σ) s Q E = Q d s := by simp only [ev, wp_ret]
theorem e_bin {op : Bop} {a b : Ex} : wp (ev T (.bin op a b) σ) s Q E = wp (ev T a σ) s (fun x s => wp (ev T b σ) s (fun y s => wp (binD op x y) s Q E) E) E := by
  simp only [ev, wp_bnd]
theorem e_neg {a : Ex} : wp (ev T (.neg a) σ) s Q E = wp (ev T a σ) s (fun x s => og (intv x) fun i => Q (.int (-i)) s) E := by
  simp only [ev, wp_bnd, wp_opt, wp_ret]
theorem e_nt {a : Cn} : wp (ev T (.nt a) σ) s Q E = wp (evT T a σ) s (fun c s => Q (.bl (!c)) s) E := by
  simp only [ev, wp_bnd, wp_ret]
theorem wp_st {f : Sto -> M D} : wp (fun st => f st st) s Q E = wp (f s) s Q E := by rw [wp_def, wp_def]
theorem e_cmp {op : Cop} {a b : Ex} : wp (ev T (.cmp op a b) σ) s Q E = wp (ev T a σ) s (fun x s => wp (ev T b σ) s (fun y s => og (cmpD op x y s) (fun c => Q (.bl c) s)) E) E := by
  simp only [ev, wp_bnd]
  refine wp_q fun x s => wp_q fun y s => ?_
  rw [wp_optS (o := fun st => cmpD op x y st)]
  exact og_q fun c => wp_ret
theorem e_chn {o1 o2 : Cop} {a b c : Ex} : wp (ev T (.chn o1 o2 a b c) σ) s Q E = wp (ev T a σ) s (fun x s => og (intv x) fun i => wp (ev T b σ) s (fun y s => og (intv y) fun j => og (cmpI o1 i j) fun k => wb k (wp (ev T c σ) s (fun z s => og (intv z) fun m => og (cmpI o2 j m) fun r => Q (.bl r) s) E) (Q (.bl false) s)) E) E := by
  simp only [ev, wp_bnd, wp_opt]
  refine wp_q fun x s => og_q fun i => wp_q fun y s => og_q fun j => og_q fun k => ?_
  cases k
  · first | rfl | (simp only [wp_def] <;> rfl)
  · simp only [wb, wp_bnd, wp_opt, wp_ret]
theorem e_and2 {a b : Ex} : wp (ev T (.and2 a b) σ) s Q E = wp (ev T a σ) s (fun x s => og (blv x) fun c => wb c (wp (ev T b σ) s Q E) (Q (.bl false) s)) E := by
  simp only [ev, wp_bnd, wp_opt]
  refine wp_q fun x s => og_q fun k => ?_
  cases k <;> (first | rfl | (simp only [wp_def] <;> rfl))
theorem e_or2 {a b : Ex} : wp (ev T (.or2 a b) σ) s Q E = wp (ev T a σ) s (fun x s => og (blv x) fun c => wb c (Q (.bl true) s) (wp (ev T b σ) s Q E)) E := by
  simp only [ev, wp_bnd, wp_opt]
  refine wp_q fun x s => og_q fun k => ?_
  cases k <;> (first | rfl | (simp only [wp_def] <;> rfl))
theorem e_ife {c : Cn} {a b : Ex} : wp (ev T (.ife c a b) σ) s Q E = wp (evT T c σ) s (fun k s => wb k (wp (ev T a σ) s Q E) (wp (ev T b σ) s Q E)) E := by
  simp only [ev, wp_bnd]
  refine wp_q fun k s => ?_
  cases k <;> (first | rfl | (simp only [wp_def] <;> rfl))
theorem es_nil {Q : List D -> Sto -> Prop} : wp (evs T [] σ) s Q E = Q [] s := by simp only [evs, wp_ret]
theorem es_cons {e : Ex} {es : List Ex} {Q : List D -> Sto -> Prop} : wp (evs T (e :: es) σ) s Q E = wp (ev T e σ) s (fun x s => wp (evs T es σ) s (fun xs s => Q (x :: xs) s) E) E := by
  simp only [evs, wp_bnd, wp_ret]
theorem e_tup {es : List Ex} : wp (ev T (.tup es) σ) s Q E = wp (evs T es σ) s (fun ds s => ds.length <= sizeLine /\ Q (.tup ds) s) E := by
  simp only [ev, wp_bnd, wp_gd, wp_ret, decide_eq_true_eq]
theorem e_lst {es : List Ex} : wp (ev T (.lst es) σ) s Q E = wp (evs T es σ) s (fun ds s => ds.length <= sizeLine /\ Q (.lst ds) s) E := by
  simp only [ev, wp_bnd, wp_gd, wp_ret, decide_eq_true_eq]
theorem e_dct0 : wp (ev T (.dct []) σ) s Q E = Q (.dic []) s := by
  simp only [ev, evkv, wp_bnd, wp_gd, wp_ret, List.foldl, true_and]
theorem e_sub {a i : Ex} : wp (ev T (.sub a i) σ) s Q E = wp (ev T a σ) s (fun x s => wp (ev T i σ) s (fun y s => wp (getI x y) s Q E) E) E := by
  simp only [ev, wp_bnd]
theorem e_slc {a : Ex} {lo hi : Option Ex} : wp (ev T (.slc a lo hi) σ) s Q E = wp (ev T a σ) s (fun x s => wp (evo T lo σ) s (fun l s => wp (evo T hi σ) s (fun h s => wp (slcD x l h) s Q E) E) E) E := by
  simp only [ev, wp_bnd]
theorem eo_n {Q : Option Int -> Sto -> Prop} : wp (evo T none σ) s Q E = Q none s := by simp only [evo, wp_ret]
theorem eo_s {e : Ex} {Q : Option Int -> Sto -> Prop} : wp (evo T (some e) σ) s Q E = wp (ev T e σ) s (fun x s => og (intv x) fun i => Q (some i) s) E := by
  simp only [evo, wp_bnd, wp_opt, wp_ret]
theorem e_rev {a : Ex} : wp (ev T (.rev a) σ) s Q E = wp (ev T a σ) s (fun x s => wp (revD x) s Q E) E := by
  simp only [ev, wp_bnd]
theorem e_call {f : Nat} {es : List Ex} : wp (ev T (.call f es) σ) s Q E = wp (evs T es σ) s (fun ds s => wp (T.fn f ds) s Q E) E := by
  simp only [ev, wp_bnd]
theorem e_bi {b : Bi} {es : List Ex} : wp (ev T (.bi b es) σ) s Q E = wp (evs T es σ) s (fun ds s => wp (biD T b ds) s Q E) E := by
  simp only [ev, wp_bnd]
theorem e_me {m : Me} {o : Ex} {es : List Ex} : wp (ev T (.me m o es) σ) s Q E = wp (ev T o σ) s (fun x s1 => meK m (kndD s1 x) = true /\ wp (evs T es σ) s1 (fun ds s2 => (kndD s1 x == kndD s2 x) = true /\ wp (meD m x ds) s2 Q E) E) E := by
  simp only [ev, wp_bnd]
  refine wp_q fun x s1 => ?_
  rw [wp_gdS (b := fun st1 => meK m (kndD st1 x)) (m := fun st1 => bnd (evs T es σ) fun ds => fun st2 => gd (kndD st1 x == kndD st2 x) (meD m x ds) st2)]
  refine congrArg _ ?_
  rw [wp_bnd]
  refine wp_q fun ds s2 => ?_
  rw [wp_gdS (b := fun st2 => kndD s1 x == kndD st2 x) (m := fun _ => meD m x ds)]
def lcT (T : Tbl) (own : List Nat) (tg : Tg) (ifs : List Cn) (e : Ex) (σ : Env) : D -> M (Option D) := fun d => bnd (asgT T tg d (wipe σ own)) fun σ' => bnd (evTs T ifs σ') fun b => match b with
        | true => bnd (ev T e σ') fun y => ret (some y)
        | false => ret none
theorem e_lc {own : List Nat} {it : Ix} {tg : Tg} {ifs : List Cn} {e : Ex} : wp (ev T (.lc own it tg ifs e) σ) s Q E = wp (evI T it σ) s (fun t s => wp (lcLoop t (lcT T own tg ifs e σ) (t.len s + 1) 0 []) s (fun ys s => Q (.lst ys) s) E) E := by
  simp only [ev, wp_bnd]
  refine wp_q fun t s => ?_
  unfold lcT
  exact Eq.trans (wp_bndS (m := fun st => lcLoop t _ (t.len st + 1) 0 [])) (wp_q fun ys s => wp_ret)
def dcT (T : Tbl) (own : List Nat) (tg : Tg) (ifs : List Cn) (k v : Ex) (σ : Env) : D -> M (Option (Ky × D)) := fun d => bnd (asgT T tg d (wipe σ own)) fun σ' => bnd (evTs T ifs σ') fun b => match b with
        | true => bnd (ev T k σ') fun x => bnd (ev T v σ') fun y => opt (keyOf x) fun q => ret (some (q, y))
        | false => ret none
theorem e_dc {own : List Nat} {it : Ix} {tg : Tg} {ifs : List Cn} {k v : Ex} : wp (ev T (.dc own it tg ifs k v) σ) s Q E = wp (evI T it σ) s (fun t s => wp (dcLoop t (dcT T own tg ifs k v σ) (t.len s + 1) 0 []) s (fun ys s => Q (.dic ys) s) E) E := by
  simp only [ev, wp_bnd]
  refine wp_q fun t s => ?_
  unfold dcT
  exact Eq.trans (wp_bndS (m := fun st => dcLoop t _ (t.len st + 1) 0 [])) (wp_q fun ys s => wp_ret)
theorem w_lcT {own : List Nat} {tg : Tg} {ifs : List Cn} {e : Ex} {d : D} {Q : Option D -> Sto -> Prop} : wp (lcT T own tg ifs e σ d) s Q E = wp (asgT T tg d (wipe σ own)) s (fun σ' s => wp (evTs T ifs σ') s (fun b s => wb b (wp (ev T e σ') s (fun y s => Q (some y) s) E) (Q none s)) E) E := by
  simp only [lcT, wp_bnd]
  refine wp_q fun t s => wp_q fun b s => ?_
  cases b
  · first | rfl | (simp only [wp_def] <;> rfl)
  · simp only [wb, wp_bnd, wp_ret]
theorem w_dcT {own : List Nat} {tg : Tg} {ifs : List Cn} {k v : Ex} {d : D} {Q : Option (Ky × D) -> Sto -> Prop} : wp (dcT T own tg ifs k v σ d) s Q E = wp (asgT T tg d (wipe σ own)) s (fun σ' s => wp (evTs T ifs σ') s (fun b s => wb b (wp (ev T k σ') s (fun x s => wp (ev T v σ') s (fun y s => og (keyOf x) fun q => Q (some (q, y)) s) E) E) (Q none s)) E) E := by
  simp only [dcT, wp_bnd]
  refine wp_q fun t s => wp_q fun b s => ?_
  cases b
  · first | rfl | (simp only [wp_def] <;> rfl)
  · simp only [wb, wp_bnd, wp_opt, wp_ret]
theorem t_nt {a : Cn} : wp (evT T (.nt a) σ) s QB E = wp (evT T a σ) s (fun c s => QB (!c) s) E := by
  simp only [evT, wp_bnd, wp_ret]
theorem t_and2 {a b : Cn} : wp (evT T (.and2 a b) σ) s QB E = wp (evT T a σ) s (fun c s => wb c (wp (evT T b σ) s QB E) (QB false s)) E := by
  simp only [evT, wp_bnd]
  refine wp_q fun x s => ?_
  cases x <;> (first | rfl | (simp only [wp_def] <;> rfl))
theorem t_or2 {a b : Cn} : wp (evT T (.or2 a b) σ) s QB E = wp (evT T a σ) s (fun c s => wb c (QB true s) (wp (evT T b σ) s QB E)) E := by
  simp only [evT, wp_bnd]
  refine wp_q fun x s => ?_
  cases x <;> (first | rfl | (simp only [wp_def] <;> rfl))
theorem t_ife {a b c : Cn} : wp (evT T (.ife c a b) σ) s QB E = wp (evT T c σ) s (fun k s => wb k (wp (evT T a σ) s QB E) (wp (evT T b σ) s QB E)) E := by
  simp only [evT, wp_bnd]
  refine wp_q fun x s => ?_
  cases x <;> (first | rfl | (simp only [wp_def] <;> rfl))
theorem t_val {e : Ex} : wp (evT T (.val e) σ) s QB E = wp (ev T e σ) s (fun x s => og (truth s x) (fun b => QB b s)) E := by
  simp only [evT, wp_bnd]
  refine wp_q fun x s => ?_
  rw [wp_optS (o := fun st => truth st x)]
  exact og_q fun c => wp_ret
theorem ts_nil : wp (evTs T [] σ) s QB E = QB true s := by simp only [evTs, wp_ret]
theorem ts_cons {e : Cn} {es : List Cn} : wp (evTs T (e :: es) σ) s QB E = wp (evT T e σ) s (fun c s => wb c (wp (evTs T es σ) s QB E) (QB false s)) E := by
  simp only [evTs, wp_bnd]
  refine wp_q fun x s => ?_
  cases x <;> (first | rfl | (simp only [wp_def] <;> rfl))
theorem i_val {e : Ex} {Q : It -> Sto -> Prop} : wp (evI T (.val e) σ) s Q E = wp (ev T e σ) s (fun x s => wp (srcOf x) s (fun w s => Q (.one w) s) E) E := by
  simp only [evI, wp_bnd, wp_ret]
theorem i_rng {es : List Ex} {Q : It -> Sto -> Prop} : wp (evI T (.rng es) σ) s Q E = wp (evs T es σ) s (fun ds s => og (rngL ds) fun xs => Q (.one (.items xs)) s) E := by
  simp only [evI, wp_bnd, wp_opt, wp_ret]
theorem i_enum {e : Ex} {k : Int} {Q : It -> Sto -> Prop} : wp (evI T (.enum e k) σ) s Q E = wp (ev T e σ) s (fun x s => wp (srcOf x) s (fun w s => Q (.enum k w) s) E) E := by
  simp only [evI, wp_bnd, wp_ret]
theorem wp_land {d : D} : wp (landM d) s Q E = Q (land d s).1 (land d s).2 := by rw [wp_def]; exact propext Iff.rfl
theorem g_nm {i : Nat} {d : D} {Q : Env -> Sto -> Prop} : wp (asgT T (.nm i) d σ) s Q E = Q (σ.set i (some (land d s).1)) (land d s).2 := by
  simp only [asgT, wp_bnd, wp_land, wp_ret]
theorem g_tup {ts : List Tg} {d : D} {Q : Env -> Sto -> Prop} : wp (asgT T (.tup ts) d σ) s Q E = og (ofTup d s) (fun ds => wp (asgTs T ts ds σ) s Q E) := by
  have e : asgT T (.tup ts) d σ s = match ofTup d s with
    | some ds => asgTs T ts ds σ s
    | none => .bad := by
    simp only [asgT] <;> (cases ofTup d s <;> rfl)
  rw [wp_def, e]
  cases ofTup d s with
  | none => rfl
  | some ds => simp only [og, wp_def]
theorem g_sub {o i : Ex} {d : D} {Q : Env -> Sto -> Prop} : wp (asgT T (.sub o i) d σ) s Q E = wp (ev T o σ) s (fun x s => wp (ev T i σ) s (fun y s => wp (setI x y d) s (fun _ s => Q σ s) E) E) E := by
  simp only [asgT, wp_bnd, wp_ret]
theorem gs_nil {Q : Env -> Sto -> Prop} : wp (asgTs T [] [] σ) s Q E = Q σ s := by simp only [asgTs, wp_ret]
theorem gs_cons {t : Tg} {ts : List Tg} {d : D} {ds : List D} {Q : Env -> Sto -> Prop} : wp (asgTs T (t :: ts) (d :: ds) σ) s Q E = wp (asgT T t d σ) s (fun σ' s => wp (asgTs T ts ds σ') s Q E) E := by
  simp only [asgTs, wp_bnd]
theorem s_asg {t : Tg} {e : Ex} : wp (exS T (.asg t e) σ) s QF E = wp (ev T e σ) s (fun x s => wp (asgT T t x σ) s (fun σ' s => QF (.nx σ') s) NX) (fun e s => QF (.ex σ e) s) := by
  simp only [exS, wp_lft, wp_bnd, wp_noX, wp_ret]
theorem s_xpr {e : Ex} : wp (exS T (.xpr e) σ) s QF E = wp (ev T e σ) s (fun _ s => QF (.nx σ) s) (fun e s => QF (.ex σ e) s) := by
  simp only [exS, wp_lft, wp_ret]
theorem s_ret {e : Ex} : wp (exS T (.ret e) σ) s QF E = wp (ev T e σ) s (fun d s => QF (.rt d) s) (fun e s => QF (.ex σ e) s) := by
  simp only [exS, wp_lft, wp_ret]
theorem s_ret0 : wp (exS T .ret0 σ) s QF E = QF (.rt .non) s := by simp only [exS, wp_ret]
theorem s_iff {c : Cn} {a b : List Sx} : wp (exS T (.iff c a b) σ) s QF E = wp (evT T c σ) s (fun k s => wb k (wp (exL T a σ) s QF E) (wp (exL T b σ) s QF E)) (fun e s => QF (.ex σ e) s) := by
  simp only [exS, wp_lft]
  refine wp_q fun x s => ?_
  cases x <;> (first | rfl | (simp only [wp_def] <;> rfl))
theorem s_brk : wp (exS T .brk σ) s QF E = QF (.br σ) s := by simp only [exS, wp_ret]
theorem s_cnt : wp (exS T .cnt σ) s QF E = QF (.ct σ) s := by simp only [exS, wp_ret]
theorem s_pas : wp (exS T .pas σ) s QF E = QF (.nx σ) s := by simp only [exS, wp_ret]
theorem s_for {it : Ix} {t : Tg} {b : List Sx} : wp (exS T (.forr it t b) σ) s QF E = wp (evI T it σ) s (fun w s => wp (forLoop w (fun d σ => asgT T t d σ) (fun σ => exL T b σ) (w.len s + 1) 0 σ) s QF E) (fun e s => QF (.ex σ e) s) := by
  simp only [exS, wp_lft]; exact wp_q fun w s => by rw [wp_def, wp_def]
theorem s_whl {c : Cn} {b : List Sx} : wp (exS T (.whl c b) σ) s QF E = wp (whLoop (fun σ => evT T c σ) (fun σ => exL T b σ) wfuel σ) s QF E := by
  simp only [exS]
theorem l_nil : wp (exL T [] σ) s QF E = QF (.nx σ) s := by simp only [exL, wp_ret]
theorem l_cons {x : Sx} {xs : List Sx} : wp (exL T (x :: xs) σ) s QF NX = wp (exS T x σ) s (fq (fun σ s => wp (exL T xs σ) s QF NX) QF) NX := by
  simp only [exL, wp_seqF]
def tq (I : Env -> Sto -> Prop) (QF : Fl -> Sto -> Prop) : Fl -> Sto -> Prop := fun f s => match f with
  | .nx σ | .ct σ => I σ s
  | .br σ => QF (.nx σ) s
  | f => QF f s
theorem tq_nx {I : Env -> Sto -> Prop} {σ : Env} : tq I QF (.nx σ) s = I σ s := propext Iff.rfl
theorem tq_ct {I : Env -> Sto -> Prop} {σ : Env} : tq I QF (.ct σ) s = I σ s := propext Iff.rfl
theorem tq_br {I : Env -> Sto -> Prop} {σ : Env} : tq I QF (.br σ) s = QF (.nx σ) s := propext Iff.rfl
theorem tq_rt {I : Env -> Sto -> Prop} {d : D} : tq I QF (.rt d) s = QF (.rt d) s := propext Iff.rfl
theorem tq_ex {I : Env -> Sto -> Prop} {σ : Env} {d : D} : tq I QF (.ex σ d) s = QF (.ex σ d) s := propext Iff.rfl
theorem w_forAux {it : It} {g : D -> Env -> M Env} {b : Env -> M Fl} (xs : List D) (I : Nat -> Env -> Sto -> Prop)
    (hit : ∀ i σ s, I i σ s -> it.next i s = some xs[i]?)
    (hb : ∀ i d σ s, I i σ s -> xs[i]? = some d -> wp (g d σ) s (fun σ1 s1 => wp (b σ1) s1 (tq (I (i + 1)) QF) NX) NX)
    (hq : ∀ σ s, I xs.length σ s -> QF (.nx σ) s) : ∀ (n i : Nat) (σ : Env) (s : Sto), I i σ s -> i <= xs.length -> xs.length + 1 <= n + i -> wp (forLoop it g b n i σ) s QF E
  | 0, i, σ, s, h, h1, h2 => absurd h2 (by omega)
  | n + 1, i, σ, s, h, h1, h2 => by
    simp only [wp_def, forLoop]
    rw [hit i σ s h]
    by_cases hi : i < xs.length
    · rw [List.getElem?_eq_getElem hi]
      have hw := hb i _ σ s h (List.getElem?_eq_getElem hi)
      simp only [wp_def, noX] at hw ⊢
      cases eg : g xs[i] σ s with
      | ok σ1 s1 =>
        rw [eg] at hw
        simp only [wr] at hw
        simp only
        cases eb : b σ1 s1 with
        | ok f s2 =>
          rw [eb] at hw
          simp only [wr] at hw
          cases f with
          | nx σ' => exact (w_forAux xs I hit hb hq n (i + 1) σ' s2 hw hi (by omega)).run
          | ct σ' => exact (w_forAux xs I hit hb hq n (i + 1) σ' s2 hw hi (by omega)).run
          | br σ' => exact hw
          | rt d => exact hw
          | ex σ' e => exact hw
        | exc e s2 => rw [eb] at hw; exact hw.elim
        | bad => rw [eb] at hw; exact hw.elim
      | exc e s2 => rw [eg] at hw; exact hw.elim
      | bad => rw [eg] at hw; exact hw.elim
    · obtain rfl : i = xs.length := by omega
      rw [List.getElem?_eq_none (Nat.le_refl _)]
      exact hq σ s h
theorem w_for {g : D -> Env -> M Env} {b : Env -> M Fl} (xs : List D) (I : Nat -> Env -> Sto -> Prop) (h0 : I 0 σ s)
    (hb : ∀ i d σ s, I i σ s -> xs[i]? = some d -> wp (g d σ) s (fun σ1 s1 => wp (b σ1) s1 (tq (I (i + 1)) QF) NX) NX)
    (hq : ∀ σ s, I xs.length σ s -> QF (.nx σ) s) : wp (forLoop (.one (.items xs)) g b ((It.one (.items xs)).len s + 1) 0 σ) s QF E :=
  w_forAux xs I (fun i σ s _ => rfl) hb hq _ 0 σ s h0 (Nat.zero_le _) (by show xs.length + 1 <= xs.length + 1 + 0; omega)
theorem w_lcAux {it : It} {turn : D -> M (Option D)} (xs : List D) (I : Nat -> List D -> Sto -> Prop) {Q : List D -> Sto -> Prop}
    (hit : ∀ i a s, I i a s -> it.next i s = some xs[i]?)
    (hb : ∀ i d a s, I i a s -> xs[i]? = some d -> wp (turn d) s (fun o s1 => match o with
      | some y => a.length < sizeLine /\ I (i + 1) (a ++ [y]) s1
      | none => I (i + 1) a s1) NX)
    (hq : ∀ a s, I xs.length a s -> Q a s) : ∀ (n i : Nat) (a : List D) (s : Sto), I i a s -> i <= xs.length -> xs.length + 1 <= n + i -> wp (lcLoop it turn n i a) s Q E
  | 0, i, σ, s, h, h1, h2 => absurd h2 (by omega)
  | n + 1, i, a, s, h, h1, h2 => by
    simp only [wp_def, lcLoop]
    rw [hit i a s h]
    by_cases hi : i < xs.length
    · rw [List.getElem?_eq_getElem hi]
      have hw := hb i _ a s h (List.getElem?_eq_getElem hi)
      simp only [wp_def] at hw ⊢
      cases eg : turn xs[i] s with
      | ok o s1 =>
        rw [eg] at hw
        cases o with
        | some y =>
          simp only [wr] at hw
          simp only [if_pos hw.1]
          exact (w_lcAux xs I hit hb hq n (i + 1) _ s1 hw.2 hi (by omega)).run
        | none =>
          simp only [wr] at hw
          exact (w_lcAux xs I hit hb hq n (i + 1) _ s1 hw hi (by omega)).run
      | exc e s2 => rw [eg] at hw; exact hw.elim
      | bad => rw [eg] at hw; exact hw.elim
    · obtain rfl : i = xs.length := by omega
      rw [List.getElem?_eq_none (Nat.le_refl _)]
      exact hq a s h
theorem w_lcM {turn : D -> M (Option D)} (xs : List D) (I : Nat -> List D -> Sto -> Prop) {Q : List D -> Sto -> Prop} (h0 : I 0 [] s) (hl : ∀ i a s, I i a s -> a.length <= i) (hx : xs.length <= sizeLine)
    (hb : ∀ i d a s, I i a s -> xs[i]? = some d -> wp (turn d) s (fun o s1 => match o with
      | some y => I (i + 1) (a ++ [y]) s1
      | none => I (i + 1) a s1) NX)
    (hq : ∀ a s, I xs.length a s -> Q a s) : wp (lcLoop (.one (.items xs)) turn ((It.one (.items xs)).len s + 1) 0 []) s Q E :=
  w_lcAux xs I (fun i σ s _ => rfl) (fun i d a s h e => wp_nx (hb i d a s h e) fun o s1 h1 => by
    have hi : i < xs.length := (List.getElem?_eq_some_iff.1 e).1
    have := hl i a s h
    cases o with
    | none => exact h1
    | some y => exact ⟨by omega, h1⟩) hq _ 0 [] s h0 (Nat.zero_le _) (by show xs.length + 1 <= xs.length + 1 + 0; omega)
theorem w_wh {c : Env -> M Bool} {b : Env -> M Fl} (I : Nat -> Env -> Sto -> Prop)
    (hb : ∀ k σ s, I k σ s -> wp (c σ) s (fun t s1 => wb t (0 < k /\ wp (b σ) s1 (tq (fun σ s => ∃ j, j < k /\ I j σ s) QF) NX) (QF (.nx σ) s1)) NX) : ∀ (n k : Nat) (σ : Env) (s : Sto), I k σ s -> k < n -> wp (whLoop c b n σ) s QF E
  | 0, k, σ, s, h, h2 => absurd h2 (by omega)
  | n + 1, k, σ, s, h, h2 => by
    simp only [wp_def, whLoop, lft]
    have hw := hb k σ s h
    simp only [wp_def] at hw
    cases ec : c σ s with
    | ok t s1 =>
      rw [ec] at hw
      simp only [wr] at hw
      simp only
      cases t with
      | false => exact hw
      | true =>
        simp only [wb] at hw
        obtain ⟨hk, hw⟩ := hw
        simp only
        cases eb : b σ s1 with
        | ok f s2 =>
          rw [eb] at hw
          simp only [wr] at hw
          cases f with
          | nx σ' => obtain ⟨j, hj, hI⟩ := hw; exact (w_wh I hb n j σ' s2 hI (by omega)).run
          | ct σ' => obtain ⟨j, hj, hI⟩ := hw; exact (w_wh I hb n j σ' s2 hI (by omega)).run
          | br σ' => exact hw
          | rt d => exact hw
          | ex σ' e => exact hw
        | exc e s2 => rw [eb] at hw; exact hw.elim
        | bad => rw [eb] at hw; exact hw.elim
    | exc e s2 => rw [ec] at hw; exact hw.elim
    | bad => rw [ec] at hw; exact hw.elim
end
def lv (st : Sto) (Q E : D -> Sto -> Prop) : Fl -> Sto -> Prop := fun f s2 => match f with
  | .rt d => okPre st s2 st.length = true /\ og (rback s2 st.length d) fun d' => Q d' (s2.take st.length)
  | .nx _ => okPre st s2 st.length = true /\ Q .non (s2.take st.length)
  | .ex _ e => okPre st s2 st.length = true /\ D.cls st.length e = true /\ E e (s2.take st.length)
  | _ => False
theorem lv_rt {st s2 : Sto} {Q E : D -> Sto -> Prop} {d : D} : lv st Q E (.rt d) s2 = (okPre st s2 st.length = true /\ og (rback s2 st.length d) fun d' => Q d' (s2.take st.length)) := propext Iff.rfl
theorem lv_nx {st s2 : Sto} {Q E : D -> Sto -> Prop} {d : Env} : lv st Q E (.nx d) s2 = (okPre st s2 st.length = true /\ Q .non (s2.take st.length)) := propext Iff.rfl
theorem lv_ex {st s2 : Sto} {Q E : D -> Sto -> Prop} {d : Env} {e : D} : lv st Q E (.ex d e) s2 = (okPre st s2 st.length = true /\ D.cls st.length e = true /\ E e (s2.take st.length)) := propext Iff.rfl
theorem w_call {P : Pr} {n f : Nat} {ds : List D} {st : Sto} {F : Fn} {Q E : D -> Sto -> Prop} (hF : P.fns f = some F) (hl : ds.length = F.np)
    (h : wp (exL (P.tbl n) F.body ((lands ds st).1.map some ++ List.replicate (F.ns - F.np) none)) (lands ds st).2 (lv st Q E) NX) : wp (call P (n + 1) f ds) st Q E := by
  rw [wp_def, call_succ]
  unfold runF
  simp only [hF]
  simp only [decide_eq_true hl]
  simp only [wp_def] at h
  cases e : exL (P.tbl n) F.body ((lands ds st).1.map some ++ List.replicate (F.ns - F.np) none) (lands ds st).2 with
  | ok f s2 =>
    rw [e] at h
    simp only [wr] at h
    cases f with
    | rt d =>
      rw [lv_rt] at h
      obtain ⟨h1, h2⟩ := h
      simp only [outR, leaveD, h1]
      cases er : rback s2 st.length d with
      | none => rw [er] at h2; exact h2.elim
      | some d' => rw [er] at h2; exact h2
    | nx σ =>
      rw [lv_nx] at h
      simp only [outR, leaveD, h.1]
      exact h.2
    | ex σ e =>
      rw [lv_ex] at h
      simp only [outR, leaveD, h.1, h.2.1, Bool.and_self]
      exact h.2.2
    | br => exact h.elim
    | ct => exact h.elim
  | exc e s2 => rw [e] at h; exact h.elim
  | bad => rw [e] at h; exact h.elim
end Fs
namespace Fs
open PySem
section
variable {T : Tbl} {σ : Env} {s : Sto} {E : D -> Sto -> Prop} {Q : D -> Sto -> Prop}
theorem b_add {i j : Int} : wp (binD .add (.int i) (.int j)) s Q E = Q (.int (i + j)) s := by rw [wp_def]; exact propext Iff.rfl
theorem b_sub {i j : Int} : wp (binD .sub (.int i) (.int j)) s Q E = Q (.int (i - j)) s := by rw [wp_def]; exact propext Iff.rfl
theorem b_mul {i j : Int} : wp (binD .mul (.int i) (.int j)) s Q E = (i.natAbs.log2 + j.natAbs.log2 < 1000000 /\ Q (.int (i * j)) s) := by
  by_cases h : i.natAbs.log2 + j.natAbs.log2 < 1000000
  · simp only [wp_def, binD, intOp, if_pos h]
    exact propext ⟨fun q => ⟨h, q⟩, fun q => q.2⟩
  · simp only [wp_def, binD, intOp, if_neg h]
    exact propext ⟨False.elim, fun q => h q.1⟩
theorem b_mod {i j : Int} : wp (binD .mod (.int i) (.int j)) s Q E = (j ≠ 0 /\ Q (.int (i.fmod j)) s) := by
  by_cases h : j ≠ 0
  · simp only [wp_def, binD, intOp, if_pos h]
    exact propext ⟨fun q => ⟨h, q⟩, fun q => q.2⟩
  · simp only [wp_def, binD, intOp, if_neg h]
    exact propext ⟨False.elim, fun q => h q.1⟩
theorem b_fdiv {i j : Int} : wp (binD .fdiv (.int i) (.int j)) s Q E = ((j ≠ 0 /\ j.natAbs.log2 < 9000) /\ Q (.int (i.fdiv j)) s) := by
  by_cases h : j ≠ 0 /\ j.natAbs.log2 < 9000
  · simp only [wp_def, binD, intOp, if_pos h]
    exact propext ⟨fun q => ⟨h, q⟩, fun q => q.2⟩
  · simp only [wp_def, binD, intOp, if_neg h]
    exact propext ⟨False.elim, fun q => h q.1⟩
theorem b_pow {i j : Int} : wp (binD .pow (.int i) (.int j)) s Q E = ((0 <= j /\ j <= 1000000 /\ i.natAbs < 2 ^ 64) /\ Q (.int (i ^ j.toNat)) s) := by
  by_cases h : 0 <= j /\ j <= 1000000 /\ i.natAbs < 2 ^ 64
  · simp only [wp_def, binD, intOp, if_pos h]
    exact propext ⟨fun q => ⟨h, q⟩, fun q => q.2⟩
  · simp only [wp_def, binD, intOp, if_neg h]
    exact propext ⟨False.elim, fun q => h q.1⟩
theorem b_addT {xs ys : List D} : wp (binD .add (.tup xs) (.tup ys)) s Q E = (xs.length + ys.length <= sizeLine /\ Q (.tup (xs ++ ys)) s) := by
  by_cases h : xs.length + ys.length <= sizeLine
  · simp only [wp_def, binD, intOp, if_pos h]
    exact propext ⟨fun q => ⟨h, q⟩, fun q => q.2⟩
  · simp only [wp_def, binD, intOp, if_neg h]
    exact propext ⟨False.elim, fun q => h q.1⟩
def lpC (c : Option D) : Option (List D) := match c with
  | some (.lst xs) => some xs
  | _ => none
theorem lpC_lst {xs : List D} : lpC (some (.lst xs)) = some xs := rfl
theorem lstv_ref {l : Nat} : lstv s (.ref l) = lpC s[l]? := by
  simp only [lstv, lpC] <;> (cases s[l]? with
    | none => first | rfl | (simp only [wp_def] <;> rfl)
    | some c => cases c <;> (first | rfl | (simp only [wp_def] <;> rfl)))
theorem lstv_lst {xs : List D} : lstv s (.lst xs) = some xs := rfl
theorem b_addL {l : Nat} {ys : List D} : wp (binD .add (.ref l) (.lst ys)) s Q E = og (lpC s[l]?) (fun xs => xs.length + ys.length <= sizeLine /\ Q (.lst (xs ++ ys)) s) := by
  simp only [wp_def, binD, lstv_ref, lstv_lst]
  cases lpC s[l]? with
  | none => first | rfl | (simp only [wp_def] <;> rfl)
  | some xs =>
    simp only [og]
    by_cases h : xs.length + ys.length <= sizeLine
    · rw [if_pos h]; exact propext ⟨fun q => ⟨h, q⟩, fun q => q.2⟩
    · rw [if_neg h]; exact propext ⟨False.elim, fun q => h q.1⟩
theorem b_mulL {xs : List D} {k : Int} : wp (binD .mul (.lst xs) (.int k)) s Q E = ((D.purs xs = true /\ k < 2 ^ 63 /\ -(2 ^ 63) <= k /\ xs.length * k.toNat <= sizeLine) /\ Q (.lst (rep k.toNat xs)) s) := by
  by_cases h : D.purs xs = true /\ k < 2 ^ 63 /\ -(2 ^ 63) <= k /\ xs.length * k.toNat <= sizeLine
  · simp only [wp_def, binD, lstv_lst, if_pos h]
    exact propext ⟨fun q => ⟨h, q⟩, fun q => q.2⟩
  · simp only [wp_def, binD, lstv_lst, if_neg h]
    exact propext ⟨False.elim, fun q => h q.1⟩
theorem b_mulT {xs : List D} {k : Int} : wp (binD .mul (.tup xs) (.int k)) s Q E = ((D.purs xs = true /\ xs.isEmpty = false /\ 0 <= k /\ k <= 1000 /\ xs.length <= 1000) /\ Q (.tup (rep k.toNat xs)) s) := by
  by_cases h : D.purs xs = true /\ xs.isEmpty = false /\ 0 <= k /\ k <= 1000 /\ xs.length <= 1000
  · simp only [wp_def, binD, if_pos h]
    exact propext ⟨fun q => ⟨h, q⟩, fun q => q.2⟩
  · simp only [wp_def, binD, if_neg h]
    exact propext ⟨False.elim, fun q => h q.1⟩
def atC (c : Option D) (k : Int) : Option D := match c with
  | some (.lst xs) => L2.atI xs k
  | some (.frl xs) => L2.atI xs k
  | some (.dic kvs) => if okKeys (.k (.inl k)) kvs then dget (.k (.inl k)) kvs else none
  | _ => none
theorem atC_lst {xs : List D} {k : Int} : atC (some (.lst xs)) k = L2.atI xs k := rfl
theorem atC_frl {xs : List D} {k : Int} : atC (some (.frl xs)) k = L2.atI xs k := rfl
theorem atC_dic {xs : List (Ky × D)} {k : Int} : atC (some (.dic xs)) k = if okKeys (.k (.inl k)) xs then dget (.k (.inl k)) xs else none := rfl
theorem gi_tup {xs : List D} {k : Int} : wp (getI (.tup xs) (.int k)) s Q E = og (L2.atI xs k) (fun y => Q y s) := by
  simp only [wp_def, getI, seqv]
  cases L2.atI xs k <;> (first | rfl | (simp only [wp_def] <;> rfl))
theorem gi_lst {xs : List D} {k : Int} : wp (getI (.lst xs) (.int k)) s Q E = og (L2.atI xs k) (fun y => Q y s) := by
  simp only [wp_def, getI, seqv]
  cases L2.atI xs k <;> (first | rfl | (simp only [wp_def] <;> rfl))
theorem gi_ref {l : Nat} {k : Int} : wp (getI (.ref l) (.int k)) s Q E = og (atC s[l]? k) (fun y => Q y s) := by
  simp only [wp_def, getI, seqv, dicv]
  cases s[l]? with
  | none => first | rfl | (simp only [wp_def] <;> rfl)
  | some c =>
    cases c with
    | lst xs => simp only [atC]; cases L2.atI xs k <;> (first | rfl | (simp only [wp_def] <;> rfl))
    | frl xs => simp only [atC]; cases L2.atI xs k <;> (first | rfl | (simp only [wp_def] <;> rfl))
    | dic xs =>
      simp only [atC]
      split
      · cases dget (.k (.inl k)) xs <;> (first | rfl | (simp only [wp_def] <;> rfl))
      · first | rfl | (simp only [wp_def] <;> rfl)
    | _ => first | rfl | (simp only [wp_def] <;> rfl)
def stC (c : Option D) (l : Nat) (i d : D) (s : Sto) (Q : Unit -> Sto -> Prop) : Prop := match c with
  | some (.lst xs) => og (intv i) fun k => og (L2.ixN xs.length k) fun j => Q () ((land d s).2.set l (.lst (xs.set j (land d s).1)))
  | some (.dic kvs) => og (keyOf i) fun q => (okKeys q kvs = true /\ kvs.length < sizeLine) /\ Q () ((land d s).2.set l (.dic (dput q (land d s).1 kvs)))
  | _ => False
theorem stC_lst {xs : List D} {l : Nat} {i : Int} {d : D} {Q : Unit -> Sto -> Prop} : stC (some (.lst xs)) l (.int i) d s Q = og (L2.ixN xs.length i) fun j => Q () ((land d s).2.set l (.lst (xs.set j (land d s).1))) := propext Iff.rfl
theorem stC_dic {kvs : List (Ky × D)} {l : Nat} {i : D} {d : D} {Q : Unit -> Sto -> Prop} : stC (some (.dic kvs)) l i d s Q = og (keyOf i) fun q => (okKeys q kvs = true /\ kvs.length < sizeLine) /\ Q () ((land d s).2.set l (.dic (dput q (land d s).1 kvs))) := propext Iff.rfl
theorem si_ref {l : Nat} {i d : D} {Q : Unit -> Sto -> Prop} : wp (setI (.ref l) i d) s Q E = stC s[l]? l i d s Q := by
  simp only [wp_def, setI]
  cases s[l]? with
  | none => first | rfl | (simp only [wp_def] <;> rfl)
  | some c =>
    cases c with
    | lst xs =>
      simp only [stC]
      cases i with
      | int k => simp only [intv, og]; cases L2.ixN xs.length k <;> (first | rfl | (simp only [wp_def] <;> rfl))
      | _ => first | rfl | (simp only [wp_def] <;> rfl)
    | dic xs =>
      simp only [stC]
      cases keyOf i with
      | none => first | rfl | (simp only [wp_def] <;> rfl)
      | some q =>
        simp only [og]
        by_cases h : okKeys q xs = true /\ xs.length < sizeLine
        · rw [if_pos h]; exact propext ⟨fun q => ⟨h, q⟩, fun q => q.2⟩
        · rw [if_neg h]; exact propext ⟨False.elim, fun q => h q.1⟩
    | _ => first | rfl | (simp only [wp_def] <;> rfl)
theorem m_append {o d : D} : meD .append o [d] = mAppend o d := rfl
theorem m_pop {o : D} : meD .pop o [] = mPop o := rfl
theorem m_popi {o d : D} : wp (meD .popi o [d]) s Q E = wb (kndD s o == 5) (wp (mDpop o d) s Q E) (wp (mPopi o d) s Q E) := by
  rw [wp_def]
  show wr (match kndD s o with
    | 5 => b1 (mDpop o) [d] s
    | _ => b1 (mPopi o) [d] s) Q E = _
  cases h : (kndD s o == 5) with
  | true =>
    have e : kndD s o = 5 := by simpa using h
    rw [e]; simp only [wb, wp_def]; rfl
  | false =>
    have e : kndD s o ≠ 5 := by simpa using h
    simp only [wb]
    first | rfl | (simp only [wp_def] <;> rfl)
def lcC (c : Option D) (f : List D -> Prop) : Prop := match c with
  | some (.lst xs) => f xs
  | _ => False
theorem lcC_lst {xs : List D} {f : List D -> Prop} : lcC (some (.lst xs)) f = f xs := propext Iff.rfl
def dcC (c : Option D) (f : List (Ky × D) -> Prop) : Prop := match c with
  | some (.dic xs) => f xs
  | _ => False
theorem dcC_dic {xs : List (Ky × D)} {f : List (Ky × D) -> Prop} : dcC (some (.dic xs)) f = f xs := propext Iff.rfl
theorem wp_lcell {f : Nat -> List D -> M D} {l : Nat} {s' : Sto} : wp (lcell s' f (.ref l)) s Q E = lcC s'[l]? (fun xs => wp (f l xs) s Q E) := by
  simp only [wp_def, lcell]
  cases s'[l]? with
  | none => first | rfl | (simp only [wp_def] <;> rfl)
  | some c => cases c <;> (first | rfl | (simp only [wp_def] <;> rfl))
theorem wp_dcell {f : Nat -> List (Ky × D) -> M D} {l : Nat} {s' : Sto} : wp (dcell s' f (.ref l)) s Q E = dcC s'[l]? (fun xs => wp (f l xs) s Q E) := by
  simp only [wp_def, dcell]
  cases s'[l]? with
  | none => first | rfl | (simp only [wp_def] <;> rfl)
  | some c => cases c <;> (first | rfl | (simp only [wp_def] <;> rfl))
theorem k_app {l : Nat} {d : D} : wp (mAppend (.ref l) d) s Q E = lcC s[l]? (fun xs => xs.length < sizeLine /\ Q .non ((land d s).2.set l (.lst (xs ++ [(land d s).1])))) := by
  refine (wp_st (f := fun st => lcell st _ (.ref l))).trans ?_
  rw [wp_lcell]
  cases s[l]? with
  | none => first | rfl | (simp only [wp_def] <;> rfl)
  | some c =>
    cases c with
    | lst xs => simp only [lcC, wp_gd, decide_eq_true_eq]; simp only [wp_def]; rfl
    | _ => first | rfl | (simp only [wp_def] <;> rfl)
theorem kw_pop {l : Nat} : wp (mPop (.ref l)) s Q E = lcC s[l]? (fun xs => og xs[xs.length - 1]? fun y => Q y (s.set l (.lst xs.dropLast))) := by
  refine (wp_st (f := fun st => lcell st _ (.ref l))).trans ?_
  rw [wp_lcell]
  cases s[l]? with
  | none => first | rfl | (simp only [wp_def] <;> rfl)
  | some c =>
    cases c with
    | lst xs => simp only [lcC, wp_opt]; simp only [wp_def]; rfl
    | _ => first | rfl | (simp only [wp_def] <;> rfl)
theorem kw_popi {l : Nat} {k : Int} : wp (mPopi (.ref l) (.int k)) s Q E = lcC s[l]? (fun xs => (-(2 ^ 63) <= k /\ k < 2 ^ 63) /\ og (PySem.seqIndex? k xs.length) fun j => og xs[j]? fun y => Q y (s.set l (.lst (xs.eraseIdx j)))) := by
  refine (wp_st (f := fun st => lcell st _ (.ref l))).trans ?_
  rw [wp_lcell]
  cases s[l]? with
  | none => first | rfl | (simp only [wp_def] <;> rfl)
  | some c =>
    cases c with
    | lst xs => simp only [lcC, wp_opt, intv, og_s, wp_gd, decide_eq_true_eq]; simp only [wp_def]; rfl
    | _ => first | rfl | (simp only [wp_def] <;> rfl)
theorem k_dpop {l : Nat} {k : D} : wp (mDpop (.ref l) k) s Q E = dcC s[l]? (fun kvs => og (keyOf k) fun q => okKeys q kvs = true /\ og (dget q kvs) fun y => Q y (s.set l (.dic (ddel q kvs)))) := by
  refine (wp_st (f := fun st => dcell st _ (.ref l))).trans ?_
  rw [wp_dcell]
  cases s[l]? with
  | none => first | rfl | (simp only [wp_def] <;> rfl)
  | some c =>
    cases c with
    | dic xs => simp only [dcC, wp_opt, wp_gd]; simp only [wp_def]; rfl
    | _ => first | rfl | (simp only [wp_def] <;> rfl)
def kC (c : Option D) : Nat := match c with
  | some (.lst _) => 4
  | some (.frl _) => 4
  | some (.dic _) => 5
  | _ => 0
theorem kC_lst {xs : List D} : kC (some (.lst xs)) = 4 := rfl
theorem kC_dic {xs : List (Ky × D)} : kC (some (.dic xs)) = 5 := rfl
theorem knd_ref {l : Nat} : kndD s (.ref l) = kC s[l]? := by
  simp only [kndD, kC] <;> (cases s[l]? with
    | none => first | rfl | (simp only [wp_def] <;> rfl)
    | some c => cases c <;> (first | rfl | (simp only [wp_def] <;> rfl)))
theorem bi_len1 {d : D} : wp (biD T .len [d]) s Q E = wp (fLen d) s Q E := by rw [wp_def, wp_def]; exact propext Iff.rfl
def leC (c : Option D) : Option Nat := match c with
  | some (.lst xs) => some xs.length
  | some (.frl xs) => some xs.length
  | some (.dic xs) => some xs.length
  | _ => none
theorem leC_lst {xs : List D} : leC (some (.lst xs)) = some xs.length := rfl
theorem leC_frl {xs : List D} : leC (some (.frl xs)) = some xs.length := rfl
theorem leC_dic {xs : List (Ky × D)} : leC (some (.dic xs)) = some xs.length := rfl
theorem f_len_tup {xs : List D} : wp (fLen (.tup xs)) s Q E = Q (.int xs.length) s := by rw [wp_def]; exact propext Iff.rfl
theorem f_len_lst {xs : List D} : wp (fLen (.lst xs)) s Q E = Q (.int xs.length) s := by rw [wp_def]; exact propext Iff.rfl
theorem f_len_dic {xs : List (Ky × D)} : wp (fLen (.dic xs)) s Q E = Q (.int xs.length) s := by rw [wp_def]; exact propext Iff.rfl
theorem f_len_ref {l : Nat} : wp (fLen (.ref l)) s Q E = og (leC s[l]?) fun n => Q (.int n) s := by
  simp only [wp_def, fLen, seqv, dicv]
  cases s[l]? with
  | none => first | rfl | (simp only [wp_def] <;> rfl)
  | some c => cases c <;> (first | rfl | (simp only [wp_def] <;> rfl))
theorem bi_sum1 {d : D} : wp (biD T .sum [d]) s Q E = og (lInt s d) (fun ns => Q (.int ns.sum) s) := (wp_optS (o := fun st => lInt st d)).trans (og_q fun _ => wp_ret)
theorem bi_all1 {d : D} : wp (biD T .all [d]) s Q E = og (lBl s d) (fun ns => Q (.bl (ns.all id)) s) := (wp_optS (o := fun st => lBl st d)).trans (og_q fun _ => wp_ret)
theorem bi_any1 {d : D} : wp (biD T .any [d]) s Q E = og (lBl s d) (fun ns => Q (.bl (ns.any id)) s) := (wp_optS (o := fun st => lBl st d)).trans (og_q fun _ => wp_ret)
theorem bi_tup1 {d : D} : wp (biD T .tuple [d]) s Q E = og (seqv s d) (fun ns => Q (.tup ns) s) := (wp_optS (o := fun st => seqv st d)).trans (og_q fun _ => wp_ret)
theorem bi_lst1 {d : D} : wp (biD T .list [d]) s Q E = og (seqv s d) (fun ns => Q (.lst ns) s) := (wp_optS (o := fun st => seqv st d)).trans (og_q fun _ => wp_ret)
theorem bi_min2' {i j : Int} : wp (biD T .min2 [.int i, .int j]) s Q E = Q (.int (if j < i then j else i)) s := by rw [wp_def]; exact propext Iff.rfl
theorem bi_max2' {i j : Int} : wp (biD T .max2 [.int i, .int j]) s Q E = Q (.int (if j > i then j else i)) s := by rw [wp_def]; exact propext Iff.rfl
theorem bi_isT1 {t : String} {d : D} : wp (biD T (.isT t) [d]) s Q E = og (isTy s t d) (fun c => Q (.bl c) s) := (wp_optS (o := fun st => isTy st t d)).trans (og_q fun _ => wp_ret)
theorem bi_lrng1 {b : Int} : wp (biD T .lrng [.int b]) s Q E = (rgOk 0 b = true /\ Q (.lst (rngN 0 1 b.toNat)) s) := by
  show wp (gd _ _) s Q E = _
  rw [wp_gd, wp_ret]
theorem bi_srt1 {d : D} : wp (biD T .sorted [d]) s Q E = wp (fSorted d) s Q E := by rw [wp_def, wp_def]; exact propext Iff.rfl
theorem bi_ssort1 {d : D} : wp (biD T .ssort [d]) s Q E = og (lInt s d) (fun ns => ns.length < 64 /\ Q (.lst ((sortI (dedI ns)).map .int)) s) := by
  refine (wp_optS (o := fun st => lInt st d)).trans (og_q fun ns => ?_)
  rw [wp_gd, wp_ret, decide_eq_true_eq]
theorem bi_dict1 {d : D} : wp (biD T .dict [d]) s Q E = og ((lstv s d).bind (optL pairv)) (fun kvs => (kvs.all fun p => D.pur p.2) = true /\ Q (.dic (kvs.foldl (fun a p => dput p.1 p.2 a) [])) s) := by
  refine (wp_optS (o := fun st => (lstv st d).bind (optL pairv))).trans (og_q fun ns => ?_)
  rw [wp_gd, wp_ret]
theorem bi_repr1 {d : D} : wp (biD T .repr [d]) s Q E = og (toP false s 60 d) (fun p => (p.showable = true /\ p.shown.length <= sizeLine /\ p.depth <= 60 /\ p.hasDict = false) /\ Q (.str p.shown) s) := by
  refine (wp_optS (o := fun st => toP false st 60 d)).trans (og_q fun ns => ?_)
  rw [wp_gd, wp_ret, decide_eq_true_eq]
theorem so_tup {xs : List D} {Q : Src -> Sto -> Prop} : wp (srcOf (.tup xs)) s Q E = Q (.items xs) s := by rw [wp_def]; exact propext Iff.rfl
theorem so_lst {xs : List D} {Q : Src -> Sto -> Prop} : wp (srcOf (.lst xs)) s Q E = Q (.items xs) s := by rw [wp_def]; exact propext Iff.rfl
def soC (c : Option D) (l : Nat) : Option Src := match c with
  | some (.lst _) => some (.cell l)
  | some (.frl _) => some (.cell l)
  | _ => none
theorem soC_lst {xs : List D} {l : Nat} : soC (some (.lst xs)) l = some (.cell l) := rfl
theorem soC_frl {xs : List D} {l : Nat} : soC (some (.frl xs)) l = some (.cell l) := rfl
theorem so_ref {l : Nat} {Q : Src -> Sto -> Prop} : wp (srcOf (.ref l)) s Q E = og (soC s[l]? l) (fun w => Q w s) := by
  simp only [wp_def, srcOf]
  cases s[l]? with
  | none => first | rfl | (simp only [wp_def] <;> rfl)
  | some c => cases c <;> (first | rfl | (simp only [wp_def] <;> rfl))
theorem la_int {i : Int} : land (.int i) s = (.int i, s) := by simp only [land]
theorem la_bl {i : Bool} : land (.bl i) s = (.bl i, s) := by simp only [land]
theorem la_non : land .non s = (.non, s) := by simp only [land]
theorem la_str {i : Str} : land (.str i) s = (.str i, s) := by simp only [land]
theorem la_ref {i : Nat} : land (.ref i) s = (.ref i, s) := by simp only [land]
theorem la_lst0 : land (.lst []) s = (.ref s.length, s ++ [.lst []]) := by simp only [land, lands]
theorem la_dic0 : land (.dic []) s = (.ref s.length, s ++ [.dic []]) := by simp only [land, landk]
mutual
theorem land_pur : ∀ {d : D} {s : Sto}, d.pur = true -> land d s = (d, s)
  | .non, s, _ => by simp only [land]
  | .bl _, s, _ => by simp only [land]
  | .int _, s, _ => by simp only [land]
  | .str _, s, _ => by simp only [land]
  | .ref _, s, _ => by simp only [land]
  | .tup xs, s, h => by simp only [D.pur] at h; simp only [land, lands_pur h]
  | .exc _ xs, s, h => by simp only [land]
  | .lam _ xs, s, h => by simp [D.pur] at h
  | .lst _, s, h => by simp [D.pur] at h
  | .frl _, s, h => by simp [D.pur] at h
  | .dic _, s, h => by simp [D.pur] at h
  | .set _, s, h => by simp [D.pur] at h
theorem lands_pur : ∀ {ds : List D} {s : Sto}, D.purs ds = true -> lands ds s = (ds, s)
  | [], s, _ => by simp only [lands]
  | d :: ds, s, h => by
    simp only [D.purs, Bool.and_eq_true] at h
    simp only [lands, land_pur h.1, lands_pur h.2]
end
theorem purs_of {ds : List D} (h : ∀ d ∈ ds, d.pur = true) : D.purs ds = true := by
  induction ds with
  | nil => first | rfl | (simp only [wp_def] <;> rfl)
  | cons d ds ih =>
    simp only [D.purs, Bool.and_eq_true]
    exact ⟨h d (List.mem_cons_self ..), ih fun x hx => h x (List.mem_cons_of_mem _ hx)⟩
theorem la_lst {xs : List D} (h : D.purs xs = true) : land (.lst xs) s = (.ref s.length, s ++ [.lst xs]) := by simp only [land, lands_pur h]
theorem landk_pur : ∀ {ds : List (Ky × D)} {s : Sto}, (ds.all fun p => D.pur p.2) = true -> landk ds s = (ds, s)
  | [], s, _ => by simp only [landk]
  | d :: ds, s, h => by
    simp only [List.all_cons, Bool.and_eq_true] at h
    simp only [landk, land_pur h.1, landk_pur h.2]
theorem la_dic {xs : List (Ky × D)} (h : (xs.all fun p => D.pur p.2) = true) : land (.dic xs) s = (.ref s.length, s ++ [.dic xs]) := by simp only [land, landk_pur h]
theorem la_tup {xs : List D} (h : D.purs xs = true) : land (.tup xs) s = (.tup xs, s) := land_pur h
theorem ofT {xs : List D} : ofTup (.tup xs) s = some xs := rfl
theorem ofL {xs : List D} : ofTup (.lst xs) s = some xs := rfl
theorem ofR {l : Nat} : ofTup (.ref l) s = lpC s[l]? := by
  simp only [ofTup, lpC] <;> (cases s[l]? with
    | none => first | rfl | (simp only [wp_def] <;> rfl)
    | some c => cases c <;> (first | rfl | (simp only [wp_def] <;> rfl)))
theorem c_lt {i j : Int} : cmpD .lt (.int i) (.int j) s = some (decide (i < j)) := rfl
theorem c_le {i j : Int} : cmpD .le (.int i) (.int j) s = some (decide (i <= j)) := rfl
theorem c_gt {i j : Int} : cmpD .gt (.int i) (.int j) s = some (decide (j < i)) := rfl
theorem c_ge {i j : Int} : cmpD .ge (.int i) (.int j) s = some (decide (j <= i)) := rfl
theorem ci_lt {i j : Int} : cmpI .lt i j = some (decide (i < j)) := rfl
theorem ci_le {i j : Int} : cmpI .le i j = some (decide (i <= j)) := rfl
theorem c_eq {a b : D} : cmpD .eq a b s = eqD s a b := rfl
theorem c_ne {a b : D} : cmpD .ne a b s = (eqD s a b).map (!·) := rfl
theorem c_isN {a b : D} : cmpD .isN a b s = isD a b := rfl
theorem c_ntN {a b : D} : cmpD .ntN a b s = (isD a b).map (!·) := rfl
theorem c_in {a b : D} : cmpD .inn a b s = inD s a b := rfl
theorem c_nin {a b : D} : cmpD .nin a b s = (inD s a b).map (!·) := rfl
theorem sg0 {st r : Sto} {c : D} : (st ++ c :: r)[st.length]? = some c := by simp
theorem sg1 {st r : Sto} {c d : D} : (st ++ c :: d :: r)[st.length + 1]? = some d := by simp
theorem sg2 {st r : Sto} {c d e : D} : (st ++ c :: d :: e :: r)[st.length + 2]? = some e := by simp
theorem sg3 {st r : Sto} {c d e f : D} : (st ++ c :: d :: e :: f :: r)[st.length + 3]? = some f := by simp
theorem sgl {st r : Sto} {l : Nat} {c : D} (h : st[l]? = some c) : (st ++ r)[l]? = some c := by
  rw [List.getElem?_append_left (List.getElem?_eq_some_iff.1 h).1]; exact h
theorem ss0 {st r : Sto} {c x : D} : (st ++ c :: r).set st.length x = st ++ x :: r := by simp
theorem ss1 {st r : Sto} {c d x : D} : (st ++ c :: d :: r).set (st.length + 1) x = st ++ c :: x :: r := by simp
theorem ss2 {st r : Sto} {c d e x : D} : (st ++ c :: d :: e :: r).set (st.length + 2) x = st ++ c :: d :: x :: r := by simp
theorem ss3 {st r : Sto} {c d e f x : D} : (st ++ c :: d :: e :: f :: r).set (st.length + 3) x = st ++ c :: d :: e :: x :: r := by simp
theorem ssl {st r : Sto} {l : Nat} {c x : D} (h : st[l]? = some c) : (st ++ r).set l x = st.set l x ++ r := by
  rw [List.set_append_left]; exact (List.getElem?_eq_some_iff.1 h).1
theorem okP_app : ∀ {st r : Sto} {b : Nat}, okPre st (st ++ r) b = true
  | [], r, b => by cases r <;> (first | rfl | (simp only [wp_def] <;> rfl))
  | c :: st, r, b => by simp [okPre, okP_app]
theorem okP_self {st : Sto} {b : Nat} : okPre st st b = true := by
  have := okP_app (st := st) (r := []) (b := b)
  rwa [List.append_nil] at this
theorem okP_set : ∀ {st r : Sto} {b l : Nat} {c : D}, cellCl b c = true -> okPre st (st.set l c ++ r) b = true
  | [], r, b, l, c, h => by cases r <;> (first | rfl | (simp only [wp_def] <;> rfl))
  | d :: st, r, b, 0, c, h => by simp [okPre, okP_app, h]
  | d :: st, r, b, l + 1, c, h => by simp [okPre, okP_set h]
theorem okP_set0 {st : Sto} {b l : Nat} {c : D} (h : cellCl b c = true) : okPre st (st.set l c) b = true := by
  have := okP_set (st := st) (r := []) (l := l) h
  rwa [List.append_nil] at this
theorem take0 {st r : Sto} : (st ++ r).take st.length = st := by simp
mutual
def D.clean : D -> Bool
  | .non | .bl _ | .int _ | .str _ => true
  | .tup xs => D.cleans xs
  | _ => false
def D.cleans : List D -> Bool
  | [] => true
  | x :: xs => D.clean x && D.cleans xs
end
mutual
theorem rb_clean {g : Nat -> List Nat -> Option (D × List Nat)} {b : Nat} : ∀ {d : D} {vis : List Nat}, d.clean = true -> rbD g b d vis = some (d, vis)
  | .non, vis, _ => by simp only [rbD]
  | .bl _, vis, _ => by simp only [rbD]
  | .int _, vis, _ => by simp only [rbD]
  | .str _, vis, _ => by simp only [rbD]
  | .tup xs, vis, h => by simp only [D.clean] at h; simp only [rbD, rbs_clean h]; rfl
  | .ref _, vis, h => by simp [D.clean] at h
  | .lst _, vis, h => by simp [D.clean] at h
  | .frl _, vis, h => by simp [D.clean] at h
  | .dic _, vis, h => by simp [D.clean] at h
  | .set _, vis, h => by simp [D.clean] at h
  | .exc _ _, vis, h => by simp [D.clean] at h
  | .lam _ _, vis, h => by simp [D.clean] at h
theorem rbs_clean {g : Nat -> List Nat -> Option (D × List Nat)} {b : Nat} : ∀ {ds : List D} {vis : List Nat}, D.cleans ds = true -> rbDs g b ds vis = some (ds, vis)
  | [], vis, _ => by simp only [rbDs]
  | d :: ds, vis, h => by
    simp only [D.cleans, Bool.and_eq_true] at h
    simp only [rbDs, rb_clean h.1, Option.bind_some, rbs_clean h.2, Option.map_some]
end
mutual
theorem clean_pur : ∀ {d : D}, d.clean = true -> d.pur = true
  | .non, _ => rfl
  | .bl _, _ => rfl
  | .int _, _ => rfl
  | .str _, _ => rfl
  | .tup xs, h => by simp only [D.clean] at h; simp only [D.pur]; exact cleans_purs h
  | .ref _, h => by simp [D.clean] at h
  | .lst _, h => by simp [D.clean] at h
  | .frl _, h => by simp [D.clean] at h
  | .dic _, h => by simp [D.clean] at h
  | .set _, h => by simp [D.clean] at h
  | .exc _ _, h => by simp [D.clean] at h
  | .lam _ _, h => by simp [D.clean] at h
theorem cleans_purs : ∀ {ds : List D}, D.cleans ds = true -> D.purs ds = true
  | [], _ => rfl
  | d :: ds, h => by
    simp only [D.cleans, Bool.and_eq_true] at h
    simp only [D.purs, clean_pur h.1, cleans_purs h.2, Bool.and_self]
end
mutual
theorem clean_cls {b : Nat} : ∀ {d : D}, d.clean = true -> d.cls b = true
  | .non, _ => rfl
  | .bl _, _ => rfl
  | .int _, _ => rfl
  | .str _, _ => rfl
  | .tup xs, h => by simp only [D.clean] at h; simp only [D.cls]; exact cleans_clss h
  | .ref _, h => by simp [D.clean] at h
  | .lst _, h => by simp [D.clean] at h
  | .frl _, h => by simp [D.clean] at h
  | .dic _, h => by simp [D.clean] at h
  | .set _, h => by simp [D.clean] at h
  | .exc _ _, h => by simp [D.clean] at h
  | .lam _ _, h => by simp [D.clean] at h
theorem cleans_clss {b : Nat} : ∀ {ds : List D}, D.cleans ds = true -> D.clss b ds = true
  | [], _ => rfl
  | d :: ds, h => by
    simp only [D.cleans, Bool.and_eq_true] at h
    simp only [D.clss, clean_cls h.1, cleans_clss h.2, Bool.and_self]
end
theorem rk_clean {b : Nat} {d : D} (h : d.clean = true) : rback s b d = some d := by
  simp only [rback, rb_clean h]; rfl
theorem rk_lst {st r : Sto} {l : Nat} {xs : List D} (hb : st.length <= l) (hl : (st ++ r)[l]? = some (.lst xs)) (h : D.cleans xs = true) : rback (st ++ r) st.length (.ref l) = some (.lst xs) := by
  simp only [rback, rbD]
  have : decide (l < st.length) = false := by simpa using hb
  rw [this]
  simp only [rbC, hl, List.contains_nil, rbD, rbs_clean h, Option.map_some]
theorem rk_set_lst {st r : Sto} {l m : Nat} {c : D} {xs : List D} (hb : st.length <= l) (hl : (st.set m c ++ r)[l]? = some (.lst xs)) (h : D.cleans xs = true) : rback (st.set m c ++ r) st.length (.ref l) = some (.lst xs) := by
  have := rk_lst (st := st.set m c) (by rwa [List.length_set]) hl h
  rwa [List.length_set] at this
theorem cleans_of {ds : List D} (h : ∀ d ∈ ds, d.clean = true) : D.cleans ds = true := by
  induction ds with
  | nil => first | rfl | (simp only [wp_def] <;> rfl)
  | cons d ds ih =>
    simp only [D.cleans, Bool.and_eq_true]
    exact ⟨h d (List.mem_cons_self ..), ih fun x hx => h x (List.mem_cons_of_mem _ hx)⟩
def nv (ns : List Nat) : List D := ns.map fun (n : Nat) => D.int (n : Int)
theorem nv_clean {ns : List Nat} : D.cleans (nv ns) = true := cleans_of (by
  intro d hd
  obtain ⟨n, _, rfl⟩ := List.mem_map.1 hd
  rfl)
theorem nv_purs {ns : List Nat} : D.purs (nv ns) = true := cleans_purs nv_clean
theorem nv_len {ns : List Nat} : (nv ns).length = ns.length := by simp [nv]
theorem nv_get {ns : List Nat} {i : Nat} : (nv ns)[i]? = ns[i]?.map fun (n : Nat) => D.int (n : Int) := by simp [nv]
theorem nv_app {xs ys : List Nat} : nv (xs ++ ys) = nv xs ++ nv ys := by simp [nv]
theorem nv_one {x : Nat} : nv [x] = [.int (x : Int)] := rfl
def tv (g : List (List Nat)) : List D := g.map fun r => D.tup (nv r)
theorem tv_clean {g : List (List Nat)} : D.cleans (tv g) = true := cleans_of (by
  intro d hd
  obtain ⟨n, _, rfl⟩ := List.mem_map.1 hd
  simp only [D.clean]
  exact nv_clean)
theorem tv_get {g : List (List Nat)} {i : Nat} : (tv g)[i]? = g[i]?.map fun r => D.tup (nv r) := by simp [tv]
theorem gv_clean {g : List (List Nat)} : (D.tup (tv g)).clean = true := by simp only [D.clean]; exact tv_clean
theorem atI_nat {α : Type} {xs : List α} {i : Nat} : L2.atI xs (i : Int) = xs[i]? := by
  simp only [L2.atI, L2.ixN]
  have h0 : (0 : Int) <= (i : Int) := by omega
  simp only [h0, if_true]
  by_cases h : i < xs.length
  · have h1 : (i : Int) < (xs.length : Int) := by omega
    simp [h1]
  · have h1 : ¬ (i : Int) < (xs.length : Int) := by omega
    simp only [h1, if_false, Option.bind_none]
    rw [List.getElem?_eq_none (by omega)]
theorem ixN_nat {n i : Nat} (h : i < n) : L2.ixN n (i : Int) = some i := by
  simp only [L2.ixN]
  have h0 : (0 : Int) <= (i : Int) := by omega
  have h1 : (i : Int) < (n : Int) := by omega
  simp [h0, h1]
theorem rngN_nv {n : Nat} : rngN 0 1 n = nv (List.range n) := by
  simp [rngN, nv]
theorem isTy_tup {xs : List D} : isTy s "tuple" (.tup xs) = some true := by simp [isTy]
theorem isTy_int {i : Int} : isTy s "int" (.int i) = some true := by simp [isTy]
theorem isTy_intb {i : Int} : isTy s "bool" (.int i) = some false := by simp [isTy]
end
theorem tbl_fn {P : Pr} {n f : Nat} {ds : List D} : (P.tbl n).fn f ds = call P n f ds := rfl
end Fs
open Lean.Parser.Tactic in
local macro_rules
  | `(tactic| simp! [$ts,*]) => `(tactic| simp only [↓Fs.wb_t, ↓Fs.wb_f, ↓Fs.og_s, ↓Fs.wr_ok, ↓Fs.wr_exc, ↓Fs.wp_ret, ↓Fs.wp_bnd, ↓Fs.wp_opt, ↓Fs.wp_gd, ↓Fs.wp_noX, ↓Fs.wp_lft, ↓Fs.fq_nx, ↓Fs.fq_rt, ↓Fs.fq_br, ↓Fs.fq_ct, ↓Fs.fq_ex, ↓Fs.lk_s, ↓Fs.e_loc, ↓Fs.e_con, ↓Fs.e_bin, ↓Fs.e_neg, ↓Fs.e_nt, ↓Fs.e_cmp, ↓Fs.e_chn, ↓Fs.e_and2, ↓Fs.e_or2, ↓Fs.e_ife, ↓Fs.es_nil, ↓Fs.es_cons, ↓Fs.e_tup, ↓Fs.e_lst, ↓Fs.e_dct0, ↓Fs.e_sub, ↓Fs.e_slc, ↓Fs.eo_n, ↓Fs.eo_s, ↓Fs.e_rev, ↓Fs.e_call, ↓Fs.e_bi, ↓Fs.e_me, ↓Fs.e_lc, ↓Fs.e_dc, ↓Fs.w_lcT, ↓Fs.w_dcT, ↓Fs.t_nt, ↓Fs.t_and2, ↓Fs.t_or2, ↓Fs.t_ife, ↓Fs.t_val, ↓Fs.ts_nil, ↓Fs.ts_cons, ↓Fs.i_val, ↓Fs.i_rng, ↓Fs.i_enum, ↓Fs.wp_land, ↓Fs.g_nm, ↓Fs.g_tup, ↓Fs.g_sub, ↓Fs.gs_nil, ↓Fs.gs_cons, ↓Fs.s_asg, ↓Fs.s_xpr, ↓Fs.s_ret, ↓Fs.s_ret0, ↓Fs.s_iff, ↓Fs.s_brk, ↓Fs.s_cnt, ↓Fs.s_pas, ↓Fs.s_for, ↓Fs.s_whl, ↓Fs.l_nil, ↓Fs.l_cons, ↓Fs.tq_nx, ↓Fs.tq_ct, ↓Fs.tq_br, ↓Fs.tq_rt, ↓Fs.tq_ex, ↓Fs.lv_rt, ↓Fs.lv_nx, ↓Fs.lv_ex, ↓Fs.b_add, ↓Fs.b_sub, ↓Fs.b_mul, ↓Fs.b_mod, ↓Fs.b_fdiv, ↓Fs.b_pow, ↓Fs.b_addT, ↓Fs.b_addL, ↓Fs.b_mulL, ↓Fs.b_mulT, Fs.lpC_lst, Fs.lstv_ref, Fs.lstv_lst, Fs.atC_lst, Fs.atC_frl, Fs.atC_dic, ↓Fs.gi_tup, ↓Fs.gi_lst, ↓Fs.gi_ref, ↓Fs.stC_lst, ↓Fs.stC_dic, ↓Fs.si_ref, Fs.m_append, Fs.m_pop, ↓Fs.m_popi, ↓Fs.lcC_lst, ↓Fs.dcC_dic, ↓Fs.k_app, ↓Fs.kw_pop, ↓Fs.kw_popi, ↓Fs.k_dpop, Fs.kC_lst, Fs.kC_dic, Fs.knd_ref, ↓Fs.bi_len1, Fs.leC_lst, Fs.leC_frl, Fs.leC_dic, ↓Fs.f_len_tup, ↓Fs.f_len_lst, ↓Fs.f_len_dic, ↓Fs.f_len_ref, ↓Fs.bi_sum1, ↓Fs.bi_all1, ↓Fs.bi_any1, ↓Fs.bi_tup1, ↓Fs.bi_lst1, ↓Fs.bi_min2', ↓Fs.bi_max2', ↓Fs.bi_isT1, ↓Fs.bi_lrng1, ↓Fs.bi_srt1, ↓Fs.bi_ssort1, ↓Fs.bi_dict1, ↓Fs.bi_repr1, ↓Fs.so_tup, ↓Fs.so_lst, ↓Fs.so_ref, Fs.soC_lst, Fs.soC_frl, Fs.la_int, Fs.la_bl, Fs.la_non, Fs.la_str, Fs.la_ref, Fs.la_lst0, Fs.la_dic0, Fs.ofT, Fs.ofL, Fs.ofR, Fs.c_lt, Fs.c_le, Fs.c_gt, Fs.c_ge, Fs.ci_lt, Fs.ci_le, Fs.c_eq, Fs.c_ne, Fs.c_isN, Fs.c_ntN, Fs.c_in, Fs.c_nin, Fs.intv, Fs.blv, Fs.isTy_tup, Fs.isTy_int, Fs.isTy_intb, Fs.sg0, Fs.sg1, Fs.sg2, Fs.sg3, Fs.ss0, Fs.ss1, Fs.ss2, Fs.ss3, List.append_assoc, List.cons_append, List.nil_append, List.length_append, List.length_cons, List.length_nil, Nat.zero_add, Fs.wipe, List.foldr, List.set_cons_zero, List.set_cons_succ, List.getElem?_cons_zero, List.getElem?_cons_succ, List.map_cons, List.map_nil, List.replicate, Fs.lands, Fs.meK, Bool.not_true, Bool.not_false, true_and, and_true, beq_self_eq_true, Fs.tbl_fn, $ts,*])
namespace Fs
open PySem
section
variable {T : Tbl} {σ : Env} {s : Sto} {E : D -> Sto -> Prop} {Q : D -> Sto -> Prop} {QF : Fl -> Sto -> Prop} {γ : Type}
theorem split_at {L : List γ} {i : Nat} {c : γ} (h : L[i]? = some c) : L = L.take i ++ c :: L.drop (i + 1) := by
  obtain ⟨hi, rfl⟩ := List.getElem?_eq_some_iff.1 h
  rw [<- List.drop_eq_getElem_cons hi, List.take_append_drop]
theorem take_snoc {L : List γ} {i : Nat} {c : γ} (h : L[i]? = some c) : L.take (i + 1) = L.take i ++ [c] := by
  rw [List.take_add_one, h]; rfl
theorem w_forP {g : D -> Env -> M Env} {b : Env -> M Fl} (L : List γ) (h : γ -> D) (I : List γ -> Env -> Sto -> Prop) (h0 : I [] σ s)
    (hb : ∀ pre c post σ s, L = pre ++ c :: post -> I pre σ s -> wp (g (h c) σ) s (fun σ1 s1 => wp (b σ1) s1 (tq (I (pre ++ [c])) QF) NX) NX)
    (hq : ∀ σ s, I L σ s -> QF (.nx σ) s) : wp (forLoop (.one (.items (L.map h))) g b ((It.one (.items (L.map h))).len s + 1) 0 σ) s QF E := by
  refine w_for (L.map h) (fun i σ s => I (L.take i) σ s) (by simpa using h0) ?_ ?_
  · intro i d σ s hI e
    rw [List.getElem?_map] at e
    cases e2 : L[i]? with
    | none => rw [e2] at e; cases e
    | some c =>
      rw [e2] at e
      cases e
      have := hb (L.take i) c _ σ s (split_at e2) hI
      rw [<- take_snoc e2] at this
      exact this
  · intro σ s hI
    rw [List.length_map, List.take_length] at hI
    exact hq σ s hI
theorem w_lcm {turn : D -> M (Option D)} {Q : List D -> Sto -> Prop} (L : List γ) (h : γ -> D) (k : γ -> D) (hx : L.length <= sizeLine)
    (hb : ∀ c ∈ L, wp (turn (h c)) s (fun o s1 => o = some (k c) /\ s1 = s) NX)
    (hq : Q (L.map k) s) : wp (lcLoop (.one (.items (L.map h))) turn ((It.one (.items (L.map h))).len s + 1) 0 []) s Q E := by
  refine w_lcM (L.map h) (fun i a s' => s' = s /\ a = (L.take i).map k) ⟨rfl, by simp⟩ ?_ (by simpa using hx) ?_ ?_
  · rintro i a s' ⟨rfl, rfl⟩
    rw [List.length_map]
    exact List.length_take_le ..
  · rintro i d a s' ⟨rfl, rfl⟩ e
    rw [List.getElem?_map] at e
    cases e2 : L[i]? with
    | none => rw [e2] at e; cases e
    | some c =>
      rw [e2] at e
      cases e
      refine wp_nx (hb c (List.mem_of_getElem? e2)) ?_
      rintro o s1 ⟨rfl, rfl⟩
      refine ⟨rfl, ?_⟩
      rw [take_snoc e2, List.map_append]; rfl
  · rintro a s' ⟨rfl, rfl⟩
    rw [List.length_map, List.take_length]
    exact hq
theorem w_lcf {turn : D -> M (Option D)} {Q : List D -> Sto -> Prop} (L : List γ) (h : γ -> D) (p : γ -> Bool) (k : γ -> D) (hx : L.length <= sizeLine)
    (hb : ∀ c ∈ L, wp (turn (h c)) s (fun o s1 => o = (if p c then some (k c) else none) /\ s1 = s) NX)
    (hq : Q ((L.filter p).map k) s) : wp (lcLoop (.one (.items (L.map h))) turn ((It.one (.items (L.map h))).len s + 1) 0 []) s Q E := by
  refine w_lcM (L.map h) (fun i a s' => s' = s /\ a = ((L.take i).filter p).map k) ⟨rfl, by simp⟩ ?_ (by simpa using hx) ?_ ?_
  · rintro i a s' ⟨rfl, rfl⟩
    rw [List.length_map]
    exact Nat.le_trans (List.length_filter_le ..) (List.length_take_le ..)
  · rintro i d a s' ⟨rfl, rfl⟩ e
    rw [List.getElem?_map] at e
    cases e2 : L[i]? with
    | none => rw [e2] at e; cases e
    | some c =>
      rw [e2] at e
      cases e
      refine wp_nx (hb c (List.mem_of_getElem? e2)) ?_
      rintro o s1 ⟨rfl, rfl⟩
      cases hp : p c with
      | true =>
        show _ /\ _
        refine ⟨rfl, ?_⟩
        rw [take_snoc e2, List.filter_append, List.map_append]
        simp [hp]
      | false =>
        show _ /\ _
        refine ⟨rfl, ?_⟩
        rw [take_snoc e2, List.filter_append, List.map_append]
        simp [hp]
  · rintro a s' ⟨rfl, rfl⟩
    rw [List.length_map, List.take_length]
    exact hq
end
section
variable {s : Sto}
abbrev ik (d : Nat) : Ky := .k (.inl (d : Int))
def kd (f : Nat -> D) (L : List Nat) : List (Ky × D) := L.map fun d => (ik d, f d)
theorem ik_inj {a b : Nat} (h : ik a = ik b) : a = b := by
  have : (a : Int) = (b : Int) := by injection h with h; injection h
  omega
theorem kd_len {f : Nat -> D} {L : List Nat} : (kd f L).length = L.length := by simp [kd]
theorem kd_ok {f : Nat -> D} {L : List Nat} {d : Nat} : okKeys (ik d) (kd f L) = true := by
  simp [okKeys, kd, kyK]
theorem kd_get {f : Nat -> D} {d : Nat} : ∀ {L : List Nat}, dget (ik d) (kd f L) = if d ∈ L then some (f d) else none
  | [] => rfl
  | a :: L => by
    simp only [kd, List.map_cons, dget]
    by_cases h : a = d
    · subst h; simp
    · have h2 : ¬ ik a = ik d := fun e => h (ik_inj e)
      rw [if_neg h2]
      have ih := kd_get (f := f) (d := d) (L := L)
      simp only [kd] at ih
      rw [ih]
      have h3 : d ≠ a := fun e => h e.symm
      simp [h3]
theorem kd_put {f : Nat -> D} {d : Nat} : ∀ {L : List Nat}, d ∉ L -> dput (ik d) (f d) (kd f L) = kd f (L ++ [d])
  | [], _ => rfl
  | a :: L, h => by
    simp only [kd, List.map_cons, dput, List.cons_append]
    have h2 : ¬ ik a = ik d := fun e => h (by rw [ik_inj e]; exact List.mem_cons_self ..)
    rw [if_neg h2]
    have ih := kd_put (f := f) (d := d) (L := L) fun q => h (List.mem_cons_of_mem _ q)
    simp only [kd] at ih
    rw [ih]
theorem kd_del {f : Nat -> D} {d : Nat} : ∀ {L : List Nat}, ddel (ik d) (kd f L) = kd f (L.erase d)
  | [] => rfl
  | a :: L => by
    simp only [kd, List.map_cons, ddel]
    by_cases h : a = d
    · subst h; simp
    · have h2 : ¬ ik a = ik d := fun e => h (ik_inj e)
      rw [if_neg h2, List.erase_cons_tail (by simpa using h)]
      have ih := kd_del (f := f) (d := d) (L := L)
      simp only [kd] at ih
      rw [ih]; rfl
theorem kd_pur {f : Nat -> D} {L : List Nat} (h : ∀ d, (f d).pur = true) : ((kd f L).all fun p => D.pur p.2) = true := by
  simp [kd, h]
theorem kd_isIn {f : Nat -> D} {L : List Nat} {d l : Nat} (h : s[l]? = some (.dic (kd f L))) : inD s (.int (d : Int)) (.ref l) = some (decide (d ∈ L)) := by
  simp only [inD, dicv, h, keyOf]
  rw [if_pos kd_ok, kd_get]
  by_cases hd : d ∈ L
  · simp [hd]
  · simp [hd]
theorem kd_key {d : Int} : keyOf (.int d) = some (.k (.inl d)) := rfl
end
section
variable {T : Tbl} {σ : Env} {s : Sto} {E : D -> Sto -> Prop} {Q : List (Ky × D) -> Sto -> Prop}
theorem w_dcAux {s : Sto} {E : D -> Sto -> Prop} {Q : List (Ky × D) -> Sto -> Prop} {it : It} {turn : D -> M (Option (Ky × D))} {f : Nat -> D} (L : List Nat) (h : Nat -> D) (hn : L.Nodup) (hf : ∀ d, (f d).pur = true) (hx : L.length <= sizeLine)
    (hit : ∀ i, it.next i s = some (L.map h)[i]?)
    (hb : ∀ c ∈ L, wp (turn (h c)) s (fun o s1 => o = some (ik c, f c) /\ s1 = s) NX)
    (hq : Q (kd f L) s) : ∀ (n i : Nat), i <= L.length -> L.length + 1 <= n + i -> wp (dcLoop it turn n i (kd f (L.take i))) s Q E
  | 0, i, h1, h2 => absurd h2 (by omega)
  | n + 1, i, h1, h2 => by
    simp only [wp_def, dcLoop]
    rw [hit i, List.getElem?_map]
    cases e2 : L[i]? with
    | none =>
      have : L.length <= i := List.getElem?_eq_none_iff.1 e2
      rw [List.take_of_length_le this]
      exact hq
    | some c =>
      have hw := hb c (List.mem_of_getElem? e2)
      have hi : i < L.length := (List.getElem?_eq_some_iff.1 e2).1
      simp only [wp_def, Option.map_some] at hw ⊢
      cases eg : turn (h c) s with
      | ok o s1 =>
        rw [eg] at hw
        obtain ⟨rfl, rfl⟩ := hw
        have hc : (kd f (L.take i)).length < sizeLine /\ okKeys (ik c) (kd f (L.take i)) = true /\ D.pur (f c) = true := ⟨by rw [kd_len]; exact Nat.lt_of_le_of_lt (List.length_take_le ..) (by omega), kd_ok, hf c⟩
        simp only [if_pos hc]
        have hnot : c ∉ L.take i := by
          have h3 := split_at e2
          rw [h3] at hn
          have := (List.nodup_append.1 hn).2.2
          intro hm
          exact this c hm c (List.mem_cons_self ..) rfl
        rw [kd_put hnot, <- take_snoc e2]
        exact (w_dcAux L h hn hf hx hit hb hq n (i + 1) hi (by omega)).run
      | exc e s2 => rw [eg] at hw; exact hw.elim
      | bad => rw [eg] at hw; exact hw.elim
theorem w_dcm {turn : D -> M (Option (Ky × D))} {f : Nat -> D} (L : List Nat) (h : Nat -> D) (hn : L.Nodup) (hf : ∀ d, (f d).pur = true) (hx : L.length <= sizeLine)
    (hb : ∀ c ∈ L, wp (turn (h c)) s (fun o s1 => o = some (ik c, f c) /\ s1 = s) NX)
    (hq : Q (kd f L) s) : wp (dcLoop (.one (.items (L.map h))) turn ((It.one (.items (L.map h))).len s + 1) 0 []) s Q E :=
  w_dcAux L h hn hf hx (fun i => rfl) hb hq _ 0 (Nat.zero_le _) (by show L.length + 1 <= (L.map h).length + 1 + 0; rw [List.length_map]; omega)
end
end Fs
namespace Fs
open PySem
theorem seqv_lst {s : Sto} {xs : List D} : seqv s (.lst xs) = some xs := rfl
theorem seqv_tup {s : Sto} {xs : List D} : seqv s (.tup xs) = some xs := rfl
section
variable {T : Tbl} {σ : Env} {s : Sto} {E : D -> Sto -> Prop} {Q : D -> Sto -> Prop} {QF : Fl -> Sto -> Prop} {γ : Type}
theorem w_lcPC {turn : D -> M (Option D)} {Q : List D -> Sto -> Prop} {l : Nat} (L : List γ) (h : γ -> D) (I : List γ -> List D -> Sto -> Prop) (h0 : I [] [] s) (hx : L.length <= sizeLine)
    (hc : ∀ p a s, I p a s -> s[l]? = some (.lst (L.map h)))
    (hb : ∀ pre c post a s, L = pre ++ c :: post -> a.length = pre.length -> I pre a s -> wp (turn (h c)) s (fun o s1 => ∃ y, o = some y /\ I (pre ++ [c]) (a ++ [y]) s1) NX)
    (hq : ∀ a s, a.length = L.length -> I L a s -> Q a s) : wp (lcLoop (.one (.cell l)) turn ((It.one (.cell l)).len s + 1) 0 []) s Q E := by
  refine w_lcAux (L.map h) (fun i a s' => (i <= L.length /\ a.length = i) /\ I (L.take i) a s') ?_ ?_ ?_ _ 0 [] s ⟨⟨Nat.zero_le _, rfl⟩, by simpa using h0⟩ (Nat.zero_le _) ?_
  · rintro i a s' ⟨_, hI⟩
    simp only [It.next, Src.at, hc _ _ _ hI]
  · rintro i d a s' ⟨⟨hi, hl⟩, hI⟩ e
    rw [List.getElem?_map] at e
    cases e2 : L[i]? with
    | none => rw [e2] at e; cases e
    | some c =>
      rw [e2] at e
      cases e
      have hi2 : i < L.length := (List.getElem?_eq_some_iff.1 e2).1
      refine wp_nx (hb (L.take i) c _ a s' (split_at e2) (by rw [hl, List.length_take]; omega) hI) ?_
      rintro o s1 ⟨y, rfl, h1⟩
      refine ⟨by omega, ⟨hi2, by simp [hl]⟩, ?_⟩
      rw [take_snoc e2]
      exact h1
  · rintro a s' ⟨⟨_, hl⟩, hI⟩
    rw [List.length_map] at hl hI
    rw [List.take_length] at hI
    exact hq a s' hl hI
  · simp only [It.len, Src.len, hc _ _ _ h0]; omega
theorem w_lcmC {turn : D -> M (Option D)} {Q : List D -> Sto -> Prop} {l : Nat} (L : List γ) (h : γ -> D) (k : γ -> D) (hx : L.length <= sizeLine) (hc : s[l]? = some (.lst (L.map h)))
    (hb : ∀ c ∈ L, wp (turn (h c)) s (fun o s1 => o = some (k c) /\ s1 = s) NX)
    (hq : Q (L.map k) s) : wp (lcLoop (.one (.cell l)) turn ((It.one (.cell l)).len s + 1) 0 []) s Q E := by
  refine w_lcPC (l := l) L h (fun pre a s' => s' = s /\ a = pre.map k) ⟨rfl, rfl⟩ hx (by rintro p a s' ⟨rfl, _⟩; exact hc) ?_ ?_
  · rintro pre c post a s' hL _ ⟨rfl, rfl⟩
    refine wp_nx (hb c (by rw [hL]; simp)) ?_
    rintro o s1 ⟨rfl, rfl⟩
    exact ⟨_, rfl, rfl, by simp⟩
  · rintro a s' _ ⟨rfl, rfl⟩
    exact hq
end
end Fs
namespace Fs
open PySem
theorem lInt_lst {s : Sto} {xs : List D} : lInt s (.lst xs) = optL intv xs := rfl
theorem sl_ge : 2 ^ 20 <= sizeLine := by decide
theorem rngL1 {b : Nat} (h : b <= 2 ^ 20) : rngL [.int (b : Nat)] = some (nv (List.range b)) := by
  have h0 : b <= 1048576 := h
  have h1 : -(2 ^ 62 : Int) <= (b : Int) /\ (b : Int) < 2 ^ 62 := by
    constructor <;> omega
  rw [<- rngN_nv]
  have h2 : rngL [.int (b : Nat)] = if -(2 ^ 62 : Int) <= (b : Int) /\ (b : Int) < 2 ^ 62 then some (rngN 0 1 (b : Int).toNat) else none := by
    generalize (b : Int) = x
    rfl
  rw [h2, if_pos h1, Int.toNat_natCast]
theorem optL_bl {γ : Type} (f : γ -> Bool) : ∀ {g : List γ}, optL blv (g.map fun r => D.bl (f r)) = some (g.map f)
  | [] => rfl
  | a :: g => by simp only [List.map_cons, optL, blv, optL_bl]
theorem lBl_lst {s : Sto} {xs : List D} : lBl s (.lst xs) = optL blv xs := rfl
theorem insI_perm' (i : Int) : ∀ r : List Int, (insI i r).Perm (i :: r)
  | [] => .refl _
  | j :: r => by
    simp only [insI]
    split
    · exact (List.Perm.cons _ (insI_perm' i r)).trans (List.Perm.swap ..)
    · exact .refl _
theorem sortI_perm' : ∀ r : List Int, (sortI r).Perm r
  | [] => .refl _
  | i :: r => by
    simp only [sortI]
    exact (insI_perm' i _).trans (List.Perm.cons _ (sortI_perm' r))
theorem insI_sorted' (i : Int) : ∀ {r : List Int}, r.Pairwise (· <= ·) -> (insI i r).Pairwise (· <= ·)
  | [], _ => by simp [insI]
  | j :: r, h => by
    simp only [insI]
    have h2 := List.pairwise_cons.1 h
    split
    · rename_i hj
      refine List.pairwise_cons.2 ⟨?_, insI_sorted' i h2.2⟩
      intro a ha
      rcases List.mem_cons.1 ((insI_perm' i r).mem_iff.1 ha) with rfl | ha
      · exact hj
      · exact h2.1 a ha
    · rename_i hj
      refine List.pairwise_cons.2 ⟨?_, h⟩
      intro a ha
      rcases List.mem_cons.1 ha with rfl | ha
      · omega
      · have := h2.1 a ha; omega
theorem sortI_sorted' : ∀ r : List Int, (sortI r).Pairwise (· <= ·)
  | [] => .nil
  | i :: r => by simp only [sortI]; exact insI_sorted' i (sortI_sorted' r)
theorem sortI_eq {r q : List Int} (hp : r.Perm q) (hq : q.Pairwise (· < ·)) : sortI r = q :=
  List.Perm.eq_of_pairwise (le := (· <= ·)) (fun a b _ _ h1 h2 => by omega) (sortI_sorted' r) (hq.imp fun h => by omega) ((sortI_perm' r).trans hp)
theorem range_split {n c : Nat} {pre post : List Nat} (h : List.range n = pre ++ c :: post) : pre = List.range c /\ c < n /\ pre.length = c := by
  have hl : pre.length < n := by
    have := congrArg List.length h
    simp at this
    omega
  have h1 : (List.range n)[pre.length]? = some c := by rw [h]; simp
  rw [List.getElem?_range hl] at h1
  have hc : pre.length = c := by simpa using h1
  have h2 : (List.range n).take pre.length = pre := by rw [h]; simp
  rw [List.take_range, Nat.min_eq_left (Nat.le_of_lt hl), hc] at h2
  exact ⟨h2.symm, by omega, hc⟩
theorem optL_map {γ α β : Type} {f : α -> Option β} {h : γ -> α} {k : γ -> β} (hf : ∀ c, f (h c) = some (k c)) : ∀ L : List γ, optL f (L.map h) = some (L.map k)
  | [] => rfl
  | a :: L => by simp only [List.map_cons, optL, hf, optL_map hf L]
def pn (L : List Nat) : List PyData := L.map fun (n : Nat) => PyData.int (n : Int)
def pt (g : List (List Nat)) : List PyData := g.map fun r => PyData.tuple (pn r)
theorem pn_nil : pn [] = [] := rfl
theorem pt_nil : pt [] = [] := rfl
theorem pn_cons {a : Nat} {L : List Nat} : pn (a :: L) = .int (a : Int) :: pn L := rfl
theorem pt_cons {a : List Nat} {L : List (List Nat)} : pt (a :: L) = .tuple (pn a) :: pt L := rfl
theorem toP_int {z : Bool} {s : Sto} {k : Nat} {i : Int} : toP z s (k + 1) (.int i) = some (.int i) := rfl
theorem toP_tup {z : Bool} {s : Sto} {k : Nat} {xs : List D} : toP z s (k + 1) (.tup xs) = (optL (toP z s k) xs).map .tuple := rfl
theorem toP_ref {z : Bool} {s : Sto} {k l : Nat} {xs : List D} (h : s[l]? = some (.lst xs)) : toP z s (k + 1) (.ref l) = (optL (toP z s k) xs).map .list := by
  simp only [toP, h]
theorem toP_nv {z : Bool} {s : Sto} {k : Nat} {L : List Nat} : optL (toP z s (k + 1)) (nv L) = some (pn L) := optL_map (fun c => toP_int) L
theorem pn_lay : ∀ L : List Nat, PyData.canLayAll0 (pn L) = true
  | [] => by simp [pn_nil, pt_nil, pn_cons, pt_cons, PyData.canLayAll0]
  | a :: L => by
    have := pn_lay L
    simp [pn_nil, pt_nil, pn_cons, pt_cons, PyData.canLayAll0, PyData.canLay0, this]
theorem pn_depth : ∀ L : List Nat, PyData.depthAll (pn L) <= 1
  | [] => by simp [pn_nil, pt_nil, pn_cons, pt_cons, PyData.depthAll]
  | a :: L => by
    have := pn_depth L
    simp only [pn_cons, PyData.depthAll, PyData.depth]
    omega
theorem eq_nil {s : Sto} {l : Nat} {W : List Nat} (h : s[l]? = some (.lst (nv W))) : eqD s (.ref l) (.lst []) = some W.isEmpty := by
  have h1 : toP false s 66 (.ref l) = some (.list (pn W)) := by rw [toP_ref h, toP_nv]; rfl
  have h0 : toP false s 66 (.lst []) = some (.list []) := rfl
  have h2 : SeqAt.shaped (.list (pn W)) = true := by
    have h := pn_depth W
    have hd : PyData.depth (.list (pn W)) <= 64 := by simp only [PyData.depth]; omega
    simp [SeqAt.shaped, PyData.canLay0, pn_lay, hd]
  have h3 : SeqAt.shaped (.list []) = true := by decide
  simp only [eqD, h1, h0]
  rw [if_pos ⟨h2, h3⟩]
  cases W with
  | nil => simp [pn_nil, pt_nil, pn_cons, pt_cons, PyData.eqv, PyData.eqvAll]
  | cons a W => simp [pn_nil, pt_nil, pn_cons, pt_cons, PyData.eqv, PyData.eqvAll]
theorem lInt_ref {s : Sto} {l : Nat} {xs : List D} (h : s[l]? = some (.lst xs)) : lInt s (.ref l) = optL intv xs := by
  simp only [lInt, seqv, h]
theorem rk_val {s : Sto} {b : Nat} {xs : List D} (h : D.cleans xs = true) : rback s b (.lst xs) = some (.lst xs) := by
  simp only [rback, rbD, rbs_clean h]; rfl
theorem log_lt {x : Int} {k : Nat} (h : x.natAbs < 2 ^ k) (hk : k <= 500000) : x.natAbs.log2 < 500000 := by
  by_cases h0 : x.natAbs = 0
  · rw [h0]; decide
  · have := (Nat.log2_lt h0).2 h
    omega
theorem take_set {st r : Sto} {l : Nat} {c : D} : (st.set l c ++ r).take st.length = st.set l c := by
  rw [List.take_append_of_le_length (by simp), List.take_of_length_le (by simp)]
abbrev zv (L : List Int) : List D := L.map D.int
theorem seqIdx {x : Int} {n : Nat} (h0 : 0 <= x) (h : x < n) : PySem.seqIndex? x n = some x.toNat := by
  unfold PySem.seqIndex?
  have h1 : ¬ x < 0 := by omega
  simp only [if_neg h1]
  rw [if_pos (by simp [h0, h])]
theorem erase_perm {L : List Nat} {j : Nat} {v : Nat} (h : L[j]? = some v) : L.Perm (v :: L.eraseIdx j) := by
  have h1 := split_at h
  rw [List.eraseIdx_eq_take_drop_succ]
  conv => lhs; rw [h1]
  exact List.perm_middle
theorem nv_erase {L : List Nat} {j : Nat} : (nv L).eraseIdx j = nv (L.eraseIdx j) := by
  simp only [nv, List.eraseIdx_eq_take_drop_succ, List.map_append, List.map_take, List.map_drop]
section
variable {st X : Sto} {a b x : D}
theorem tA {r : Sto} : (st ++ (X ++ a :: r))[st.length + X.length]? = some a := by
  rw [List.getElem?_append_right (by omega)]; simp
theorem tB {r : Sto} : (st ++ (X ++ a :: b :: r))[st.length + X.length + 1]? = some b := by
  rw [List.getElem?_append_right (by omega)]
  simp [show st.length + X.length + 1 - st.length = X.length + 1 by omega]
theorem tAs {r : Sto} : (st ++ (X ++ a :: r)).set (st.length + X.length) x = st ++ (X ++ x :: r) := by
  rw [List.set_append_right _ _ (by omega)]; simp
theorem tBs {r : Sto} : (st ++ (X ++ a :: b :: r)).set (st.length + X.length + 1) x = st ++ (X ++ a :: x :: r) := by
  rw [List.set_append_right _ _ (by omega)]
  simp [show st.length + X.length + 1 - st.length = X.length + 1 by omega, List.set_append]
end
theorem eq_int {s : Sto} {a b : Int} : eqD s (.int a) (.int b) = some (decide (a = b)) := by
  have h1 : ∀ a : Int, toP false s 66 (.int a) = some (.int a) := fun a => rfl
  have h2 : ∀ a : Int, SeqAt.shaped (.int a) = true := fun a => by simp [SeqAt.shaped, PyData.canLay0, PyData.depth]
  simp only [eqD, h1]
  rw [if_pos ⟨h2 a, h2 b⟩]
  congr 1
theorem rgOk_nat {b : Nat} (h : b <= 2 ^ 20) : rgOk 0 (b : Int) = true := by
  unfold rgOk
  exact decide_eq_true ⟨by decide, by decide, by omega, by omega, by omega⟩
def pz (L : List Int) : List PyData := L.map PyData.int
theorem pz_lay : ∀ L : List Int, PyData.canLayAll0 (pz L) = true
  | [] => by simp [pz, PyData.canLayAll0]
  | a :: L => by
    have h : pz (a :: L) = .int a :: pz L := rfl
    rw [h]
    simp only [PyData.canLayAll0, PyData.canLay0, pz_lay L, Bool.and_self]
theorem pz_depth : ∀ L : List Int, PyData.depthAll (pz L) <= 1
  | [] => by simp [pz, PyData.depthAll]
  | a :: L => by
    have h : pz (a :: L) = .int a :: pz L := rfl
    have := pz_depth L
    rw [h]
    simp only [PyData.depthAll, PyData.depth]
    omega
theorem toP_refF {z : Bool} {s : Sto} {k l : Nat} {xs : List D} (h : s[l]? = some (.frl xs)) : toP z s (k + 1) (.ref l) = (optL (toP z s k) xs).map .list := by
  simp only [toP, h]
theorem eq_nilF {s : Sto} {l : Nat} {W : List Int} (h : s[l]? = some (.frl (zv W))) : eqD s (.ref l) (.lst []) = some W.isEmpty := by
  have h1 : toP false s 66 (.ref l) = some (.list (pz W)) := by
    have e : optL (toP false s 65) (zv W) = some (pz W) := optL_map (fun c => toP_int) W
    rw [toP_refF h, e]; rfl
  have h0 : toP false s 66 (.lst []) = some (.list []) := rfl
  have h2 : SeqAt.shaped (.list (pz W)) = true := by
    have h := pz_depth W
    have hd : PyData.depth (.list (pz W)) <= 64 := by simp only [PyData.depth]; omega
    simp [SeqAt.shaped, PyData.canLay0, pz_lay, hd]
  have h3 : SeqAt.shaped (.list []) = true := by decide
  simp only [eqD, h1, h0]
  rw [if_pos ⟨h2, h3⟩]
  cases W with
  | nil => simp [pz, PyData.eqv, PyData.eqvAll]
  | cons a W => simp [pz, PyData.eqv, PyData.eqvAll]
end Fs
namespace Fs
open PySem
theorem fmod2 (d : Nat) : (d : Int).fmod 2 = ((d % 2 : Nat) : Int) := by rw [Int.fmod_eq_emod_of_nonneg _ (by decide)]; rfl
structure Gr (g : List (List Nat)) (e : Nat) : Prop where
  perm : g.flatten.Perm (List.range (2 * e))
  n : g.length <= 60
  e : e <= 120
theorem Gr.nd {g : List (List Nat)} {e : Nat} (h : Gr g e) : g.flatten.Nodup := (h.perm.nodup_iff).2 List.nodup_range
theorem Gr.mem {g : List (List Nat)} {e d : Nat} (h : Gr g e) : d ∈ g.flatten ↔ d < 2 * e := by rw [h.perm.mem_iff, List.mem_range]
theorem Gr.len {g : List (List Nat)} {e : Nat} (h : Gr g e) : g.flatten.length = 2 * e := by rw [h.perm.length_eq, List.length_range]
theorem Gr.row {g : List (List Nat)} {e : Nat} (h : Gr g e) {pre post : List (List Nat)} {r : List Nat} (hg : g = pre ++ r :: post) : r.length <= 240 := by
  have h1 := h.len
  have h2 := h.e
  rw [hg] at h1
  simp only [List.flatten_append, List.flatten_cons, List.length_append] at h1
  omega
theorem Gr.lt {g : List (List Nat)} {e : Nat} (h : Gr g e) {pre post : List (List Nat)} {r : List Nat} (hg : g = pre ++ r :: post) {d : Nat} (hd : d ∈ r) : d < 2 * e := by
  refine h.mem.1 ?_
  rw [hg]
  simp [hd]
end Fs
namespace Fs
open PySem
def src (a b c : Int) : D := .lst [.int a, .int b, .int c]
def Sr (st : Sto) (l : Nat) (N : Int) : Prop := ∃ a b c, st[l]? = some (src a b c) /\ 0 <= b /\ b <= N
def Up (st st' : Sto) (l : Nat) (N : Int) : Prop := ∃ a b c, st' = st.set l (src a b c) /\ 0 <= b /\ b <= N
theorem Up.sr {st st' : Sto} {l : Nat} {N : Int} (h : Up st st' l N) (hl : l < st.length) : Sr st' l N := by
  obtain ⟨a, b, c, rfl, h1, h2⟩ := h
  exact ⟨a, b, c, by simp [hl], h1, h2⟩
theorem Up.trans {st st' st2 : Sto} {l : Nat} {N M : Int} (h : Up st st' l N) (h2 : Up st' st2 l M) : Up st st2 l M := by
  obtain ⟨a, b, c, rfl, _, _⟩ := h
  obtain ⟨a', b', c', rfl, h3, h4⟩ := h2
  exact ⟨a', b', c', by simp, h3, h4⟩
theorem Up.len {st st' : Sto} {l : Nat} {N : Int} (h : Up st st' l N) : st'.length = st.length := by
  obtain ⟨a, b, c, rfl, _, _⟩ := h
  simp
theorem Sr.lt {st : Sto} {l : Nat} {N : Int} (h : Sr st l N) : l < st.length := by
  obtain ⟨a, b, c, h, _⟩ := h
  exact (List.getElem?_eq_some_iff.1 h).1
theorem Sr.up {st : Sto} {l : Nat} {N : Int} (h : Sr st l N) : Up st st l N := by
  have hl := h.lt
  obtain ⟨a, b, c, h, h1, h2⟩ := h
  refine ⟨a, b, c, ?_, h1, h2⟩
  have : st[l] = src a b c := by
    rw [List.getElem?_eq_getElem hl] at h
    exact Option.some.inj h
  rw [<- this]; simp
theorem Sr.mono {st : Sto} {l : Nat} {N M : Int} (h : Sr st l N) (hNM : N <= M) : Sr st l M := by
  obtain ⟨a, b, c, h, h1, h2⟩ := h
  exact ⟨a, b, c, h, h1, by omega⟩
theorem Up.mono {st st' : Sto} {l : Nat} {N M : Int} (h : Up st st' l N) (hNM : N <= M) : Up st st' l M := by
  obtain ⟨a, b, c, h, h1, h2⟩ := h
  exact ⟨a, b, c, h, h1, by omega⟩
def primes : List Int := [2147483647, 2147483629, 2147483587, 2147483579, 2147483563, 2147483549, 2147483543, 2147483497, 2147483489, 2147483477, 2147483423]
theorem prime_at {k : Int} (h0 : 0 <= k) (h : k < 11) : ∃ q, L2.atI (primes.map D.int) k = some (.int q) /\ 2147483423 <= q /\ q <= 2147483647 := by
  have : k = 0 ∨ k = 1 ∨ k = 2 ∨ k = 3 ∨ k = 4 ∨ k = 5 ∨ k = 6 ∨ k = 7 ∨ k = 8 ∨ k = 9 ∨ k = 10 := by omega
  rcases this with rfl | rfl | rfl | rfl | rfl | rfl | rfl | rfl | rfl | rfl | rfl <;> exact ⟨_, rfl, by decide, by decide⟩
theorem k_next (n : Nat) {st : Sto} {l : Nat} {N m : Int} (hm : 0 < m) (hm2 : m < 2 ^ 20) (hN : N <= 2 ^ 30) (h : Sr st l N) : wp (call P (n + 1) F.zq5 [.ref l, .int m]) st (fun r s' => (∃ x : Int, r = .int x /\ 0 <= x /\ x < m) /\ Up st s' l (N + 1)) NX := by
  have hsl := sl_ge
  obtain ⟨a, b, c, hl, hb0, hb⟩ := h
  have hll : l < st.length := (List.getElem?_eq_some_iff.1 hl).1
  refine w_call (F := c_zq5) rfl rfl ?_
  unfold c_zq5
  have e0 : L2.atI [D.int a, D.int b, D.int c] 0 = some (.int a) := rfl
  have e1 : L2.atI [D.int a, D.int b, D.int c] 1 = some (.int b) := rfl
  have e2 : L2.atI [D.int a, D.int b, D.int c] 2 = some (.int c) := rfl
  have i1 : L2.ixN 3 1 = some 1 := rfl
  have i2 : L2.ixN 3 2 = some 2 := rfl
  have hl2 : st[l]? = some (.lst [.int a, .int b, .int c]) := hl
  have hmod : ∀ c : Int, 0 <= (c.fmod m) /\ c.fmod m < m := fun c => ⟨Int.fmod_nonneg_of_pos _ hm, Int.fmod_lt_of_pos _ hm⟩
  have hmlog : m.natAbs.log2 < 9000 := by
    by_cases h0 : m.natAbs = 0
    · rw [h0]; decide
    · have := (Nat.log2_lt (k := 20) h0).2 (by omega)
      omega
  simp! [hl2, e2, truth, i2]
  refine wb_of ?_ ?_
  · intro hc
    refine ⟨by omega, ⟨by omega, hmlog⟩, ?_⟩
    refine ⟨okP_set0 rfl, ?_⟩
    rw [rk_clean rfl]
    refine ⟨⟨_, rfl, hmod _⟩, a, b, c.fdiv m, ?_, hb0, by omega⟩
    rw [List.take_of_length_le (by simp)]; rfl
  · intro hc
    have hs : (st.set l (.lst [.int a, .int (b + 1), .int c]))[l]? = some (.lst [.int a, .int (b + 1), .int c]) := by simp [hll]
    have hs2 : ∀ r, (st.set l (.lst [.int a, .int (b + 1), .int c]) ++ r)[l]? = some (.lst [.int a, .int (b + 1), .int c]) := fun r => sgl hs
    have hpr : L2.atI (primes.map D.int) ((b + 1).fmod 11) = L2.atI (primes.map D.int) ((b + 1).fmod 11) := rfl
    obtain ⟨q, hq, hq1, hq2⟩ := prime_at (k := (b + 1).fmod 11) (Int.fmod_nonneg_of_pos _ (by decide)) (Int.fmod_lt_of_pos _ (by decide))
    have e1' : L2.atI [D.int a, D.int (b + 1), D.int c] 1 = some (.int (b + 1)) := rfl
    have e0' : L2.atI [D.int a, D.int (b + 1), D.int c] 0 = some (.int a) := rfl
    have hq' : L2.atI [D.int 2147483647, D.int 2147483629, D.int 2147483587, D.int 2147483579, D.int 2147483563, D.int 2147483549, D.int 2147483543, D.int 2147483497, D.int 2147483489, D.int 2147483477, D.int 2147483423] ((b + 1).fmod 11) = some (.int q) := hq
    have sg0' : ∀ x, (st.set l (.lst [.int a, .int (b + 1), .int c]) ++ [x])[st.length]? = some x := fun x => by
      have := sg0 (st := st.set l (.lst [.int a, .int (b + 1), .int c])) (c := x) (r := [])
      rwa [List.length_set] at this
    simp! [hl2, e1, i1, la_lst (xs := [D.int 2147483647, D.int 2147483629, D.int 2147483587, D.int 2147483579, D.int 2147483563, D.int 2147483549, D.int 2147483543, D.int 2147483497]) rfl, hs2, hs, List.length_set, sg0', e1', e0', hq']
    have hf1 := Int.fmod_nonneg_of_pos a (b := q) (by omega)
    have hf2 := Int.fmod_lt_of_pos a (b := q) (by omega)
    refine ⟨by omega, by omega, by omega, by decide, by omega, ?_, ⟨by decide, by decide, by omega⟩, by omega, ⟨by decide, by decide⟩, by omega, okP_set rfl, ?_⟩
    · have h1 : (b + 1).natAbs.log2 < 500000 := log_lt (k := 32) (by omega) (by decide)
      have h2 : (Int.natAbs 7919).log2 = 12 := by decide
      omega
    · rw [rk_clean rfl]
      refine ⟨⟨_, rfl, hmod _⟩, a, b + 1, c, ?_, by omega, by omega⟩
      rw [take_set]; rfl
theorem rk_valc {s : Sto} {b : Nat} {a x y : Int} : rback s b (src a x y) = some (src a x y) := rk_val (xs := [.int a, .int x, .int y]) rfl
theorem k_source (n : Nat) {st : Sto} {l k : Nat} {ns : List Int} (hk : k < 8) (hns : ns.length <= 63) (h : st[l]? = some (.frl (zv ns))) :
    wp (call P (n + 1) F.zq4 [.ref l, .int k]) st (fun r s' => (∃ a b c, r = src a b c /\ 0 <= b /\ b <= 24) /\ s' = st) NX := by
  have hsl := sl_ge
  refine w_call (F := c_zq4) rfl rfl ?_
  unfold c_zq4
  simp! []
  refine ⟨by omega, ?_⟩
  rw [eq_nilF h]
  simp! [Option.map_some, truth]
  have h10 : (0 : Int) <= 18 /\ (18 : Int) <= 1000000 /\ (Int.natAbs 10) < 2 ^ 64 := by decide
  have h1018 : (10 : Int) ^ (Int.toNat 18) = 1000000000000000000 := by decide
  have hlog : (Int.natAbs 3).log2 + (Int.natAbs (k : Int)).log2 < 1000000 := by
    have h1 : (Int.natAbs (k : Int)).log2 < 500000 := log_lt (k := 10) (by omega) (by decide)
    have h2 : (Int.natAbs 3).log2 = 1 := by decide
    omega
  by_cases hn0 : ns = []
  · subst hn0
    simp! [List.isEmpty_nil, truth]
    refine ⟨hlog, h10, by omega, okP_self, ?_⟩
    have := rk_valc (s := st) (b := st.length) (a := 1) (x := 3 * (k : Int)) (y := 0)
    rw [src] at this
    rw [this]
    exact ⟨⟨1, 3 * (k : Int), 0, rfl, by omega, by omega⟩, by simp⟩
  · have hpos : 0 < ns.length := List.length_pos_iff.2 hn0
    have hz : (zv ns).length = ns.length := by simp
    have hm1 : 0 <= (k : Int).fmod (ns.length : Int) := Int.fmod_nonneg_of_pos _ (by omega)
    have hm2 : (k : Int).fmod (ns.length : Int) < (ns.length : Int) := Int.fmod_lt_of_pos _ (by omega)
    have hne : ns.isEmpty = false := by simpa using hn0
    rw [hne]
    simp! [h, leC_frl, hz, truth]
    refine ⟨by omega, ?_⟩
    generalize (k : Int).fmod (ns.length : Int) = j at *
    obtain ⟨i, rfl⟩ : ∃ i : Nat, j = (i : Int) := ⟨j.toNat, by omega⟩
    have hi : (zv ns)[i]? = some (.int (ns[i]'(by omega))) := by
      rw [List.getElem?_map, List.getElem?_eq_getElem (by omega)]; rfl
    simp! [atI_nat, hi]
    generalize ns[i] = a
    refine ⟨hlog, h10, ?_⟩
    rw [h1018]
    refine wb_of ?_ ?_
    · intro _
      refine ⟨h10, ⟨by decide, by decide⟩, by omega, okP_self, ?_⟩
      have := rk_valc (s := st) (b := st.length) (a := a) (x := 3 * (k : Int)) (y := a.fdiv 1000000000000000000)
      rw [src] at this
      rw [this]
      exact ⟨⟨a, 3 * (k : Int), _, rfl, by omega, by omega⟩, by simp⟩
    · intro _
      refine ⟨by omega, okP_self, ?_⟩
      have := rk_valc (s := st) (b := st.length) (a := a) (x := 3 * (k : Int)) (y := 0)
      rw [src] at this
      rw [this]
      exact ⟨⟨a, 3 * (k : Int), 0, rfl, by omega, by omega⟩, by simp⟩
end Fs
namespace Fs
open PySem
section
end
end Fs
namespace Fs
open PySem
theorem k_mixed0 (n : Nat) {st X : Sto} {l : Nat} {N : Int} {L : List Nat} {d : D} (hN : N + L.length <= 2 ^ 30) (hL : L.length < 1000) (h : Sr st l N) (hd : seqv (st ++ X) d = some (nv L)) :
    wp (exL (P.tbl (n + 1)) c_zq6.body [some (.ref l), some d, none, none]) (st ++ X) (lv st (fun r s' => (∃ L', r = .lst (nv L') /\ L'.Perm L) /\ Up st s' l (N + L.length)) NX) NX := by
  have hsl := sl_ge
  have hll := h.lt
  unfold c_zq6
  simp! [hd, la_lst nv_purs]
  refine ⟨by omega, by omega, ?_⟩
  refine w_wh (fun k σ s => ∃ (R F : List Nat) (st2 : Sto), σ = [some (.ref l), some d, some (.ref (st.length + X.length)), some (.ref (st.length + X.length + 1))] /\ s = st2 ++ (X ++ [.lst (nv R), .lst (nv F)]) /\ Up st st2 l (N + F.length) /\ (F ++ R).Perm L /\ k = R.length) ?_ wfuel L.length _ _ ?_ (by rw [show wfuel = 1000000 from rfl]; omega)
  · rintro k σ s ⟨R, F, st2, rfl, rfl, hu, hp, rfl⟩
    have hlen := hu.len
    have hpl : F.length + R.length = L.length := by have := hp.length_eq; simpa using this
    rw [<- hlen]
    simp! []
    refine ⟨by omega, ?_⟩
    rw [eq_nil (W := R) tA]
    simp! [Option.map_some, truth]
    cases R with
    | nil =>
      simp! [List.isEmpty_nil]
      obtain ⟨a, b, c, rfl, h1, h2⟩ := hu
      rw [List.length_set] at *
      refine ⟨okP_set rfl, ?_⟩
      have hg : (st.set l (src a b c) ++ (X ++ [.lst (nv []), .lst (nv F)]))[st.length + X.length + 1]? = some (.lst (nv F)) := by
        have := tB (st := st.set l (src a b c)) (X := X) (a := .lst (nv [])) (b := .lst (nv F)) (r := [])
        rwa [List.length_set] at this
      rw [rk_set_lst (by omega) hg nv_clean, take_set]
      refine ⟨⟨F, rfl, by simpa using hp⟩, a, b, c, rfl, h1, ?_⟩
      simp at hpl
      omega
    | cons r0 R0 =>
      have hsr : Sr (st2 ++ (X ++ [.lst (nv (r0 :: R0)), .lst (nv F)])) l (N + F.length) := by
        obtain ⟨a, b, c, h0, h1, h2⟩ := hu.sr hll
        exact ⟨a, b, c, sgl h0, h1, h2⟩
      have hne : (r0 :: R0).isEmpty = false := rfl
      rw [hne]
      simp! [tA, tB, nv_len]
      rw [List.length_cons] at hpl
      refine ⟨by omega, rfl, ?_⟩
      refine wp_nx (k_next (n := n) (m := ((R0.length + 1 : Nat) : Int)) (by omega) (by omega) (by omega) hsr) ?_
      rintro y s3 ⟨⟨x, rfl, hx0, hx1⟩, a, b, c, rfl, hb0, hb1⟩
      have hst2 : ∃ c', st2[l]? = some c' := ⟨_, List.getElem?_eq_getElem (by omega)⟩
      obtain ⟨c', hc'⟩ := hst2
      rw [ssl hc']
      have hlen3 : (st2.set l (src a b c)).length = st2.length := by simp
      rw [<- hlen3]
      have hk : ((4 : Nat) == 5) = false := rfl
      simp! [tA, tB, hk, nv_len]
      refine ⟨by omega, ?_⟩
      rw [seqIdx hx0 hx1]
      simp! [nv_get]
      have hxl : x.toNat < (r0 :: R0).length := by rw [List.length_cons]; omega
      rw [List.getElem?_eq_getElem hxl]
      simp! [Option.map_some, tAs, nv_erase, tB, tBs, nv_len]
      rw [<- nv_one, <- nv_app]
      refine ⟨by omega, ((r0 :: R0).eraseIdx x.toNat).length, ?_, (r0 :: R0).eraseIdx x.toNat, F ++ [(r0 :: R0)[x.toNat]], st2.set l (src a b c), rfl, ?_, ?_, rfl⟩
      · rw [List.length_eraseIdx_of_lt hxl]; simp
      · refine hu.trans ⟨a, b, c, rfl, hb0, ?_⟩
        simp; omega
      · have h1 := erase_perm (List.getElem?_eq_getElem hxl)
        rw [List.append_assoc]
        exact (List.Perm.append_left F h1.symm).trans hp
  · refine ⟨L, [], st, rfl, rfl, ?_, by simp, rfl⟩
    simpa using h.up
theorem k_mixedL (n : Nat) {st : Sto} {l : Nat} {N : Int} {L : List Nat} (hN : N + L.length <= 2 ^ 30) (hL : L.length < 1000) (h : Sr st l N) :
    wp (call P (n + 2) F.zq6 [.ref l, .lst (nv L)]) st (fun r s' => (∃ L', r = .lst (nv L') /\ L'.Perm L) /\ Up st s' l (N + L.length)) NX := by
  refine w_call (F := c_zq6) rfl rfl ?_
  have e : lands [.ref l, .lst (nv L)] st = ([.ref l, .ref st.length], st ++ [.lst (nv L)]) := by
    simp only [lands, la_ref, la_lst nv_purs]
  rw [e]
  exact k_mixed0 n hN hL h (by simp only [seqv, sg0])
end Fs
namespace Fs
open PySem
def rg (n : Nat) (f : Nat -> D) : List D := (List.range n).map f
theorem rngL1' {b : Nat} (h : b <= 2 ^ 20) : rngL [.int (b : Nat)] = some ((List.range b).map fun i => .int ((i : Nat) : Int)) := rngL1 h
section
variable {T : Tbl} {σ : Env} {s : Sto} {E : D -> Sto -> Prop} {Q : D -> Sto -> Prop} {QF : Fl -> Sto -> Prop} {γ : Type}
end
theorem okP_of : ∀ {st s2 : Sto} {b : Nat}, (∀ (l : Nat) (c : D), st[l]? = some c -> ∃ c', s2[l]? = some c' /\ (c = c' ∨ cellCl b c' = true)) -> okPre st s2 b = true
  | [], s2, b, _ => by cases s2 <;> rfl
  | c :: st, [], b, h => by
    obtain ⟨c', h1, _⟩ := h 0 c rfl
    simp at h1
  | c :: st, d :: s2, b, h => by
    have ih := okP_of (st := st) (s2 := s2) (b := b) fun l x hx => h (l + 1) x (by simpa using hx)
    obtain ⟨c', h1, h2⟩ := h 0 c rfl
    have : d = c' := by simpa using h1
    subst this
    simp only [okPre, ih, Bool.and_true, Bool.or_eq_true, decide_eq_true_eq]
    exact h2
structure Rws (s : Sto) (o : Nat) (p : Nat -> Nat) (m : Nat) (c : Nat -> List D) : Prop where
  top : s[o]? = some (.lst (rg m fun i => .ref (p i)))
  row : ∀ i, i < m -> s[p i]? = some (.lst (c i))
  inj : ∀ i j, i < m -> j < m -> p i = p j -> i = j
  off : ∀ i, i < m -> p i ≠ o
theorem Rws.lt {s : Sto} {o m : Nat} {p : Nat -> Nat} {c : Nat -> List D} (h : Rws s o p m c) {i : Nat} (hi : i < m) : p i < s.length := (List.getElem?_eq_some_iff.1 (h.row i hi)).1
mutual
def D.fc : D -> Bool
  | .non | .bl _ | .int _ | .str _ => true
  | .tup xs => D.fcs xs
  | .lst xs => D.fcs xs
  | _ => false
def D.fcs : List D -> Bool
  | [] => true
  | x :: xs => D.fc x && D.fcs xs
end
mutual
theorem rb_fc {g : Nat -> List Nat -> Option (D × List Nat)} {b : Nat} : ∀ {d : D} {vis : List Nat}, d.fc = true -> rbD g b d vis = some (d, vis)
  | .non, vis, _ => by simp only [rbD]
  | .bl _, vis, _ => by simp only [rbD]
  | .int _, vis, _ => by simp only [rbD]
  | .str _, vis, _ => by simp only [rbD]
  | .tup xs, vis, h => by simp only [D.fc] at h; simp only [rbD, rbs_fc h]; rfl
  | .lst xs, vis, h => by simp only [D.fc] at h; simp only [rbD, rbs_fc h]; rfl
  | .ref _, vis, h => by simp [D.fc] at h
  | .frl _, vis, h => by simp [D.fc] at h
  | .dic _, vis, h => by simp [D.fc] at h
  | .set _, vis, h => by simp [D.fc] at h
  | .exc _ _, vis, h => by simp [D.fc] at h
  | .lam _ _, vis, h => by simp [D.fc] at h
theorem rbs_fc {g : Nat -> List Nat -> Option (D × List Nat)} {b : Nat} : ∀ {ds : List D} {vis : List Nat}, D.fcs ds = true -> rbDs g b ds vis = some (ds, vis)
  | [], vis, _ => by simp only [rbDs]
  | d :: ds, vis, h => by
    simp only [D.fcs, Bool.and_eq_true] at h
    simp only [rbDs, rb_fc h.1, Option.bind_some, rbs_fc h.2, Option.map_some]
end
theorem take_eq {st s2 : Sto} (hl : st.length <= s2.length) (h : ∀ l : Nat, l < st.length -> s2[l]? = st[l]?) : s2.take st.length = st := by
  refine List.ext_getElem? fun l => ?_
  rw [List.getElem?_take]
  by_cases hl2 : l < st.length
  · rw [if_pos hl2, h l hl2]
  · rw [if_neg hl2, List.getElem?_eq_none (by omega)]
theorem okP_eq {st s2 : Sto} {b : Nat} (h : ∀ l : Nat, l < st.length -> s2[l]? = st[l]?) : okPre st s2 b = true :=
  okP_of fun l c hc => ⟨c, (h l (List.getElem?_eq_some_iff.1 hc).1).trans hc, .inl rfl⟩
structure Sq (st s : Sto) (l : Nat) (N : Int) : Prop where
  lt : l < st.length
  le : st.length <= s.length
  up : Up st (s.take st.length) l N
theorem Sq.sr {st s : Sto} {l : Nat} {N : Int} (h : Sq st s l N) : Sr s l N := by
  obtain ⟨a, b, c, h1, h2, h3⟩ := h.up.sr h.lt
  refine ⟨a, b, c, ?_, h2, h3⟩
  rw [List.getElem?_take, if_pos h.lt] at h1
  exact h1
theorem Sq.start {st : Sto} {l : Nat} {N : Int} (h : Sr st l N) : Sq st st l N := ⟨h.lt, Nat.le_refl _, by rw [List.take_length]; exact h.up⟩
theorem Sq.next {st s s' : Sto} {l : Nat} {N M : Int} (h : Sq st s l N) (h2 : Up s s' l M) : Sq st s' l M := by
  obtain ⟨a, b, c, rfl, h3, h4⟩ := h2
  refine ⟨h.lt, by rw [List.length_set]; exact h.le, ?_⟩
  rw [List.take_set]
  obtain ⟨a', b', c', h5, _, _⟩ := h.up
  rw [h5, List.set_set]
  exact ⟨a, b, c, rfl, h3, h4⟩
theorem Sq.set {st s : Sto} {l q : Nat} {N : Int} {c : D} (h : Sq st s l N) (hq : st.length <= q) : Sq st (s.set q c) l N := by
  refine ⟨h.lt, by rw [List.length_set]; exact h.le, ?_⟩
  rw [List.take_set, List.set_eq_of_length_le (by rw [List.length_take]; omega)]
  exact h.up
theorem Sq.app {st s r : Sto} {l : Nat} {N : Int} (h : Sq st s l N) : Sq st (s ++ r) l N := by
  refine ⟨h.lt, by rw [List.length_append]; have := h.le; omega, ?_⟩
  rw [List.take_append_of_le_length h.le]
  exact h.up
theorem Sq.mono {st s : Sto} {l : Nat} {N M : Int} (h : Sq st s l N) (hM : N <= M) : Sq st s l M := ⟨h.lt, h.le, h.up.mono hM⟩
theorem Sq.fin {st s : Sto} {l : Nat} {N : Int} (h : Sq st s l N) : okPre st s st.length = true := by
  obtain ⟨a, b, c, h5, _, _⟩ := h.up
  refine okP_of fun i x hx => ?_
  have hi : i < st.length := (List.getElem?_eq_some_iff.1 hx).1
  have h6 : s[i]? = (st.set l (src a b c))[i]? := by
    rw [<- h5, List.getElem?_take, if_pos hi]
  by_cases hil : i = l
  · subst hil
    refine ⟨src a b c, ?_, .inr rfl⟩
    rw [h6]; simp [hi]
  · refine ⟨x, ?_, .inl rfl⟩
    rw [h6, List.getElem?_set_ne (fun q => hil q.symm)]
    exact hx
theorem Rws.set {s : Sto} {o m : Nat} {p : Nat -> Nat} {c : Nat -> List D} (h : Rws s o p m c) {i : Nat} (hi : i < m) (x : List D) : Rws (s.set (p i) (.lst x)) o p m fun j => if j = i then x else c j := by
  refine ⟨?_, fun j hj => ?_, h.inj, h.off⟩
  · rw [List.getElem?_set_ne (h.off i hi)]; exact h.top
  · by_cases hji : j = i
    · subst hji
      have := h.lt hi
      rw [if_pos rfl]
      simp [this]
    · rw [if_neg hji, List.getElem?_set_ne (fun q => hji (h.inj _ _ hi hj q).symm)]
      exact h.row j hj
def On (st s : Sto) : Prop := st.length <= s.length /\ ∀ l : Nat, l < st.length -> s[l]? = st[l]?
theorem On.refl {st : Sto} : On st st := ⟨Nat.le_refl _, fun _ _ => rfl⟩
theorem On.app {st s r : Sto} (h : On st s) : On st (s ++ r) := ⟨by rw [List.length_append]; have := h.1; omega, fun l hl => by rw [List.getElem?_append_left (by have := h.1; omega), h.2 l hl]⟩
theorem On.set {st s : Sto} {q : Nat} {c : D} (h : On st s) (hq : st.length <= q) : On st (s.set q c) := ⟨by rw [List.length_set]; exact h.1, fun l hl => by rw [List.getElem?_set_ne (by omega), h.2 l hl]⟩
theorem On.fin {st s : Sto} (h : On st s) : okPre st s st.length = true := okP_eq h.2
theorem On.take {st s : Sto} (h : On st s) : s.take st.length = st := take_eq h.1 h.2
theorem On.up {st s s' : Sto} {l : Nat} {N : Int} (h : On st s) (hl : st.length <= l) (hu : Up s s' l N) : On st s' := by
  obtain ⟨a, b, c, rfl, _, _⟩ := hu
  exact h.set hl
theorem Sr.app {s r : Sto} {l : Nat} {N : Int} (h : Sr s l N) : Sr (s ++ r) l N := by
  obtain ⟨a, b, c, h0, h1, h2⟩ := h
  exact ⟨a, b, c, sgl h0, h1, h2⟩
section
variable {T : Tbl} {σ : Env} {s : Sto} {E : D -> Sto -> Prop} {Q : D -> Sto -> Prop} {QF : Fl -> Sto -> Prop} {γ : Type}
theorem b_addLL {xs ys : List D} : wp (binD .add (.lst xs) (.lst ys)) s Q E = (xs.length + ys.length <= sizeLine /\ Q (.lst (xs ++ ys)) s) := by
  by_cases h : xs.length + ys.length <= sizeLine
  · simp only [wp_def, binD, lstv_lst, if_pos h]
    exact propext ⟨fun q => ⟨h, q⟩, fun q => q.2⟩
  · simp only [wp_def, binD, lstv_lst, if_neg h]
    exact propext ⟨False.elim, fun q => h q.1⟩
theorem sl_ref {l : Nat} {lo hi : Option Int} : wp (slcD (.ref l) lo hi) s Q E = og (lpC s[l]?) (fun xs => Q (.lst (cutD xs lo hi)) s) := by
  simp only [wp_def, slcD, lstv_ref]
  cases lpC s[l]? <;> rfl
theorem sl_tup {xs : List D} {lo hi : Option Int} : wp (slcD (.tup xs) lo hi) s Q E = Q (.tup (cutD xs lo hi)) s := by
  simp only [wp_def, slcD]; rfl
end
end Fs
namespace Fs
open PySem
section
inductive Cx (R : Nat -> Nat -> Prop) : Nat -> Nat -> Prop where
  | refl (u : Nat) : Cx R u u
  | fwd {u v w : Nat} : Cx R u v -> R v w -> Cx R u w
  | bwd {u v w : Nat} : Cx R u v -> R w v -> Cx R u w
end
section
variable {R : Nat -> Nat -> Prop}
theorem Cx.trans {u v w : Nat} (h : Cx R u v) (h2 : Cx R v w) : Cx R u w := by
  induction h2 with
  | refl => exact h
  | fwd _ r ih => exact .fwd ih r
  | bwd _ r ih => exact .bwd ih r
theorem Cx.symm {u v : Nat} (h : Cx R u v) : Cx R v u := by
  induction h with
  | refl => exact .refl _
  | fwd _ r ih => exact (Cx.bwd (.refl _) r).trans ih
  | bwd _ r ih => exact (Cx.fwd (.refl _) r).trans ih
end
section
open Classical in
noncomputable def cls (R : Nat -> Nat -> Prop) (n m : Nat) : List Nat := (List.range n).filter fun v => decide (Cx R m v)
end
section
variable {st J r : Sto} {a b c p w x : D}
theorem pA : (st ++ a :: b :: c :: (J ++ p :: r))[st.length + (J.length + 1 + 1 + 1)]? = some p := by
  rw [List.getElem?_append_right (by omega)]
  simp
end
section
end
end Fs
namespace Fs
open PySem
section
variable {T : Tbl} {σ : Env} {s : Sto} {E : D -> Sto -> Prop} {Q : D -> Sto -> Prop} {QF : Fl -> Sto -> Prop} {γ : Type}
end
end Fs
namespace Fs
open PySem
theorem e_act {T : Tbl} {σ : Env} {s : Sto} {Q E : D -> Sto -> Prop} : wp (ev T .act σ) s Q E = wp (T.act σ) s Q E := by simp only [ev]
theorem w_act {T0 : Tbl} {nm : Str} {e : Ex} {l : Nat} {σ : Env} {r : Env} {s : Sto} {Q E : D -> Sto -> Prop} : wp (actM T0 (some (nm, e)) l σ (some (.ref l) :: r)) s Q E = wp (ev T0 e σ) s Q E := by
  have : actM T0 (some (nm, e)) l σ (some (.ref l) :: r) = ev T0 e σ := by
    unfold actM
    simp
  rw [this]
theorem w_tell {P : Pr} {n f q k : Nat} {σ : Env} {s : Sto} {nm : Str} {e : Ex} {F : Fn} {Q E : D -> Sto -> Prop} (hq : s[q]? = some (.lam 0 [.str nm])) (hk : P.lams k = some (nm, e)) (hF : P.fns f = some F) (hn : F.np = 1)
    (h : wp (exL { P.tbl (n + 1) with act := actM (P.tbl n) (some (nm, e)) s.length σ } F.body (some (.ref s.length) :: List.replicate (F.ns - 1) none)) (s ++ [.lam 1 []]) (lv s Q E) NX) : wp (ev (P.tbl (n + 2)) (.tell f q k) σ) s Q E := by
  have e1 : isTab s q (P.lams k) = true := by unfold isTab; rw [hq, hk]; simp
  simp only [ev, tbl_tl]
  rw [wp_def]
  unfold tellM
  rw [e1, hF, hk]
  simp only [decide_eq_true hn]
  simp only [wp_def] at h
  cases e : exL { P.tbl (n + 1) with act := actM (P.tbl n) (some (nm, e)) s.length σ } F.body (some (.ref s.length) :: List.replicate (F.ns - 1) none) (s ++ [.lam 1 []]) with
  | ok f s2 =>
    rw [e] at h
    simp only [wr] at h
    cases f with
    | rt d =>
      rw [lv_rt] at h
      obtain ⟨h1, h2⟩ := h
      simp only [outR, leaveD, h1]
      cases er : rback s2 s.length d with
      | none => rw [er] at h2; exact h2.elim
      | some d' => rw [er] at h2; exact h2
    | nx σ =>
      rw [lv_nx] at h
      simp only [outR, leaveD, h.1]
      exact h.2
    | ex σ e =>
      rw [lv_ex] at h
      simp only [outR, leaveD, h.1, h.2.1, Bool.and_self]
      exact h.2.2
    | br => exact h.elim
    | ct => exact h.elim
  | exc e s2 => rw [e] at h; exact h.elim
  | bad => rw [e] at h; exact h.elim
theorem bi_reprE1 {T : Tbl} {s : Sto} {Q E : D -> Sto -> Prop} {d : D} : wp (biD T .reprE [d]) s Q E = og (toP true s 60 d) (fun p => (p.showable = true /\ p.shown.length <= sizeLine /\ p.depth <= 60) /\ Q (.str p.shown) s) := by
  refine (wp_optS (o := fun st => toP true st 60 d)).trans (og_q fun ns => ?_)
  rw [wp_gd, wp_ret, decide_eq_true_eq]
theorem bi_isC {T : Tbl} {s : Sto} {Q E : D -> Sto -> Prop} {cs : List Nat} {c : Nat} {fs : List D} : wp (biD T (.isC cs) [.exc c fs]) s Q E = Q (.bl (cs.any fun k => T.anc c k)) s := by
  rw [wp_def]; exact propext Iff.rfl
end Fs
namespace Pf
def sm : Nat -> (Nat -> Rat) -> Rat
  | 0, _ => 0
  | n + 1, f => sm n f + f n
theorem sm_congr : ∀ {n : Nat} {f g : Nat -> Rat}, (∀ i, i < n -> f i = g i) -> sm n f = sm n g
  | 0, _, _, _ => rfl
  | n + 1, f, g, h => by
    simp only [sm]
    rw [sm_congr fun i hi => h i (by omega), h n (by omega)]
theorem sm_zero : ∀ {n : Nat}, sm n (fun _ => 0) = 0
  | 0 => rfl
  | n + 1 => by simp only [sm, sm_zero]; grind
theorem sm_add : ∀ {n : Nat} {f g : Nat -> Rat}, sm n (fun i => f i + g i) = sm n f + sm n g
  | 0, _, _ => by simp only [sm]; grind
  | n + 1, f, g => by
    simp only [sm, sm_add]; grind
theorem sm_mul : ∀ {n : Nat} {f : Nat -> Rat} {c : Rat}, sm n (fun i => c * f i) = c * sm n f
  | 0, _, _ => by simp only [sm]; grind
  | n + 1, f, c => by simp only [sm, sm_mul]; grind
theorem sm_neg {n : Nat} {f : Nat -> Rat} : sm n (fun i => - f i) = - sm n f := by
  have h := sm_mul (n := n) (f := f) (c := -1)
  have h2 : sm n (fun i => - f i) = sm n (fun i => -1 * f i) := sm_congr fun i _ => by grind
  rw [h2, h]; grind
theorem sm_swap : ∀ {n m : Nat} {f : Nat -> Nat -> Rat}, sm n (fun i => sm m (fun j => f i j)) = sm m (fun j => sm n (fun i => f i j))
  | 0, m, f => by simp only [sm, sm_zero]
  | n + 1, m, f => by
    simp only [sm]
    rw [sm_swap, <- sm_add]
theorem sm_first : ∀ {n : Nat} {f : Nat -> Rat}, sm (n + 1) f = f 0 + sm n (fun i => f (i + 1))
  | 0, f => by simp only [sm]; grind
  | n + 1, f => by
    have h := sm_first (n := n) (f := f)
    rw [sm, h]
    simp only [sm]; grind
theorem sm_skip : ∀ {n i : Nat} {g : Nat -> Rat}, i <= n -> sm n (fun j => g (if j < i then j else j + 1)) + g i = sm (n + 1) g
  | 0, i, g, h => by
    have : i = 0 := by omega
    subst this; simp only [sm]
  | n + 1, i, g, h => by
    by_cases hi : i <= n
    · have ih := sm_skip (n := n) (i := i) (g := g) hi
      have e : (if n < i then n else n + 1) = n + 1 := by rw [if_neg (by omega)]
      simp only [sm, e] at ih ⊢
      rw [<- ih]; grind
    · have hi2 : i = n + 1 := by omega
      subst hi2
      have h1 : sm (n + 1) (fun j => g (if j < n + 1 then j else j + 1)) = sm (n + 1) g := sm_congr fun j hj => by rw [if_pos hj]
      rw [h1]; rfl
def sg (n : Nat) : Rat := if n % 2 = 0 then 1 else -1
theorem sg_succ {n : Nat} : sg (n + 1) = - sg n := by
  unfold sg
  by_cases h : n % 2 = 0
  · rw [if_pos h, if_neg (by omega)]
  · rw [if_neg h, if_pos (by omega)]; grind
theorem sg_zero : sg 0 = 1 := rfl
section
variable {V : Type}
def pf (w : V -> V -> Rat) : Nat -> List V -> Rat
  | _, [] => 1
  | 0, _ :: _ => 0
  | n + 1, v :: L => sm L.length (fun k => sg k * (match L[k]? with
      | some x => w v x
      | none => 0) * pf w n (L.eraseIdx k))
def at' (w : V -> V -> Rat) (v : V) (o : Option V) : Rat := match o with
  | some x => w v x
  | none => 0
theorem pf_nil {w : V -> V -> Rat} {n : Nat} : pf w n [] = 1 := by cases n <;> rfl
theorem pf_cons {w : V -> V -> Rat} {n : Nat} {v : V} {L : List V} : pf w (n + 1) (v :: L) = sm L.length (fun k => sg k * at' w v L[k]? * pf w n (L.eraseIdx k)) := by
  simp only [pf, at']
theorem pf_more {w : V -> V -> Rat} : ∀ {n m : Nat} {L : List V}, L.length <= n -> L.length <= m -> pf w n L = pf w m L := by
  intro n
  induction n with
  | zero =>
    intro m L h1 h2
    have : L = [] := List.length_eq_zero_iff.1 (by omega)
    subst this; rw [pf_nil, pf_nil]
  | succ n ih =>
    intro m L h1 h2
    cases L with
    | nil => rw [pf_nil, pf_nil]
    | cons v L =>
      cases m with
      | zero => simp at h2
      | succ m =>
        rw [pf_cons, pf_cons]
        refine sm_congr fun k hk => ?_
        simp only [List.length_cons] at h1 h2
        have he : (L.eraseIdx k).length <= L.length := List.length_eraseIdx_le ..
        rw [ih (m := m) (L := L.eraseIdx k) (by omega) (by omega)]
def pfs (w : V -> V -> Rat) (L : List V) : Rat := pf w L.length L
theorem pfs_nil {w : V -> V -> Rat} : pfs w [] = 1 := rfl
theorem pfs_cons {w : V -> V -> Rat} {v : V} {L : List V} : pfs w (v :: L) = sm L.length (fun k => sg k * at' w v L[k]? * pfs w (L.eraseIdx k)) := by
  unfold pfs
  rw [List.length_cons, pf_cons]
  refine sm_congr fun k hk => ?_
  rw [pf_more (n := L.length) (m := (L.eraseIdx k).length) (List.length_eraseIdx_le ..) (Nat.le_refl _)]
end
end Pf
namespace Pf
section
variable {V : Type} {w : V -> V -> Rat}
theorem erase_comm {L : List V} {j k : Nat} (h : j < k) : (L.eraseIdx k).eraseIdx j = (L.eraseIdx j).eraseIdx (k - 1) := by
  refine List.ext_getElem? fun i => ?_
  simp only [List.getElem?_eraseIdx]
  by_cases h1 : i < j
  · rw [if_pos h1, if_pos (by omega), if_pos (by omega), if_pos h1]
  · rw [if_neg h1]
    by_cases h2 : i < k - 1
    · rw [if_pos (by omega), if_pos h2, if_neg h1]
    · rw [if_neg (by omega), if_neg h2, if_neg (by omega)]
def two (L : List V) (k j : Nat) : List V := (L.eraseIdx k).eraseIdx (if j < k then j else j - 1)
theorem two_comm {L : List V} {k j : Nat} (h : k ≠ j) : two L k j = two L j k := by
  unfold two
  by_cases h1 : j < k
  · rw [if_pos h1, if_neg (by omega)]
    exact erase_comm h1
  · rw [if_neg h1, if_pos (by omega)]
    exact (erase_comm (by omega)).symm
def G2 (w : V -> V -> Rat) (x y : V) (L : List V) (k j : Nat) : Rat := if j = k then 0 else - sg k * (if j < k then sg j else - sg j) * at' w x L[k]? * at' w y L[j]? * pfs w (two L k j)
theorem G2_lt {x y : V} {L : List V} {k j : Nat} (h : j < k) : G2 w x y L k j = - sg k * sg j * at' w x L[k]? * at' w y L[j]? * pfs w (two L k j) := by
  unfold G2
  rw [if_neg (by omega), if_pos h]
theorem G2_gt {x y : V} {L : List V} {k j : Nat} (h : k < j) : G2 w x y L k j = sg k * sg j * at' w x L[k]? * at' w y L[j]? * pfs w (two L k j) := by
  unfold G2
  rw [if_neg (by omega), if_neg (by omega)]; grind
theorem G2_anti {x y : V} {L : List V} {k j : Nat} : G2 w x y L k j = - G2 w y x L j k := by
  rcases Nat.lt_trichotomy j k with h | h | h
  · rw [G2_lt h, G2_gt h, two_comm (by omega : k ≠ j)]; grind
  · subst h
    unfold G2
    rw [if_pos rfl]; rw [if_pos rfl]; grind
  · rw [G2_gt h, G2_lt h, two_comm (by omega : k ≠ j)]; grind
theorem pfs_two {x y : V} {L : List V} : pfs w (x :: y :: L) = w x y * pfs w L + sm L.length (fun k => sm L.length (fun j => G2 w x y L k j)) := by
  rw [pfs_cons, List.length_cons, sm_first]
  have e0 : sg 0 * at' w x (y :: L)[0]? * pfs w ((y :: L).eraseIdx 0) = w x y * pfs w L := by
    simp only [List.getElem?_cons_zero, at', List.eraseIdx_cons_zero, sg_zero]; grind
  rw [e0]
  congr 1
  refine sm_congr fun k hk => ?_
  have e1 : (y :: L)[k + 1]? = L[k]? := by simp
  have e2 : (y :: L).eraseIdx (k + 1) = y :: L.eraseIdx k := by simp
  rw [e1, e2, pfs_cons]
  have hl : (L.eraseIdx k).length = L.length - 1 := List.length_eraseIdx_of_lt hk
  obtain ⟨n, hn⟩ : ∃ n, L.length = n + 1 := ⟨L.length - 1, by omega⟩
  rw [hl, hn]
  have hs := sm_skip (n := n) (i := k) (g := fun j => G2 w x y L k j) (by omega)
  have hkk : G2 w x y L k k = 0 := by unfold G2; rw [if_pos rfl]
  rw [hkk] at hs
  rw [<- hs]
  have e3 : sg (k + 1) * at' w x L[k]? * sm (n + 1 - 1) (fun j => sg j * at' w y (L.eraseIdx k)[j]? * pfs w ((L.eraseIdx k).eraseIdx j)) = sm n (fun j => sg (k + 1) * at' w x L[k]? * (sg j * at' w y (L.eraseIdx k)[j]? * pfs w ((L.eraseIdx k).eraseIdx j))) := by
    rw [sm_mul]; rfl
  rw [e3]
  have e4 : ∀ a : Rat, a + 0 = a := fun a => by grind
  rw [e4]
  refine sm_congr fun j hj => ?_
  by_cases h : j < k
  · rw [if_pos h]
    unfold G2 two
    rw [if_neg (by omega), if_pos h, if_pos h, List.getElem?_eraseIdx, if_pos h, sg_succ]
    grind
  · rw [if_neg h]
    unfold G2 two
    rw [if_neg (by omega), if_neg (by omega), if_neg (by omega), List.getElem?_eraseIdx, if_neg h, sg_succ, sg_succ]
    have : j + 1 - 1 = j := by omega
    rw [this]
    grind
theorem swap_top (hw : ∀ a b, w a b = - w b a) {x y : V} {L : List V} : pfs w (x :: y :: L) = - pfs w (y :: x :: L) := by
  rw [pfs_two, pfs_two]
  have h1 : sm L.length (fun k => sm L.length (fun j => G2 w x y L k j)) = - sm L.length (fun k => sm L.length (fun j => G2 w y x L k j)) := by
    rw [sm_swap, <- sm_neg]
    refine sm_congr fun k _ => ?_
    rw [<- sm_neg]
    exact sm_congr fun j _ => G2_anti
  rw [h1, hw x y]; grind
theorem sm_split : ∀ {m n : Nat} {f : Nat -> Rat}, sm (n + m) f = sm n f + sm m (fun i => f (n + i))
  | 0, n, f => by simp only [Nat.add_zero, sm]; grind
  | m + 1, n, f => by
    rw [<- Nat.add_assoc]
    simp only [sm]
    rw [sm_split]; grind
theorem sm_at2 {n m : Nat} {f : Nat -> Rat} : sm (n + (m + 2)) f = sm n f + f n + f (n + 1) + sm m (fun i => f (n + 2 + i)) := by
  rw [sm_split, sm_first, sm_first]
  have h : sm m (fun i => f (n + (i + 1 + 1))) = sm m (fun i => f (n + 2 + i)) := sm_congr fun i _ => by
    rw [show n + (i + 1 + 1) = n + 2 + i by omega]
  rw [h]
  have h0 : f (n + 0) = f n := rfl
  have h1 : f (n + (0 + 1)) = f (n + 1) := rfl
  rw [h0, h1]; grind
theorem swap_any (hw : ∀ a b, w a b = - w b a) : ∀ {n : Nat} {A : List V} {x y : V} {L : List V}, A.length + L.length = n -> pfs w (A ++ x :: y :: L) = - pfs w (A ++ y :: x :: L) := by
  intro n
  induction n using Nat.strongRecOn with
  | ind n ih =>
    intro A x y L hn
    cases A with
    | nil => exact swap_top hw
    | cons v A =>
      simp only [List.cons_append, List.length_cons] at hn ⊢
      rw [pfs_cons, pfs_cons]
      have hlen : (A ++ x :: y :: L).length = A.length + (L.length + 2) := by simp
      have hlen2 : (A ++ y :: x :: L).length = A.length + (L.length + 2) := by simp
      rw [hlen, hlen2, sm_at2, sm_at2]
      have hA : sm A.length (fun k => sg k * at' w v (A ++ x :: y :: L)[k]? * pfs w ((A ++ x :: y :: L).eraseIdx k)) = - sm A.length (fun k => sg k * at' w v (A ++ y :: x :: L)[k]? * pfs w ((A ++ y :: x :: L).eraseIdx k)) := by
        rw [<- sm_neg]
        refine sm_congr fun k hk => ?_
        have hAk : (A.eraseIdx k).length = A.length - 1 := List.length_eraseIdx_of_lt hk
        rw [List.getElem?_append_left hk, List.getElem?_append_left hk, List.eraseIdx_append_of_lt_length hk, List.eraseIdx_append_of_lt_length hk]
        rw [ih (n - 2) (by omega) (A := A.eraseIdx k) (L := L) (by omega)]; grind
      have hL : sm L.length (fun k => sg (A.length + 2 + k) * at' w v (A ++ x :: y :: L)[A.length + 2 + k]? * pfs w ((A ++ x :: y :: L).eraseIdx (A.length + 2 + k))) = - sm L.length (fun k => sg (A.length + 2 + k) * at' w v (A ++ y :: x :: L)[A.length + 2 + k]? * pfs w ((A ++ y :: x :: L).eraseIdx (A.length + 2 + k))) := by
        rw [<- sm_neg]
        refine sm_congr fun k hk => ?_
        have hLk : (L.eraseIdx k).length = L.length - 1 := List.length_eraseIdx_of_lt hk
        have g1 : ∀ p q : V, (A ++ p :: q :: L)[A.length + 2 + k]? = L[k]? := fun p q => by
          rw [List.getElem?_append_right (by omega), show A.length + 2 + k - A.length = k + 1 + 1 by omega]; simp
        have g2 : ∀ p q : V, (A ++ p :: q :: L).eraseIdx (A.length + 2 + k) = A ++ p :: q :: L.eraseIdx k := fun p q => by
          rw [List.eraseIdx_append_of_length_le (by omega), show A.length + 2 + k - A.length = k + 1 + 1 by omega]; simp
        rw [g1, g1, g2, g2]
        rw [ih (n - 2) (by omega) (A := A) (L := L.eraseIdx k) (by omega)]; grind
      have e0 : ∀ p q : V, (A ++ p :: q :: L)[A.length]? = some p := fun p q => by simp
      have e1 : ∀ p q : V, (A ++ p :: q :: L)[A.length + 1]? = some q := fun p q => by
        rw [List.getElem?_append_right (by omega), show A.length + 1 - A.length = 0 + 1 by omega]; simp
      have d0 : ∀ p q : V, (A ++ p :: q :: L).eraseIdx A.length = A ++ q :: L := fun p q => by
        rw [List.eraseIdx_append_of_length_le (by omega), Nat.sub_self]; simp
      have d1 : ∀ p q : V, (A ++ p :: q :: L).eraseIdx (A.length + 1) = A ++ p :: L := fun p q => by
        rw [List.eraseIdx_append_of_length_le (by omega), show A.length + 1 - A.length = 0 + 1 by omega]; simp
      rw [hA, hL, e0, e1, d0, d1, e0, e1, d0, d1, sg_succ]
      grind
end
end Pf
namespace Pf
section
variable {V : Type} {w : V -> V -> Rat}
theorem to_front (hw : ∀ a b, w a b = - w b a) {x : V} {L : List V} : ∀ {n : Nat} {A : List V}, A.length = n -> pfs w (A ++ x :: L) = sg n * pfs w (x :: A ++ L)
  | 0, A, h => by
    have : A = [] := List.length_eq_zero_iff.1 h
    subst this
    rw [sg_zero]; simp only [List.nil_append, List.singleton_append]; grind
  | n + 1, A, h => by
    rcases List.eq_nil_or_concat A with h0 | ⟨B, y, h0⟩
    · subst h0; simp at h
    · rw [List.concat_eq_append] at h0
      subst h0
      have hB : B.length = n := by simpa using h
      have e1 : B ++ [y] ++ x :: L = B ++ y :: x :: L := by simp
      have e2 : x :: (B ++ [y]) ++ L = x :: B ++ y :: L := by simp
      rw [e1, e2, swap_any hw (A := B) rfl, to_front hw (A := B) (L := y :: L) hB, sg_succ]; grind
theorem pfs_same (hw : ∀ a b, w a b = - w b a) {x : V} {L : List V} : pfs w (x :: x :: L) = 0 := by
  have h := swap_top hw (x := x) (y := x) (L := L)
  grind
theorem pfs_lin {v a b : V} {c : Rat} {L : List V} (h : ∀ y, y ∈ L -> w v y = w a y + c * w b y) : pfs w (v :: L) = pfs w (a :: L) + c * pfs w (b :: L) := by
  rw [pfs_cons, pfs_cons, pfs_cons, <- sm_mul, <- sm_add]
  refine sm_congr fun k hk => ?_
  rw [List.getElem?_eq_getElem hk]
  simp only [at']
  rw [h _ (List.getElem_mem hk)]; grind
theorem pfs_addrow (hw : ∀ a b, w a b = - w b a) {v u a : V} {c : Rat} {A L : List V} (h : ∀ y, w v y = w u y + c * w a y) : pfs w (a :: A ++ v :: L) = pfs w (a :: A ++ u :: L) := by
  rw [to_front hw (x := v) (A := a :: A) rfl, to_front hw (x := u) (A := a :: A) rfl]
  have e : ∀ z : V, z :: (a :: A) ++ L = z :: (a :: (A ++ L)) := fun z => by simp
  rw [e, e, pfs_lin (v := v) (a := u) (b := a) (c := c) fun y _ => h y, pfs_same hw]; grind
theorem pfs_congr {w2 : V -> V -> Rat} : ∀ {n : Nat} {L : List V}, L.length = n -> (∀ x y, x ∈ L -> y ∈ L -> w x y = w2 x y) -> pfs w L = pfs w2 L := by
  intro n
  induction n using Nat.strongRecOn with
  | ind n ih =>
    intro L hn h
    cases L with
    | nil => rfl
    | cons v L =>
      rw [pfs_cons, pfs_cons]
      refine sm_congr fun k hk => ?_
      simp only [List.length_cons] at hn
      have hl : (L.eraseIdx k).length = L.length - 1 := List.length_eraseIdx_of_lt hk
      rw [ih (L.length - 1) (by omega) hl fun x y hx hy => h x y (List.mem_cons_of_mem _ (List.mem_of_mem_eraseIdx hx)) (List.mem_cons_of_mem _ (List.mem_of_mem_eraseIdx hy))]
      rw [List.getElem?_eq_getElem hk]
      simp only [at']
      rw [h v _ (List.mem_cons_self ..) (List.mem_cons_of_mem _ (List.getElem_mem hk))]
theorem pfs_map {U : Type} {f : U -> V} : ∀ {n : Nat} {L : List U}, L.length = n -> pfs w (L.map f) = pfs (fun x y => w (f x) (f y)) L := by
  intro n
  induction n using Nat.strongRecOn with
  | ind n ih =>
    intro L hn
    cases L with
    | nil => rfl
    | cons v L =>
      rw [List.map_cons, pfs_cons, pfs_cons, List.length_map]
      refine sm_congr fun k hk => ?_
      simp only [List.length_cons] at hn
      have hl : (L.eraseIdx k).length = L.length - 1 := List.length_eraseIdx_of_lt hk
      have he : (L.map f).eraseIdx k = (L.eraseIdx k).map f := by
        simp only [List.eraseIdx_eq_take_drop_succ, List.map_append, List.map_take, List.map_drop]
      rw [he, ih (L.length - 1) (by omega) hl, List.getElem?_map, List.getElem?_eq_getElem hk]
      rfl
end
section
variable {V : Type} (w : V -> V -> Rat) (a b : V)
def wx (p q : V × Rat × Rat) : Rat := w p.1 q.1 + q.2.1 * w p.1 a + q.2.2 * w p.1 b + p.2.1 * w a q.1 + p.2.1 * q.2.1 * w a a + p.2.1 * q.2.2 * w a b + p.2.2 * w b q.1 + p.2.2 * q.2.1 * w b a + p.2.2 * q.2.2 * w b b
variable {w a b}
theorem wx_skew (hw : ∀ a b, w a b = - w b a) (p q : V × Rat × Rat) : wx w a b p q = - wx w a b q p := by
  unfold wx
  rw [hw p.1 q.1, hw p.1 a, hw p.1 b, hw a q.1, hw b q.1, hw b a]
  have h1 : w a a = 0 := by have := hw a a; grind
  have h2 : w b b = 0 := by have := hw b b; grind
  rw [h1, h2]; grind
theorem wx_base {u v : V} : wx w a b (u, 0, 0) (v, 0, 0) = w u v := by
  unfold wx; grind
end
end Pf
namespace Pf
section
variable {V : Type} {w : V -> V -> Rat} {a b : V}
def red (w : V -> V -> Rat) (a b u : V) : V × Rat × Rat := (u, - w u b / w a b, w u a / w a b)
theorem red_step (hw : ∀ a b, w a b = - w b a) {u : V} {al be : Rat} {P S : List (V × Rat × Rat)} :
    pfs (wx w a b) ((a, 0, 0) :: (b, 0, 0) :: (P ++ (u, 0, 0) :: S)) = pfs (wx w a b) ((a, 0, 0) :: (b, 0, 0) :: (P ++ (u, al, be) :: S)) := by
  have hx := wx_skew (a := a) (b := b) hw
  have h1 : pfs (wx w a b) ((a, 0, 0) :: ((b, 0, 0) :: P) ++ (u, al, 0) :: S) = pfs (wx w a b) ((a, 0, 0) :: ((b, 0, 0) :: P) ++ (u, 0, 0) :: S) :=
    pfs_addrow hx (c := al) fun y => by unfold wx; grind
  have h2 : pfs (wx w a b) ((b, 0, 0) :: ((a, 0, 0) :: P) ++ (u, al, be) :: S) = pfs (wx w a b) ((b, 0, 0) :: ((a, 0, 0) :: P) ++ (u, al, 0) :: S) :=
    pfs_addrow hx (c := be) fun y => by unfold wx; grind
  simp only [List.cons_append] at h1 h2
  rw [<- h1, swap_top hx, <- h2, swap_top hx (x := (b, 0, 0))]; grind
theorem red_all (hw : ∀ a b, w a b = - w b a) : ∀ {L : List V} {P : List (V × Rat × Rat)},
    pfs (wx w a b) ((a, 0, 0) :: (b, 0, 0) :: (P ++ L.map fun u => (u, (0 : Rat), (0 : Rat)))) = pfs (wx w a b) ((a, 0, 0) :: (b, 0, 0) :: (P ++ L.map (red w a b)))
  | [], P => rfl
  | u :: L, P => by
    rw [List.map_cons, List.map_cons, red_step hw (u := u) (al := - w u b / w a b) (be := w u a / w a b)]
    have h := red_all hw (L := L) (P := P ++ [red w a b u])
    simp only [List.append_assoc, List.singleton_append] at h
    exact h
theorem pfs_schur (hw : ∀ a b, w a b = - w b a) (hp : w a b ≠ 0) {L : List V} :
    pfs w (a :: b :: L) = w a b * pfs (fun u v => (w a b * w u v - w a u * w b v + w b u * w a v) / w a b) L := by
  have h0 : pfs w (a :: b :: L) = pfs (wx w a b) ((a :: b :: L).map fun u => (u, (0 : Rat), (0 : Rat))) := by
    rw [pfs_map (U := V) rfl]
    exact pfs_congr rfl fun x y _ _ => (wx_base).symm
  rw [h0]
  have h1 := red_all hw (L := L) (P := []) (a := a) (b := b)
  simp only [List.nil_append] at h1
  rw [List.map_cons, List.map_cons, h1, pfs_cons, List.length_cons, sm_first]
  have hz : sm (L.map (red w a b)).length (fun i => sg (i + 1) * at' (wx w a b) (a, 0, 0) ((b, (0 : Rat), (0 : Rat)) :: L.map (red w a b))[i + 1]? * pfs (wx w a b) (((b, 0, 0) :: L.map (red w a b)).eraseIdx (i + 1))) = 0 := by
    refine Eq.trans (sm_congr (g := fun _ => 0) fun k hk => ?_) sm_zero
    rw [List.length_map] at hk
    have e : ((b, (0 : Rat), (0 : Rat)) :: L.map (red w a b))[k + 1]? = some (red w a b L[k]) := by simp [hk]
    rw [e]
    have e2 : at' (wx w a b) (a, 0, 0) (some (red w a b L[k])) = 0 := by
      simp only [at', wx, red]
      have h1 : w a a = 0 := by have := hw a a; grind
      have h2 := hw a L[k]
      rw [h1, h2]; grind
    rw [e2]; grind
  rw [hz]
  have e0 : at' (wx w a b) (a, 0, 0) ((b, (0 : Rat), (0 : Rat)) :: L.map (red w a b))[0]? = w a b := by
    simp only [List.getElem?_cons_zero, at']
    exact wx_base
  rw [e0, List.eraseIdx_cons_zero, sg_zero, pfs_map rfl]
  have hc : pfs (fun x y => wx w a b (red w a b x) (red w a b y)) L = pfs (fun u v => (w a b * w u v - w a u * w b v + w b u * w a v) / w a b) L := by
    refine pfs_congr rfl fun u v _ _ => ?_
    simp only [wx, red]
    have h1 : w a a = 0 := by have := hw a a; grind
    have h2 : w b b = 0 := by have := hw b b; grind
    have h3 := hw b a
    have h4 := hw a u
    have h5 := hw b u
    have h6 := hw a v
    have h7 := hw b v
    rw [h1, h2, h3, h4, h5, h6, h7]
    grind
  rw [hc]; grind
end
end Pf
namespace Pf
section
variable {V : Type} {w : V -> V -> Rat}
theorem sm_int : ∀ {n : Nat} {f : Nat -> Rat}, (∀ i, i < n -> ∃ z : Int, f i = (z : Rat)) -> ∃ z : Int, sm n f = (z : Rat)
  | 0, f, h => ⟨0, by simp [sm]⟩
  | n + 1, f, h => by
    obtain ⟨z, hz⟩ := sm_int (n := n) (f := f) fun i hi => h i (by omega)
    obtain ⟨y, hy⟩ := h n (by omega)
    exact ⟨z + y, by simp only [sm, hz, hy]; grind⟩
theorem sg_int {n : Nat} : ∃ z : Int, sg n = (z : Rat) := by
  unfold sg
  split
  · exact ⟨1, by simp⟩
  · exact ⟨-1, by simp⟩
theorem pfs_int (hi : ∀ a b, ∃ z : Int, w a b = (z : Rat)) : ∀ {n : Nat} {L : List V}, L.length = n -> ∃ z : Int, pfs w L = (z : Rat) := by
  intro n
  induction n using Nat.strongRecOn with
  | ind n ih =>
    intro L hn
    cases L with
    | nil => exact ⟨1, by rw [pfs_nil]; simp⟩
    | cons v L =>
      rw [pfs_cons]
      refine sm_int fun k hk => ?_
      simp only [List.length_cons] at hn
      have hl : (L.eraseIdx k).length = L.length - 1 := List.length_eraseIdx_of_lt hk
      obtain ⟨z1, h1⟩ := sg_int (n := k)
      obtain ⟨z2, h2⟩ := hi v L[k]
      obtain ⟨z3, h3⟩ := ih (L.length - 1) (by omega) hl
      refine ⟨z1 * z2 * z3, ?_⟩
      rw [List.getElem?_eq_getElem hk]
      simp only [at']
      rw [h1, h2, h3]; grind
end
end Pf
namespace Pf
abbrev rw0 (f : Nat -> Nat -> Int) : Nat -> Nat -> Rat := fun i j => (f i j : Rat)
abbrev rdv (f : Nat -> Nat -> Int) (d : Int) : Nat -> Nat -> Rat := fun i j => (f i j : Rat) / (d : Rat)
structure Iv (N : Nat) (w0 : Nat -> Nat -> Int) (m : Nat) (R : Nat -> Nat -> Int) (d s : Int) (I rest : List Nat) : Prop where
  len : rest.length = m
  dn : d ≠ 0
  sk : ∀ i j, R i j = - R j i
  all : pfs (rw0 w0) (List.range N) = (s : Rat) * pfs (rw0 w0) (I ++ rest)
  sub : ∀ S : List Nat, (∀ i, i ∈ S -> i < m) -> (d : Rat) * pfs (rdv R d) S = pfs (rw0 w0) (I ++ S.map fun i => rest.getD i 0)
variable {N m : Nat} {w0 R R' : Nat -> Nat -> Int} {d s : Int} {I rest : List Nat}
theorem rdv_skew (h : ∀ i j, R i j = - R j i) : ∀ i j, rdv R d i j = - rdv R d j i := fun i j => by
  simp only [rdv]
  rw [h i j]
  have : ((-R j i : Int) : Rat) = - (R j i : Rat) := by simp
  rw [this]; grind
theorem Iv.stepR (v : Iv N w0 (m + 2) R d s I rest) (hp : R 0 1 ≠ 0) (S : List Nat) (hS : ∀ i, i ∈ S -> i < m) :
    (R 0 1 : Rat) * pfs (fun i j => (((R 0 1 * R (i + 2) (j + 2) - R 0 (i + 2) * R 1 (j + 2) + R 1 (i + 2) * R 0 (j + 2) : Int) : Rat) / (d : Rat)) / (R 0 1 : Rat)) S
      = pfs (rw0 w0) (I ++ rest.getD 0 0 :: rest.getD 1 0 :: S.map fun i => rest.getD (i + 2) 0) := by
  have hd : (d : Rat) ≠ 0 := by
    have := v.dn
    intro q
    exact this (by exact_mod_cast q)
  have hp' : (R 0 1 : Rat) ≠ 0 := by
    intro q
    exact hp (by exact_mod_cast q)
  have h := v.sub (0 :: 1 :: S.map (· + 2)) (fun i hi => by
    rcases List.mem_cons.1 hi with rfl | hi
    · omega
    · rcases List.mem_cons.1 hi with rfl | hi
      · omega
      · obtain ⟨y, hy, rfl⟩ := List.mem_map.1 hi
        have := hS y hy
        omega)
  have hne : rdv R d 0 1 ≠ 0 := by
    simp only [rdv]
    intro q
    apply hp'
    have : (R 0 1 : Rat) = (R 0 1 : Rat) / (d : Rat) * (d : Rat) := by grind
    rw [this, q]; grind
  rw [pfs_schur (rdv_skew v.sk) hne] at h
  simp only [List.map_cons, List.map_map] at h
  have e1 : (S.map ((fun i => rest.getD i 0) ∘ fun x => x + 2)) = S.map fun i => rest.getD (i + 2) 0 := rfl
  rw [e1] at h
  rw [<- h, pfs_map rfl]
  have e2 : pfs (fun x y => (rdv R d 0 1 * rdv R d (x + 2) (y + 2) - rdv R d 0 (x + 2) * rdv R d 1 (y + 2) + rdv R d 1 (x + 2) * rdv R d 0 (y + 2)) / rdv R d 0 1) S
      = pfs (fun i j => (((R 0 1 * R (i + 2) (j + 2) - R 0 (i + 2) * R 1 (j + 2) + R 1 (i + 2) * R 0 (j + 2) : Int) : Rat) / (d : Rat)) / (R 0 1 : Rat)) S := by
    refine pfs_congr rfl fun x y _ _ => ?_
    simp only [rdv]
    have c : ((R 0 1 * R (x + 2) (y + 2) - R 0 (x + 2) * R 1 (y + 2) + R 1 (x + 2) * R 0 (y + 2) : Int) : Rat) = (R 0 1 : Rat) * (R (x + 2) (y + 2) : Rat) - (R 0 (x + 2) : Rat) * (R 1 (y + 2) : Rat) + (R 1 (x + 2) : Rat) * (R 0 (y + 2) : Rat) := by simp
    rw [c]
    grind
  rw [e2]
  simp only [rdv]
  grind
end Pf
namespace Pf
variable {N m : Nat} {w0 R R' : Nat -> Nat -> Int} {d s : Int} {I rest : List Nat}
theorem pfs_pair {V : Type} {w : V -> V -> Rat} {x y : V} : pfs w [x, y] = w x y := by
  rw [pfs_cons]
  have : ([y] : List V).length = 1 := rfl
  rw [this]
  simp only [sm, List.getElem?_cons_zero, at', sg_zero, List.eraseIdx_cons_zero, pfs_nil]
  grind
theorem getD_drop2 {i : Nat} : (rest.drop 2).getD i 0 = rest.getD (i + 2) 0 := by
  simp only [List.getD, List.getElem?_drop]
  rw [Nat.add_comm]
theorem two_front (h : rest.length = m + 2) : rest = rest.getD 0 0 :: rest.getD 1 0 :: rest.drop 2 := by
  match rest, h with
  | [], h => simp at h
  | [_], h => simp at h
  | a :: b :: r, _ => rfl
theorem Iv.exact (v : Iv N w0 (m + 2) R d s I rest) (hp : R 0 1 ≠ 0) {i j : Nat} (hi : i < m) (hj : j < m) :
    (((R 0 1 * R (i + 2) (j + 2) - R 0 (i + 2) * R 1 (j + 2) + R 1 (i + 2) * R 0 (j + 2)).fdiv d : Int) : Rat) = ((R 0 1 * R (i + 2) (j + 2) - R 0 (i + 2) * R 1 (j + 2) + R 1 (i + 2) * R 0 (j + 2) : Int) : Rat) / (d : Rat) := by
  have h := v.stepR hp [i, j] (fun x hx => by
    rcases List.mem_cons.1 hx with rfl | hx
    · exact hi
    · rcases List.mem_cons.1 hx with rfl | hx
      · exact hj
      · simp at hx)
  obtain ⟨z, hz⟩ := pfs_int (w := rw0 w0) (fun a b => ⟨w0 a b, rfl⟩) (L := I ++ rest.getD 0 0 :: rest.getD 1 0 :: [i, j].map fun i => rest.getD (i + 2) 0) rfl
  rw [hz, pfs_pair] at h
  generalize R 0 1 * R (i + 2) (j + 2) - R 0 (i + 2) * R 1 (j + 2) + R 1 (i + 2) * R 0 (j + 2) = x at h ⊢
  have hd : (d : Rat) ≠ 0 := by
    have := v.dn
    intro q
    exact this (by exact_mod_cast q)
  have hp' : (R 0 1 : Rat) ≠ 0 := by
    intro q
    exact hp (by exact_mod_cast q)
  have h1 : (x : Rat) = (z : Rat) * (d : Rat) := by
    have : (R 0 1 : Rat) * ((x : Rat) / (d : Rat) / (R 0 1 : Rat)) = (x : Rat) / (d : Rat) := by grind
    rw [this] at h
    rw [<- h]; grind
  have h2 : x = z * d := by exact_mod_cast h1
  subst h2
  rw [Int.mul_fdiv_cancel _ v.dn]
  have c : ((z * d : Int) : Rat) = (z : Rat) * (d : Rat) := by simp
  rw [c]; grind
theorem Iv.step (v : Iv N w0 (m + 2) R d s I rest) (hp : R 0 1 ≠ 0) (hsk : ∀ i j, R' i j = - R' j i)
    (hR : ∀ i j, i < m -> j < m -> R' i j = (R 0 1 * R (i + 2) (j + 2) - R 0 (i + 2) * R 1 (j + 2) + R 1 (i + 2) * R 0 (j + 2)).fdiv d) :
    Iv N w0 m R' (R 0 1) s (I ++ [rest.getD 0 0, rest.getD 1 0]) (rest.drop 2) := by
  refine ⟨by rw [List.length_drop, v.len]; rfl, hp, hsk, ?_, ?_⟩
  · rw [v.all]
    have e : I ++ [rest.getD 0 0, rest.getD 1 0] ++ rest.drop 2 = I ++ rest := by
      conv => rhs; rw [two_front v.len]
      simp
    rw [e]
  · intro S hS
    have h := v.stepR hp S hS
    have e : (I ++ [rest.getD 0 0, rest.getD 1 0] ++ S.map fun i => (rest.drop 2).getD i 0) = I ++ rest.getD 0 0 :: rest.getD 1 0 :: S.map fun i => rest.getD (i + 2) 0 := by
      simp only [getD_drop2]; simp
    rw [e, <- h]
    congr 1
    refine pfs_congr rfl fun x y hx hy => ?_
    simp only [rdv]
    rw [hR x y (hS x hx) (hS y hy), v.exact hp (hS x hx) (hS y hy)]
end Pf
namespace Pf
end Pf
namespace Pf
def eu (a b : Nat) : Nat := if b = 0 then 0 else if b <= a then (a * b).log2 + 1 else (a * b).log2 + 2
end Pf
namespace Pf
def Fb (D A : Nat) (q : Rat) : Prop := 0 < D /\ ∃ z : Int, q * (D : Rat) = (z : Rat) /\ z.natAbs <= A
end Pf
namespace Fs
open PySem Pf
section
variable {T : Tbl} {σ : Env} {s : Sto} {E : D -> Sto -> Prop} {Q : D -> Sto -> Prop} {QF : Fl -> Sto -> Prop} {γ : Type}
def fr (q : Rat) : D := .tup [.int q.num, .int ((q.den : Nat) : Int)]
def Lg (k : Nat) (a : Int) : Prop := a.natAbs < 2 ^ k
theorem Lg.sub {k : Nat} {a b : Int} (h : Lg k a) (h2 : Lg k b) : Lg (k + 1) (a - b) := by
  unfold Lg at *
  rw [Nat.pow_succ]
  have := Int.natAbs_sub_le a b
  omega
def fw1 (n : Nat) (f : Nat -> Rat) : List D := rg n fun j => fr (f j)
def mt (n : Nat) (M : Nat -> Nat -> Rat) : List D := rg n fun i => .tup (fw1 n (M i))
theorem ofS_ok (x : String) : PyData.strOk (Str.ofString x) = true := by
  have h := cpsOfBytes_string x
  simp only [PyData.strOk, Str.ofString]
  rw [h, List.all_toArray, List.all_eq_true]
  intro c hc
  obtain ⟨ch, _, rfl⟩ := List.mem_map.1 hc
  rw [decide_eq_true_eq]
  have h2 := ch.valid
  have h3 : ch.toNat = ch.val.toNat := rfl
  rw [h3]
  rcases h2 with h2 | h2
  · have : ch.val.toNat < 0xD800 := h2
    omega
  · exact h2.2
theorem app_ok {a b : Str} (h : PyData.strOk a = true) (h2 : PyData.strOk b = true) : PyData.strOk (a ++ b) = true := by
  have e : (a ++ b).cps = a.cps ++ b.cps := rfl
  simp only [PyData.strOk] at *
  rw [e, Array.all_append, h, h2]; rfl
theorem join_ok {s : Str} (h : PyData.strOk s = true) : ∀ {L : List Str}, (∀ x, x ∈ L -> PyData.strOk x = true) -> PyData.strOk (s.join L) = true
  | [], _ => by simp only [Str.join]; decide +kernel
  | [a], hL => by simp only [Str.join]; exact hL a (by simp)
  | a :: b :: L, hL => by
    have ih := join_ok h (L := b :: L) fun x hx => hL x (List.mem_cons_of_mem _ hx)
    simp only [Str.join]
    exact app_ok (app_ok (hL a (by simp)) h) ih
theorem tupT_ok {L : List Str} (hL : ∀ x, x ∈ L -> PyData.strOk x = true) : PyData.strOk (tupleText L) = true := by
  simp only [tupleText]
  exact app_ok (app_ok (ofS_ok _) (join_ok (ofS_ok _) hL)) (ofS_ok _)
theorem shownAll_map : ∀ {L : List PyData}, PyData.shownAll L = L.map PyData.shown
  | [] => by simp [PyData.shownAll]
  | a :: L => by simp [PyData.shownAll, shownAll_map]
def rt (g : List (List Nat)) : Str := (PyData.tuple (pt g)).shown
end
end Fs
namespace Fs
open PySem
structure Smd (k d : Nat) (x : PyData) : Prop where
  sh : x.leavesShort 8 = true
  w : x.weight <= k
  ok : x.showable = true
  nd : x.hasDict = false
  dp : x.depth <= d
  st : PyData.strOk x.shown = true
theorem Smd.all {k d : Nat} : ∀ {xs : List PyData}, (∀ x, x ∈ xs -> Smd k d x) -> PyData.leavesShortAll 8 xs = true /\ PyData.weightAll xs <= (k + 1) * xs.length /\ PyData.showableAll xs = true /\ PyData.hasDictAll xs = false /\ PyData.depthAll xs <= d
  | [], _ => by simp [PyData.leavesShortAll, PyData.weightAll, PyData.showableAll, PyData.hasDictAll, PyData.depthAll]
  | a :: xs, h => by
    obtain ⟨h1, h2, h3, h4, h5⟩ := Smd.all (xs := xs) fun x hx => h x (List.mem_cons_of_mem _ hx)
    have ha := h a (by simp)
    have hw := ha.w
    have hd := ha.dp
    refine ⟨?_, ?_, ?_, ?_, ?_⟩
    · simp only [PyData.leavesShortAll, h1, ha.sh, Bool.and_self]
    · simp only [PyData.weightAll, List.length_cons, Nat.mul_add]; omega
    · simp only [PyData.showableAll, h3, ha.ok, Bool.and_self]
    · simp only [PyData.hasDictAll, h4, ha.nd, Bool.or_self]
    · simp only [PyData.depthAll]; omega
theorem textFrom_ok : ∀ {L : List Str} {k : Nat} {acc : Str}, PyData.strOk acc = true -> (∀ x, x ∈ L -> PyData.strOk x = true) -> PyData.strOk (textFrom k acc L) = true
  | [], k, acc, h, _ => h
  | t :: r, k, acc, h, hL => by
    have h1 : PyData.strOk (acc ++ (if k > 0 then ", " else "" : String) ++ t) = true := app_ok (app_ok h (ofS_ok _)) (hL t (by simp))
    exact textFrom_ok (L := r) (k := k + 1) h1 fun x hx => hL x (List.mem_cons_of_mem _ hx)
theorem listT_ok {L : List Str} (hL : ∀ x, x ∈ L -> PyData.strOk x = true) : PyData.strOk (listText L) = true := by
  simp only [listText]
  exact app_ok (textFrom_ok (ofS_ok _) hL) (ofS_ok _)
theorem Smd.sts {k d : Nat} {xs : List PyData} (h : ∀ x, x ∈ xs -> Smd k d x) : ∀ x, x ∈ PyData.shownAll xs -> PyData.strOk x = true := fun x hx => by
  rw [shownAll_map] at hx
  obtain ⟨y, hy, rfl⟩ := List.mem_map.1 hx
  exact (h y hy).st
theorem Smd.tup {k d m : Nat} {xs : List PyData} (h : ∀ x, x ∈ xs -> Smd k d x) (hm : xs.length <= m) : Smd ((k + 1) * m) (d + 1) (.tuple xs) := by
  obtain ⟨h1, h2, h3, h4, h5⟩ := Smd.all h
  refine ⟨by simp only [PyData.leavesShort]; exact h1, ?_, by simp only [PyData.showable]; exact h3, by simp only [PyData.hasDict]; exact h4, by simp only [PyData.depth]; omega, by simp only [PyData.shown]; exact tupT_ok (Smd.sts h)⟩
  simp only [PyData.weight]
  exact Nat.le_trans h2 (Nat.mul_le_mul_left _ hm)
theorem Smd.lst {k d m : Nat} {xs : List PyData} (h : ∀ x, x ∈ xs -> Smd k d x) (hm : xs.length <= m) : Smd ((k + 1) * m) (d + 1) (.list xs) := by
  obtain ⟨h1, h2, h3, h4, h5⟩ := Smd.all h
  refine ⟨by simp only [PyData.leavesShort]; exact h1, ?_, by simp only [PyData.showable]; exact h3, by simp only [PyData.hasDict]; exact h4, by simp only [PyData.depth]; omega, by simp only [PyData.shown]; exact listT_ok (Smd.sts h)⟩
  simp only [PyData.weight]
  exact Nat.le_trans h2 (Nat.mul_le_mul_left _ hm)
theorem ints_short : ∀ d : Nat, d < 801 -> (PyData.int ((d : Int) - 400)).shown.length <= 8 /\ (PyData.int ((d : Int) - 400)).weight <= 12 /\ (PyData.int ((d : Int) - 400)).showable = true := by decide +kernel
theorem Smd.int {i : Int} (h : i.natAbs <= 400) : Smd 12 0 (.int i) := by
  obtain ⟨d, hd, rfl⟩ : ∃ d : Nat, d < 801 /\ i = (d : Int) - 400 := ⟨(i + 400).toNat, by omega, by omega⟩
  obtain ⟨h1, h2, h3⟩ := ints_short d hd
  exact ⟨by simp only [PyData.leavesShort]; exact decide_eq_true h1, h2, h3, by simp only [PyData.hasDict], by simp only [PyData.depth]; omega, by simp only [PyData.shown]; exact ofS_ok _⟩
theorem Smd.repr {k d : Nat} {x : PyData} (h : Smd k d x) (hk : k <= 2 ^ 20) (hd : d <= 60) : x.showable = true /\ x.shown.length <= sizeLine /\ x.depth <= 60 /\ x.hasDict = false :=
  ⟨h.ok, PyData.shown_fits (B := 8) (by decide) (by decide) h.sh (Nat.le_trans h.w hk), Nat.le_trans h.dp hd, h.nd⟩
end Fs
namespace Fs
open PySem
structure Smb (k d : Nat) (x : PyData) : Prop where
  sh : x.leavesShort 420 = true
  w : x.bulk <= k
  ok : x.showable = true
  nd : x.hasDict = false
  dp : x.depth <= d
  st : PyData.strOk x.shown = true
theorem Smb.all {k d : Nat} : ∀ {xs : List PyData}, (∀ x, x ∈ xs -> Smb k d x) -> PyData.leavesShortAll 420 xs = true /\ PyData.bulkAll xs <= (k + 1) * xs.length /\ PyData.showableAll xs = true /\ PyData.hasDictAll xs = false /\ PyData.depthAll xs <= d
  | [], _ => by simp [PyData.leavesShortAll, PyData.bulkAll, PyData.showableAll, PyData.hasDictAll, PyData.depthAll]
  | a :: xs, h => by
    obtain ⟨h1, h2, h3, h4, h5⟩ := Smb.all (xs := xs) fun x hx => h x (List.mem_cons_of_mem _ hx)
    have ha := h a (by simp)
    have hw := ha.w
    have hd := ha.dp
    refine ⟨?_, ?_, ?_, ?_, ?_⟩
    · simp only [PyData.leavesShortAll, h1, ha.sh, Bool.and_self]
    · simp only [PyData.bulkAll, List.length_cons, Nat.mul_add]; omega
    · simp only [PyData.showableAll, h3, ha.ok, Bool.and_self]
    · simp only [PyData.hasDictAll, h4, ha.nd, Bool.or_self]
    · simp only [PyData.depthAll]; omega
theorem Smb.sts {k d : Nat} {xs : List PyData} (h : ∀ x, x ∈ xs -> Smb k d x) : ∀ x, x ∈ PyData.shownAll xs -> PyData.strOk x = true := fun x hx => by
  rw [shownAll_map] at hx
  obtain ⟨y, hy, rfl⟩ := List.mem_map.1 hx
  exact (h y hy).st
theorem Smb.tup {k d m : Nat} {xs : List PyData} (h : ∀ x, x ∈ xs -> Smb k d x) (hm : xs.length <= m) : Smb ((k + 1) * m) (d + 1) (.tuple xs) := by
  obtain ⟨h1, h2, h3, h4, h5⟩ := Smb.all h
  refine ⟨by simp only [PyData.leavesShort]; exact h1, ?_, by simp only [PyData.showable]; exact h3, by simp only [PyData.hasDict]; exact h4, by simp only [PyData.depth]; omega, by simp only [PyData.shown]; exact tupT_ok (Smb.sts h)⟩
  simp only [PyData.bulk]
  exact Nat.le_trans h2 (Nat.mul_le_mul_left _ hm)
theorem Smb.lst {k d m : Nat} {xs : List PyData} (h : ∀ x, x ∈ xs -> Smb k d x) (hm : xs.length <= m) : Smb ((k + 1) * m) (d + 1) (.list xs) := by
  obtain ⟨h1, h2, h3, h4, h5⟩ := Smb.all h
  refine ⟨by simp only [PyData.leavesShort]; exact h1, ?_, by simp only [PyData.showable]; exact h3, by simp only [PyData.hasDict]; exact h4, by simp only [PyData.depth]; omega, by simp only [PyData.shown]; exact listT_ok (Smb.sts h)⟩
  simp only [PyData.bulk]
  exact Nat.le_trans h2 (Nat.mul_le_mul_left _ hm)
theorem log_small {i : Int} (h : i.natAbs < 2 ^ 400) : i.natAbs.log2 < 400 := by
  by_cases hz : i.natAbs = 0
  · rw [hz]; decide
  · exact (Nat.log2_lt hz).2 h
theorem int_text {i : Int} (h : i.natAbs < 2 ^ 400) : (PyData.int i).shown.length <= 401 := by
  show (Str.ofString (toString i)).length <= 401
  rw [ofString_length]
  exact int_text_length_le (k := 400) (by decide) (log_small h)
theorem Smb.int {i : Int} (h : i.natAbs < 2 ^ 400) : Smb 0 0 (.int i) := by
  refine ⟨?_, Nat.le_refl _, ?_, by simp only [PyData.hasDict], by simp only [PyData.depth]; omega, by simp only [PyData.shown]; exact ofS_ok _⟩
  · simp only [PyData.leavesShort]
    exact decide_eq_true (Nat.le_trans (int_text h) (by decide))
  · simp only [PyData.showable]
    refine decide_eq_true ?_
    have := log_small h
    omega
theorem Smb.repr {k d : Nat} {x : PyData} (h : Smb k d x) (hk : k <= 30000) (hd : d <= 60) : x.showable = true /\ x.shown.length <= sizeLine /\ x.depth <= 60 /\ x.hasDict = false := by
  refine ⟨h.ok, ?_, Nat.le_trans h.dp hd, h.nd⟩
  have := PyData.shown_le_bulk 420 (by decide) x h.sh
  have hw := h.w
  rw [sizeLine_eq]
  omega
end Fs
namespace Fs
open PySem
structure Sme (k d : Nat) (x : PyData) : Prop where
  sh : x.leavesShort 420 = true
  w : x.bulk <= k
  ok : x.showable = true
  dp : x.depth <= d
  st : PyData.strOk x.shown = true
theorem Sme.mono {k k' d d' : Nat} {x : PyData} (h : Sme k d x) (hk : k <= k') (hd : d <= d') : Sme k' d' x := ⟨h.sh, Nat.le_trans h.w hk, h.ok, Nat.le_trans h.dp hd, h.st⟩
theorem Sme.all {k d : Nat} : ∀ {xs : List PyData}, (∀ x, x ∈ xs -> Sme k d x) -> PyData.leavesShortAll 420 xs = true /\ PyData.bulkAll xs <= (k + 1) * xs.length /\ PyData.showableAll xs = true /\ PyData.depthAll xs <= d
  | [], _ => by simp [PyData.leavesShortAll, PyData.bulkAll, PyData.showableAll, PyData.depthAll]
  | a :: xs, h => by
    obtain ⟨h1, h2, h3, h5⟩ := Sme.all (xs := xs) fun x hx => h x (List.mem_cons_of_mem _ hx)
    have ha := h a (by simp)
    have hw := ha.w
    have hd := ha.dp
    refine ⟨?_, ?_, ?_, ?_⟩
    · simp only [PyData.leavesShortAll, h1, ha.sh, Bool.and_self]
    · simp only [PyData.bulkAll, List.length_cons, Nat.mul_add]; omega
    · simp only [PyData.showableAll, h3, ha.ok, Bool.and_self]
    · simp only [PyData.depthAll]; omega
theorem Sme.sts {k d : Nat} {xs : List PyData} (h : ∀ x, x ∈ xs -> Sme k d x) : ∀ x, x ∈ PyData.shownAll xs -> PyData.strOk x = true := fun x hx => by
  rw [shownAll_map] at hx
  obtain ⟨y, hy, rfl⟩ := List.mem_map.1 hx
  exact (h y hy).st
theorem Sme.tup {k d m : Nat} {xs : List PyData} (h : ∀ x, x ∈ xs -> Sme k d x) (hm : xs.length <= m) : Sme ((k + 1) * m) (d + 1) (.tuple xs) := by
  obtain ⟨h1, h2, h3, h5⟩ := Sme.all h
  refine ⟨by simp only [PyData.leavesShort]; exact h1, ?_, by simp only [PyData.showable]; exact h3, by simp only [PyData.depth]; omega, by simp only [PyData.shown]; exact tupT_ok (Sme.sts h)⟩
  simp only [PyData.bulk]
  exact Nat.le_trans h2 (Nat.mul_le_mul_left _ hm)
theorem Sme.lst {k d m : Nat} {xs : List PyData} (h : ∀ x, x ∈ xs -> Sme k d x) (hm : xs.length <= m) : Sme ((k + 1) * m) (d + 1) (.list xs) := by
  obtain ⟨h1, h2, h3, h5⟩ := Sme.all h
  refine ⟨by simp only [PyData.leavesShort]; exact h1, ?_, by simp only [PyData.showable]; exact h3, by simp only [PyData.depth]; omega, by simp only [PyData.shown]; exact listT_ok (Sme.sts h)⟩
  simp only [PyData.bulk]
  exact Nat.le_trans h2 (Nat.mul_le_mul_left _ hm)
theorem Sme.int {i : Int} (h : i.natAbs < 2 ^ 400) : Sme 0 0 (.int i) := by
  refine ⟨?_, Nat.le_refl _, ?_, by simp only [PyData.depth]; omega, by simp only [PyData.shown]; exact ofS_ok _⟩
  · simp only [PyData.leavesShort]
    exact decide_eq_true (Nat.le_trans (int_text h) (by decide))
  · simp only [PyData.showable]
    refine decide_eq_true ?_
    have := log_small h
    omega
theorem Sme.repr {k d : Nat} {x : PyData} (h : Sme k d x) (hk : k <= 30000) (hd : d <= 60) : x.showable = true /\ x.shown.length <= sizeLine /\ x.depth <= 60 := by
  refine ⟨h.ok, ?_, Nat.le_trans h.dp hd⟩
  have := PyData.shown_le_bulk 420 (by decide) x h.sh
  have hw := h.w
  rw [sizeLine_eq]
  omega
theorem Sme.bl {b : Bool} : Sme 0 0 (.bool b) := by
  cases b <;> exact ⟨rfl, Nat.le_refl _, rfl, by simp only [PyData.depth]; omega, ofS_ok _⟩
theorem Sme.non : Sme 0 0 .none := ⟨rfl, Nat.le_refl _, rfl, by simp only [PyData.depth]; omega, ofS_ok _⟩
theorem Sme.dic : Sme 0 1 (.dict []) := ⟨rfl, Nat.le_refl _, rfl, by decide, by decide +kernel⟩
end Fs
namespace Pn
def Pt (f : Nat -> Nat) : List Nat -> Nat -> Prop
  | [], _ => True
  | [a], z => f a = z
  | a :: b :: r, z => f a = b /\ Pt f (b :: r) z
def Cy (f : Nat -> Nat) (w : List Nat) : Prop := ∃ s t, w = s :: t /\ w.Nodup /\ Pt f w s
variable {f f' : Nat -> Nat}
theorem Cy.nd {w : List Nat} (h : Cy f w) : w.Nodup := by obtain ⟨s, t, rfl, nd, _⟩ := h; exact nd
theorem Cy.ne {w : List Nat} (h : Cy f w) : w ≠ [] := by obtain ⟨s, t, rfl, nd, _⟩ := h; exact List.cons_ne_nil _ _
inductive Cn (tl al : Nat -> Nat) (N : Nat) : Nat -> Nat -> Prop
  | refl (u : Nat) : Cn tl al N u u
  | step {u d : Nat} : Cn tl al N u (tl d) -> d < N -> Cn tl al N u (tl (al d))
def fa (tl : Nat -> Nat) (W : List (List Nat)) (P : List Nat) : Nat := W.countP fun w => P.contains (tl (w.headD 0))
def ed (tl : Nat -> Nat) (N : Nat) (P : List Nat) : Nat := (List.range N).countP fun d => P.contains (tl d)
def emp (tl : Nat -> Nat) (N : Nat) (v : Nat) : Bool := (List.range N).all fun d => tl d != v
def iso (tl : Nat -> Nat) (N : Nat) (P : List Nat) : Nat := P.countP (emp tl N)
structure Cp (N : Nat) (tl al : Nat -> Nat) (W : List (List Nat)) (P : List Nat) : Prop where
  con : ∃ r, r ∈ P /\ ∀ v, v ∈ P -> Cn tl al N r v
  clo : ∀ d, d < N -> tl d ∈ P -> tl (al d) ∈ P
  eul : 2 * P.length + 2 * fa tl W P + 2 * iso tl N P = ed tl N P + 4
structure Ax (n N : Nat) (tl al ph : Nat -> Nat) : Prop where
  tlt : ∀ d, d < N -> tl d < n
  plt : ∀ d, d < N -> ph d < N
  alt : ∀ d, d < N -> al d < N
  ala : ∀ d, d < N -> al (al d) = d
  inv : ∀ d, d < N -> tl (ph d) = tl (al d)
structure Pm (n N : Nat) (tl al ph : Nat -> Nat) : Prop where
  ax : Ax n N tl al ph
  ex : ∃ W C : List (List Nat), (∀ w, w ∈ W -> Cy ph w) /\ W.flatten.Perm (List.range N) /\ C.flatten.Perm (List.range n) /\ ∀ P, P ∈ C -> Cp N tl al W P
section
variable {n N : Nat} {tl tl' al ph ph' : Nat -> Nat} {W W' : List (List Nat)} {P : List Nat}
end
end Pn
namespace Pn
section
variable {n n' N : Nat} {tl tl' al ph ph' : Nat -> Nat} {W W' : List (List Nat)} {P Q : List Nat}
def b1 (b : Bool) : Nat := if b then 1 else 0
end
end Pn
namespace Pn
section
variable {n n' N : Nat} {tl tl' al ph ph' : Nat -> Nat} {W W' C : List (List Nat)} {P Q : List Nat}
end
end Pn
namespace Pn
section
variable {n n' N : Nat} {tl tl' al ph ph' : Nat -> Nat} {W W' C : List (List Nat)} {P Q : List Nat}
end
end Pn
namespace Pn
theorem sub_len' : ∀ {L M : List Nat}, L.Nodup -> (∀ x, x ∈ L -> x ∈ M) -> L.length <= M.length
  | [], M, _, _ => Nat.zero_le _
  | a :: L, M, nd, h => by
    obtain ⟨nd1, nd2⟩ := List.nodup_cons.1 nd
    have ha := h a (List.mem_cons_self ..)
    have h2 := sub_len' (L := L) (M := M.erase a) nd2 fun x hx => (List.mem_erase_of_ne (fun (e : x = a) => nd1 (e ▸ hx))).2 (h x (List.mem_cons_of_mem _ hx))
    rw [List.length_erase_of_mem ha] at h2
    have : 0 < M.length := List.length_pos_of_mem ha
    simp only [List.length_cons]; omega
theorem perm_of {L : List Nat} {n : Nat} (nd : L.Nodup) (h : ∀ x, x ∈ L -> x < n) (hl : L.length = n) : L.Perm (List.range n) := by
  refine (List.perm_ext_iff_of_nodup nd List.nodup_range).2 fun x => ⟨fun hx => List.mem_range.2 (h x hx), fun hx => ?_⟩
  refine Classical.byContradiction fun z => ?_
  have := sub_len' (L := x :: L) (M := List.range n) (List.nodup_cons.2 ⟨z, nd⟩) fun y hy => by
    rcases List.mem_cons.1 hy with rfl | hy
    · exact hx
    · exact List.mem_range.2 (h y hy)
  simp at this; omega
theorem Cn.map {N : Nat} {tl tl' al δ ρ : Nat -> Nat} (alt : ∀ d, d < N -> al d < N) (lt : ∀ d, d < N -> δ d < N) (ha : ∀ d, d < N -> δ (al d) = al (δ d)) (ht : ∀ d, d < N -> tl' (δ d) = ρ (tl d)) {u v : Nat} (h : Cn tl al N u v) : Cn tl' al N (ρ u) (ρ v) := by
  induction h with
  | refl => exact .refl _
  | @step d _ hd ih =>
    rw [<- ht d hd] at ih
    have := Cn.step ih (lt d hd)
    rw [<- ha d hd, ht _ (alt d hd)] at this
    exact this
end Pn
namespace Fs
open PySem
def Ent (st : Sto) (d : D) : Prop := (∃ i : Int, d = .int i) ∨ (∃ b, d = .bl b) ∨ d = .non ∨ (∃ x, d = .str x) ∨ (∃ xs, d = .tup xs /\ D.purs xs = true) ∨ (∃ l xs, d = .ref l /\ st[l]? = some (.lst xs)) ∨ (∃ l xs, d = .ref l /\ st[l]? = some (.dic xs))
def ix (m : Nat) (d : D) : Option Nat := match d with
  | .int i => if 0 <= i /\ i < (m : Int) then some i.toNat else none
  | _ => none
theorem ix_int {m : Nat} {i : Int} : ix m (.int i) = if 0 <= i /\ i < (m : Int) then some i.toNat else none := rfl
theorem ent_pur {st : Sto} {d : D} (h : Ent st d) : d.pur = true := by
  rcases h with ⟨i, rfl⟩ | ⟨b, rfl⟩ | rfl | ⟨x, rfl⟩ | ⟨xs, rfl, hp⟩ | ⟨l, xs, rfl, _⟩ | ⟨l, xs, rfl, _⟩ <;> first | rfl | exact hp
theorem k_ix (n : Nat) {m : Nat} {d : D} (st : Sto) (h : Ent st d) : wp (call P (n + 1) F.zq0 [d, .int (m : Int)]) st (fun r s' => r = .bl (ix m d).isSome /\ s' = st) NX := by
  refine w_call (F := c_zq0) rfl rfl ?_
  have e0 : lands [d, .int (m : Int)] st = ([d, .int (m : Int)], st) := lands_pur (by simp only [D.purs, ent_pur h]; rfl)
  rw [e0]
  unfold c_zq0
  have fin : ∀ b, okPre st st st.length = true /\ og (rback st st.length (.bl b)) (fun d' => d' = .bl b /\ List.take st.length st = st) := fun b => ⟨okP_self, by rw [rk_clean rfl]; exact ⟨rfl, by simp⟩⟩
  rcases h with ⟨i, rfl⟩ | ⟨b, rfl⟩ | rfl | ⟨x, rfl⟩ | ⟨xs, rfl, _⟩ | ⟨l, xs, rfl, hc⟩ | ⟨l, xs, rfl, hc⟩
  · simp! [truth]
    by_cases h0 : 0 <= i
    · by_cases h1 : i < (m : Int)
      · have : (ix m (.int i)).isSome = true := by rw [ix_int, if_pos ⟨h0, h1⟩]; rfl
        rw [this, decide_eq_true h0, wb_t, decide_eq_true h1]
        exact fin _
      · have : (ix m (.int i)).isSome = false := by rw [ix_int, if_neg (fun z => h1 z.2)]; rfl
        rw [this, decide_eq_true h0, wb_t, decide_eq_false h1]
        exact fin _
    · have : (ix m (.int i)).isSome = false := by rw [ix_int, if_neg (fun z => h0 z.1)]; rfl
      rw [this, decide_eq_false h0, wb_f]
      exact fin _
  · have i1 : isTy st "int" (.bl b) = some true := rfl
    have i2 : isTy st "bool" (.bl b) = some true := rfl
    simp! [i1, i2]
    exact fin _
  · have i1 : isTy st "int" .non = some false := rfl
    simp! [i1]
    exact fin _
  · have i1 : isTy st "int" (.str x) = some false := rfl
    simp! [i1]
    exact fin _
  · have i1 : isTy st "int" (.tup xs) = some false := rfl
    simp! [i1]
    exact fin _
  · have i1 : isTy st "int" (.ref l) = some false := by simp only [isTy, hc]; rfl
    simp! [i1]
    exact fin _
  · have i1 : isTy st "int" (.ref l) = some false := by simp only [isTy, hc]; rfl
    simp! [i1]
    exact fin _
theorem ent_app {st J : Sto} {d : D} (h : Ent st d) : Ent (st ++ J) d := by
  rcases h with ⟨i, rfl⟩ | ⟨b, rfl⟩ | rfl | ⟨x, rfl⟩ | ⟨xs, rfl, hp⟩ | ⟨l, xs, rfl, hl⟩ | ⟨l, xs, rfl, hl⟩
  · exact .inl ⟨_, rfl⟩
  · exact .inr (.inl ⟨_, rfl⟩)
  · exact .inr (.inr (.inl rfl))
  · exact .inr (.inr (.inr (.inl ⟨_, rfl⟩)))
  · exact .inr (.inr (.inr (.inr (.inl ⟨_, rfl, hp⟩))))
  · exact .inr (.inr (.inr (.inr (.inr (.inl ⟨_, _, rfl, sgl hl⟩)))))
  · exact .inr (.inr (.inr (.inr (.inr (.inr ⟨_, _, rfl, sgl hl⟩)))))
theorem ents_pur {st : Sto} : ∀ {ds : List D}, (∀ d, d ∈ ds -> Ent st d) -> D.purs ds = true
  | [], _ => rfl
  | d :: ds, h => by simp only [D.purs, ent_pur (h d (by simp)), ents_pur fun x hx => h x (List.mem_cons_of_mem _ hx), Bool.and_self]
theorem ix_some {m k : Nat} {d : D} (h : ix m d = some k) : d = .int ((k : Nat) : Int) := by
  cases d with
  | int i =>
    rw [ix_int] at h
    by_cases q : 0 <= i /\ i < (m : Int)
    · rw [if_pos q] at h
      cases h
      congr 1; omega
    · rw [if_neg q] at h; cases h
  | _ => cases h
def IsG (G : List (List D)) : Prop := ∃ L : List Nat, G.flatten = nv L /\ L.Perm (List.range L.length) /\ L.length % 2 = 0 /\ L.length <= 240
theorem nv_injK : ∀ {L M : List Nat}, nv L = nv M -> L = M
  | [], [], _ => rfl
  | [], _ :: _, h => by cases h
  | _ :: _, [], h => by cases h
  | a :: L, b :: M, h => by
    have h1 : D.int ((a : Nat) : Int) :: nv L = D.int ((b : Nat) : Int) :: nv M := h
    obtain ⟨q1, q2⟩ := List.cons.inj h1
    have : ((a : Nat) : Int) = ((b : Nat) : Int) := by injection q1
    rw [nv_injK q2, show a = b from by omega]
theorem sum_lenD : ∀ G : List (List D), (G.map fun r => ((r.length : Nat) : Int)).sum = ((G.flatten.length : Nat) : Int)
  | [] => rfl
  | r :: G => by rw [List.map_cons, List.sum_cons, sum_lenD G, List.flatten_cons, List.length_append]; omega
theorem permR {L : List Nat} {m : Nat} (nd : L.Nodup) (hl : ∀ d, d ∈ L -> d < m) (hm : L.length = m) : L.Perm (List.range m) := Pn.perm_of nd hl hm
theorem k_gfault (n : Nat) {G : List (List D)} (st : Sto) (hG : G.length <= 60) (hE : ∀ r, r ∈ G -> ∀ d, d ∈ r -> Ent st d) (hf : G.flatten.length <= 1000) :
    wp (call P (n + 2) F.zq1 [.tup (G.map D.tup)]) st (fun r s' => ((r = .non /\ IsG G) ∨ (r = .str "darts" /\ ¬ IsG G)) /\ s' = st) NX := by
  have hsl := sl_ge
  have pr : ∀ r, r ∈ G -> D.purs r = true := fun r hr => ents_pur (hE r hr)
  have pG : D.purs (G.map D.tup) = true := purs_of fun d hd => by
    obtain ⟨r, hr, rfl⟩ := List.mem_map.1 hd
    simpa only [D.pur] using pr r hr
  refine w_call (F := c_zq1) rfl rfl ?_
  unfold c_zq1
  simp! [la_tup pG]
  have h1 : decide ((60 : Int) < (((G.map D.tup).length : Nat) : Int)) = false := by rw [List.length_map]; simp; omega
  simp! [truth, h1]
  refine w_lcm G _ (fun r => .bl true) (by omega) ?_ ?_
  · intro r hr
    simp! [la_tup (pr r hr)]
  have h2 : (G.map fun _ => true).all id = true := by simp
  simp! [lBl_lst, optL_bl, h2, truth]
  refine w_lcm G _ (fun r => .int (r.length : Nat)) (by omega) ?_ ?_
  · intro r hr
    simp! [la_tup (pr r hr)]
  have h5 : (Int.natAbs 2).log2 + (Int.natAbs 120).log2 < 1000000 := by decide
  have hs : optL intv (G.map fun r => D.int ((r.length : Nat) : Int)) = some (G.map fun r => ((r.length : Nat) : Int)) := optL_map (f := intv) (h := fun r => D.int ((r.length : Nat) : Int)) (k := fun r => ((r.length : Nat) : Int)) (fun c => rfl) G
  simp! [lInt_lst, hs, sum_lenD]
  generalize hm : G.flatten.length = m at *
  refine ⟨h5, ?_⟩
  have dart : ¬ IsG G -> okPre st st st.length = true /\ og (rback st st.length (.str "darts")) (fun d' => ((d' = .non /\ IsG G) ∨ (d' = .str "darts" /\ ¬ IsG G)) /\ List.take st.length st = st) := fun h => ⟨okP_self, by rw [rk_clean rfl]; exact ⟨.inr ⟨rfl, h⟩, by simp⟩⟩
  have hLl : ∀ L : List Nat, G.flatten = nv L -> L.length = m := fun L hL => by rw [<- hm, hL, nv_len]
  refine wb_of ?_ ?_
  · intro hc
    have hc : 240 < m := by have := of_decide_eq_true hc; omega
    exact dart fun ⟨L, h1, _, _, h4⟩ => by have := hLl L h1; omega
  · intro hc
    have hc : m <= 240 := by have := of_decide_eq_false hc; omega
    have h4 : ((m : Nat) : Int).fmod 2 = ((m % 2 : Nat) : Int) := fmod2 _
    simp! [h4, eq_int]
    refine ⟨by decide, ?_⟩
    refine wb_of ?_ ?_
    · intro hc2
      have hc2 : m % 2 = 1 := by have := of_decide_eq_true hc2; omega
      exact dart fun ⟨L, h1, _, h3, _⟩ => by have := hLl L h1; omega
    · intro hc2
      have hev : m % 2 = 0 := by have := of_decide_eq_false hc2; omega
      rw [rngL1 (by omega)]
      simp! []
      have emr : nv (List.range m) = (List.range m).map fun i => D.int ((i : Nat) : Int) := rfl
      rw [emr]
      refine w_dcm (f := fun _ => .bl true) (List.range m) _ List.nodup_range (fun _ => rfl) (by simp; omega) ?_ ?_
      · intro c _
        simp! []
        rw [kd_key]
        simp! []
      rw [la_dic (kd_pur fun _ => rfl)]
      simp! []
      have dartA : ∀ J : Sto, ¬ IsG G -> okPre st (st ++ J) st.length = true /\ og (rback (st ++ J) st.length (.str "darts")) (fun d' => ((d' = .non /\ IsG G) ∨ (d' = .str "darts" /\ ¬ IsG G)) /\ List.take st.length (st ++ J) = st) := fun J h => ⟨okP_app, by rw [rk_clean rfl]; exact ⟨.inr ⟨rfl, h⟩, take0⟩⟩
      refine w_forP G _ (fun pre σ s => (∃ a b, σ = [some (.tup (G.map D.tup)), a, some (.int (m : Nat)), some (.ref st.length), b]) /\ ∃ t Lp : List Nat, s = st ++ [.dic (kd (fun _ => .bl true) t)] /\ t.Nodup /\ pre.flatten = nv Lp /\ Lp.Nodup /\ (∀ d, d ∈ Lp -> d < m) /\ ∀ d, d ∈ t ↔ d < m /\ d ∉ Lp) ⟨⟨_, _, rfl⟩, _, [], rfl, List.nodup_range, rfl, by simp, by simp, by simp⟩ ?_ ?_
      · rintro pre r post σ s hgs ⟨⟨a, b, rfl⟩, t, Lp, rfl, ht, hLp, hn1, hn2, htd⟩
        have hrG : r ∈ G := by rw [hgs]; simp
        simp! [la_tup (pr r hrG)]
        have em : r = r.map id := by simp
        rw [em]
        refine w_forP r id (fun q σ s => (∃ b, σ = [some (.tup (G.map D.tup)), some (.tup r), some (.int (m : Nat)), some (.ref st.length), b]) /\ ∃ t Lq : List Nat, s = st ++ [.dic (kd (fun _ => .bl true) t)] /\ t.Nodup /\ q = nv Lq /\ (Lp ++ Lq).Nodup /\ (∀ d, d ∈ Lp ++ Lq -> d < m) /\ ∀ d, d ∈ t ↔ d < m /\ d ∉ Lp ++ Lq) ⟨⟨_, by rw [<- em]⟩, t, [], rfl, ht, rfl, by simpa using hn1, by simpa using hn2, by simpa using htd⟩ ?_ ?_
        · rintro q x po σ s hr ⟨⟨c, rfl⟩, t, Lq, rfl, ht, hLq, hq1, hq2, htd⟩
          have hx : Ent (st ++ [.dic (kd (fun _ => .bl true) t)]) x := ent_app (hE r hrG x (by rw [hr]; simp))
          have hfl : G.flatten = nv (Lp ++ Lq) ++ x :: (po ++ post.flatten) := by
            rw [hgs, List.flatten_append, List.flatten_cons, hLp, hr, hLq]; simp [nv]
          have hlx : ∀ s, land x s = (x, s) := fun s => land_pur (ent_pur hx)
          simp! [id_eq, hlx]
          refine wp_nx (k_ix (n := n) _ hx) ?_
          rintro d' s2 ⟨rfl, rfl⟩
          cases hk : ix m x with
          | none =>
            simp! [Option.isSome_none, truth]
            refine dartA _ fun ⟨L, g1, g2, g3, g4⟩ => ?_
            rw [g1] at hfl
            have hxm : x ∈ nv L := by rw [hfl]; simp
            obtain ⟨k, hkL, rfl⟩ := List.mem_map.1 hxm
            have := List.mem_range.1 (g2.mem_iff.1 hkL)
            have hLm := hLl L g1
            rw [ix_int, if_pos (by omega)] at hk
            cases hk
          | some k =>
            have hxk := ix_some hk
            subst hxk
            have hkm : k < m := by
              rw [ix_int] at hk
              by_cases z : 0 <= ((k : Nat) : Int) /\ ((k : Nat) : Int) < (m : Int)
              · omega
              · rw [if_neg z] at hk; cases hk
            have hin : inD (st ++ [.dic (kd (fun _ => .bl true) t)]) (.int (k : Int)) (.ref st.length) = some (decide (k ∈ t)) := kd_isIn (f := fun _ => .bl true) (L := t) sg0
            simp! [Option.isSome_some, truth, hin, Option.map_some]
            by_cases hkt : k ∈ t
            · rw [decide_eq_true hkt]
              simp! []
              rw [kd_key]
              simp! []
              rw [kd_get, if_pos hkt, kd_del]
              refine ⟨rfl, kd_ok, ?_⟩
              simp! []
              have hk2 := (htd k).1 hkt
              refine ⟨⟨_, rfl⟩, t.erase k, Lq ++ [k], rfl, ht.erase k, by rw [hLq]; simp [nv], ?_, ?_, ?_⟩
              · rw [<- List.append_assoc]
                exact List.nodup_append.2 ⟨hq1, by simp, fun a ha b hb e => by rw [List.mem_singleton.1 hb] at e; subst e; exact hk2.2 ha⟩
              · intro d hd
                rw [<- List.append_assoc] at hd
                rcases List.mem_append.1 hd with z | z
                · exact hq2 d z
                · rw [List.mem_singleton.1 z]; exact hkm
              · intro d
                rw [ht.mem_erase_iff, htd, <- List.append_assoc, List.mem_append (s := Lp ++ Lq), List.mem_singleton]
                constructor
                · rintro ⟨z1, z2, z3⟩
                  exact ⟨z2, fun w => w.elim z3 z1⟩
                · rintro ⟨z1, z2⟩
                  exact ⟨fun w => z2 (.inr w), z1, fun w => z2 (.inl w)⟩
            · rw [decide_eq_false hkt]
              simp! []
              refine dartA _ fun ⟨L, g1, g2, g3, g4⟩ => ?_
              have hkd : k ∈ Lp ++ Lq := by
                refine Classical.byContradiction fun z => hkt ((htd k).2 ⟨hkm, z⟩)
              rw [g1] at hfl
              have hLnd : L.Nodup := g2.nodup_iff.2 List.nodup_range
              have e2 : L.take (Lp ++ Lq).length = Lp ++ Lq /\ L[(Lp ++ Lq).length]? = some k := by
                constructor
                · refine nv_injK ?_
                  have : (nv L).take (Lp ++ Lq).length = nv (Lp ++ Lq) := by rw [hfl, List.take_left' (by rw [nv_len])]
                  rw [<- this]; simp [nv]
                · have : (nv L)[(Lp ++ Lq).length]? = some (.int ((k : Nat) : Int)) := by rw [hfl, List.getElem?_append_right (by rw [nv_len]; exact Nat.le_refl _), nv_len, Nat.sub_self]; rfl
                  rw [nv_get] at this
                  obtain ⟨y, hy, hy2⟩ := Option.map_eq_some_iff.1 this
                  have : ((y : Nat) : Int) = ((k : Nat) : Int) := by injection hy2
                  rw [hy, show y = k from by omega]
              obtain ⟨j, hj⟩ := List.mem_iff_getElem?.1 hkd
              have hjl := (List.getElem?_eq_some_iff.1 hj).1
              rw [<- e2.1, List.getElem?_take, if_pos hjl] at hj
              have := (List.getElem?_inj (by exact (List.getElem?_eq_some_iff.1 hj).1) hLnd).1 (hj.trans e2.2.symm)
              omega
        · rintro σ s ⟨⟨c, rfl⟩, t, Lq, rfl, ht, hLq, hq1, hq2, htd⟩
          simp! []
          refine ⟨⟨_, _, rfl⟩, t, Lp ++ Lq, rfl, ht, ?_, hq1, hq2, htd⟩
          rw [List.flatten_append, hLp, List.flatten_cons, List.flatten_nil, List.append_nil, hLq]; simp [nv]
      · rintro σ s ⟨⟨a, b, rfl⟩, t, Lp, rfl, ht, hLp, hn1, hn2, htd⟩
        simp! []
        refine ⟨okP_app, ?_⟩
        rw [rk_clean rfl]
        have hl := hLl Lp hLp
        exact ⟨.inl ⟨rfl, Lp, hLp, by rw [hl]; exact permR hn1 hn2 hl, by omega, by omega⟩, take0⟩
end Fs
namespace Fs
open PySem
section
variable {s : Sto} {E : D -> Sto -> Prop} {γ : Type}
theorem w_lcfC {turn : D -> M (Option D)} {Q : List D -> Sto -> Prop} {l : Nat} (L : List γ) (h : γ -> D) (p : γ -> Bool) (k : γ -> D) (hx : L.length <= sizeLine) (hc : s[l]? = some (.lst (L.map h)))
    (hb : ∀ c ∈ L, wp (turn (h c)) s (fun o s1 => o = (if p c then some (k c) else none) /\ s1 = s) NX)
    (hq : Q ((L.filter p).map k) s) : wp (lcLoop (.one (.cell l)) turn ((It.one (.cell l)).len s + 1) 0 []) s Q E := by
  refine w_lcAux (L.map h) (fun i a s' => i <= L.length /\ s' = s /\ a = ((L.take i).filter p).map k) ?_ ?_ ?_ _ 0 [] s ⟨Nat.zero_le _, rfl, by simp⟩ (Nat.zero_le _) ?_
  · rintro i a s' ⟨_, rfl, _⟩
    simp only [It.next, Src.at, hc]
  · rintro i d a s' ⟨hi, rfl, rfl⟩ e
    rw [List.getElem?_map] at e
    cases e2 : L[i]? with
    | none => rw [e2] at e; cases e
    | some c =>
      rw [e2] at e
      cases e
      have hi2 : i < L.length := (List.getElem?_eq_some_iff.1 e2).1
      have hal : (((L.take i).filter p).map k).length < sizeLine := by
        rw [List.length_map]
        have h1 := List.length_filter_le p (L.take i)
        have h2 := List.length_take_le i L
        omega
      refine wp_nx (hb c (List.mem_of_getElem? e2)) ?_
      rintro o s1 ⟨rfl, rfl⟩
      cases hp : p c with
      | true =>
        refine ⟨hal, hi2, rfl, ?_⟩
        rw [take_snoc e2, List.filter_append, List.map_append]
        simp [hp]
      | false =>
        refine ⟨hi2, rfl, ?_⟩
        rw [take_snoc e2, List.filter_append, List.map_append]
        simp [hp]
  · rintro a s' ⟨_, rfl, rfl⟩
    rw [List.length_map, List.take_length]
    exact hq
  · simp only [It.len, Src.len, hc]; omega
end
def Itm (s : Sto) (d : D) : Prop := (∃ i : Int, d = .int i /\ i.natAbs < 2 ^ 400) ∨ (∃ b, d = .bl b) ∨ d = .non ∨ d = .str "0" ∨ d = .tup [.int 0] ∨ ∃ l, d = .ref l /\ s[l]? = some (.lst [.int 1])
theorem Itm.ent {s : Sto} {d : D} (h : Itm s d) : Ent s d := by
  rcases h with ⟨i, rfl, _⟩ | ⟨b, rfl⟩ | rfl | rfl | rfl | ⟨l, rfl, hl⟩
  · exact .inl ⟨_, rfl⟩
  · exact .inr (.inl ⟨_, rfl⟩)
  · exact .inr (.inr (.inl rfl))
  · exact .inr (.inr (.inr (.inl ⟨_, rfl⟩)))
  · exact .inr (.inr (.inr (.inr (.inl ⟨_, rfl, rfl⟩))))
  · exact .inr (.inr (.inr (.inr (.inr (.inl ⟨_, _, rfl, hl⟩)))))
theorem Itm.app {s J : Sto} {d : D} (h : Itm s d) : Itm (s ++ J) d := by
  rcases h with h | h | h | h | h | ⟨l, rfl, hl⟩
  · exact .inl h
  · exact .inr (.inl h)
  · exact .inr (.inr (.inl h))
  · exact .inr (.inr (.inr (.inl h)))
  · exact .inr (.inr (.inr (.inr (.inl h))))
  · exact .inr (.inr (.inr (.inr (.inr ⟨_, rfl, sgl hl⟩))))
structure Rdd (z : Bool) (s : Sto) (k d : Nat) (x : D) (p : PyData) : Prop where
  rd : ∀ n J, toP z (s ++ J) (n + d + 1) x = some p
  sm : Sme k d p
  ly : z = true ∨ PyData.canLay0 p = true
theorem Itm.rd {z : Bool} {s : Sto} {d : D} (h : Itm s d) : ∃ p, Rdd z s 1 1 d p := by
  rcases h with ⟨i, rfl, hi⟩ | ⟨b, rfl⟩ | rfl | rfl | rfl | ⟨l, rfl, hl⟩
  · exact ⟨.int i, fun n J => rfl, (Sme.int hi).mono (by decide) (by decide), .inr rfl⟩
  · exact ⟨.bool b, fun n J => rfl, Sme.bl.mono (by decide) (by decide), .inr rfl⟩
  · exact ⟨.none, fun n J => rfl, Sme.non.mono (by decide) (by decide), .inr rfl⟩
  · exact ⟨.str "0", fun n J => rfl, ⟨by decide +kernel, by decide, by decide +kernel, by decide, by decide +kernel⟩, .inr (by decide +kernel)⟩
  · exact ⟨.tuple [.int 0], fun n J => rfl, (Sme.tup (k := 0) (d := 0) (m := 1) (fun x hx => by rw [List.mem_singleton.1 hx]; exact Sme.int (by decide)) (by simp)).mono (by decide) (by decide), .inr rfl⟩
  · exact ⟨.list [.int 1], fun n J => by rw [toP_ref (sgl hl)]; rfl, (Sme.lst (k := 0) (d := 0) (m := 1) (fun x hx => by rw [List.mem_singleton.1 hx]; exact Sme.int (by decide)) (by simp)).mono (by decide) (by decide), .inr rfl⟩
theorem rd_list {z : Bool} {s : Sto} {k d : Nat} : ∀ {xs : List D}, (∀ x, x ∈ xs -> ∃ p, Rdd z s k d x p) -> ∃ ps : List PyData, ps.length = xs.length /\ (∀ n J, optL (toP z (s ++ J) (n + d + 1)) xs = some ps) /\ (∀ p, p ∈ ps -> Sme k d p) /\ (z = true ∨ PyData.canLayAll0 ps = true) /\ PyData.depthAll ps <= d
  | [], _ => ⟨[], rfl, fun _ _ => rfl, by simp, .inr (by simp [PyData.canLayAll0]), by simp [PyData.depthAll]⟩
  | x :: xs, h => by
    obtain ⟨p, hp⟩ := h x (by simp)
    obtain ⟨ps, h1, h2, h3, h4, h5⟩ := rd_list (xs := xs) fun y hy => h y (List.mem_cons_of_mem _ hy)
    refine ⟨p :: ps, by simp [h1], fun n J => by simp only [optL, hp.rd, h2], fun y hy => ?_, ?_, ?_⟩
    · rcases List.mem_cons.1 hy with rfl | hy
      · exact hp.sm
      · exact h3 y hy
    · rcases hp.ly with e | e
      · exact .inl e
      · exact h4.imp id fun h => by simp [PyData.canLayAll0, e, h]
    · simp only [PyData.depthAll]
      have := hp.sm.dp
      omega
theorem Rdd.tup {z : Bool} {s : Sto} {k d m : Nat} {xs : List D} (h : ∀ x, x ∈ xs -> ∃ p, Rdd z s k d x p) (hm : xs.length <= m) : ∃ p, Rdd z s ((k + 1) * m) (d + 1) (.tup xs) p := by
  obtain ⟨ps, h1, h2, h3, h4, h5⟩ := rd_list h
  refine ⟨.tuple ps, fun n J => ?_, Sme.tup h3 (by omega), h4.imp id fun h => by simp only [PyData.canLay0, h]⟩
  rw [show n + (d + 1) + 1 = (n + d + 1) + 1 from by omega]
  rw [toP_tup, h2]; rfl
theorem Rdd.cel {z : Bool} {s : Sto} {k d m l : Nat} {xs : List D} (h : ∀ x, x ∈ xs -> ∃ p, Rdd z s k d x p) (hm : xs.length <= m) (hl : s[l]? = some (.lst xs)) : ∃ p, Rdd z s ((k + 1) * m) (d + 1) (.ref l) p := by
  obtain ⟨ps, h1, h2, h3, h4, h5⟩ := rd_list h
  refine ⟨.list ps, fun n J => ?_, Sme.lst h3 (by omega), h4.imp id fun h => by simp only [PyData.canLay0, h]⟩
  rw [show n + (d + 1) + 1 = (n + d + 1) + 1 from by omega]
  rw [toP_ref (sgl hl), h2]; rfl
theorem Rdd.mono {z : Bool} {s : Sto} {k k' d d' : Nat} {x : D} {p : PyData} (h : Rdd z s k d x p) (hk : k <= k') (hd : d <= d') : Rdd z s k' d' x p :=
  ⟨fun n J => by rw [show n + d' + 1 = (n + (d' - d)) + d + 1 from by omega]; exact h.rd _ J, h.sm.mono hk hd, h.ly⟩
theorem eq_lnil {s : Sto} {k d : Nat} {xs : List D} (h : ∀ x, x ∈ xs -> ∃ p, Rdd false s k d x p) (hd : d <= 60) : eqD s (.lst xs) (.lst []) = some xs.isEmpty := by
  obtain ⟨ps, h1, h2, h3, h4, h5⟩ := rd_list h
  have h4 := h4.resolve_left (by simp)
  have e1 : toP false s 66 (.lst xs) = some (.list ps) := by
    have := h2 (64 - d) []
    rw [show 64 - d + d + 1 = 65 from by omega, List.append_nil] at this
    show (optL (toP false s 65) xs).map PyData.list = _
    rw [this]; rfl
  have e0 : toP false s 66 (.lst []) = some (.list []) := rfl
  have s1 : SeqAt.shaped (.list ps) = true := by
    have hd2 : PyData.depth (.list ps) <= 64 := by simp only [PyData.depth]; omega
    simp [SeqAt.shaped, PyData.canLay0, h4, hd2]
  have s0 : SeqAt.shaped (.list []) = true := by decide
  simp only [eqD, e1, e0]
  rw [if_pos ⟨s1, s0⟩]
  cases xs with
  | nil => cases ps with
    | nil => simp [PyData.eqv, PyData.eqvAll]
    | cons a ps => cases h1
  | cons x xs => cases ps with
    | nil => cases h1
    | cons a ps => simp [PyData.eqv, PyData.eqvAll]
def isI : D -> Bool
  | .int _ => true
  | _ => false
theorem eqvI : ∀ L M : List Int, PyData.eqvAll (L.map PyData.int) (M.map PyData.int) = decide (L = M)
  | [], [] => by simp [PyData.eqvAll]
  | [], b :: M => by simp [PyData.eqvAll]
  | a :: L, [] => by simp [PyData.eqvAll]
  | a :: L, b :: M => by
    have := eqvI L M
    simp only [List.map_cons, PyData.eqvAll, this, PyData.eqv]
    rw [Bool.eq_iff_iff]
    simp only [Bool.and_eq_true, decide_eq_true_eq, beq_iff_eq, List.cons.injEq]
theorem layI : ∀ L : List Int, PyData.canLayAll0 (L.map PyData.int) = true /\ PyData.depthAll (L.map PyData.int) = 0
  | [] => by simp [PyData.canLayAll0, PyData.depthAll]
  | a :: L => by
    obtain ⟨h1, h2⟩ := layI L
    exact ⟨by simp only [List.map_cons, PyData.canLayAll0, PyData.canLay0, h1, Bool.and_self], by simp only [List.map_cons, PyData.depthAll, PyData.depth, h2]; decide⟩
theorem eq_il {s : Sto} {L M : List Int} : eqD s (.lst (L.map D.int)) (.lst (M.map D.int)) = some (decide (L = M)) := by
  have e : ∀ L : List Int, toP false s 66 (.lst (L.map D.int)) = some (.list (L.map PyData.int)) := fun L => by
    show (optL (toP false s 65) (L.map D.int)).map PyData.list = _
    rw [optL_map (f := toP false s 65) (h := D.int) (k := PyData.int) (fun c => rfl) L]; rfl
  have sh : ∀ L : List Int, SeqAt.shaped (.list (L.map PyData.int)) = true := fun L => by
    obtain ⟨h1, h2⟩ := layI L
    have hd2 : PyData.depth (.list (L.map PyData.int)) <= 64 := by simp only [PyData.depth]; omega
    simp [SeqAt.shaped, PyData.canLay0, h1, hd2]
  simp only [eqD, e]
  rw [if_pos ⟨sh L, sh M⟩]
  simp only [PyData.eqv, eqvI]
theorem int_all : ∀ {xs : List D}, (∀ x, x ∈ xs -> isI x = true) -> ∃ L : List Int, xs = L.map D.int
  | [], _ => ⟨[], rfl⟩
  | x :: xs, h => by
    obtain ⟨L, hL⟩ := int_all (xs := xs) fun y hy => h y (List.mem_cons_of_mem _ hy)
    have hx := h x (by simp)
    cases x with
    | int i => exact ⟨i :: L, by rw [hL]; rfl⟩
    | _ => cases hx
def ends0 : List Int := (List.range 121).map fun (j : Nat) => (0 : Int) + (j : Int) * 2
theorem in_ends {s : Sto} {m : Nat} : inD s (.int ((m : Nat) : Int)) (.tup (ends0.map D.int)) = some (decide (m % 2 = 0 /\ m <= 240)) := by
  have fl : (ends0.map D.int).all flatD = true := by rw [List.all_map]; exact List.all_eq_true.2 fun x _ => rfl
  have e3 : inD s (.int ((m : Nat) : Int)) (.tup (ends0.map D.int)) = some ((ends0.map D.int).any fun z => eqF z (.int ((m : Nat) : Int))) := by
    show (if flatD (.int ((m : Nat) : Int)) /\ (ends0.map D.int).all flatD then _ else none) = _
    exact if_pos ⟨rfl, fl⟩
  rw [e3]
  congr 1
  rw [Bool.eq_iff_iff]
  unfold ends0
  rw [List.any_map, List.any_map, List.any_eq_true, decide_eq_true_eq]
  have f1 : ∀ j : Nat, ((fun z => eqF z (.int ((m : Nat) : Int))) ∘ D.int ∘ fun (j : Nat) => (0 : Int) + (j : Int) * 2) j = decide ((0 : Int) + (j : Int) * 2 = (m : Int)) := fun j => by
    show eqF (.int ((0 : Int) + (j : Int) * 2)) (.int ((m : Nat) : Int)) = _
    rw [Bool.eq_iff_iff]; simp [eqF]
  constructor
  · rintro ⟨j, hj, h⟩
    have hj := List.mem_range.1 hj
    have h : ((fun z => eqF z (.int ((m : Nat) : Int))) ∘ D.int ∘ fun (j : Nat) => (0 : Int) + (j : Int) * 2) j = true := h
    rw [f1, decide_eq_true_eq] at h
    omega
  · rintro ⟨h1, h2⟩
    refine ⟨m / 2, List.mem_range.2 (by omega), ?_⟩
    show ((fun z => eqF z (.int ((m : Nat) : Int))) ∘ D.int ∘ fun (j : Nat) => (0 : Int) + (j : Int) * 2) _ = true
    rw [f1, decide_eq_true_eq]
    omega
theorem evs_con {T : Tbl} {env : Env} {st : Sto} {Q : List D -> Sto -> Prop} {E : D -> Sto -> Prop} : ∀ L : List Int, evs T (L.map fun i => .con (.int i)) env st = .ok (L.map .int) st
  | [] => by simp only [List.map_nil, evs, ret]
  | i :: L => by
    simp only [List.map_cons, evs, ev, bnd, ret]
    rw [evs_con (Q := Q) (E := E) L]
theorem w_ends {T : Tbl} {σ : Env} {s : Sto} {Q : List D -> Sto -> Prop} {E : D -> Sto -> Prop} : wp (evs T (ends0.map fun i => .con (.int i)) σ) s Q E = Q (ends0.map D.int) s := by
  rw [wp_def, evs_con (Q := fun _ _ => True) (E := fun _ _ => True) ends0]; rfl
theorem srt_iff {L : List Int} : (sortI L = (List.range L.length).map fun i => ((i : Nat) : Int)) ↔ ∃ M : List Nat, L = M.map (fun i => ((i : Nat) : Int)) /\ M.Perm (List.range M.length) := by
  constructor
  · intro h
    have hp := (sortI_perm' L).symm
    rw [h] at hp
    have hnn : ∀ x, x ∈ L -> 0 <= x := fun x hx => by
      obtain ⟨i, _, rfl⟩ := List.mem_map.1 (hp.mem_iff.1 hx)
      omega
    refine ⟨L.map Int.toNat, ?_, ?_⟩
    · rw [List.map_map]
      refine (List.map_id L).symm.trans (List.map_congr_left fun x hx => ?_)
      have := hnn x hx
      show x = ((x.toNat : Nat) : Int)
      omega
    · rw [List.length_map]
      have h2 := hp.map Int.toNat
      rw [List.map_map] at h2
      have e : (List.range L.length).map (Int.toNat ∘ fun i => ((i : Nat) : Int)) = List.range L.length := by
        refine (List.map_congr_left (g := id) fun i _ => ?_).trans (List.map_id _)
        simp
      rwa [e] at h2
  · rintro ⟨M, rfl, hM⟩
    rw [List.length_map]
    refine sortI_eq (hM.map _) ?_
    rw [List.pairwise_map]
    exact List.pairwise_lt_range.imp fun h => by omega
theorem cast_inj {L : List Int} {M : List Nat} (h : L.map D.int = nv M) : L = M.map fun i => ((i : Nat) : Int) := by
  have e : nv M = (M.map fun i => ((i : Nat) : Int)).map D.int := by simp [nv]
  rw [e] at h
  have h2 := congrArg (List.map fun d => (intv d).getD 0) h
  have e2 : ∀ K : List Int, (K.map D.int).map (fun d => (intv d).getD 0) = K := fun K => by
    rw [List.map_map]
    exact (List.map_congr_left (g := id) fun x _ => rfl).trans (List.map_id _)
  rwa [e2, e2] at h2
theorem isG_iff {G : List (List D)} {L : List Int} (h : G.flatten = L.map D.int) : IsG G ↔ (sortI L = (List.range L.length).map fun i => ((i : Nat) : Int)) /\ L.length % 2 = 0 /\ L.length <= 240 := by
  rw [srt_iff]
  constructor
  · rintro ⟨M, h1, h2, h3, h4⟩
    rw [h] at h1
    have e := cast_inj h1
    subst e
    rw [List.length_map]
    exact ⟨⟨M, rfl, h2⟩, h3, h4⟩
  · rintro ⟨⟨M, rfl, h2⟩, h3, h4⟩
    rw [List.length_map] at h3 h4
    exact ⟨M, by rw [h]; simp [nv], h2, h3, h4⟩
def fS1 : Sx := .iff (.or2 (.nt (.val (.bi (.isT "tuple") [.loc 0]))) (.or2 (.val (.cmp .gt (.bi .len [.loc 0]) (.con (.int 60)))) (.val (.cmp .ne (.lc [1] (.val (.loc 0)) (.nm 1) [.nt (.val (.bi (.isT "tuple") [.loc 1]))] (.con (.int 1))) (.lst []))))) [.ret (.con (.str "form"))] []
def fS3 : Sx := .forr (.val (.loc 0)) (.nm 1) [.asg (.nm 2) (.bin .add (.loc 2) (.bi .list [.loc 1]))]
def fS4 : Sx := .iff (.val (.cmp .ne (.lc [3] (.val (.loc 2)) (.nm 3) [.or2 (.nt (.val (.bi (.isT "int") [.loc 3]))) (.val (.bi (.isT "bool") [.loc 3]))] (.loc 3)) (.lst []))) [.ret (.con (.str "darts"))] []
def fS5 : List Sx := [.ret (.ife (.and2 (.val (.cmp .eq (.bi .sorted [.loc 2]) (.bi .lrng [.bi .len [.loc 2]]))) (.val (.cmp .inn (.bin .add (.bi .len [.loc 2]) (.con (.int 0))) (.tup (ends0.map fun i => .con (.int i)))))) (.con .non) (.con (.str "darts")))]
theorem fa_body : c_zq9.body = fS1 :: .asg (.nm 2) (.lst []) :: fS3 :: fS4 :: fS5 := rfl
theorem k_lfR (n : Nat) {G : List (List D)} (st : Sto) (hG : G.length <= 60) (hE : ∀ r, r ∈ G -> ∀ d, d ∈ r -> Itm st d) (hf : G.flatten.length <= 1000) :
    wp (call P (n + 1) F.zq9 [.tup (G.map D.tup)]) st (fun r s' => ((r = .non /\ IsG G) ∨ (r = .str "darts" /\ ¬ IsG G)) /\ s' = st) NX := by
  have hsl := sl_ge
  have pr : ∀ r, r ∈ G -> D.purs r = true := fun r hr => ents_pur fun d hd => (hE r hr d hd).ent
  have pG : D.purs (G.map D.tup) = true := purs_of fun d hd => by
    obtain ⟨r, hr, rfl⟩ := List.mem_map.1 hd
    simpa only [D.pur] using pr r hr
  refine w_call (F := c_zq9) rfl rfl ?_
  rw [fa_body]
  have er : List.replicate (c_zq9.ns - c_zq9.np) (none : Option D) = [none, none, none] := rfl
  have e0 : lands [.tup (G.map D.tup)] st = ([.tup (G.map D.tup)], st) := by simp only [lands, la_tup pG]
  rw [er, e0]
  have h1 : decide ((60 : Int) < (((G.map D.tup).length : Nat) : Int)) = false := by rw [List.length_map]; simp; omega
  have n0 : eqD st (.lst []) (.lst []) = some true := rfl
  unfold fS1
  simp! [truth, h1]
  refine w_lcf G _ (fun _ => false) (fun _ => .int 1) (by omega) ?_ ?_
  · intro r hr
    simp! [la_tup (pr r hr), truth]
    rfl
  have f0 : (G.filter fun _ => false) = [] := by simp
  simp! [f0, n0, Option.map_some, truth]
  refine ⟨by omega, ?_⟩
  unfold fS3
  simp! []
  refine ⟨by omega, ?_⟩
  refine w_forP G _ (fun pre σ s => ∃ x1 q, σ = [some (.tup (G.map D.tup)), x1, some (.ref q), none] /\ On st s /\ st.length <= q /\ s[q]? = some (.lst pre.flatten)) ⟨_, _, rfl, On.refl.app, Nat.le_refl _, sg0⟩ ?_ ?_
  · rintro pre r post σ s hL ⟨x1, q, rfl, hO, hq, hc⟩
    have hr : r ∈ G := by rw [hL]; simp
    have pp : D.purs (pre.flatten ++ r) = true := purs_of fun d hd => by
      rcases List.mem_append.1 hd with z | z
      · obtain ⟨r', hr', hd'⟩ := List.mem_flatten.1 z
        exact ent_pur (hE r' (by rw [hL]; simp [hr']) d hd').ent
      · exact ent_pur (hE r hr d z).ent
    have hfl : pre.flatten.length + r.length <= 1000 := by
      have : G.flatten.length = pre.flatten.length + (r.length + post.flatten.length) := by rw [hL, List.flatten_append, List.flatten_cons, List.length_append, List.length_append]
      omega
    simp! [la_tup (pr r hr), seqv_tup, hc, la_lst pp]
    refine ⟨by omega, _, _, rfl, hO.app, by have := hO.1; omega, ?_⟩
    rw [List.flatten_append, List.flatten_cons, List.flatten_nil, List.append_nil]
    exact sg0
  · rintro σ s ⟨x1, q, rfl, hO, hq, hc⟩
    have hI : ∀ d, d ∈ G.flatten -> Itm s d := fun d hd => by
      obtain ⟨r, hr, hd'⟩ := List.mem_flatten.1 hd
      have := hE r hr d hd'
      rcases this with h | h | h | h | h | ⟨l, rfl, hl⟩
      · exact .inl h
      · exact .inr (.inl h)
      · exact .inr (.inr (.inl h))
      · exact .inr (.inr (.inr (.inl h)))
      · exact .inr (.inr (.inr (.inr (.inl h))))
      · exact .inr (.inr (.inr (.inr (.inr ⟨_, rfl, by rw [hO.2 l (List.getElem?_eq_some_iff.1 hl).1]; exact hl⟩))))
    have fin : ∀ (d : D), ((d = .non /\ IsG G) ∨ (d = .str "darts" /\ ¬ IsG G)) -> okPre st s st.length = true /\ og (rback s st.length d) (fun d' => ((d' = .non /\ IsG G) ∨ (d' = .str "darts" /\ ¬ IsG G)) /\ List.take st.length s = st) := fun d h => by
      have hcl : d.clean = true := by rcases h with ⟨rfl, _⟩ | ⟨rfl, _⟩ <;> rfl
      exact ⟨hO.fin, by rw [rk_clean hcl]; exact ⟨h, hO.take⟩⟩
    unfold fS4
    simp! [hc, soC_lst]
    have em : G.flatten = G.flatten.map id := by simp
    refine w_lcfC (l := q) G.flatten id (fun d => !isI d) id (by omega) (by rw [<- em]; exact hc) ?_ ?_
    · intro d hd
      have hi := hI d hd
      have hlx : land d s = (d, s) := land_pur (ent_pur hi.ent)
      simp! [id_eq, hlx]
      rcases hi with ⟨i, rfl, _⟩ | ⟨b, rfl⟩ | rfl | rfl | rfl | ⟨l, rfl, hl⟩
      · have i1 : isTy s "int" (.int i) = some true := rfl
        have i2 : isTy s "bool" (.int i) = some false := rfl
        simp! [i1, i2, truth]
        rfl
      · have i1 : isTy s "int" (.bl b) = some true := rfl
        have i2 : isTy s "bool" (.bl b) = some true := rfl
        simp! [i1, i2, truth]
        rfl
      · have i1 : isTy s "int" .non = some false := rfl
        simp! [i1, truth]
        rfl
      · have i1 : isTy s "int" (.str "0") = some false := rfl
        simp! [i1, truth]
        rfl
      · have i1 : isTy s "int" (.tup [.int 0]) = some false := rfl
        simp! [i1, truth]
        rfl
      · have i1 : isTy s "int" (.ref l) = some false := by simp only [isTy, hl]; rfl
        simp! [i1, truth]
        rfl
    · rw [List.map_id]
      have q1 : eqD s (.lst (G.flatten.filter fun d => !isI d)) (.lst []) = some (G.flatten.filter fun d => !isI d).isEmpty := eq_lnil (k := 1) (d := 1) (fun x hx => (hI x (List.mem_filter.1 hx).1).rd) (by omega)
      simp! [q1, Option.map_some, truth]
      cases hbad : (G.flatten.filter fun d => !isI d).isEmpty with
      | false =>
        simp! []
        refine ⟨by omega, fin _ (.inr ⟨rfl, fun ⟨L, h1, _⟩ => ?_⟩)⟩
        rw [h1] at hbad
        have : ((nv L).filter fun d => !isI d) = [] := by
          rw [List.filter_eq_nil_iff]
          intro d hd
          obtain ⟨k, _, rfl⟩ := List.mem_map.1 hd
          simp [isI]
        rw [this] at hbad; cases hbad
      | true =>
        have hall : ∀ d, d ∈ G.flatten -> isI d = true := fun d hd => by
          have e0 : (G.flatten.filter fun d => !isI d) = [] := List.isEmpty_iff.1 hbad
          rw [List.filter_eq_nil_iff] at e0
          have := e0 d hd
          simpa using this
        obtain ⟨L, hL⟩ := int_all hall
        rw [hL] at hc
        have hll : L.length = G.flatten.length := by rw [hL]; simp
        have lI : lInt s (.ref q) = some L := by
          rw [lInt_ref hc]
          exact (optL_map (f := intv) (h := D.int) (k := id) (fun c => rfl) L).trans (by rw [List.map_id])
        have hrg : rngN 0 1 ((L.length : Nat) : Int).toNat = ((List.range L.length).map fun i => ((i : Nat) : Int)).map D.int := by rw [Int.toNat_natCast, rngN_nv]; simp [nv]
        have hml : (L.map D.int).length = L.length := List.length_map ..
        have srt : ∀ {Q E : D -> Sto -> Prop}, wp (fSorted (.ref q)) s Q E = Q (.lst ((sortI L).map D.int)) s := by
          intro Q E
          rw [wp_def]
          simp only [fSorted, lI]; rfl
        have hiff := isG_iff hL
        have lc : leC s[q]? = some L.length := by rw [hc, leC_lst, hml]
        unfold fS5
        simp! [srt, lc, hrg, eq_il, w_ends]
        refine ⟨by omega, rgOk_nat (by omega), ?_⟩
        simp! [truth]
        by_cases c1 : sortI L = (List.range L.length).map fun i => ((i : Nat) : Int)
        · rw [decide_eq_true c1]
          have e0 : ((L.length : Nat) : Int) + 0 = ((L.length : Nat) : Int) := by omega
          simp! [e0, in_ends, truth]
          have he : (ends0.map D.int).length <= sizeLine := by rw [show (ends0.map D.int).length = 121 from by simp [ends0]]; omega
          refine ⟨he, ?_⟩
          by_cases c2 : L.length % 2 = 0 /\ L.length <= 240
          · rw [decide_eq_true c2]
            simp! []
            exact fin _ (.inl ⟨rfl, hiff.2 ⟨c1, c2⟩⟩)
          · rw [decide_eq_false c2]
            simp! []
            exact fin _ (.inr ⟨rfl, fun z => c2 (hiff.1 z).2⟩)
        · rw [decide_eq_false c1]
          simp! []
          exact fin _ (.inr ⟨rfl, fun z => c1 (hiff.1 z).1⟩)
end Fs
namespace Fs
open PySem
theorem purs_memK : ∀ {L : List D}, D.purs L = true -> ∀ d, d ∈ L -> d.pur = true
  | a :: L, h, d, hd => by
    simp only [D.purs, Bool.and_eq_true] at h
    rcases List.mem_cons.1 hd with rfl | hd
    · exact h.1
    · exact purs_memK h.2 d hd
structure NoT (st : Sto) (x : D) : Prop where
  pu : x.pur = true
  ty : isTy st "tuple" x = some false
theorem noT_app {st J : Sto} {x : D} (h : NoT st x) : NoT (st ++ J) x := by
  refine ⟨h.pu, ?_⟩
  have := h.ty
  cases x with
  | ref l =>
    simp only [isTy] at this ⊢
    cases hc : st[l]? with
    | none => rw [hc] at this; cases this
    | some c => rw [sgl hc]; rw [hc] at this; exact this
  | _ => exact this
section
variable {st : Sto} {x f : D}
structure Flt (st : Sto) (x f : D) : Prop where
  pr : ∀ n, wp (call P (n + 2) F.zq1 [x]) st (fun r s' => r = f /\ s' = st) NX
  lw : ∀ n, wp (call P (n + 1) F.zq9 [x]) st (fun r s' => r = f /\ s' = st) NX
theorem flt_noT (h : NoT st x) : Flt st x (.str "form") := by
  have hsl := sl_ge
  have e0 : lands [x] st = ([x], st) := lands_pur (by simp only [D.purs, h.pu]; rfl)
  constructor
  · intro n
    refine w_call (F := c_zq1) rfl rfl ?_
    rw [e0]
    unfold c_zq1
    simp! [h.ty, truth]
    exact ⟨okP_self, by rw [rk_clean rfl]; exact ⟨rfl, by simp⟩⟩
  · intro n
    refine w_call (F := c_zq9) rfl rfl ?_
    have er : List.replicate (c_zq9.ns - c_zq9.np) (none : Option D) = [none, none, none] := rfl
    rw [er, e0, fa_body]
    unfold fS1
    simp! [h.ty, truth]
    exact ⟨okP_self, by rw [rk_clean rfl]; exact ⟨rfl, by simp⟩⟩
theorem flt_long {R : List D} (hp : D.purs R = true) (hl : 60 < R.length) : Flt st (.tup R) (.str "form") := by
  have hsl := sl_ge
  have e0 : lands [.tup R] st = ([.tup R], st) := by simp only [lands, la_tup hp]
  have h1 : decide ((60 : Int) < ((R.length : Nat) : Int)) = true := decide_eq_true (by omega)
  constructor
  · intro n
    refine w_call (F := c_zq1) rfl rfl ?_
    rw [e0]
    unfold c_zq1
    simp! [truth, h1]
    exact ⟨okP_self, by rw [rk_clean rfl]; exact ⟨rfl, by simp⟩⟩
  · intro n
    refine w_call (F := c_zq9) rfl rfl ?_
    have er : List.replicate (c_zq9.ns - c_zq9.np) (none : Option D) = [none, none, none] := rfl
    rw [er, e0, fa_body]
    unfold fS1
    simp! [truth, h1]
    exact ⟨okP_self, by rw [rk_clean rfl]; exact ⟨rfl, by simp⟩⟩
def tb : D -> Bool
  | .tup _ => true
  | _ => false
theorem flt_row {R : List D} (hp : D.purs R = true) (hl : R.length <= 60) (hR : ∀ r, r ∈ R -> isTy st "tuple" r = some (tb r)) (hx : ∃ r, r ∈ R /\ tb r = false) : Flt st (.tup R) (.str "form") := by
  have hsl := sl_ge
  have e0 : lands [.tup R] st = ([.tup R], st) := by simp only [lands, la_tup hp]
  have h1 : decide ((60 : Int) < ((R.length : Nat) : Int)) = false := decide_eq_false (by omega)
  have pm : ∀ r, r ∈ R -> ∀ s, land r s = (r, s) := fun r hr s => land_pur (purs_memK hp r hr)
  have em : R = R.map id := by simp
  constructor
  · intro n
    refine w_call (F := c_zq1) rfl rfl ?_
    rw [e0]
    unfold c_zq1
    simp! [truth, h1]
    rw [em]
    refine w_lcm R id (fun r => .bl (tb r)) (by omega) ?_ ?_
    · intro r hr
      simp! [id_eq, pm r hr, hR r hr]
    have h2 : (R.map tb).all id = false := by
      obtain ⟨r, hr, hb⟩ := hx
      rw [Bool.eq_false_iff]
      intro z
      have := List.all_eq_true.1 z _ (List.mem_map.2 ⟨r, hr, rfl⟩)
      rw [hb] at this; cases this
    have h3 : lBl st (.lst (R.map fun r => .bl (tb r))) = some (R.map tb) := by rw [lBl_lst, optL_bl tb]
    simp! [h3, h2, truth]
    exact ⟨okP_self, by rw [rk_clean rfl]; exact ⟨rfl, by simp⟩⟩
  · intro n
    refine w_call (F := c_zq9) rfl rfl ?_
    have er : List.replicate (c_zq9.ns - c_zq9.np) (none : Option D) = [none, none, none] := rfl
    rw [er, e0, fa_body]
    unfold fS1
    simp! [truth, h1]
    rw [em]
    refine w_lcf R id (fun r => !tb r) (fun _ => .int 1) (by omega) ?_ ?_
    · intro r hr
      simp! [id_eq, pm r hr, hR r hr, truth]
      cases tb r <;> rfl
    · have hne : (R.filter fun r => !tb r).isEmpty = false := by
        obtain ⟨r, hr, hb⟩ := hx
        rw [Bool.eq_false_iff]
        intro z
        have z := List.isEmpty_iff.1 z
        rw [List.filter_eq_nil_iff] at z
        have := z r hr
        rw [hb] at this; exact this rfl
      have ei : (R.filter fun r => !tb r).map (fun _ => D.int 1) = ((R.filter fun r => !tb r).map fun _ => (1 : Int)).map D.int := by simp
      have q : eqD st (.lst ((R.filter fun r => !tb r).map fun _ => .int 1)) (.lst []) = some false := by
        rw [ei]
        have := eq_il (s := st) (L := (R.filter fun r => !tb r).map fun _ => (1 : Int)) (M := [])
        rw [List.map_nil] at this
        rw [this]
        congr 1
        rw [decide_eq_false_iff_not]
        intro z
        rw [List.map_eq_nil_iff] at z
        rw [z] at hne; cases hne
      simp! [q, Option.map_some, truth]
      exact ⟨by omega, okP_self, by rw [rk_clean rfl]; exact ⟨rfl, by simp⟩⟩
end
end Fs
namespace Fs
open PySem
section
variable {T : Tbl} {σ : Env} {s : Sto} {QF : Fl -> Sto -> Prop} {E : D -> Sto -> Prop}
theorem s_rse {c : Nat} {es : List Ex} : wp (exS T (.rse c es) σ) s QF E = wp (ev T (.mk c es) σ) s (fun x s => QF (.ex σ x) s) (fun e s => QF (.ex σ e) s) := by
  simp only [exS, wp_lft, wp_ret]
def xq (k : Env -> D -> Sto -> Prop) (Q : Fl -> Sto -> Prop) : Fl -> Sto -> Prop := fun f s' => match f with
  | .ex σ e => k σ e s'
  | f => Q f s'
theorem xq_nx {k : Env -> D -> Sto -> Prop} {Q : Fl -> Sto -> Prop} {σ : Env} : xq k Q (.nx σ) s = Q (.nx σ) s := propext Iff.rfl
theorem xq_ex {k : Env -> D -> Sto -> Prop} {Q : Fl -> Sto -> Prop} {d : Env} {e : D} : xq k Q (.ex d e) s = k d e s := propext Iff.rfl
theorem s_tri {b : List Sx} {hs : List (List Nat × Option Nat × List Sx)} : wp (exS T (.tri b hs) σ) s QF NX = wp (exL T b σ) s (xq (fun σ' e s' => wp (exH T hs e σ') s' QF NX) QF) NX := by
  simp only [wp_def, exS]
  cases exL T b σ s with
  | ok f s' => cases f <;> rfl
  | exc e s' => rfl
  | bad => rfl
def oq (i : Option Nat) (Q : Fl -> Sto -> Prop) : Fl -> Sto -> Prop := fun f s' => match f with
  | .nx σ => Q (.nx (outS i σ)) s'
  | .br σ => Q (.br (outS i σ)) s'
  | .ct σ => Q (.ct (outS i σ)) s'
  | .rt d => Q (.rt d) s'
  | _ => False
theorem oq_nx {i : Option Nat} {Q : Fl -> Sto -> Prop} {σ : Env} : oq i Q (.nx σ) s = Q (.nx (outS i σ)) s := propext Iff.rfl
theorem x_hit {cs : List Nat} {i : Option Nat} {b : List Sx} {hs : List (List Nat × Option Nat × List Sx)} {c : Nat} {fs : List D} (h : (cs.any fun k => T.anc c k) = true) :
    wp (exH T ((cs, i, b) :: hs) (.exc c fs) σ) s QF NX = wp (exL T b (inS i (.exc c fs) σ)) s (oq i QF) NX := by
  simp only [wp_def, exH, h, outF]
  cases exL T b (inS i (.exc c fs) σ) s with
  | ok f s' => cases f <;> rfl
  | exc e s' => rfl
  | bad => rfl
end
end Fs
namespace Fs
open PySem
theorem e_attrE {T : Tbl} {σ : Env} {a : Ex} {f : Str} {s : Sto} {Q E : D -> Sto -> Prop} : wp (ev T (.attr a f) σ) s Q E = wp (ev T a σ) s (fun x s' => match x with
    | .exc c [y] => T.fld c = some f /\ Q y s'
    | _ => False) E := by
  simp only [ev, wp_bnd]
  refine wp_q fun x s' => ?_
  cases x with
  | exc c fs =>
    cases fs with
    | nil => simp only [wp_def, bad]; rfl
    | cons y r =>
      cases r with
      | nil =>
        simp only [wp_gd, wp_ret]
        exact propext ⟨fun q => ⟨of_decide_eq_true q.1, q.2⟩, fun q => ⟨decide_eq_true q.1, q.2⟩⟩
      | cons z r => simp only [wp_def, bad]; rfl
  | _ => simp only [wp_def, bad]; rfl
theorem e_mk1 {T : Tbl} {σ : Env} {s : Sto} {E : D -> Sto -> Prop} {c : Nat} {f : Str} {es : List Ex} {Q : D -> Sto -> Prop} (h : T.fld c = some f) : wp (ev T (.mk c es) σ) s Q E = wp (evs T es σ) s (fun ds s' => match ds with
    | [d] => wp (landM d) s' (fun d' s'' => Q (.exc c [d']) s'') E
    | _ => False) E := by
  simp only [ev, wp_bnd]
  refine wp_q fun ds s => ?_
  simp only [h]
  match ds with
  | [] => simp only [wp_def, bad]; rfl
  | [d] => simp only [wp_bnd, wp_ret]
  | a :: b :: r => simp only [wp_def, bad]; rfl
theorem fldG {n : Nat} : (P.tbl n).fld Kx.BadGraph = some "place" := rfl
abbrev LQ : Str := "_law_right.<locals>.<lambda>"
def Fx (f : Str) : Prop := f = "form" ∨ f = "darts"
theorem k_kinds (n : Nat) {f : Str} (st : Sto) : wp (call P (n + 1) F.zq11 [.exc Kx.BadGraph [.str f]]) st (fun r s' => r = .lst [.tup [.str "BadGraph", .bl true, .str f]] /\ s' = st) NX := by
  have hsl := sl_ge
  refine w_call (F := c_zq11) rfl rfl ?_
  have e0 : lands [.exc Kx.BadGraph [.str f]] st = ([.exc Kx.BadGraph [.str f]], st) := rfl
  rw [e0]
  unfold c_zq11
  have aD : ([Kx.BadGraph].any fun k => (P.tbl n).anc Kx.BadGraph k) = true := rfl
  simp! [bi_isC, aD, truth, e_attrE]
  refine ⟨rfl, by omega, by omega, okP_self, ?_⟩
  rw [rk_val (xs := [.tup [.str "BadGraph", .bl true, .str f]]) rfl]
  exact ⟨rfl, by simp⟩
theorem k_cgN (n : Nat) {st : Sto} {x : D} (hp : x.pur = true) (h : Flt st x .non) : wp (call P (n + 3) F.zq3 [x]) st (fun r s' => r = .non /\ s' = st) NX := by
  have hsl := sl_ge
  refine w_call (F := c_zq3) rfl rfl ?_
  have e0 : lands [x] st = ([x], st) := lands_pur (by simp only [D.purs, hp]; rfl)
  rw [e0]
  unfold c_zq3
  simp! []
  refine wp_nx (h.pr n) ?_
  rintro r s ⟨rfl, rfl⟩
  have i0 : isD .non .non = some true := rfl
  simp! [i0, Option.map_some, truth]
  exact ⟨okP_self, by simp⟩
theorem k_cgX (n : Nat) {st : Sto} {x : D} {f : Str} (hp : x.pur = true) (h : Flt st x (.str f)) : wp (call P (n + 3) F.zq3 [x]) st NX (fun z s' => z = .exc Kx.BadGraph [.str f] /\ s' = st) := by
  have hsl := sl_ge
  refine w_call (F := c_zq3) rfl rfl ?_
  have e0 : lands [x] st = ([x], st) := lands_pur (by simp only [D.purs, hp]; rfl)
  rw [e0]
  unfold c_zq3
  simp! []
  refine wp_nx (h.pr n) ?_
  rintro r s ⟨rfl, rfl⟩
  have i0 : isD (.str f) .non = some false := rfl
  simp! [i0, Option.map_some, truth, s_rse, e_mk1 fldG]
  exact ⟨okP_self, rfl, by simp⟩
theorem told_X {n k : Nat} {σ : Env} {st : Sto} {ex : Ex} {f : Str} (hq : st[1]? = some (.lam 0 [.str LQ])) (hk : P.lams k = some (LQ, ex))
    (hb : ∀ J, wp (ev (P.tbl n) ex σ) (st ++ J) NX (fun z s' => z = .exc Kx.BadGraph [.str f] /\ s' = st ++ J)) :
    wp (ev (P.tbl (n + 2)) (.tell F.zq8 1 k) σ) st (fun r s' => r = .tup [.str "BadGraph", .str f] /\ s' = st) NX := by
  have hsl := sl_ge
  refine w_tell (F := c_zq8) hq hk rfl rfl ?_
  have er : List.replicate (c_zq8.ns - 1) (none : Option D) = [none, none, none, none, none, none] := rfl
  rw [er]
  unfold c_zq8
  simp! []
  refine ⟨by omega, ?_⟩
  rw [s_tri]
  simp! [e_act, w_act]
  refine wp_of (hb [.lam 1 []]) ?_ ?_
  · rintro r s z
    exact z.elim
  · rintro z s ⟨rfl, rfl⟩
    rw [xq_ex, x_hit (by rfl)]
    have la : ∀ s, land (.exc Kx.BadGraph [.str f]) s = (.exc Kx.BadGraph [.str f], s) := fun s => rfl
    have i0 : isD (.exc Kx.BadGraph [.str f]) .non = some false := rfl
    simp! [inS, la]
    rw [oq_nx]
    simp! [outS, i0, truth]
    refine wp_nx (k_kinds (n := n) (st ++ [.lam 1 []])) ?_
    rintro y s ⟨rfl, rfl⟩
    simp! []
    refine w_for [D.tup [.str "BadGraph", .bl true, .str f]] (fun i σ s => i = 0 /\ σ = [some (.ref st.length), some (.exc Kx.BadGraph [.str f]), some .non, none, none, none, none] /\ s = st ++ [.lam 1 []]) ⟨rfl, rfl, rfl⟩ ?_ ?_
    · rintro i d' σ s ⟨rfl, rfl, rfl⟩ hi
      cases hi
      simp! [truth]
      refine ⟨by omega, okP_app, ?_⟩
      rw [rk_clean rfl]
      exact ⟨rfl, take0⟩
    · rintro σ s ⟨h, _⟩
      cases h
theorem told_N {n k : Nat} {σ : Env} {st : Sto} {ex : Ex} (hq : st[1]? = some (.lam 0 [.str LQ])) (hk : P.lams k = some (LQ, ex))
    (hb : ∀ J, wp (ev (P.tbl n) ex σ) (st ++ J) (fun r s' => r = .non /\ s' = st ++ J) NX) :
    wp (ev (P.tbl (n + 2)) (.tell F.zq8 1 k) σ) st (fun r s' => r = .lst [.non] /\ s' = st) NX := by
  have hsl := sl_ge
  refine w_tell (F := c_zq8) hq hk rfl rfl ?_
  have er : List.replicate (c_zq8.ns - 1) (none : Option D) = [none, none, none, none, none, none] := rfl
  rw [er]
  unfold c_zq8
  simp! []
  refine ⟨by omega, ?_⟩
  rw [s_tri]
  simp! [e_act, w_act]
  refine wp_of (hb [.lam 1 []]) ?_ ?_
  · rintro r s ⟨rfl, rfl⟩
    have i0 : isD .non .non = some true := rfl
    simp! []
    rw [xq_nx]
    simp! [i0, truth]
    refine ⟨by omega, okP_app, ?_⟩
    rw [rk_val (xs := [.non]) rfl]
    exact ⟨rfl, take0⟩
  · rintro z s q
    exact q.elim
structure Good (st : Sto) (x : D) : Prop where
  pu : x.pur = true
  rd : ∃ p, Rdd true st 30000 20 x p
  ft : ∃ f, (f = .non ∨ f = .str "form" ∨ f = .str "darts") /\ ∀ J, Flt (st ++ J) x f
theorem k_isg (n : Nat) {st : Sto} {x f : D} (hp : x.pur = true) (h : Flt st x f) (hf : f = .non ∨ f = .str "form" ∨ f = .str "darts") : wp (call P (n + 3) F.zq2 [x]) st (fun r s' => r = .bl (decide (f = .non)) /\ s' = st) NX := by
  have hsl := sl_ge
  refine w_call (F := c_zq2) rfl rfl ?_
  have e0 : lands [x] st = ([x], st) := lands_pur (by simp only [D.purs, hp]; rfl)
  rw [e0]
  unfold c_zq2
  simp! []
  refine wp_nx (h.pr n) ?_
  rintro r s ⟨rfl, rfl⟩
  have i0 : isD r .non = some (decide (r = .non)) := by rcases hf with rfl | rfl | rfl <;> rfl
  simp! [i0]
  exact ⟨okP_self, by rw [rk_clean rfl]; exact ⟨rfl, by simp⟩⟩
theorem eq_strK {s : Sto} {x : Str} (h : PyData.strOk x = true) : eqD s (.str x) (.str x) = some true := by
  have h1 : toP false s 66 (.str x) = some (.str x) := rfl
  have h2 : SeqAt.shaped (.str x) = true := by
    simp only [SeqAt.shaped, PyData.canLay0, PyData.depth]
    rw [h]; rfl
  simp only [eqD, h1]
  rw [if_pos ⟨h2, h2⟩]
  simp [PyData.eqv]
def gS1 : Sx := .asg (.tup [.nm 1, .nm 2]) (.tup [.call F.zq9 [.loc 0], .bi .reprE [.loc 0]])
def gS2 : Sx := .asg (.nm 3) (.ife (.val (.cmp .isN (.loc 1) (.con .non))) (.lst [.con .non]) (.tup [.con (.str "BadGraph"), .loc 1]))
def gS3 : Sx := .asg (.nm 4) (.lst [.call F.zq2 [.loc 0], .call F.zq2 [.loc 0], .tell F.zq8 1 0])
def gS4 : Sx := .xpr (.me .append (.loc 4) [.tell F.zq8 1 1])
def gS5 : List Sx := [.ret (.and2 (.cmp .eq (.bi .reprE [.loc 4]) (.bi .reprE [.lst [.cmp .isN (.loc 1) (.con .non), .cmp .isN (.loc 1) (.con .non), .loc 3, .loc 3]])) (.cmp .eq (.bi .reprE [.loc 0]) (.loc 2)))]
theorem ri_body : c_zq12.body = [gS1, gS2, gS3, gS4] ++ gS5 := rfl
theorem rep_ok {p : PyData} {k d : Nat} (h : Sme k d p) (hk : k <= 30000) (hd : d <= 60) : p.showable = true /\ p.shown.length <= sizeLine /\ p.depth <= 60 := h.repr hk hd
theorem str_f {f : Str} (hf : Fx f) : Sme 10 0 (.str f) := by
  rcases hf with rfl | rfl <;> exact ⟨by decide +kernel, by decide, by decide +kernel, by decide, by decide +kernel⟩
theorem str_b : Sme 10 0 (.str "BadGraph") := ⟨by decide +kernel, by decide, by decide +kernel, by decide, by decide +kernel⟩
theorem k_right (n : Nat) {st : Sto} {x : D} (h1 : st[1]? = some (.lam 0 [.str LQ])) (h : Good st x) : wp (call P (n + 6) F.zq12 [x]) st (fun r s' => r = .bl true /\ s' = st) NX := by
  have hsl := sl_ge
  obtain ⟨p, hp⟩ := h.rd
  obtain ⟨f, hf, hF⟩ := h.ft
  have hF0 : Flt st x f := by have := hF []; simpa using this
  refine w_call (F := c_zq12) rfl rfl ?_
  have e0 : lands [x] st = ([x], st) := lands_pur (by simp only [D.purs, h.pu]; rfl)
  have er : List.replicate (c_zq12.ns - c_zq12.np) (none : Option D) = [none, none, none, none] := rfl
  rw [er, e0, ri_body]
  have tp : ∀ J, toP true (st ++ J) 60 x = some p := fun J => hp.rd 39 J
  have t0 : toP true st 60 x = some p := by have := tp []; simpa using this
  have hp0 := hp
  have rp := rep_ok hp0.sm (by omega) (by omega)
  have es : eqD st (.str p.shown) (.str p.shown) = some true := eq_strK hp0.sm.st
  unfold gS1
  simp! []
  refine wp_nx (hF0.lw (n + 4)) ?_
  rintro r s ⟨rfl, rfl⟩
  simp! [bi_reprE1, t0]
  have lr : land r s = (r, s) := land_pur (by rcases hf with rfl | rfl | rfl <;> rfl)
  refine ⟨rp, by omega, ?_⟩
  rw [lr]
  have hx : x.pur = true := h.pu
  have lx : ∀ s', land x s' = (x, s') := fun s' => land_pur hx
  have hlam : P.lams 0 = some (LQ, .call F.zq3 [.loc 0]) := rfl
  have hlam1 : P.lams 1 = some (LQ, .call F.zq3 [.loc 0]) := rfl
  rcases hf with rfl | hf
  · have i0 : isD .non .non = some true := rfl
    have ln : ∀ s, land (.lst [.non]) s = (.ref s.length, s ++ [.lst [.non]]) := fun s => la_lst rfl
    unfold gS2
    simp! [i0, Option.map_some, truth, ln]
    refine ⟨by omega, ?_⟩
    unfold gS3
    simp! [lx]
    refine wp_nx (k_isg (n := n + 2) hx (hF _) (.inl rfl)) ?_
    rintro y s2 ⟨rfl, rfl⟩
    simp! [lx]
    refine wp_nx (k_isg (n := n + 2) hx (hF _) (.inl rfl)) ?_
    rintro y s2 ⟨rfl, rfl⟩
    simp! []
    refine wp_nx (told_N (n := n + 3) (k := 0) (sgl h1) hlam fun J => ?_) ?_
    · simp! [lx]
      exact wp_nx (k_cgN (n := n) hx (hF _)) fun y s2 h => h
    · rintro y s2 ⟨rfl, rfl⟩
      have ln3 : ∀ (a b : Bool) (s : Sto), land (.lst [.bl a, .bl b, .lst [.non]]) s = (.ref (s.length + 1), s ++ [.lst [.non], .lst [.bl a, .bl b, .ref s.length]]) := fun a b s => by
        simp only [land, lands, List.length_append, List.length_cons, List.length_nil, List.append_assoc, List.cons_append, List.nil_append, Nat.zero_add]
      rw [ln3]
      refine ⟨by omega, ?_⟩
      unfold gS4
      have n5 : (s ++ [D.lst [D.non]]).length = s.length + 1 := by simp
      rw [n5, List.append_assoc]
      simp! []
      refine wp_nx (told_N (n := n + 3) (k := 1) (sgl h1) hlam1 fun J => ?_) ?_
      · simp! [lx]
        exact wp_nx (k_cgN (n := n) hx (hF _)) fun y s2 h => h
      · rintro y s2 ⟨rfl, rfl⟩
        simp! [ln]
        have eS : ∀ i, (s ++ [D.lst [D.non], D.lst [D.non], D.lst [D.bl (decide True), D.bl (decide True), D.ref (List.length s + 1), D.ref (List.length s + (1 + 1 + 1))], D.lst [D.non]])[s.length + i]? = [D.lst [D.non], D.lst [D.non], D.lst [D.bl (decide True), D.bl (decide True), D.ref (List.length s + 1), D.ref (List.length s + (1 + 1 + 1))], D.lst [D.non]][i]? := fun i => by
          rw [List.getElem?_append_right (by omega), show s.length + i - s.length = i from by omega]
        have tS := tp [D.lst [D.non], D.lst [D.non], D.lst [D.bl (decide True), D.bl (decide True), D.ref (List.length s + 1), D.ref (List.length s + (1 + 1 + 1))], D.lst [D.non]]
        have oS := (On.refl (st := s)).app (r := [D.lst [D.non], D.lst [D.non], D.lst [D.bl (decide True), D.bl (decide True), D.ref (List.length s + 1), D.ref (List.length s + (1 + 1 + 1))], D.lst [D.non]])
        refine ⟨by omega, ?_⟩
        generalize (s ++ [D.lst [D.non], D.lst [D.non], D.lst [D.bl (decide True), D.bl (decide True), D.ref (List.length s + 1), D.ref (List.length s + (1 + 1 + 1))], D.lst [D.non]]) = S at *
        have g0 : S[s.length]? = some (.lst [.non]) := eS 0
        have g1 : S[s.length + 1]? = some (.lst [.non]) := eS 1
        have g2 : S[s.length + 1 + 1]? = some (.lst [.bl true, .bl true, .ref (s.length + 1), .ref (s.length + 3)]) := eS 2
        have g3 : S[s.length + 3]? = some (.lst [.non]) := eS 3
        have w : Sme 200 2 (.list [.bool true, .bool true, .list [.none], .list [.none]]) := by
          have a : Sme 10 1 (.bool true) := Sme.bl.mono (by decide) (by decide)
          have b : Sme 10 1 (.list [.none]) := (Sme.lst (k := 0) (d := 0) (m := 1) (fun x hx => by rw [List.mem_singleton.1 hx]; exact Sme.non) (by simp)).mono (by decide) (by decide)
          refine (Sme.lst (k := 10) (d := 1) (m := 4) (fun x hx => ?_) (by simp)).mono (by decide) (by decide)
          simp only [List.mem_cons, List.not_mem_nil, or_false] at hx
          rcases hx with rfl | rfl | rfl | rfl
          · exact a
          · exact a
          · exact b
          · exact b
        have r1 : toP true S 60 (.ref (s.length + 1 + 1)) = some (.list [.bool true, .bool true, .list [.none], .list [.none]]) := by
          rw [toP_ref g2]
          simp only [optL, toP_ref g1, toP_ref g3]; rfl
        have r2 : toP true S 60 (.lst [.bl true, .bl true, .ref s.length, .ref s.length]) = some (.list [.bool true, .bool true, .list [.none], .list [.none]]) := by
          show (optL (toP true S 59) _).map PyData.list = _
          simp only [optL, toP_ref g0]; rfl
        have wr := rep_ok w (by omega) (by omega)
        have ew := eq_strK (s := S) w.st
        have es2 : eqD S (.str p.shown) (.str p.shown) = some true := eq_strK hp0.sm.st
        unfold gS5
        simp! [bi_reprE1, r1, i0, Option.map_some, r2, ew, tS, es2, truth]
        refine ⟨wr, by omega, wr, rp, oS.fin, ?_⟩
        rw [rk_clean rfl]
        exact ⟨rfl, oS.take⟩
  · have hf2 : ∃ t, r = .str t /\ Fx t := by
      rcases hf with rfl | rfl
      · exact ⟨_, rfl, .inl rfl⟩
      · exact ⟨_, rfl, .inr rfl⟩
    obtain ⟨t, rfl, ht⟩ := hf2
    have i0 : isD (.str t) .non = some false := rfl
    have ef : decide ((D.str t) = .non) = false := rfl
    have lt2 : ∀ s', land (.tup [.str "BadGraph", .str t]) s' = (.tup [.str "BadGraph", .str t], s') := fun s' => land_pur rfl
    have ln3 : ∀ (a b : Bool) (s : Sto), land (.lst [.bl a, .bl b, .tup [.str "BadGraph", .str t]]) s = (.ref s.length, s ++ [.lst [.bl a, .bl b, .tup [.str "BadGraph", .str t]]]) := fun a b s => la_lst rfl
    have hff : D.str t = .non ∨ D.str t = .str "form" ∨ D.str t = .str "darts" := by
      rcases ht with rfl | rfl
      · exact .inr (.inl rfl)
      · exact .inr (.inr rfl)
    unfold gS2
    simp! [i0, Option.map_some, truth, lt2]
    refine ⟨by omega, ?_⟩
    unfold gS3
    simp! [lx]
    refine wp_nx (k_isg (n := n + 2) hx hF0 hff) ?_
    rintro y s2 ⟨rfl, rfl⟩
    refine wp_nx (k_isg (n := n + 2) hx hF0 hff) ?_
    rintro y s2 ⟨rfl, rfl⟩
    refine wp_nx (told_X (n := n + 3) (k := 0) (f := t) h1 hlam fun J => ?_) ?_
    · simp! [lx]
      exact wp_of (k_cgX (n := n) hx (hF _)) (fun _ _ z => z.elim) fun y s2 h => h
    · rintro y s2 ⟨rfl, rfl⟩
      rw [ef, ln3]
      refine ⟨by omega, ?_⟩
      unfold gS4
      simp! []
      refine wp_nx (told_X (n := n + 3) (k := 1) (f := t) (sgl h1) hlam1 fun J => ?_) ?_
      · simp! [lx]
        exact wp_of (k_cgX (n := n) hx (hF _)) (fun _ _ z => z.elim) fun y s2 h => h
      · rintro y s2 ⟨rfl, rfl⟩
        simp! [lt2]
        refine ⟨by omega, ?_⟩
        have g0 : (s2 ++ [D.lst [D.bl false, D.bl false, D.tup [D.str "BadGraph", D.str t], D.tup [D.str "BadGraph", D.str t]]])[s2.length]? = some (.lst [D.bl false, D.bl false, D.tup [D.str "BadGraph", D.str t], D.tup [D.str "BadGraph", D.str t]]) := sg0
        have tS := tp [D.lst [D.bl false, D.bl false, D.tup [D.str "BadGraph", D.str t], D.tup [D.str "BadGraph", D.str t]]]
        have oS := (On.refl (st := s2)).app (r := [D.lst [D.bl false, D.bl false, D.tup [D.str "BadGraph", D.str t], D.tup [D.str "BadGraph", D.str t]]])
        generalize (s2 ++ [D.lst [D.bl false, D.bl false, D.tup [D.str "BadGraph", D.str t], D.tup [D.str "BadGraph", D.str t]]]) = S at *
        have w : Sme 200 2 (.list [.bool false, .bool false, .tuple [.str "BadGraph", .str t], .tuple [.str "BadGraph", .str t]]) := by
          have a : Sme 22 1 (.bool false) := Sme.bl.mono (by decide) (by decide)
          have b : Sme 22 1 (.tuple [.str "BadGraph", .str t]) := (Sme.tup (k := 10) (d := 0) (m := 2) (fun x hx => by
            simp only [List.mem_cons, List.not_mem_nil, or_false] at hx
            rcases hx with rfl | rfl
            · exact str_b
            · exact str_f ht) (by simp)).mono (by decide) (by decide)
          refine (Sme.lst (k := 22) (d := 1) (m := 4) (fun x hx => ?_) (by simp)).mono (by decide) (by decide)
          simp only [List.mem_cons, List.not_mem_nil, or_false] at hx
          rcases hx with rfl | rfl | rfl | rfl
          · exact a
          · exact a
          · exact b
          · exact b
        have r2 : toP true S 60 (.lst [.bl false, .bl false, .tup [.str "BadGraph", .str t], .tup [.str "BadGraph", .str t]]) = some (.list [.bool false, .bool false, .tuple [.str "BadGraph", .str t], .tuple [.str "BadGraph", .str t]]) := rfl
        have r1 : toP true S 60 (.ref s2.length) = some (.list [.bool false, .bool false, .tuple [.str "BadGraph", .str t], .tuple [.str "BadGraph", .str t]]) := by
          rw [toP_ref g0]; rfl
        have wr := rep_ok w (by omega) (by omega)
        have ew := eq_strK (s := S) w.st
        have es2 : eqD S (.str p.shown) (.str p.shown) = some true := eq_strK hp0.sm.st
        unfold gS5
        simp! [bi_reprE1, r1, i0, Option.map_some, r2, ew, tS, es2, truth]
        refine ⟨wr, by omega, wr, rp, oS.fin, ?_⟩
        rw [rk_clean rfl]
        exact ⟨rfl, oS.take⟩
end Fs
namespace Fs
open PySem
mutual
theorem rb_cls {g : Nat -> List Nat -> Option (D × List Nat)} {b : Nat} : ∀ {d : D} {vis : List Nat}, D.cls b d = true -> rbD g b d vis = some (d, vis)
  | .non, vis, _ => by simp only [rbD]
  | .bl _, vis, _ => by simp only [rbD]
  | .int _, vis, _ => by simp only [rbD]
  | .str _, vis, _ => by simp only [rbD]
  | .tup xs, vis, h => by simp only [D.cls] at h; simp only [rbD, rbs_cls h]; rfl
  | .ref l, vis, h => by simp only [D.cls] at h; simp only [rbD, h]
  | .exc c xs, vis, h => by simp only [D.cls] at h; simp only [rbD, h]
  | .lst _, vis, h => by simp [D.cls] at h
  | .frl _, vis, h => by simp [D.cls] at h
  | .dic _, vis, h => by simp [D.cls] at h
  | .set _, vis, h => by simp [D.cls] at h
  | .lam _ _, vis, h => by simp [D.cls] at h
theorem rbs_cls {g : Nat -> List Nat -> Option (D × List Nat)} {b : Nat} : ∀ {ds : List D} {vis : List Nat}, D.clss b ds = true -> rbDs g b ds vis = some (ds, vis)
  | [], vis, _ => by simp only [rbDs]
  | d :: ds, vis, h => by
    simp only [D.clss, Bool.and_eq_true] at h
    simp only [rbDs, rb_cls h.1, Option.bind_some, rbs_cls h.2, Option.map_some]
end
theorem rk_cls {s : Sto} {b : Nat} {d : D} (h : D.cls b d = true) : rback s b d = some d := by
  simp only [rback, rb_cls h]; rfl
theorem rbs_app {g : Nat -> List Nat -> Option (D × List Nat)} {b : Nat} : ∀ {as cs : List D} {vis : List Nat}, D.clss b as = true -> rbDs g b (as ++ cs) vis = (rbDs g b cs vis).map fun q => (as ++ q.1, q.2)
  | [], cs, vis, _ => by
    rw [List.nil_append]
    cases rbDs g b cs vis <;> rfl
  | a :: as, cs, vis, h => by
    simp only [D.clss, Bool.and_eq_true] at h
    simp only [List.cons_append, rbDs, rb_cls h.1, Option.bind_some, rbs_app h.2, Option.map_map]
    rfl
theorem clssK {b : Nat} {ds : List D} (h : ∀ d, d ∈ ds -> D.cls b d = true) : D.clss b ds = true := by
  induction ds with
  | nil => rfl
  | cons d ds ih => simp only [D.clss, h d (by simp), ih fun x hx => h x (List.mem_cons_of_mem _ hx), Bool.and_self]
theorem Itm.cls {s : Sto} {d : D} (h : Itm s d) : D.cls s.length d = true := by
  rcases h with ⟨i, rfl, _⟩ | ⟨b, rfl⟩ | rfl | rfl | rfl | ⟨l, rfl, hl⟩
  · rfl
  · rfl
  · rfl
  · rfl
  · rfl
  · simp only [D.cls]; exact decide_eq_true (List.getElem?_eq_some_iff.1 hl).1
def PIt (s : Sto) (d : D) : Prop := Itm s d ∨ d = .lst [.int 1]
theorem PIt.app {s J : Sto} {d : D} (h : PIt s d) : PIt (s ++ J) d := h.elim (fun h => .inl h.app) .inr
theorem land_it {s : Sto} {x : D} (h : PIt s x) : ∃ y J, land x s = (y, s ++ J) /\ Itm (s ++ J) y := by
  rcases h with h | rfl
  · exact ⟨x, [], by rw [land_pur (ent_pur h.ent), List.append_nil], h.app⟩
  · exact ⟨.ref s.length, [.lst [.int 1]], la_lst rfl, .inr (.inr (.inr (.inr (.inr ⟨_, rfl, sg0⟩))))⟩
theorem lands_it : ∀ {xs : List D} {s : Sto}, (∀ x, x ∈ xs -> PIt s x) -> ∃ ys J, lands xs s = (ys, s ++ J) /\ ys.length = xs.length /\ ∀ y, y ∈ ys -> Itm (s ++ J) y
  | [], s, _ => ⟨[], [], by simp [lands], rfl, by simp⟩
  | x :: xs, s, h => by
    obtain ⟨y, J, e1, h1⟩ := land_it (h x (by simp))
    obtain ⟨ys, K, e2, h2, h3⟩ := lands_it (xs := xs) (s := s ++ J) fun z hz => (h z (List.mem_cons_of_mem _ hz)).app
    refine ⟨y :: ys, J ++ K, by simp only [lands, e1, e2, List.append_assoc], by simp [h2], fun z hz => ?_⟩
    rw [<- List.append_assoc]
    rcases List.mem_cons.1 hz with rfl | hz
    · exact h1.app
    · exact h3 z hz
theorem lands_rw : ∀ {G : List (List D)} {s : Sto}, (∀ r, r ∈ G -> ∀ x, x ∈ r -> PIt s x) -> ∃ (G' : List (List D)) (J : Sto), lands (G.map D.tup) s = (G'.map D.tup, s ++ J) /\ G'.length = G.length /\ G'.flatten.length = G.flatten.length /\ ∀ r, r ∈ G' -> ∀ y, y ∈ r -> Itm (s ++ J) y
  | [], s, _ => ⟨[], [], by simp [lands], rfl, rfl, by simp⟩
  | r :: G, s, h => by
    obtain ⟨ys, J, e1, l1, h1⟩ := lands_it (h r (by simp))
    obtain ⟨G', K, e2, l2, l3, h2⟩ := lands_rw (G := G) (s := s ++ J) fun z hz x hx => (h z (List.mem_cons_of_mem _ hz) x hx).app
    refine ⟨ys :: G', J ++ K, by simp only [List.map_cons, lands, land, e1, e2, List.append_assoc], by simp [l2], by simp [l1, l3], fun z hz y hy => ?_⟩
    rw [<- List.append_assoc]
    rcases List.mem_cons.1 hz with rfl | hz
    · exact (h1 y hy).app
    · exact h2 z hz y hy
theorem noT_data {st : Sto} {x : D} (h : x = .non ∨ (∃ i, x = .int i) ∨ (∃ b, x = .bl b) ∨ (∃ t, x = .str t) ∨ (∃ l xs, x = .ref l /\ st[l]? = some (.lst xs)) ∨ ∃ l xs, x = .ref l /\ st[l]? = some (.dic xs)) : NoT st x := by
  rcases h with rfl | ⟨i, rfl⟩ | ⟨b, rfl⟩ | ⟨t, rfl⟩ | ⟨l, xs, rfl, hl⟩ | ⟨l, xs, rfl, hl⟩
  · exact ⟨rfl, rfl⟩
  · exact ⟨rfl, rfl⟩
  · exact ⟨rfl, rfl⟩
  · exact ⟨rfl, rfl⟩
  · exact ⟨rfl, by simp only [isTy, hl]; rfl⟩
  · exact ⟨rfl, by simp only [isTy, hl]; rfl⟩
inductive Vl (m t : Nat) (st : Sto) (x : D) : Prop
  | nt (h : NoT st x) (p : PyData) (hp : Rdd true st 30000 20 x p)
  | lg (R : List D) (hx : x = .tup R) (hR : D.purs R = true) (hl : 60 < R.length) (p : PyData) (hp : Rdd true st 30000 20 x p)
  | rw (R : List D) (hx : x = .tup R) (hl : R.length <= 60) (hR : ∀ r, r ∈ R -> (∃ xs, r = .tup xs /\ D.purs xs = true) ∨ NoT st r) (hn : ∃ r, r ∈ R /\ NoT st r) (hd : ∀ r, r ∈ R -> ∃ p, Rdd true st 400 5 r p)
  | gr (G : List (List D)) (hx : x = .tup (G.map D.tup)) (hI : ∀ r, r ∈ G -> ∀ d, d ∈ r -> Itm st d) (h1 : G.length <= m) (h2 : G.flatten.length <= t)
theorem row_in {G : List (List D)} {r : List D} (h : r ∈ G) : r.length <= G.flatten.length := by
  obtain ⟨A, C, rfl⟩ := List.append_of_mem h
  simp only [List.flatten_append, List.flatten_cons, List.length_append]
  omega
theorem rd_row {st : Sto} {r : List D} {t : Nat} (h : ∀ d, d ∈ r -> Itm st d) (ht : r.length <= t) : ∃ p, Rdd true st (2 * t) 2 (.tup r) p := by
  obtain ⟨p, hp⟩ := Rdd.tup (m := t) (fun d hd => (h d hd).rd) ht
  exact ⟨p, hp⟩
theorem rd_gr {st : Sto} {G : List (List D)} {m t : Nat} (hI : ∀ r, r ∈ G -> ∀ d, d ∈ r -> Itm st d) (h1 : G.length <= m) (h2 : G.flatten.length <= t) : ∃ p, Rdd true st ((2 * t + 1) * m) 3 (.tup (G.map D.tup)) p :=
  Rdd.tup (fun d hd => by
    obtain ⟨r, hr, rfl⟩ := List.mem_map.1 hd
    exact rd_row (hI r hr) (Nat.le_trans (row_in hr) h2)) (by rw [List.length_map]; exact h1)
theorem noT_tb {st : Sto} {x : D} (h : NoT st x) : tb x = false := by
  cases x <;> first | rfl | (have := h.ty; cases this)
theorem Vl.good {m t : Nat} {st : Sto} {x : D} (h : Vl m t st x) (hm : m <= 60) (ht : t <= 1000) (hmt : (2 * t + 1) * m <= 30000) : Good st x := by
  cases h with
  | nt h p hp => exact ⟨h.pu, ⟨p, hp⟩, _, .inr (.inl rfl), fun J => flt_noT (noT_app h)⟩
  | lg R hx hR hl p hp =>
    subst hx
    exact ⟨by simpa only [D.pur] using hR, ⟨p, hp⟩, _, .inr (.inl rfl), fun J => flt_long hR hl⟩
  | rw R hx hl hR hn hd =>
    subst hx
    have hp : D.purs R = true := purs_of fun r hr => by
      rcases hR r hr with ⟨xs, rfl, h⟩ | h
      · simpa only [D.pur] using h
      · exact h.pu
    obtain ⟨p, hpd⟩ := Rdd.tup hd hl
    refine ⟨by simpa only [D.pur] using hp, ⟨p, hpd.mono (by decide) (by decide)⟩, _, .inr (.inl rfl), fun J => flt_row hp hl (fun r hr => ?_) ?_⟩
    · rcases hR r hr with ⟨xs, rfl, h⟩ | h
      · rfl
      · rw [noT_tb h]; exact (noT_app h).ty
    · obtain ⟨r, hr, h⟩ := hn
      exact ⟨r, hr, noT_tb h⟩
  | gr G hx hI h1 h2 =>
    subst hx
    have hp : D.purs (G.map D.tup) = true := purs_of fun d hd => by
      obtain ⟨r, hr, rfl⟩ := List.mem_map.1 hd
      have := ents_pur fun d hd => (hI r hr d hd).ent
      simpa only [D.pur] using this
    obtain ⟨p, hpd⟩ := rd_gr hI h1 h2
    refine ⟨by simpa only [D.pur] using hp, ⟨p, hpd.mono hmt (by decide)⟩, ?_⟩
    by_cases hG : IsG G
    · refine ⟨.non, .inl rfl, fun J => ⟨fun n => ?_, fun n => ?_⟩⟩
      · refine wp_nx (k_gfault n (st ++ J) (by omega) (fun r hr d hd => ent_app (hI r hr d hd).ent) (by omega)) ?_
        rintro y s ⟨⟨rfl, _⟩ | ⟨_, h⟩, rfl⟩
        · exact ⟨rfl, rfl⟩
        · exact absurd hG h
      · refine wp_nx (k_lfR n (st ++ J) (by omega) (fun r hr d hd => (hI r hr d hd).app) (by omega)) ?_
        rintro y s ⟨⟨rfl, _⟩ | ⟨_, h⟩, rfl⟩
        · exact ⟨rfl, rfl⟩
        · exact absurd hG h
    · refine ⟨.str "darts", .inr (.inr rfl), fun J => ⟨fun n => ?_, fun n => ?_⟩⟩
      · refine wp_nx (k_gfault n (st ++ J) (by omega) (fun r hr d hd => ent_app (hI r hr d hd).ent) (by omega)) ?_
        rintro y s ⟨⟨_, h⟩ | ⟨rfl, _⟩, rfl⟩
        · exact absurd h hG
        · exact ⟨rfl, rfl⟩
      · refine wp_nx (k_lfR n (st ++ J) (by omega) (fun r hr d hd => (hI r hr d hd).app) (by omega)) ?_
        rintro y s ⟨⟨_, h⟩ | ⟨rfl, _⟩, rfl⟩
        · exact absurd h hG
        · exact ⟨rfl, rfl⟩
end Fs
namespace Fs
open PySem
theorem sq_get {st s : Sto} {l q : Nat} {N : Int} (h : Sq st s l N) (hq : q < st.length) (hn : q ≠ l) : s[q]? = st[q]? := by
  obtain ⟨a, b, c, e, _, _⟩ := h.up
  have h1 : (s.take st.length)[q]? = s[q]? := by rw [List.getElem?_take, if_pos hq]
  rw [<- h1, e, List.getElem?_set_ne (fun z => hn z.symm)]
theorem itm_sq {st s : Sto} {l : Nat} {N M : Int} {d : D} (h : Itm st d) (hq : Sq st s l N) (hS : Sr st l M) : Itm s d := by
  rcases h with h | h | h | h | h | ⟨q, rfl, hl⟩
  · exact .inl h
  · exact .inr (.inl h)
  · exact .inr (.inr (.inl h))
  · exact .inr (.inr (.inr (.inl h)))
  · exact .inr (.inr (.inr (.inr (.inl h))))
  · refine .inr (.inr (.inr (.inr (.inr ⟨q, rfl, ?_⟩))))
    rw [sq_get hq (List.getElem?_eq_some_iff.1 hl).1 ?_]
    · exact hl
    · rintro rfl
      obtain ⟨a, b, c, h0, _⟩ := hS
      rw [hl] at h0
      cases h0
theorem up_get {s s2 : Sto} {l r : Nat} {N : Int} (h : Up s s2 l N) (hn : r ≠ l) : s2[r]? = s[r]? := by
  obtain ⟨a, b, c, rfl, _, _⟩ := h
  exact List.getElem?_set_ne (fun z => hn z.symm)
inductive Bo (st : Sto) (G : List (List D)) : D -> Prop
  | a (x : D) (h : x = .non ∨ x = .int 5 ∨ x = .str "graph" ∨ x = .lst (G.map D.tup) ∨ x = .dic [] ∨ x = .bl true ∨ x = .lst [.tup (G.map D.tup)] ∨ x = .tup (rep 61 (G.map D.tup))) : Bo st G x
  | b (A C : List (List D)) (row : List D) (x : D) (hG : G = A ++ row :: C) (h : x = .lst row ∨ x = .non ∨ x = .int 3 ∨ x = .str "01" ∨ x = .dic []) : Bo st G (.tup (A.map D.tup ++ x :: C.map D.tup))
  | c (G' : List (List D)) (hI : ∀ r, r ∈ G' -> ∀ d, d ∈ r -> PIt st d) (h1 : G'.length <= G.length + 2) (h2 : G'.flatten.length <= G.flatten.length + 1) : Bo st G (.tup (G'.map D.tup))
def bS1 : Sx := .asg (.tup [.nm 2, .nm 3]) (.tup [.call F.zq5 [.loc 0, .con (.int 9)], .bi .list [.loc 1]])
def bS2 : Sx := .asg (.nm 4) (.call F.zq5 [.loc 0, .bi .len [.loc 3]])
def bS3 : Sx := .asg (.nm 5) (.sub (.loc 3) (.loc 4))
def bS4 : Sx := .asg (.nm 6) (.call F.zq5 [.loc 0, .bin .add (.bi .len [.loc 5]) (.con (.int 1))])
def bS5 : Sx := .asg (.nm 7) (.sub (.lst [.con (.int 0), .con (.int 1), .neg (.con (.int 1)), .bin .mul (.con (.int 2)) (.bi .len [.loc 3]), .bin .pow (.con (.int 10)) (.con (.int 30)), .con .non, .con (.bl true), .con (.bl false), .con (.str "0"), .tup [.con (.int 0)], .lst [.con (.int 1)]]) (.call F.zq5 [.loc 0, .con (.int 11)]))
def bI0 : Sx := .iff (.val (.cmp .eq (.loc 2) (.con (.int 0)))) [.ret (.sub (.lst [.con .non, .con (.int 5), .con (.str "graph"), .bi .list [.loc 1], .dct [], .con (.bl true), .lst [.loc 1], .bin .mul (.loc 1) (.con (.int 61))]) (.call F.zq5 [.loc 0, .con (.int 8)]))] []
def bI1 : Sx := .iff (.val (.cmp .eq (.loc 2) (.con (.int 1)))) [.ret (.bin .add (.bin .add (.slc (.loc 1) none (some (.loc 4))) (.tup [.sub (.lst [.bi .list [.loc 5], .con .non, .con (.int 3), .con (.str "01"), .dct []]) (.call F.zq5 [.loc 0, .con (.int 5)])])) (.slc (.loc 1) (some (.bin .add (.loc 4) (.con (.int 1)))) none))] []
def bW2 : Sx := .asg (.sub (.loc 3) (.loc 4)) (.bin .add (.bin .add (.slc (.loc 5) none (some (.loc 6))) (.tup [.loc 7])) (.slc (.loc 5) (some (.bin .sub (.bin .add (.loc 6) (.loc 2)) (.con (.int 2)))) none))
def bW4 : Sx := .asg (.sub (.loc 3) (.loc 4)) (.bin .add (.slc (.loc 5) none (some (.loc 6))) (.slc (.loc 5) (some (.bin .add (.loc 6) (.con (.int 1)))) none))
def bW5 : Sx := .asg (.sub (.loc 3) (.loc 4)) (.bin .add (.bin .add (.slc (.loc 5) none (some (.loc 6))) (.bi .mulE [.slc (.loc 5) (some (.loc 6)) (some (.bin .add (.loc 6) (.con (.int 1)))), .con (.int 2)])) (.slc (.loc 5) (some (.bin .add (.loc 6) (.con (.int 1)))) none))
def bW6a : Sx := .asg (.tup [.sub (.loc 3) (.loc 4), .nm 8]) (.tup [.slc (.loc 5) none (some (.loc 6)), .call F.zq5 [.loc 0, .bi .len [.loc 3]]])
def bW6b : Sx := .asg (.sub (.loc 3) (.loc 8)) (.bin .add (.sub (.loc 3) (.loc 8)) (.slc (.loc 5) (some (.loc 6)) none))
def bW7 : Sx := .asg (.nm 3) (.bin .add (.bin .add (.slc (.loc 3) none (some (.loc 4))) (.bin .mul (.lst [.tup []]) (.call F.zq5 [.loc 0, .con (.int 3)]))) (.slc (.loc 3) (some (.loc 4)) none))
def bW8 : Sx := .asg (.nm 3) (.bin .add (.slc (.loc 3) none (some (.loc 4))) (.slc (.loc 3) (some (.bin .add (.loc 4) (.con (.int 1)))) none))
def bI2 : Sx := .iff (.val (.cmp .lt (.loc 2) (.con (.int 4)))) [bW2] [.iff (.val (.cmp .eq (.loc 2) (.con (.int 4)))) [bW4] [.iff (.val (.cmp .eq (.loc 2) (.con (.int 5)))) [bW5] [.iff (.val (.cmp .eq (.loc 2) (.con (.int 6)))) [bW6a, bW6b] [.iff (.val (.cmp .eq (.loc 2) (.con (.int 7)))) [bW7] [bW8]]]]]
def bR : List Sx := [.ret (.bi .tuple [.loc 3])]
theorem be_body : c_zq10.body = bS1 :: bS2 :: bS3 :: bS4 :: bS5 :: bI0 :: bI1 :: bI2 :: bR := rfl
def odds (m : Nat) : List D := [.int 0, .int 1, .int (-1), .int (2 * ((m : Nat) : Int)), .int (10 ^ 30), .non, .bl true, .bl false, .str "0", .tup [.int 0], .lst [.int 1]]
theorem odd_at {m : Nat} {x : Int} (hm : m <= 1000) (h0 : 0 <= x) (h1 : x < 11) : ∃ d, L2.atI (odds m) x = some d /\ ((∀ s, Itm s d) ∨ d = .lst [.int 1]) := by
  have hi : ∀ i : Int, i.natAbs < 2 ^ 200 -> ∀ s, Itm s (.int i) := fun i h s => .inl ⟨i, rfl, Nat.lt_trans h (Nat.pow_lt_pow_right (by decide) (by decide))⟩
  have hx : x = 0 ∨ x = 1 ∨ x = 2 ∨ x = 3 ∨ x = 4 ∨ x = 5 ∨ x = 6 ∨ x = 7 ∨ x = 8 ∨ x = 9 ∨ x = 10 := by omega
  rcases hx with rfl | rfl | rfl | rfl | rfl | rfl | rfl | rfl | rfl | rfl | rfl
  · exact ⟨_, rfl, .inl (hi _ (by decide))⟩
  · exact ⟨_, rfl, .inl (hi _ (by decide))⟩
  · exact ⟨_, rfl, .inl (hi _ (by decide))⟩
  · exact ⟨_, rfl, .inl (hi _ (by have h9 : 2 ^ 11 < 2 ^ 200 := Nat.pow_lt_pow_right (by decide) (by decide); omega))⟩
  · exact ⟨_, rfl, .inl (hi _ (by decide))⟩
  · exact ⟨_, rfl, .inl fun s => .inr (.inr (.inl rfl))⟩
  · exact ⟨_, rfl, .inl fun s => .inr (.inl ⟨_, rfl⟩)⟩
  · exact ⟨_, rfl, .inl fun s => .inr (.inl ⟨_, rfl⟩)⟩
  · exact ⟨_, rfl, .inl fun s => .inr (.inr (.inr (.inl rfl)))⟩
  · exact ⟨_, rfl, .inl fun s => .inr (.inr (.inr (.inr (.inl rfl))))⟩
  · exact ⟨_, rfl, .inr rfl⟩
theorem cut_toD {xs : List D} {k : Nat} : cutD xs none (some (k : Int)) = xs.take k := by
  unfold cutD
  rw [HT.sIx_nat]
  have e : HT.sIx xs.length 0 none = 0 := rfl
  rw [e, Nat.sub_zero, List.drop_zero, <- List.take_take, List.take_of_length_le (l := xs) (Nat.le_refl _)]
theorem cut_fromD {xs : List D} {k : Nat} : cutD xs (some (k : Int)) none = xs.drop k := by
  unfold cutD
  rw [HT.sIx_nat]
  have e : HT.sIx xs.length xs.length none = xs.length := rfl
  rw [e, List.take_of_length_le (by rw [List.length_drop]; omega)]
  by_cases h : k <= xs.length
  · rw [Nat.min_eq_left h]
  · rw [Nat.min_eq_right (by omega), List.drop_of_length_le (by omega), List.drop_of_length_le (by omega)]
theorem cut_oneD {xs : List D} {k : Nat} (hk : k <= xs.length) : cutD xs (some (k : Int)) (some (((k + 1 : Nat)) : Int)) = (xs.drop k).take 1 := by
  unfold cutD
  rw [HT.sIx_nat, HT.sIx_nat, Nat.min_eq_left hk]
  by_cases h : k + 1 <= xs.length
  · rw [Nat.min_eq_left h, show k + 1 - k = 1 from by omega]
  · have : k = xs.length := by omega
    subst this
    rw [List.drop_length]; simp
theorem bi_mulE {T : Tbl} {s : Sto} {xs : List D} {k : Int} {Q E : D -> Sto -> Prop} : wp (biD T .mulE [.tup xs, .int k]) s Q E = ((D.purs xs = true /\ 0 <= k /\ k <= 1000 /\ xs.length <= 1000) /\ Q (.tup (rep k.toNat xs)) s) := by
  have e : biD T .mulE [.tup xs, .int k] = fMulE (.tup xs) (.int k) := rfl
  rw [e]
  by_cases h : D.purs xs = true /\ 0 <= k /\ k <= 1000 /\ xs.length <= 1000
  · simp only [wp_def, fMulE, if_pos h]
    exact propext ⟨fun q => ⟨h, q⟩, fun q => q.2⟩
  · simp only [wp_def, fMulE, if_neg h]
    exact propext ⟨False.elim, fun q => h q.1⟩
theorem rk_lc {s : Sto} {b : Nat} {xs : List D} (h : D.clss b xs = true) : rback s b (.lst xs) = some (.lst xs) := by
  simp only [rback, rbD, rbs_cls h]; rfl
theorem rk_ins {s : Sto} {b q : Nat} {A C : List (List D)} {u v : List D} (hA : D.clss b (A.map D.tup) = true) (hC : D.clss b (C.map D.tup) = true) (hu : D.clss b u = true) (hv : D.clss b v = true) (hb : b <= q) (hq : s[q]? = some (.lst [.int 1])) :
    rback s b (.tup (A.map D.tup ++ .tup (u ++ .ref q :: v) :: C.map D.tup)) = some (.tup (A.map D.tup ++ .tup (u ++ .lst [.int 1] :: v) :: C.map D.tup)) := by
  have hl : decide (q < b) = false := decide_eq_false (by omega)
  have h0 : ([] : List Nat).contains q = false := rfl
  have g : rbC s b 8 q [] = some (.lst [.int 1], [q]) := by
    simp only [rbC, h0, hq]
    rfl
  have e1 : rbDs (rbC s b 8) b (u ++ .ref q :: v) [] = some (u ++ .lst [.int 1] :: v, [q]) := by
    rw [rbs_app hu]
    simp only [rbDs, rbD, hl, g, Option.bind_some, rbs_cls hv, Option.map_some]
  simp only [rback, rbD]
  rw [rbs_app hA]
  simp only [rbDs, rbD, e1, Option.map_some, Option.bind_some, rbs_cls hC]
theorem rk_mid {s : Sto} {b : Nat} {A C : List D} {x : D} (hA : D.clss b A = true) (hC : D.clss b C = true) (hx : ∀ g vis, rbD g b x vis = some (x, vis)) : rback s b (.tup (A ++ x :: C)) = some (.tup (A ++ x :: C)) := by
  simp only [rback, rbD]
  rw [rbs_app hA]
  simp only [rbDs, hx, Option.map_some, Option.bind_some, rbs_cls hC]
theorem Sq.tk {st s : Sto} {l : Nat} {N : Int} (h : Sq st s l N) : Sq st (s.take st.length) l N := ⟨h.lt, by rw [List.length_take]; have := h.le; omega, by rw [List.take_take, Nat.min_self]; exact h.up⟩
theorem fl_set {G : List (List D)} {i : Nat} {r r' : List D} (h : G[i]? = some r) : (G.set i r').flatten.length + r.length = G.flatten.length + r'.length := by
  have hi : i < G.length := (List.getElem?_eq_some_iff.1 h).1
  have e : G = G.take i ++ r :: G.drop (i + 1) := by
    have := List.take_append_drop i G
    rw [List.drop_eq_getElem_cons hi] at this
    have e2 : G[i] = r := (List.getElem?_eq_some_iff.1 h).2
    rw [e2] at this
    exact this.symm
  rw [List.set_eq_take_append_cons_drop, if_pos hi]
  conv => rhs; rw [e]
  simp only [List.flatten_append, List.flatten_cons, List.length_append]
  omega
theorem set_mem {G : List (List D)} {i : Nat} {r x : List D} (h : x ∈ G.set i r) : x ∈ G ∨ x = r := List.mem_or_eq_of_mem_set h
theorem clsG {st : Sto} {G : List (List D)} (h : ∀ r, r ∈ G -> ∀ d, d ∈ r -> Itm st d) : D.clss st.length (G.map D.tup) = true := clssK fun d hd => by
  obtain ⟨r, hr, rfl⟩ := List.mem_map.1 hd
  simp only [D.cls]
  exact clssK fun d hd => (h r hr d hd).cls
section
variable {st s : Sto} {l : Nat} {G : List (List D)} {N M : Int}
theorem fin_old {G' : List (List D)} (hS : Sr st l M) (hq : Sq st s l N) (hI : ∀ r, r ∈ G' -> ∀ d, d ∈ r -> Itm st d) (h1 : G'.length <= G.length + 2) (h2 : G'.flatten.length <= G.flatten.length + 1) :
    okPre st s st.length = true /\ og (rback s st.length (.tup (G'.map D.tup))) (fun d' => Bo (s.take st.length) G d' /\ Up st (s.take st.length) l N) := by
  refine ⟨hq.fin, ?_⟩
  have : D.cls st.length (.tup (G'.map D.tup)) = true := by simp only [D.cls]; exact clsG hI
  rw [rk_cls this]
  exact ⟨.c G' (fun r hr d hd => .inl (itm_sq (hI r hr d hd) hq.tk hS)) h1 h2, hq.up⟩
theorem fin_new {A C : List (List D)} {u v : List D} {q : Nat} (hS : Sr st l M) (hq : Sq st s l N) (hA : ∀ r, r ∈ A -> ∀ d, d ∈ r -> Itm st d) (hC : ∀ r, r ∈ C -> ∀ d, d ∈ r -> Itm st d) (hu : ∀ d, d ∈ u -> Itm st d) (hv : ∀ d, d ∈ v -> Itm st d)
    (hb : st.length <= q) (hc : s[q]? = some (.lst [.int 1])) (h1 : (A ++ (u ++ .ref q :: v) :: C).length <= G.length + 2) (h2 : (A ++ (u ++ .ref q :: v) :: C).flatten.length <= G.flatten.length + 1) :
    okPre st s st.length = true /\ og (rback s st.length (.tup ((A ++ (u ++ .ref q :: v) :: C).map D.tup))) (fun d' => Bo (s.take st.length) G d' /\ Up st (s.take st.length) l N) := by
  refine ⟨hq.fin, ?_⟩
  rw [List.map_append, List.map_cons, rk_ins (clsG hA) (clsG hC) (clssK fun d hd => (hu d hd).cls) (clssK fun d hd => (hv d hd).cls) hb hc]
  have e : A.map D.tup ++ D.tup (u ++ .lst [.int 1] :: v) :: C.map D.tup = (A ++ (u ++ .lst [.int 1] :: v) :: C).map D.tup := by rw [List.map_append, List.map_cons]
  rw [e]
  refine ⟨.c _ (fun r hr d hd => ?_) ?_ ?_, hq.up⟩
  · have ik : ∀ {d}, Itm st d -> PIt (s.take st.length) d := fun h => .inl (itm_sq h hq.tk hS)
    rcases List.mem_append.1 hr with z | z
    · exact ik (hA r z d hd)
    · rcases List.mem_cons.1 z with rfl | z
      · rcases List.mem_append.1 hd with z | z
        · exact ik (hu d z)
        · rcases List.mem_cons.1 z with rfl | z
          · exact .inr rfl
          · exact ik (hv d z)
      · exact ik (hC r z d hd)
  · simp only [List.length_append, List.length_cons] at h1 ⊢; exact h1
  · simp only [List.flatten_append, List.flatten_cons, List.length_append, List.length_cons] at h2 ⊢; exact h2
end
theorem w_bR {n k : Nat} {x0 x1 x2 x4 x5 x6 x7 x8 : Option D} {st s : Sto} {R : List D} {Q : D -> Sto -> Prop} (hc : s[k]? = some (.lst R)) (h : okPre st s st.length = true /\ og (rback s st.length (.tup R)) (fun d' => Q d' (s.take st.length))) :
    wp (exL (P.tbl n) bR [x0, x1, x2, some (.ref k), x4, x5, x6, x7, x8]) s (lv st Q NX) NX := by
  have sv : seqv s (.ref k) = some R := by simp only [seqv, hc]
  unfold bR
  simp! [sv]
  exact h
theorem k_bent (n : Nat) {st : Sto} {l : Nat} {G : List (List D)} {N : Int} (hS : Sr st l N) (hN : N + 100 <= 2 ^ 30) (hI : ∀ r, r ∈ G -> ∀ d, d ∈ r -> Itm st d) (h1 : 1 <= G.length) (h2 : G.length <= 8) (h3 : G.flatten.length <= 17) :
    wp (call P (n + 2) F.zq10 [.ref l, .tup (G.map D.tup)]) st (fun r s' => Bo s' G r /\ Up st s' l (N + 10)) NX := by
  have hsl := sl_ge
  have hll := hS.lt
  refine w_call (F := c_zq10) rfl rfl ?_
  have pr : ∀ r, r ∈ G -> D.purs r = true := fun r hr => ents_pur fun d hd => (hI r hr d hd).ent
  have pG : D.purs (G.map D.tup) = true := purs_of fun d hd => by
    obtain ⟨r, hr, rfl⟩ := List.mem_map.1 hd
    simpa only [D.pur] using pr r hr
  have e0 : lands [.ref l, .tup (G.map D.tup)] st = ([.ref l, .tup (G.map D.tup)], st) := by simp only [lands, la_ref, la_tup pG]
  have er : List.replicate (c_zq10.ns - c_zq10.np) (none : Option D) = [none, none, none, none, none, none, none] := rfl
  rw [er, e0, be_body]
  unfold bS1
  simp! []
  refine wp_nx (k_next (n := n) (m := 9) (by omega) (by omega) (by omega) hS) ?_
  rintro y s1 ⟨⟨w, rfl, hw0, hw1⟩, hu1⟩
  have q1 := (Sq.start hS).next hu1
  simp! [seqv_tup, la_lst pG]
  refine ⟨by omega, ?_⟩
  have lG : (G.map D.tup).length = G.length := List.length_map ..
  have q2 : Sq st (s1 ++ [.lst (G.map D.tup)]) l (N + 1) := q1.app
  have c2 : (s1 ++ [D.lst (G.map D.tup)])[s1.length]? = some (.lst (G.map D.tup)) := sg0
  have hq : st.length <= s1.length := q1.le
  generalize (s1 ++ [D.lst (G.map D.tup)] : Sto) = s2 at *
  generalize s1.length = k at *
  have lc2 : leC s2[k]? = some G.length := by rw [c2, leC_lst, lG]
  unfold bS2
  simp! [lc2]
  refine wp_nx (k_next (n := n) (m := (G.length : Int)) (by omega) (by omega) (by omega) q2.sr) ?_
  rintro y s3 ⟨⟨a, rfl, ha0, ha1⟩, hu3⟩
  have q3 := q2.next hu3
  have c3 : s3[k]? = some (.lst (G.map D.tup)) := by rw [up_get hu3 (by omega)]; exact c2
  obtain ⟨a, rfl⟩ : ∃ b : Nat, a = (b : Int) := ⟨a.toNat, by omega⟩
  have ha : a < G.length := by omega
  obtain ⟨row, hrow⟩ : ∃ row, G[a]? = some row := ⟨_, List.getElem?_eq_getElem ha⟩
  have hrm : row ∈ G := List.mem_of_getElem? hrow
  have at3 : L2.atI (G.map D.tup) (a : Int) = some (.tup row) := by
    rw [atI_nat, List.getElem?_map, hrow]; rfl
  have prow := pr row hrm
  have lrow : row.length <= 17 := Nat.le_trans (row_in hrm) h3
  unfold bS3
  simp! [c3, atC_lst, at3, la_tup prow]
  unfold bS4
  simp! []
  have e1 : ((row.length : Nat) : Int) + 1 = ((row.length + 1 : Nat) : Int) := by omega
  rw [e1]
  refine wp_nx (k_next (n := n) (m := ((row.length + 1 : Nat) : Int)) (by omega) (by omega) (by omega) q3.sr) ?_
  rintro y s4 ⟨⟨b, rfl, hb0, hb1⟩, hu4⟩
  have q4 := q3.next hu4
  have hk : k ≠ l := by omega
  have c4 : s4[k]? = some (.lst (G.map D.tup)) := by rw [up_get hu4 hk]; exact c3
  obtain ⟨b, rfl⟩ : ∃ c : Nat, b = (c : Int) := ⟨b.toNat, by omega⟩
  have hb : b <= row.length := by omega
  have lc4 : leC s4[k]? = some G.length := by rw [c4, leC_lst, lG]
  have hlog : (Int.natAbs 2).log2 + (Int.natAbs (G.length : Int)).log2 < 1000000 := by
    have h1 : (Int.natAbs (G.length : Int)).log2 < 500000 := log_lt (k := 10) (by omega) (by decide)
    have h2 : (Int.natAbs 2).log2 = 1 := by decide
    omega
  unfold bS5
  simp! [lc4]
  refine ⟨hlog, by decide, by omega, by omega, by omega, ?_⟩
  refine wp_nx (k_next (n := n) (m := 11) (by omega) (by omega) (by omega) q4.sr) ?_
  rintro y s5 ⟨⟨x, rfl, hx0, hx1⟩, hu5⟩
  have q5 := q4.next hu5
  have c5 : s5[k]? = some (.lst (G.map D.tup)) := by rw [up_get hu5 hk]; exact c4
  obtain ⟨d, hd, hdo⟩ := odd_at (m := G.length) (by omega) hx0 hx1
  have eo : [D.int 0, D.int 1, D.int (-1), D.int (2 * (G.length : Int)), D.int (10 ^ Int.toNat 30), D.non, D.bl true, D.bl false, D.str "0", D.tup [D.int 0], D.lst [D.int 1]] = odds G.length := rfl
  rw [eo]
  simp! [hd]
  have hIs : ∀ {s : Sto} {M : Int}, Sq st s l M -> ∀ r, r ∈ G -> ∀ d, d ∈ r -> Itm s d := fun h r hr d hd => itm_sq (hI r hr d hd) h hS
  obtain ⟨x7, s6, e6, q6, c6, h7, h7b⟩ : ∃ x7 s6, land d s5 = (x7, s6) /\ Sq st s6 l (N + 5) /\ s6[k]? = some (.lst (G.map D.tup)) /\ Itm s6 x7 /\ ((x7 = d /\ (∀ s, Itm s d)) ∨ ∃ q, x7 = .ref q /\ st.length <= q /\ s6[q]? = some (.lst [.int 1])) := by
    rcases hdo with h | rfl
    · exact ⟨d, s5, land_pur (ent_pur (h s5).ent), q5.mono (by omega), c5, h s5, .inl ⟨rfl, h⟩⟩
    · refine ⟨.ref s5.length, s5 ++ [.lst [.int 1]], la_lst rfl, q5.app.mono (by omega), sgl c5, .inr (.inr (.inr (.inr (.inr ⟨_, rfl, sg0⟩)))), .inr ⟨_, rfl, q5.le, sg0⟩⟩
  rw [e6]
  clear hdo hd e6 hu5 hu4 hu3 hu1 c5 c4 c3 c2 lc4 lc2 q1 q2 q3 q4 q5
  have cG : D.clss st.length (G.map D.tup) = true := clsG hI
  have Gne : (G.map D.tup).isEmpty = false := by
    cases G with
    | nil => simp at h1
    | cons a b => rfl
  have hm8 : q6.up = q6.up := rfl
  have crow : D.clss st.length row = true := clssK fun d hd => (hI row hrm d hd).cls
  have toUp : ∀ {s : Sto} {r r' : D} {M : Int}, Sq st s l M -> M <= N + 10 -> rback s st.length r = some r' -> Bo (s.take st.length) G r' -> okPre st s st.length = true /\ og (rback s st.length r) (fun d' => Bo (s.take st.length) G d' /\ Up st (s.take st.length) l (N + 10)) := fun h hM e hB => ⟨h.fin, by rw [e]; exact ⟨hB, h.up.mono hM⟩⟩
  unfold bI0
  simp! [eq_int, Option.map_some, truth, seqv_tup]
  refine wb_of ?_ ?_
  · intro _
    refine ⟨by omega, ⟨pG, Gne, by decide, by decide, by omega⟩, by omega, ?_⟩
    refine wp_nx (k_next (n := n) (m := 8) (by omega) (by omega) (by omega) q6.sr) ?_
    rintro y s7 ⟨⟨z, rfl, hz0, hz1⟩, hu7⟩
    have q7 := q6.next hu7
    have hz : z = 0 ∨ z = 1 ∨ z = 2 ∨ z = 3 ∨ z = 4 ∨ z = 5 ∨ z = 6 ∨ z = 7 := by omega
    simp! []
    rcases hz with rfl | rfl | rfl | rfl | rfl | rfl | rfl | rfl
    · exact toUp q7 (by omega) (rk_clean rfl) (.a _ (by simp))
    · exact toUp q7 (by omega) (rk_clean rfl) (.a _ (by simp))
    · exact toUp q7 (by omega) (rk_clean rfl) (.a _ (by simp))
    · exact toUp q7 (by omega) (rk_lc cG) (.a _ (by simp))
    · exact toUp q7 (by omega) rfl (.a _ (by simp))
    · exact toUp q7 (by omega) (rk_clean rfl) (.a _ (by simp))
    · exact toUp q7 (by omega) (rk_lc (by simp only [D.clss, D.cls, cG, Bool.and_self])) (.a _ (by simp))
    · refine toUp q7 (by omega) (rk_cls ?_) (.a _ (by simp))
      simp only [D.cls]
      refine clssK fun d hd => ?_
      obtain ⟨L, hL, hd⟩ := List.mem_flatten.1 hd
      rw [(List.mem_replicate.1 hL).2] at hd
      obtain ⟨r, hr, rfl⟩ := List.mem_map.1 hd
      simp only [D.cls]
      exact clssK fun d hd => (hI r hr d hd).cls
  intro hw
  have hw : w ≠ 0 := of_decide_eq_false hw
  unfold bI1
  simp! [eq_int, Option.map_some, truth]
  refine wb_of ?_ ?_
  · intro _
    have ea : (a : Int) + 1 = ((a + 1 : Nat) : Int) := by omega
    have lt1 : ((G.map D.tup).take a).length <= 8 := by rw [List.length_take]; omega
    have lt2 : ((G.map D.tup).drop (a + 1)).length <= 8 := by rw [List.length_drop]; omega
    simp! [sl_tup, cut_toD, seqv_tup]
    refine ⟨by omega, ?_⟩
    refine wp_nx (k_next (n := n) (m := 5) (by omega) (by omega) (by omega) q6.sr) ?_
    rintro y s7 ⟨⟨z, rfl, hz0, hz1⟩, hu7⟩
    have q7 := q6.next hu7
    have spl : G = G.take a ++ row :: G.drop (a + 1) := by
      have := List.take_append_drop a G
      rw [List.drop_eq_getElem_cons ha] at this
      have e2 : G[a] = row := (List.getElem?_eq_some_iff.1 hrow).2
      rw [e2] at this
      exact this.symm
    have cA : D.clss st.length ((G.take a).map D.tup) = true := clsG fun r hr => hI r (List.mem_of_mem_take hr)
    have cC : D.clss st.length ((G.drop (a + 1)).map D.tup) = true := clsG fun r hr => hI r (List.mem_of_mem_drop hr)
    have go : ∀ X : D, (X = .lst row ∨ X = .non ∨ X = .int 3 ∨ X = .str "01" ∨ X = .dic []) -> (∀ g vis, rbD g st.length X vis = some (X, vis)) -> okPre st s7 st.length = true /\ og (rback s7 st.length (.tup (List.take a (List.map D.tup G) ++ X :: List.drop (a + 1) (List.map D.tup G)))) (fun d' => Bo (s7.take st.length) G d' /\ Up st (s7.take st.length) l (N + 10)) := by
      intro X hX hr
      have e2 : List.take a (List.map D.tup G) ++ X :: List.drop (a + 1) (List.map D.tup G) = (G.take a).map D.tup ++ X :: (G.drop (a + 1)).map D.tup := by
        rw [List.map_take, List.map_drop]
      rw [e2]
      exact toUp q7 (by omega) (rk_mid cA cC hr) (.b _ _ row X spl hX)
    have hz : z = 0 ∨ z = 1 ∨ z = 2 ∨ z = 3 ∨ z = 4 := by omega
    have l1 : ∀ X : D, (List.take a (List.map D.tup G) ++ [X]).length <= 9 := fun X => by rw [List.length_append]; simp only [List.length_cons, List.length_nil]; omega
    have sl1 : ∀ X : D, (List.take a (List.map D.tup G)).length + [X].length <= sizeLine := fun X => by simp only [List.length_cons, List.length_nil]; omega
    have sl2 : ∀ X : D, (List.take a (List.map D.tup G) ++ [X]).length + (List.drop (a + 1) (List.map D.tup G)).length <= sizeLine := fun X => by have := l1 X; omega
    simp! []
    rcases hz with rfl | rfl | rfl | rfl | rfl
    · rw [ea, cut_fromD]
      exact ⟨by omega, by omega, by omega, go _ (.inl rfl) fun g vis => by simp only [rbD, rbs_cls crow, Option.map_some]⟩
    · rw [ea, cut_fromD]
      exact ⟨by omega, by omega, by omega, go _ (.inr (.inl rfl)) fun g vis => rfl⟩
    · rw [ea, cut_fromD]
      exact ⟨by omega, by omega, by omega, go _ (.inr (.inr (.inl rfl))) fun g vis => rfl⟩
    · rw [ea, cut_fromD]
      exact ⟨by omega, by omega, by omega, go _ (.inr (.inr (.inr (.inl rfl)))) fun g vis => rfl⟩
    · rw [ea, cut_fromD]
      exact ⟨by omega, by omega, by omega, go _ (.inr (.inr (.inr (.inr rfl)))) fun g vis => rfl⟩
  intro hw
  have hw1' : w ≠ 1 := of_decide_eq_false hw
  have e9 : w < 4 ∨ w = 4 ∨ w = 5 ∨ w = 6 ∨ w = 7 ∨ w = 8 := by omega
  have lm : ∀ r : List D, (G.map D.tup).set a (.tup r) = (G.set a r).map D.tup := fun r => by rw [List.map_set]
  have kl6 : k < s6.length := (List.getElem?_eq_some_iff.1 c6).1
  have setI : ∀ {nr : List D}, (∀ d, d ∈ nr -> Itm st d) -> ∀ r, r ∈ G.set a nr -> ∀ d, d ∈ r -> Itm st d := fun h r hr d hd => by
    rcases set_mem hr with z | rfl
    · exact hI r z d hd
    · exact h d hd
  have ea : (a : Int) + 1 = ((a + 1 : Nat) : Int) := by omega
  have eb : (b : Int) + 1 = ((b + 1 : Nat) : Int) := by omega
  have dT : decide True = true := rfl
  have lc6 : leC s6[k]? = some G.length := by rw [c6, leC_lst, lG]
  have hix : L2.ixN (List.map D.tup G).length (a : Int) = some a := ixN_nat (by rw [lG]; exact ha)
  have tkr : ∀ d, d ∈ row.take b -> Itm st d := fun d hd => hI row hrm d (List.mem_of_mem_take hd)
  have dpr : ∀ c, ∀ d, d ∈ row.drop c -> Itm st d := fun c d hd => hI row hrm d (List.mem_of_mem_drop hd)
  have lt0 : (row.take b).length = b := by rw [List.length_take]; omega
  have lsa : ∀ nr : List D, (G.set a nr).length <= G.length + 2 := fun nr => by rw [List.length_set]; omega
  have fsa : ∀ nr : List D, nr.length <= row.length + 1 -> (G.set a nr).flatten.length <= G.flatten.length + 1 := fun nr h => by have := fl_set (r' := nr) hrow; omega
  have sqk : ∀ {s : Sto} {M : Int} {c : D}, Sq st s l M -> Sq st (s.set k c) l M := fun h => h.set hq
  unfold bI2
  rcases e9 with hw4 | rfl | rfl | rfl | rfl | rfl
  · have d1 : decide (w < 4) = true := decide_eq_true hw4
    simp! [truth, d1]
    unfold bW2
    obtain ⟨c, hc⟩ : ∃ c : Nat, (b : Int) + w - 2 = (c : Int) /\ b <= c := ⟨b + (w - 2).toNat, by omega, by omega⟩
    have pnr : D.purs (row.take b ++ x7 :: row.drop c) = true := ents_pur (st := s6) fun d hd => by
      rcases List.mem_append.1 hd with z | z
      · exact (itm_sq (tkr d z) q6 hS).ent
      · rcases List.mem_cons.1 z with rfl | z
        · exact h7.ent
        · exact (itm_sq (dpr c d z) q6 hS).ent
    have lnr : (row.take b ++ x7 :: row.drop c).length <= row.length + 1 := by rw [List.length_append, List.length_cons, List.length_drop, lt0]; omega
    simp! [sl_tup, cut_toD, c6, hc.1, cut_fromD, la_tup pnr, hix]
    refine ⟨by omega, by omega, by rw [List.length_drop]; omega, ?_⟩
    rw [lm]
    refine w_bR (by rw [List.getElem?_set_self kl6]) ?_
    have qs : Sq st (s6.set k (.lst ((G.set a (row.take b ++ x7 :: row.drop c)).map D.tup))) l (N + 10) := (sqk q6).mono (by omega)
    rcases h7b with ⟨rfl, h7o⟩ | ⟨q, rfl, hq0, hq1⟩
    · refine fin_old hS qs (setI fun d hd => ?_) (lsa _) (fsa _ lnr)
      rcases List.mem_append.1 hd with z | z
      · exact tkr d z
      · rcases List.mem_cons.1 z with rfl | z
        · exact h7o st
        · exact dpr c d z
    · have hqk : q ≠ k := by
        rintro rfl
        rw [c6] at hq1
        injection hq1 with hq1
        injection hq1 with hq1
        cases G with
        | nil => simp at h1
        | cons r G => simp at hq1
      have l1 := lsa (row.take b ++ .ref q :: row.drop c)
      have l2 := fsa _ lnr
      have eA : G.set a (row.take b ++ .ref q :: row.drop c) = G.take a ++ (row.take b ++ .ref q :: row.drop c) :: G.drop (a + 1) := by rw [List.set_eq_take_append_cons_drop, if_pos ha]
      rw [eA] at qs l1 l2 ⊢
      exact fin_new hS qs (fun r hr => hI r (List.mem_of_mem_take hr)) (fun r hr => hI r (List.mem_of_mem_drop hr)) tkr (dpr c) hq0 (by rw [List.getElem?_set_ne (fun z => hqk z.symm)]; exact hq1) l1 l2
  · simp! [eq_int, Option.map_some, truth, show decide ((4 : Int) < 4) = false from rfl, dT]
    unfold bW4
    have hn : ∀ d, d ∈ row.take b ++ row.drop (b + 1) -> Itm st d := fun d hd => (List.mem_append.1 hd).elim (tkr d) (dpr _ d)
    have pnr := ents_pur fun d hd => (hn d hd).ent
    have lnr : (row.take b ++ row.drop (b + 1)).length <= row.length + 1 := by rw [List.length_append, List.length_drop, lt0]; omega
    simp! [sl_tup, cut_toD, c6, eb, cut_fromD, la_tup pnr, hix]
    refine ⟨by rw [List.length_drop]; omega, ?_⟩
    rw [lm]
    exact w_bR (by rw [List.getElem?_set_self kl6]) (fin_old hS ((sqk q6).mono (by omega)) (setI hn) (lsa _) (fsa _ lnr))
  · simp! [eq_int, Option.map_some, truth, show decide ((5 : Int) < 4) = false from rfl, show decide ((5 : Int) = 4) = false from rfl, dT]
    unfold bW5
    have hr2 : rep (Int.toNat 2) ((row.drop b).take 1) = (row.drop b).take 1 ++ ((row.drop b).take 1 ++ []) := rfl
    have hn : ∀ d, d ∈ row.take b ++ (rep (Int.toNat 2) ((row.drop b).take 1) ++ row.drop (b + 1)) -> Itm st d := fun d hd => by
      rw [hr2, List.append_nil] at hd
      rcases List.mem_append.1 hd with z | z
      · exact tkr d z
      · rcases List.mem_append.1 z with z | z
        · rcases List.mem_append.1 z with z | z
          · exact dpr b d (List.mem_of_mem_take z)
          · exact dpr b d (List.mem_of_mem_take z)
        · exact dpr _ d z
    have pnr := ents_pur fun d hd => (hn d hd).ent
    have l21 : ((row.drop b).take 1).length <= 1 := by rw [List.length_take]; omega
    have l2r : (rep (Int.toNat 2) ((row.drop b).take 1)).length <= 2 /\ (rep (Int.toNat 2) ((row.drop b).take 1)).length + (row.drop (b + 1)).length <= row.length - b + 1 := by
      rw [hr2, List.append_nil, List.length_append, List.length_drop, List.length_take, List.length_drop]
      omega
    have lnr : (row.take b ++ (rep (Int.toNat 2) ((row.drop b).take 1) ++ row.drop (b + 1))).length <= row.length + 1 := by
      rw [List.length_append, List.length_append, lt0]
      omega
    have p1 : D.purs ((row.drop b).take 1) = true := ents_pur fun d hd => (dpr b d (List.mem_of_mem_take hd)).ent
    simp! [sl_tup, cut_toD, bi_mulE, c6, eb, cut_oneD hb, cut_fromD, la_tup pnr, hix]
    refine ⟨⟨p1, by decide, by decide, by omega⟩, by omega, by omega, ?_⟩
    rw [lm]
    exact w_bR (by rw [List.getElem?_set_self kl6]) (fin_old hS ((sqk q6).mono (by omega)) (setI hn) (lsa _) (fsa _ lnr))
  · simp! [eq_int, Option.map_some, truth, show decide ((6 : Int) < 4) = false from rfl, show decide ((6 : Int) = 4) = false from rfl, show decide ((6 : Int) = 5) = false from rfl, dT]
    unfold bW6a bW6b
    simp! [sl_tup, cut_toD, lc6]
    refine wp_nx (k_next (n := n) (m := (G.length : Int)) (by omega) (by omega) (by omega) q6.sr) ?_
    rintro y s7 ⟨⟨f, rfl, hf0, hf1⟩, hu7⟩
    have q7 := q6.next hu7
    have c7 : s7[k]? = some (.lst (G.map D.tup)) := by rw [up_get hu7 hk]; exact c6
    have kl7 : k < s7.length := (List.getElem?_eq_some_iff.1 c7).1
    obtain ⟨f, rfl⟩ : ∃ b : Nat, f = (b : Int) := ⟨f.toNat, by omega⟩
    have hf : f < (G.set a (row.take b)).length := by rw [List.length_set]; omega
    have pt : D.purs (row.take b) = true := ents_pur fun d hd => (tkr d hd).ent
    simp! [c7, la_tup pt, hix]
    refine ⟨by omega, ?_⟩
    rw [lm]
    have c8 : (s7.set k (.lst ((G.set a (row.take b)).map D.tup)))[k]? = some (.lst ((G.set a (row.take b)).map D.tup)) := by rw [List.getElem?_set_self kl7]
    have q8 : Sq st (s7.set k (.lst ((G.set a (row.take b)).map D.tup))) l (N + 5 + 1) := sqk q7
    have kl8 := (List.getElem?_eq_some_iff.1 c8).1
    have fG := fl_set (r' := row.take b) hrow
    have iG := setI tkr
    have lG2 : (G.set a (row.take b)).length = G.length := List.length_set ..
    generalize s7.set k (.lst ((G.set a (row.take b)).map D.tup)) = s8 at *
    generalize G.set a (row.take b) = G2 at *
    obtain ⟨row2, hrow2⟩ : ∃ r, G2[f]? = some r := ⟨_, List.getElem?_eq_getElem hf⟩
    have at8 : L2.atI (G2.map D.tup) (f : Int) = some (.tup row2) := by
      rw [atI_nat, List.getElem?_map, hrow2]; rfl
    have hix2 : L2.ixN (G2.map D.tup).length (f : Int) = some f := ixN_nat (by rw [List.length_map]; exact hf)
    have hn : ∀ d, d ∈ row2 ++ row.drop b -> Itm st d := fun d hd => (List.mem_append.1 hd).elim (fun z => iG row2 (List.mem_of_getElem? hrow2) d z) (dpr _ d)
    have pnr := ents_pur fun d hd => (hn d hd).ent
    have l2 : row2.length <= G2.flatten.length := row_in (List.mem_of_getElem? hrow2)
    simp! [c8, at8, cut_fromD, la_tup pnr, hix2]
    refine ⟨by rw [List.length_drop]; omega, ?_⟩
    have lm2 : (G2.map D.tup).set f (.tup (row2 ++ row.drop b)) = (G2.set f (row2 ++ row.drop b)).map D.tup := by rw [List.map_set]
    rw [lm2]
    refine w_bR (by rw [List.getElem?_set_self kl8]) (fin_old hS ((sqk q8).mono (by omega)) (fun r hr d hd => ?_) (by rw [List.length_set]; omega) ?_)
    · rcases set_mem hr with z | rfl
      · exact iG r z d hd
      · exact hn d hd
    · have := fl_set (r' := row2 ++ row.drop b) hrow2
      rw [List.length_append, List.length_drop] at this
      omega
  · simp! [eq_int, Option.map_some, truth, show decide ((7 : Int) < 4) = false from rfl, show decide ((7 : Int) = 4) = false from rfl, show decide ((7 : Int) = 5) = false from rfl, show decide ((7 : Int) = 6) = false from rfl, dT]
    unfold bW7
    simp! [sl_ref, cut_toD, c6]
    refine ⟨by omega, by omega, ?_⟩
    refine wp_nx (k_next (n := n) (m := 3) (by omega) (by omega) (by omega) q6.sr) ?_
    rintro y s7 ⟨⟨f, rfl, hf0, hf1⟩, hu7⟩
    have q7 := q6.next hu7
    have c7 : s7[k]? = some (.lst (G.map D.tup)) := by rw [up_get hu7 hk]; exact c6
    obtain ⟨f, rfl⟩ : ∃ b : Nat, f = (b : Int) := ⟨f.toNat, by omega⟩
    have er2 : rep ((f : Nat) : Int).toNat [D.tup []] = (List.replicate f ([] : List D)).map D.tup := by
      rw [Int.toNat_natCast]
      have hf : f = 0 ∨ f = 1 ∨ f = 2 := by omega
      rcases hf with rfl | rfl | rfl <;> rfl
    have eR : List.take a (List.map D.tup G) ++ ((List.replicate f ([] : List D)).map D.tup ++ List.drop a (List.map D.tup G)) = (G.take a ++ (List.replicate f [] ++ G.drop a)).map D.tup := by
      rw [List.map_append, List.map_append, List.map_take, List.map_drop]
    have hn : ∀ r, r ∈ G.take a ++ (List.replicate f [] ++ G.drop a) -> ∀ d, d ∈ r -> Itm st d := fun r hr d hd => by
      rcases List.mem_append.1 hr with z | z
      · exact hI r (List.mem_of_mem_take z) d hd
      · rcases List.mem_append.1 z with z | z
        · rw [(List.mem_replicate.1 z).2] at hd; cases hd
        · exact hI r (List.mem_of_mem_drop z) d hd
    have pnr : D.purs ((G.take a ++ (List.replicate f [] ++ G.drop a)).map D.tup) = true := purs_of fun d hd => by
      obtain ⟨r, hr, rfl⟩ := List.mem_map.1 hd
      have := ents_pur fun d hd => (hn r hr d hd).ent
      simpa only [D.pur] using this
    have lt8 : (List.take a (List.map D.tup G)).length <= 8 := by rw [List.length_take]; omega
    have ld8 : (List.drop a (List.map D.tup G)).length <= 8 := by rw [List.length_drop]; omega
    have lR : (G.take a ++ (List.replicate f ([] : List D) ++ G.drop a)).length <= G.length + 2 := by
      rw [List.length_append, List.length_append, List.length_take, List.length_drop, List.length_replicate]; omega
    have fR : (G.take a ++ (List.replicate f ([] : List D) ++ G.drop a)).flatten.length <= G.flatten.length + 1 := by
      have e1 : (List.replicate f ([] : List D)).flatten = [] := by simp
      have e2 : G.flatten = (G.take a).flatten ++ (G.drop a).flatten := by rw [<- List.flatten_append, List.take_append_drop]
      rw [List.flatten_append, List.flatten_append, e1, e2]; simp
    simp! [c7, er2, b_addLL, cut_fromD, eR, la_lst pnr]
    have lrf : (List.map D.tup (List.replicate f ([] : List D))).length = f := by rw [List.length_map, List.length_replicate]
    refine ⟨⟨rfl, by omega, by omega, by omega⟩, by omega, by omega, ?_⟩
    exact w_bR sg0 (fin_old hS (q7.app.mono (by omega)) hn lR fR)
  · simp! [eq_int, Option.map_some, truth, show decide ((8 : Int) < 4) = false from rfl, show decide ((8 : Int) = 4) = false from rfl, show decide ((8 : Int) = 5) = false from rfl, show decide ((8 : Int) = 6) = false from rfl, show decide ((8 : Int) = 7) = false from rfl]
    unfold bW8
    have eR : List.take a (List.map D.tup G) ++ List.drop (a + 1) (List.map D.tup G) = (G.take a ++ G.drop (a + 1)).map D.tup := by
      rw [List.map_append, List.map_take, List.map_drop]
    have hn : ∀ r, r ∈ G.take a ++ G.drop (a + 1) -> ∀ d, d ∈ r -> Itm st d := fun r hr d hd => by
      rcases List.mem_append.1 hr with z | z
      · exact hI r (List.mem_of_mem_take z) d hd
      · exact hI r (List.mem_of_mem_drop z) d hd
    have pnr : D.purs ((G.take a ++ G.drop (a + 1)).map D.tup) = true := purs_of fun d hd => by
      obtain ⟨r, hr, rfl⟩ := List.mem_map.1 hd
      have := ents_pur fun d hd => (hn r hr d hd).ent
      simpa only [D.pur] using this
    have lt8 : (List.take a (List.map D.tup G)).length <= 8 := by rw [List.length_take]; omega
    have ld8 : (List.drop (a + 1) (List.map D.tup G)).length <= 8 := by rw [List.length_drop]; omega
    have lR : (G.take a ++ G.drop (a + 1)).length <= G.length + 2 := by
      rw [List.length_append, List.length_take, List.length_drop]; omega
    have fR : (G.take a ++ G.drop (a + 1)).flatten.length <= G.flatten.length + 1 := by
      have e2 : G.flatten = (G.take a).flatten ++ (G.drop a).flatten := by rw [<- List.flatten_append, List.take_append_drop]
      have e3 : (G.drop a).flatten.length ≥ (G.drop (a + 1)).flatten.length := by
        rw [List.drop_eq_getElem_cons ha, List.flatten_cons, List.length_append]; omega
      rw [List.flatten_append, e2, List.length_append, List.length_append]; omega
    simp! [sl_ref, cut_toD, c6, ea, cut_fromD, b_addLL, eR, la_lst pnr]
    refine ⟨by omega, ?_⟩
    exact w_bR sg0 (fin_old hS (q6.app.mono (by omega)) hn lR fR)
end Fs
namespace Fs
open PySem
theorem sme_graph : Sme 10 0 (.str "graph") /\ PyData.canLay0 (.str "graph") = true := ⟨⟨by decide +kernel, by decide, by decide +kernel, by decide, by decide +kernel⟩, by decide +kernel⟩
theorem sme_01 : Sme 10 0 (.str "01") /\ PyData.canLay0 (.str "01") = true := ⟨⟨by decide +kernel, by decide, by decide +kernel, by decide, by decide +kernel⟩, by decide +kernel⟩
theorem rd_dic {st : Sto} {l : Nat} (h : st[l]? = some (.dic [])) : Rdd true st 400 5 (.ref l) (.dict []) := by
  refine ⟨fun n J => ?_, Sme.dic.mono (by decide) (by decide), .inl rfl⟩
  conv => lhs; unfold toP
  simp only [sgl h, if_true]
theorem rd_small {st : Sto} {x : D} (h : x = .non ∨ x = .int 5 ∨ x = .str "graph" ∨ x = .bl true ∨ x = .int 3 ∨ x = .str "01") : ∃ p, Rdd true st 400 5 x p := by
  rcases h with rfl | rfl | rfl | rfl | rfl | rfl
  · exact ⟨.none, fun n J => rfl, Sme.non.mono (by decide) (by decide), .inl rfl⟩
  · exact ⟨.int 5, fun n J => rfl, (Sme.int (by decide)).mono (by decide) (by decide), .inl rfl⟩
  · exact ⟨.str "graph", fun n J => rfl, sme_graph.1.mono (by decide) (by decide), (.inl rfl)⟩
  · exact ⟨.bool true, fun n J => rfl, Sme.bl.mono (by decide) (by decide), .inl rfl⟩
  · exact ⟨.int 3, fun n J => rfl, (Sme.int (by decide)).mono (by decide) (by decide), .inl rfl⟩
  · exact ⟨.str "01", fun n J => rfl, sme_01.1.mono (by decide) (by decide), (.inl rfl)⟩
theorem lands_mid {A C : List D} {x : D} {s : Sto} (hA : D.purs A = true) (hC : D.purs C = true) : lands (A ++ x :: C) s = (A ++ (land x s).1 :: C, (land x s).2) := by
  induction A with
  | nil => simp only [List.nil_append, lands, lands_pur hC]
  | cons a A ih =>
    simp only [D.purs, Bool.and_eq_true] at hA
    simp only [List.cons_append, lands, land_pur hA.1, ih hA.2]
theorem pursG {st : Sto} {G : List (List D)} (hI : ∀ r, r ∈ G -> ∀ d, d ∈ r -> Itm st d) : D.purs (G.map D.tup) = true := purs_of fun d hd => by
  obtain ⟨r, hr, rfl⟩ := List.mem_map.1 hd
  have := ents_pur fun d hd => (hI r hr d hd).ent
  simpa only [D.pur] using this
theorem rep_mem {k : Nat} {xs : List D} {x : D} (h : x ∈ rep k xs) : x ∈ xs := by
  obtain ⟨L, hL, hx⟩ := List.mem_flatten.1 h
  rw [(List.mem_replicate.1 hL).2] at hx
  exact hx
theorem rep_len {xs : List D} : ∀ k : Nat, (rep k xs).length = k * xs.length
  | 0 => by simp [rep]
  | k + 1 => by
    have ih := rep_len (xs := xs) k
    simp only [rep] at ih ⊢
    rw [List.replicate_succ, List.flatten_cons, List.length_append, ih, Nat.add_mul]; omega
def Ag (p : Nat -> Prop) (A S : Sto) : Prop := ∀ i, ¬ p i -> i < A.length -> S[i]? = A[i]?
def Np (p : Nat -> Prop) (A : Sto) : Prop := ∀ i, p i -> i < A.length /\ A[i]? ≠ some (.lst [.int 1])
theorem Ag.refl {p : Nat -> Prop} {A : Sto} : Ag p A A := fun _ _ _ => rfl
theorem Ag.up {p : Nat -> Prop} {l : Nat} {A S S' : Sto} {N : Int} (h : Ag p A S) (hu : Up S S' l N) (hp : p l) : Ag p A S' := fun i hi hl => by rw [up_get hu (fun e => hi (by rw [e]; exact hp))]; exact h i hi hl
theorem Ag.app {p : Nat -> Prop} {A S J : Sto} (h : Ag p A S) (hl : A.length <= S.length) : Ag p A (S ++ J) := fun i hi hi2 => by rw [List.getElem?_append_left (by omega)]; exact h i hi hi2
theorem Ag.set {p : Nat -> Prop} {A S : Sto} {q : Nat} {c : D} (h : Ag p A S) (hq : p q ∨ A.length <= q) : Ag p A (S.set q c) := fun i hi hi2 => by
  rw [List.getElem?_set_ne]
  · exact h i hi hi2
  · rintro rfl
    rcases hq with z | z
    · exact hi z
    · omega
theorem Np.app {p : Nat -> Prop} {A J : Sto} (h : Np p A) : Np p (A ++ J) := fun i hi => by
  obtain ⟨h1, h2⟩ := h i hi
  exact ⟨by rw [List.length_append]; omega, by rw [List.getElem?_append_left h1]; exact h2⟩
theorem Sr.np {A : Sto} {l : Nat} {M : Int} (h : Sr A l M) : Np (fun i => i = l) A := fun i hi => by
  subst hi
  refine ⟨h.lt, ?_⟩
  obtain ⟨a, b, c, h0, _⟩ := h
  rw [h0]
  intro z
  cases z
theorem itm_ag {p : Nat -> Prop} {A S : Sto} {d : D} (h : Itm A d) (hS : Np p A) (hA : Ag p A S) : Itm S d := by
  rcases h with h | h | h | h | h | ⟨q, rfl, hl⟩
  · exact .inl h
  · exact .inr (.inl h)
  · exact .inr (.inr (.inl h))
  · exact .inr (.inr (.inr (.inl h)))
  · exact .inr (.inr (.inr (.inr (.inl h))))
  · refine .inr (.inr (.inr (.inr (.inr ⟨q, rfl, ?_⟩))))
    rw [hA q (fun z => (hS q z).2 hl) (List.getElem?_eq_some_iff.1 hl).1]
    exact hl
theorem bo_land {s : Sto} {p : Nat -> Prop} {G : List (List D)} {r : D} (hB : Bo s G r) (hS : Np p s) (hI : ∀ r, r ∈ G -> ∀ d, d ∈ r -> Itm s d) (h1 : 1 <= G.length) (h2 : G.length <= 8) (h3 : G.flatten.length <= 17) :
    ∃ x J, land r s = (x, s ++ J) /\ ∀ S, Ag p (s ++ J) S -> Vl (G.length + 2) (G.flatten.length + 1) S x := by
  have pG := pursG hI
  have hIJ : ∀ {J S}, Ag p (s ++ J) S -> ∀ r, r ∈ G -> ∀ d, d ∈ r -> Itm S d := fun hA r hr d hd => itm_ag (hI r hr d hd).app hS.app hA
  have nc : ∀ {c S}, Ag p (s ++ [c]) S -> S[s.length]? = some c := fun hA => by
    rw [hA s.length (fun z => Nat.lt_irrefl _ (hS _ z).1) (by simp)]; exact sg0
  have rr : ∀ {J S}, Ag p (s ++ J) S -> ∀ r, r ∈ G -> ∃ p, Rdd true S 34 2 (.tup r) p := fun hA r hr => rd_row (hIJ hA r hr) (Nat.le_trans (row_in hr) h3)
  have rG : ∀ {J S}, Ag p (s ++ J) S -> ∀ d, d ∈ G.map D.tup -> ∃ p, Rdd true S 34 2 d p := fun hA d hd => by
    obtain ⟨r, hr, rfl⟩ := List.mem_map.1 hd
    exact rr hA r hr
  have lG : (G.map D.tup).length <= 8 := by rw [List.length_map]; exact h2
  have up : ∀ {S : Sto} {k d : Nat} {x : D}, (∃ p, Rdd true S k d x p) -> k <= 30000 -> d <= 20 -> NoT S x -> Vl (G.length + 2) (G.flatten.length + 1) S x := fun ⟨p, hp⟩ hk hd hn => .nt hn p (hp.mono hk hd)
  have nil : ∀ {x : D}, x.pur = true -> land x s = (x, s ++ []) := fun h => by rw [land_pur h, List.append_nil]
  cases hB with
  | a x h =>
    rcases h with rfl | rfl | rfl | rfl | rfl | rfl | rfl | rfl
    · exact ⟨_, [], nil rfl, fun S hA => up (rd_small (.inl rfl)) (by omega) (by omega) (noT_data (.inl rfl))⟩
    · exact ⟨_, [], nil rfl, fun S hA => up (rd_small (.inr (.inl rfl))) (by omega) (by omega) (noT_data (.inr (.inl ⟨_, rfl⟩)))⟩
    · exact ⟨_, [], nil rfl, fun S hA => up (rd_small (.inr (.inr (.inl rfl)))) (by omega) (by omega) (noT_data (.inr (.inr (.inr (.inl ⟨_, rfl⟩)))))⟩
    · exact ⟨_, _, la_lst pG, fun S hA => up (Rdd.cel (rG hA) lG (nc hA)) (by omega) (by omega) (noT_data (.inr (.inr (.inr (.inr (.inl ⟨_, _, rfl, nc hA⟩))))))⟩
    · exact ⟨.ref s.length, [.dic []], by simp [land, landk], fun S hA => up ⟨_, rd_dic (nc hA)⟩ (by omega) (by omega) (noT_data (.inr (.inr (.inr (.inr (.inr ⟨_, _, rfl, nc hA⟩))))))⟩
    · exact ⟨_, [], nil rfl, fun S hA => up (rd_small (.inr (.inr (.inr (.inl rfl))))) (by omega) (by omega) (noT_data (.inr (.inr (.inl ⟨_, rfl⟩))))⟩
    · have p1 : D.purs [.tup (G.map D.tup)] = true := by simp only [D.purs, D.pur, pG, Bool.and_self]
      refine ⟨_, _, la_lst p1, fun S hA => up (Rdd.cel (k := 280) (d := 3) (m := 1) (fun d hd => ?_) (by simp) (nc hA)) (by omega) (by omega) (noT_data (.inr (.inr (.inr (.inr (.inl ⟨_, _, rfl, nc hA⟩))))))⟩
      rw [List.mem_singleton.1 hd]
      exact Rdd.tup (m := 8) (rG hA) lG
    · have pr : D.purs (rep 61 (G.map D.tup)) = true := purs_of fun d hd => purs_memK pG d (rep_mem hd)
      have lr : (rep 61 (G.map D.tup)).length = 61 * G.length := by rw [rep_len, List.length_map]
      refine ⟨_, [], nil (by simpa only [D.pur] using pr), fun S hA => ?_⟩
      obtain ⟨p, hp⟩ := Rdd.tup (z := true) (s := S) (k := 34) (d := 2) (m := 488) (xs := rep 61 (G.map D.tup)) (fun d hd => rG hA _ (rep_mem hd)) (by omega)
      exact .lg _ rfl pr (by omega) p (hp.mono (by omega) (by omega))
  | b A C row x hG h =>
    subst hG
    have hA : ∀ r, r ∈ A -> ∀ d, d ∈ r -> Itm s d := fun r hr => hI r (by simp [hr])
    have hC : ∀ r, r ∈ C -> ∀ d, d ∈ r -> Itm s d := fun r hr => hI r (by simp [hr])
    have hrow : row ∈ A ++ row :: C := by simp
    have pA := pursG hA
    have pC := pursG hC
    have prow : D.purs row = true := ents_pur fun d hd => (hI row hrow d hd).ent
    have lrow : row.length <= 17 := Nat.le_trans (row_in hrow) h3
    obtain ⟨x', J, e, hn⟩ : ∃ x' J, land x s = (x', s ++ J) /\ ∀ S, Ag p (s ++ J) S -> NoT S x' /\ ∃ p, Rdd true S 400 5 x' p := by
      rcases h with rfl | rfl | rfl | rfl | rfl
      · refine ⟨_, _, la_lst prow, fun S hA => ⟨noT_data (.inr (.inr (.inr (.inr (.inl ⟨_, _, rfl, nc hA⟩))))), ?_⟩⟩
        obtain ⟨p, hp⟩ := Rdd.cel (z := true) (k := 1) (d := 1) (m := 17) (fun d hd => (hIJ hA row hrow d hd).rd) lrow (nc hA)
        exact ⟨p, hp.mono (by omega) (by omega)⟩
      · exact ⟨_, [], nil rfl, fun S hA => ⟨noT_data (.inl rfl), rd_small (.inl rfl)⟩⟩
      · exact ⟨_, [], nil rfl, fun S hA => ⟨noT_data (.inr (.inl ⟨_, rfl⟩)), rd_small (.inr (.inr (.inr (.inr (.inl rfl)))))⟩⟩
      · exact ⟨_, [], nil rfl, fun S hA => ⟨noT_data (.inr (.inr (.inr (.inl ⟨_, rfl⟩)))), rd_small (.inr (.inr (.inr (.inr (.inr rfl)))))⟩⟩
      · exact ⟨.ref s.length, [.dic []], by simp [land, landk], fun S hA => ⟨noT_data (.inr (.inr (.inr (.inr (.inr ⟨_, _, rfl, nc hA⟩))))), _, rd_dic (nc hA)⟩⟩
    have eL : land (.tup (A.map D.tup ++ x :: C.map D.tup)) s = (.tup (A.map D.tup ++ x' :: C.map D.tup), s ++ J) := by
      simp only [land, lands_mid pA pC, e]
    have ll : (A.map D.tup ++ x' :: C.map D.tup).length <= 8 := by
      simp only [List.length_append, List.length_cons, List.length_map] at h2 ⊢; exact h2
    refine ⟨_, J, eL, fun S hS => .rw _ rfl (by omega) (fun r hr => ?_) ⟨x', by simp, (hn S hS).1⟩ (fun r hr => ?_)⟩
    · rcases List.mem_append.1 hr with z | z
      · obtain ⟨q, hq, rfl⟩ := List.mem_map.1 z
        exact .inl ⟨q, rfl, ents_pur fun d hd => (hA q hq d hd).ent⟩
      · rcases List.mem_cons.1 z with rfl | z
        · exact .inr (hn S hS).1
        · obtain ⟨q, hq, rfl⟩ := List.mem_map.1 z
          exact .inl ⟨q, rfl, ents_pur fun d hd => (hC q hq d hd).ent⟩
    · rcases List.mem_append.1 hr with z | z
      · obtain ⟨q, hq, rfl⟩ := List.mem_map.1 z
        obtain ⟨p, hp⟩ := rr hS q (by simp [hq])
        exact ⟨p, hp.mono (by omega) (by omega)⟩
      · rcases List.mem_cons.1 z with rfl | z
        · exact (hn S hS).2
        · obtain ⟨q, hq, rfl⟩ := List.mem_map.1 z
          obtain ⟨p, hp⟩ := rr hS q (by simp [hq])
          exact ⟨p, hp.mono (by omega) (by omega)⟩
  | c G' hP g1 g2 =>
    obtain ⟨G2, J, e, l1, l2, hI2⟩ := lands_rw hP
    exact ⟨.tup (G2.map D.tup), J, by simp only [land, e], fun S hA => .gr G2 rfl (fun r hr d hd => itm_ag (hI2 r hr d hd) hS.app hA) (by omega) (by omega)⟩
end Fs
namespace Fs
open PySem
def lS1 : Sx := .asg (.nm 0) (.lst [.tup [], .bin .mul (.tup [.tup []]) (.con (.int 60)), .bin .mul (.tup [.tup []]) (.con (.int 61)), .tup [.bi .trng [.con (.int 240)]], .tup [.bi .trng [.con (.int 242)]], .bin .add (.bin .mul (.tup [.tup []]) (.con (.int 59))) (.tup [.bi .trng [.con (.int 240)]])])
def lS2 : Sx := .asg (.nm 0) (.bin .add (.loc 0) (.lst [.bin .add (.bin .mul (.tup [.tup []]) (.con (.int 60))) (.tup [.bi .trng [.con (.int 2)]]), .tup [.bi .trng [.con (.int 239)]], .bi .tuple [.lc [1] (.rng [.con (.int 60)]) (.nm 1) [] (.tup [.loc 1])]]))
def lS3 : Sx := .ret (.cmp .eq (.lc [2] (.val (.loc 0)) (.nm 2) [.nt (.val (.call F.zq12 [.loc 2]))] (.loc 2)) (.lst []))
theorem li_body : c_zq13.body = [lS1, lS2, lS3] := rfl
def em (k : Nat) : List (List D) := List.replicate k []
theorem em_len {k : Nat} : (em k).length = k := by simp [em]
theorem em_flat {k : Nat} : (em k).flatten = [] := by simp [em]
theorem rep_em : ∀ k : Nat, rep k [D.tup []] = (em k).map D.tup
  | 0 => rfl
  | k + 1 => by
    have ih := rep_em k
    unfold rep em at ih ⊢
    rw [List.replicate_succ, List.flatten_cons, ih, List.replicate_succ]; rfl
theorem bi_trng0 {T : Tbl} {s : Sto} {Q E : D -> Sto -> Prop} {b : Int} : wp (biD T .trng [.int b]) s Q E = (rgOk 0 b = true /\ Q (.tup (rngN 0 1 b.toNat)) s) := by
  show wp (gd _ _) s Q E = _
  rw [wp_gd, wp_ret]
theorem bi_trng1 {T : Tbl} {s : Sto} {Q E : D -> Sto -> Prop} {b : Nat} (h : b <= 2 ^ 20) : wp (biD T .trng [.int (b : Int)]) s Q E = Q (.tup (nv (List.range b))) s := by
  rw [bi_trng0, Int.toNat_natCast, rngN_nv]
  exact propext ⟨fun q => q.2, fun q => ⟨rgOk_nat h, q⟩⟩
def sg60 : List (List D) := (List.range 60).map fun k => [D.int ((k : Nat) : Int)]
def one (k : Nat) : List (List D) := [nv (List.range k)]
def LL : List (List (List D)) := [[], em 60, em 61, one 240, one 242, em 59 ++ one 240, em 60 ++ one 2, one 239, sg60]
theorem itm_nat {s : Sto} {k : Nat} (h : k < 2 ^ 20) : Itm s (.int (k : Int)) := .inl ⟨_, rfl, Nat.lt_trans (by omega : ((k : Nat) : Int).natAbs < 2 ^ 20) (Nat.pow_lt_pow_right (by decide) (by decide))⟩
theorem itm_nv {s : Sto} {k : Nat} (h : k <= 2 ^ 20) : ∀ d, d ∈ nv (List.range k) -> Itm s d := fun d hd => by
  obtain ⟨i, hi, rfl⟩ := List.mem_map.1 hd
  exact itm_nat (by have := List.mem_range.1 hi; omega)
theorem itm_em {s : Sto} {k : Nat} : ∀ r, r ∈ em k -> ∀ d, d ∈ r -> Itm s d := fun r hr d hd => by
  rw [(List.mem_replicate.1 hr).2] at hd; cases hd
theorem itm_one {s : Sto} {k : Nat} (h : k <= 2 ^ 20) : ∀ r, r ∈ one k -> ∀ d, d ∈ r -> Itm s d := fun r hr d hd => by
  rw [List.mem_singleton.1 hr] at hd
  exact itm_nv h d hd
theorem itm_app {s : Sto} {A B : List (List D)} (hA : ∀ r, r ∈ A -> ∀ d, d ∈ r -> Itm s d) (hB : ∀ r, r ∈ B -> ∀ d, d ∈ r -> Itm s d) : ∀ r, r ∈ A ++ B -> ∀ d, d ∈ r -> Itm s d := fun r hr => (List.mem_append.1 hr).elim (hA r) (hB r)
theorem itm_sg {s : Sto} : ∀ r, r ∈ sg60 -> ∀ d, d ∈ r -> Itm s d := fun r hr d hd => by
  obtain ⟨k, hk, rfl⟩ := List.mem_map.1 hr
  rw [List.mem_singleton.1 hd]
  exact itm_nat (by have := List.mem_range.1 hk; omega)
theorem one_fl {k : Nat} : (one k).flatten.length = k := by simp [one, nv_len]
theorem sg_fl : sg60.flatten.length = 60 := by decide +kernel
theorem vl_long {s : Sto} {G : List (List D)} (hI : ∀ r, r ∈ G -> ∀ d, d ∈ r -> Itm s d) (h1 : 60 < G.length) (h2 : G.length <= 61) (h3 : G.flatten.length <= 240) : Vl 60 242 s (.tup (G.map D.tup)) := by
  obtain ⟨p, hp⟩ := rd_gr (m := 61) (t := 240) hI h2 h3
  exact .lg _ rfl (pursG hI) (by rw [List.length_map]; exact h1) p (hp.mono (by decide) (by decide))
theorem vl_lim {s : Sto} {G : List (List D)} (h : G ∈ LL) : Vl 60 242 s (.tup (G.map D.tup)) := by
  simp only [LL, List.mem_cons, List.not_mem_nil, or_false] at h
  rcases h with rfl | rfl | rfl | rfl | rfl | rfl | rfl | rfl | rfl
  · exact .gr [] rfl (by simp) (by simp) (by simp)
  · exact .gr _ rfl itm_em (by rw [em_len]; omega) (by rw [em_flat]; simp)
  · exact vl_long itm_em (by rw [em_len]; omega) (by rw [em_len]; omega) (by rw [em_flat]; simp)
  · exact .gr _ rfl (itm_one (by decide)) (by simp [one]) (by rw [one_fl]; omega)
  · exact .gr _ rfl (itm_one (by decide)) (by simp [one]) (by rw [one_fl]; omega)
  · exact .gr _ rfl (itm_app itm_em (itm_one (by decide))) (by rw [List.length_append, em_len]; simp [one]) (by rw [List.flatten_append, List.length_append, em_flat, one_fl]; simp)
  · exact vl_long (itm_app itm_em (itm_one (by decide))) (by rw [List.length_append, em_len]; simp [one]) (by rw [List.length_append, em_len]; simp [one]) (by rw [List.flatten_append, List.length_append, em_flat, one_fl]; simp)
  · exact .gr _ rfl (itm_one (by decide)) (by simp [one]) (by rw [one_fl]; omega)
  · exact .gr _ rfl itm_sg (by simp [sg60]) (by rw [sg_fl]; omega)
theorem vl_pur {m t : Nat} {s : Sto} {x : D} (h : Vl m t s x) : x.pur = true := by
  cases h with
  | nt h p hp => exact h.pu
  | lg R hx hR hl p hp => subst hx; simpa only [D.pur] using hR
  | rw R hx hl hR hn hd =>
    subst hx
    have hp : D.purs R = true := purs_of fun r hr => by
      rcases hR r hr with ⟨xs, rfl, h⟩ | h
      · simpa only [D.pur] using h
      · exact h.pu
    simpa only [D.pur] using hp
  | gr G hx hI h1 h2 => subst hx; simpa only [D.pur] using pursG hI
def t6 : List D := [.tup [], .tup ((em 60).map D.tup), .tup ((em 61).map D.tup), .tup [.tup (nv (List.range 240))], .tup [.tup (nv (List.range 242))], .tup ((em 59).map D.tup ++ [.tup (nv (List.range 240))])]
def t3 : List D := [.tup ((em 60).map D.tup ++ [.tup (nv (List.range 2))]), .tup [.tup (nv (List.range 239))], .tup (sg60.map D.tup)]
theorem t_eq : t6 ++ t3 = LL.map fun G => D.tup (G.map D.tup) := by
  simp only [t6, t3, LL, one, List.map_cons, List.map_nil, List.map_append, List.cons_append, List.nil_append]
theorem t_pur : D.purs (t6 ++ t3) = true := by
  rw [t_eq]
  refine purs_of fun d hd => ?_
  obtain ⟨G, hG, rfl⟩ := List.mem_map.1 hd
  exact vl_pur (vl_lim (s := []) hG)
theorem k_limits (n : Nat) {st : Sto} (h1 : st[1]? = some (.lam 0 [.str LQ])) : wp (call P (n + 7) F.zq13 []) st (fun r s' => r = .bl true /\ s' = st) NX := by
  have hsl := sl_ge
  refine w_call (F := c_zq13) rfl rfl ?_
  have e0 : lands [] st = ([], st) := rfl
  have er : List.replicate (c_zq13.ns - c_zq13.np) (none : Option D) = [none, none, none] := rfl
  rw [er, e0, li_body]
  have b240 : ∀ {T : Tbl} {s : Sto} {Q E : D -> Sto -> Prop}, wp (biD T .trng [.int 240]) s Q E = Q (.tup (nv (List.range 240))) s := bi_trng1 (b := 240) (by decide)
  have b242 : ∀ {T : Tbl} {s : Sto} {Q E : D -> Sto -> Prop}, wp (biD T .trng [.int 242]) s Q E = Q (.tup (nv (List.range 242))) s := bi_trng1 (b := 242) (by decide)
  have b239 : ∀ {T : Tbl} {s : Sto} {Q E : D -> Sto -> Prop}, wp (biD T .trng [.int 239]) s Q E = Q (.tup (nv (List.range 239))) s := bi_trng1 (b := 239) (by decide)
  have b2 : ∀ {T : Tbl} {s : Sto} {Q E : D -> Sto -> Prop}, wp (biD T .trng [.int 2]) s Q E = Q (.tup (nv (List.range 2))) s := bi_trng1 (b := 2) (by decide)
  have c60 : Int.toNat 60 = 60 := rfl
  have c61 : Int.toNat 61 = 61 := rfl
  have c59 : Int.toNat 59 = 59 := rfl
  have p6 : D.purs t6 = true := purs_of fun d hd => purs_memK t_pur d (List.mem_append_left _ hd)
  have l6 : ∀ s, land (.lst [.tup [], .tup ((em 60).map D.tup), .tup ((em 61).map D.tup), .tup [.tup (nv (List.range 240))], .tup [.tup (nv (List.range 242))], .tup ((em 59).map D.tup ++ [.tup (nv (List.range 240))])]) s = (.ref s.length, s ++ [.lst t6]) := fun s => la_lst p6
  unfold lS1
  simp! [b240, b242, c60, c61, c59, rep_em, l6]
  have len59 : (List.map D.tup (em 59)).length = 59 := by rw [List.length_map, em_len]
  have len60 : (List.map D.tup (em 60)).length = 60 := by rw [List.length_map, em_len]
  refine ⟨by omega, by omega, by omega, ⟨rfl, rfl, by decide, by decide, by decide⟩, by omega, by omega, ⟨rfl, rfl, by decide, by decide, by decide⟩, by omega, by omega, by omega, by omega, ⟨rfl, rfl, by decide, by decide, by decide⟩, by omega, by omega, by omega, ?_⟩
  have c1 : (st ++ [D.lst t6])[st.length]? = some (.lst t6) := sg0
  have r60 : rngN 0 1 (Int.toNat 60) = (List.range 60).map fun k => D.int ((k : Nat) : Int) := by
    rw [c60, rngN_nv]; rfl
  have g60 : (List.range 60).map (fun k => D.tup [D.int ((k : Nat) : Int)]) = sg60.map D.tup := by
    rw [sg60, List.map_map]; rfl
  unfold lS2
  simp! [b2, b239, c60, rep_em, r60]
  refine ⟨by omega, by omega, ⟨rfl, rfl, by decide, by decide, by decide⟩, by omega, by omega, by omega, ?_⟩
  have rl : rngL [.int 60] = some ((List.range 60).map fun k => D.int ((k : Nat) : Int)) := rngL1' (show 60 <= 2 ^ 20 by decide)
  simp! [rl]
  refine w_lcm (List.range 60) _ (fun k => .tup [.int ((k : Nat) : Int)]) (by simp; omega) ?_ ?_
  · intro k _
    simp! []
    omega
  have c1l : (List.map (fun k => D.tup [D.int ((k : Nat) : Int)]) (List.range 60)) = sg60.map D.tup := g60
  have l3 : ∀ s, land (.lst (t6 ++ [.tup ((em 60).map D.tup ++ [.tup (nv (List.range 2))]), .tup [.tup (nv (List.range 239))], .tup (sg60.map D.tup)])) s = (.ref s.length, s ++ [.lst (t6 ++ t3)]) := fun s => la_lst t_pur
  have t6l : t6.length = 6 := rfl
  rw [c1l]
  simp! [seqv_lst, c1, l3]
  refine ⟨by omega, by omega, ?_⟩
  have cc : (st ++ [D.lst t6, D.lst (t6 ++ t3)])[st.length + 1]? = some (.lst (LL.map fun G => D.tup (G.map D.tup))) := by
    rw [<- t_eq]; exact sg1
  have h1' : (st ++ [D.lst t6, D.lst (t6 ++ t3)])[1]? = some (.lam 0 [.str LQ]) := sgl h1
  have oS := (On.refl (st := st)).app (r := [D.lst t6, D.lst (t6 ++ t3)])
  generalize (st ++ [D.lst t6, D.lst (t6 ++ t3)] : Sto) = S at *
  unfold lS3
  simp! [cc, soC_lst]
  refine w_lcfC (l := st.length + 1) LL (fun G => .tup (G.map D.tup)) (fun _ => false) (fun G => .tup (G.map D.tup)) (by show 9 <= sizeLine; omega) cc ?_ ?_
  · intro G hG
    have hv := vl_lim (s := S) hG
    have lp : ∀ s, land (.tup (G.map D.tup)) s = (.tup (G.map D.tup), s) := fun s => land_pur (vl_pur hv)
    simp! [lp]
    refine wp_nx (k_right n h1' (hv.good (by omega) (by omega) (by omega))) ?_
    rintro y s ⟨rfl, rfl⟩
    simp! [truth]
    rfl
  · have f0 : (LL.filter fun _ => false) = [] := by simp
    have q0 : eqD S (.lst []) (.lst []) = some true := rfl
    rw [f0, List.map_nil]
    simp! [q0, Option.map_some]
    refine ⟨by omega, oS.fin, ?_⟩
    rw [rk_clean rfl]
    exact ⟨rfl, oS.take⟩
end Fs
namespace Fs
open PySem
def cr (rows : List (List Nat)) : Sto := rows.map fun r => D.lst (nv r)
theorem cr_len {rows : List (List Nat)} : (cr rows).length = rows.length := by simp [cr]
def refs (b k : Nat) : List D := (List.range k).map fun i => D.ref (b + i)
theorem refs_len {b k : Nat} : (refs b k).length = k := by simp [refs]
theorem refs_succ {b k : Nat} : refs b (k + 1) = .ref b :: refs (b + 1) k := by
  simp only [refs, List.range_succ_eq_map, List.map_cons, List.map_map, Nat.add_zero]
  congr 1
  refine List.map_congr_left fun i _ => ?_
  simp only [Function.comp]
  congr 1; omega
def rows0 (k : Nat) : List D := List.replicate k (.lst [])
def nb (k : Nat) : List (List Nat) := List.replicate k []
theorem lands_rows : ∀ {k : Nat} {s : Sto}, lands (rows0 k) s = (refs s.length k, s ++ cr (nb k))
  | 0, s => by simp [lands, refs, cr, rows0, nb]
  | k + 1, s => by
    have ih := fun s => lands_rows (k := k) (s := s)
    simp only [rows0, nb] at ih ⊢
    rw [List.replicate_succ]
    simp only [lands, la_lst0, ih, List.length_append, List.length_cons, List.length_nil, Nat.zero_add]
    rw [refs_succ, List.replicate_succ]
    simp [cr, nv]
theorem land_rows {k : Nat} {s : Sto} : land (.lst (rows0 k)) s = (.ref (s.length + k), s ++ (cr (nb k) ++ [.lst (refs s.length k)])) := by
  simp only [land, lands_rows]
  simp [cr_len, nb]
section
variable {st r : Sto} {rows : List (List Nat)} {k j : Nat} {a : D}
theorem rA (hk : rows.length = k) : (st ++ (cr rows ++ a :: r))[st.length + k]? = some a := by
  rw [List.getElem?_append_right (by omega)]
  rw [List.getElem?_append_right (by rw [cr_len]; omega)]
  simp [cr_len, hk]
theorem rR {row : List Nat} (h : rows[j]? = some row) : (st ++ (cr rows ++ r))[st.length + j]? = some (.lst (nv row)) := by
  have hj : j < rows.length := (List.getElem?_eq_some_iff.1 h).1
  rw [List.getElem?_append_right (by omega), List.getElem?_append_left (by rw [cr_len]; omega)]
  simp [cr, h]
theorem rS {row : List Nat} (hj : j < rows.length) : (st ++ (cr rows ++ r)).set (st.length + j) (.lst (nv row)) = st ++ (cr (rows.set j row) ++ r) := by
  rw [List.set_append_right _ _ (by omega), List.set_append_left _ _ (by rw [cr_len]; omega)]
  simp [cr, List.map_set]
end
theorem row_len {rows : List (List Nat)} {j : Nat} {row : List Nat} (h : rows[j]? = some row) : row.length <= rows.flatten.length := by
  have h1 := split_at h
  conv => rhs; rw [h1]
  simp only [List.flatten_append, List.flatten_cons, List.length_append]
  omega
theorem flat_set {rows : List (List Nat)} {j d : Nat} {row : List Nat} (h : rows[j]? = some row) : (rows.set j (row ++ [d])).flatten.Perm (rows.flatten ++ [d]) := by
  have h1 := split_at h
  have hj : j < rows.length := (List.getElem?_eq_some_iff.1 h).1
  have h2 : rows.set j (row ++ [d]) = rows.take j ++ (row ++ [d]) :: rows.drop (j + 1) := by
    rw [List.set_eq_take_append_cons_drop, if_pos hj]
  rw [h2]
  conv => rhs; rw [h1]
  simp only [List.flatten_append, List.flatten_cons, List.append_assoc]
  refine List.Perm.append_left _ (List.Perm.append_left _ ?_)
  simpa using (List.perm_append_comm (l₁ := [d]) (l₂ := (rows.drop (j + 1)).flatten))
theorem k_any (n : Nat) {st : Sto} {l m k : Nat} {N : Int} (hm : 1 <= m) (hm2 : m <= 10) (hk : k <= 12) (hN : N + 100 <= 2 ^ 30) (h : Sr st l N) :
    wp (call P (n + 3) F.zq7 [.ref l, .int m, .int k]) st (fun r s' => (∃ g e, r = .tup (tv g) /\ Gr g e /\ 1 <= g.length /\ g.length <= m /\ e <= k) /\ Up st s' l (N + 100)) NX := by
  have hsl := sl_ge
  have hll := h.lt
  refine w_call (F := c_zq7) rfl rfl ?_
  unfold c_zq7
  simp! []
  refine wp_nx (k_next (n := n + 1) (by omega) (by omega) (by omega) h) ?_
  rintro y s1 ⟨⟨x, rfl, hx0, hx1⟩, hu1⟩
  obtain ⟨a, rfl⟩ : ∃ a : Nat, x = (a : Int) := ⟨x.toNat, by omega⟩
  simp! []
  have e1 : (1 : Int) + (a : Int) = ((a + 1 : Nat) : Int) := by omega
  rw [e1, rngL1 (by omega)]
  simp! []
  refine w_lcm (List.range (a + 1)) _ (fun _ => .lst []) (by simp; omega) ?_ ?_
  · intro c _
    simp! []
    omega
  have e2 : (List.range (a + 1)).map (fun _ => D.lst []) = rows0 (a + 1) := by simp [List.map_const', rows0]
  rw [e2]
  simp! [land_rows]
  have hs1 := hu1.sr hll
  have hl1 := hu1.len
  have hs2 : Sr (s1 ++ (cr (nb (a + 1)) ++ [.lst (refs s1.length (a + 1))])) l (N + 1) := by
    obtain ⟨p, q, r, h0, h1, h2⟩ := hs1
    exact ⟨p, q, r, sgl h0, h1, h2⟩
  have e3 : ((k : Int) + 1) = ((k + 1 : Nat) : Int) := by omega
  rw [e3]
  refine wp_nx (k_next (n := n + 1) (m := ((k + 1 : Nat) : Int)) (by omega) (by omega) (by omega) hs2) ?_
  rintro y s2 ⟨⟨x, rfl, hx0, hx1⟩, hu2⟩
  obtain ⟨e, rfl⟩ : ∃ a : Nat, x = (a : Int) := ⟨x.toNat, by omega⟩
  simp! []
  have e4 : (2 : Int) * (e : Int) = ((2 * e : Nat) : Int) := by omega
  rw [e4]
  have hlog : (Int.natAbs 2).log2 + (Int.natAbs (e : Int)).log2 < 1000000 := by
    have h1 : (Int.natAbs (e : Int)).log2 < 500000 := log_lt (k := 10) (by omega) (by decide)
    have h2 : (Int.natAbs 2).log2 = 1 := by decide
    omega
  refine ⟨hlog, by simp [rgOk]; omega, ?_⟩
  rw [rngN_nv, Int.toNat_natCast]
  obtain ⟨p, q, r, rfl, hq0, hq1⟩ := hu2
  have hc1 : ∃ c', s1[l]? = some c' := ⟨_, List.getElem?_eq_getElem (by omega)⟩
  obtain ⟨c', hc'⟩ := hc1
  rw [ssl hc']
  have hu3 : Up st (s1.set l (src p q r)) l (N + 1 + 1) := hu1.trans ⟨p, q, r, rfl, hq0, hq1⟩
  have hl3 := hu3.len
  have hl4 : s1.length = (s1.set l (src p q r)).length := by simp
  rw [hl4]
  generalize s1.set l (src p q r) = s3 at *
  have hs3 : Sr (s3 ++ (cr (nb (a + 1)) ++ [.lst (refs s3.length (a + 1))])) l (N + 1 + 1) := by
    obtain ⟨p, q, r, h0, h1, h2⟩ := hu3.sr hll
    exact ⟨p, q, r, sgl h0, h1, h2⟩
  refine wp_nx (k_mixedL (n := n) (L := List.range (2 * e)) (by simp; omega) (by simp; omega) hs3) ?_
  rintro y s4 ⟨⟨L', rfl, hL'⟩, hu4⟩
  have hLl : L'.length = 2 * e := by rw [hL'.length_eq]; simp
  obtain ⟨p, q, r, rfl, hq0, hq1⟩ := hu4
  have hc1 : ∃ c', s3[l]? = some c' := ⟨_, List.getElem?_eq_getElem (by omega)⟩
  obtain ⟨c', hc'⟩ := hc1
  rw [ssl hc']
  have hu5 : Up st (s3.set l (src p q r)) l (N + 1 + 1 + (List.range (2 * e)).length) := hu3.trans ⟨p, q, r, rfl, hq0, hq1⟩
  have hl5 : s3.length = (s3.set l (src p q r)).length := by simp
  rw [hl5]
  generalize s3.set l (src p q r) = s5 at *
  simp! []
  refine w_forP L' _ (fun pre σ s => (∃ x5 x6, σ = [some (.ref l), some (.int m), some (.int k), some (.ref (s5.length + (a + 1))), x5, x6, none]) /\ ∃ (rows : List (List Nat)) (s6 : Sto), s = s6 ++ (cr rows ++ [.lst (refs s5.length (a + 1))]) /\ Up st s6 l (N + 2 + 2 * e + pre.length) /\ rows.length = a + 1 /\ rows.flatten.Perm pre) ⟨⟨_, _, rfl⟩, nb (a + 1), s5, rfl, hu5.mono (by simp; omega), by simp [nb], by simp [nb]⟩ ?_ ?_
  · rintro pre d post σ s hLs ⟨⟨x5, x6, rfl⟩, rows, s6, rfl, hu6, hrl, hrp⟩
    have hpl : pre.length + (post.length + 1) = 2 * e := by rw [<- hLl, hLs]; simp
    have hl6 := hu6.len
    have hl56 : s5.length = s6.length := by omega
    rw [hl56]
    simp! [rA hrl, refs_len]
    have hs6 : Sr (s6 ++ (cr rows ++ [.lst (refs s6.length (a + 1))])) l (N + 2 + 2 * e + pre.length) := by
      obtain ⟨p, q, r, h0, h1, h2⟩ := hu6.sr hll
      exact ⟨p, q, r, sgl h0, h1, h2⟩
    refine wp_nx (k_next (n := n + 1) (m := ((a + 1 : Nat) : Int)) (by omega) (by omega) (by omega) hs6) ?_
    rintro y s7 ⟨⟨x, rfl, hx0, hx1⟩, hu7⟩
    obtain ⟨j, rfl⟩ : ∃ a : Nat, x = (a : Int) := ⟨x.toNat, by omega⟩
    obtain ⟨p, q, r, rfl, hq0, hq1⟩ := hu7
    have hc1 : ∃ c', s6[l]? = some c' := ⟨_, List.getElem?_eq_getElem (by omega)⟩
    obtain ⟨c', hc'⟩ := hc1
    rw [ssl hc']
    have hu8 : Up st (s6.set l (src p q r)) l (N + 2 + 2 * e + pre.length + 1) := hu6.trans ⟨p, q, r, rfl, hq0, hq1⟩
    have hl8 : s6.length = (s6.set l (src p q r)).length := by simp
    rw [hl8]
    generalize s6.set l (src p q r) = s8 at *
    have hj : j < rows.length := by omega
    have hrow : rows[j]? = some rows[j] := List.getElem?_eq_getElem hj
    have hrefs : (refs s8.length (a + 1))[j]? = some (.ref (s8.length + j)) := by
      simp only [refs, List.getElem?_map]
      rw [List.getElem?_range (by omega)]; rfl
    simp! [rA hrl, atI_nat, hrefs, rR hrow, nv_len, rS hj]
    have hrj := row_len hrow
    rw [hrp.length_eq] at hrj
    rw [<- nv_one, <- nv_app, rS hj]
    refine ⟨by omega, ⟨_, _, rfl⟩, _, s8, rfl, hu8.mono (by simp; omega), by simp [hrl], ?_⟩
    exact (flat_set hrow).trans (List.Perm.append_right _ hrp)
  · rintro σ s ⟨⟨x5, x6, rfl⟩, rows, s6, rfl, hu6, hrl, hrp⟩
    have hl6 := hu6.len
    have hl56 : s5.length = s6.length := by omega
    rw [hl56]
    simp! [rA hrl]
    refine w_lcmC (l := s6.length + (a + 1)) (List.range (a + 1)) (fun i => .ref (s6.length + i)) (fun i => .tup (nv (rows.getD i []))) (by simp; omega) (rA hrl) ?_ ?_
    · intro i hi
      have hi := List.mem_range.1 hi
      have hrow : rows[i]? = some (rows.getD i []) := by
        rw [List.getElem?_eq_getElem (by omega)]
        simp [List.getD, List.getElem?_eq_getElem (show i < rows.length by omega)]
      simp! [seqv, rR hrow]
    · simp! [seqv]
      have hrows : (List.range (a + 1)).map (fun i => D.tup (nv (rows.getD i []))) = tv rows := by
        refine List.ext_getElem? fun i => ?_
        rw [tv_get, List.getElem?_map]
        by_cases hi : i < a + 1
        · rw [List.getElem?_range hi, List.getElem?_eq_getElem (show i < rows.length by omega)]
          simp [List.getD, List.getElem?_eq_getElem (show i < rows.length by omega)]
        · rw [List.getElem?_eq_none (by simpa using hi), List.getElem?_eq_none (by omega)]; rfl
      rw [hrows]
      obtain ⟨p, q, r, rfl, hq0, hq1⟩ := hu6
      refine ⟨okP_set rfl, ?_⟩
      rw [rk_clean gv_clean, take_set]
      refine ⟨⟨rows, e, rfl, ⟨hrp.trans hL', by omega, by omega⟩, by omega, by omega, by omega⟩, p, q, r, rfl, hq0, by omega⟩
end Fs
namespace Fs
open PySem
def wS1 : Sx := .asg (.nm 2) (.call F.zq4 [.loc 0, .loc 1])
def wS2 : Sx := .asg (.nm 3) (.call F.zq7 [.loc 2, .con (.int 6), .con (.int 8)])
def wS3 : Sx := .asg (.nm 4) (.call F.zq10 [.loc 2, .loc 3])
def wS4 : Sx := .asg (.nm 5) (.lst [.loc 3, .loc 4, .call F.zq10 [.loc 2, .loc 3]])
def wS5 : Sx := .iff (.and2 (.val (.bi (.isT "tuple") [.loc 4])) (.and2 (.val (.chn .lt .lt (.con (.int 0)) (.bi .len [.loc 4]) (.con (.int 61)))) (.val (.cmp .eq (.bi .len [.bin .add (.lc [6] (.val (.loc 4)) (.nm 6) [.nt (.val (.bi (.isT "tuple") [.loc 6]))] (.loc 6)) (.lst [])]) (.con (.int 0)))))) [.xpr (.me .append (.loc 5) [.call F.zq10 [.loc 2, .loc 4]])] []
def wS6 : List Sx := [.iff (.val (.cmp .ne (.lc [7] (.val (.loc 5)) (.nm 7) [.nt (.val (.call F.zq12 [.loc 7]))] (.loc 7)) (.lst []))) [.ret (.con (.bl false))] []]
theorem la_body : c_law.body = [.forr (.rng [.bi .max2 [.con (.int 1), .bi .min2 [.con (.int 8), .bi .len [.loc 0]]]]) (.nm 1) (wS1 :: wS2 :: wS3 :: wS4 :: wS5 :: wS6), .ret (.call F.zq13 [])] := rfl
theorem K_law8 {n : Nat} : ∃ K : Nat, (if (if ((n : Nat) : Int) < 8 then ((n : Nat) : Int) else 8) > 1 then (if ((n : Nat) : Int) < 8 then ((n : Nat) : Int) else 8) else 1) = (K : Int) /\ K <= 8 := by
  refine ⟨(if (if ((n : Nat) : Int) < 8 then ((n : Nat) : Int) else 8) > 1 then (if ((n : Nat) : Int) < 8 then ((n : Nat) : Int) else 8) else 1).toNat, ?_, ?_⟩
  · split <;> split <;> omega
  · split <;> split <;> omega
theorem w_s6 (n : Nat) {S : Sto} {q : Nat} {Vs : List D} {x0 x1 x2 x3 x4 x6 x7 : Option D} {QF : Fl -> Sto -> Prop} (h1 : S[1]? = some (.lam 0 [.str LQ])) (hc : S[q]? = some (.lst Vs)) (hl : Vs.length <= 10) (hV : ∀ x, x ∈ Vs -> Vl 10 18 S x)
    (hk : ∀ σ, σ = [x0, x1, x2, x3, x4, some (.ref q), x6, x7] -> QF (.nx σ) S) : wp (exL (P.tbl (n + 6)) wS6 [x0, x1, x2, x3, x4, some (.ref q), x6, x7]) S QF NX := by
  have hsl := sl_ge
  unfold wS6
  simp! [hc, soC_lst]
  refine w_lcfC (l := q) Vs id (fun _ => false) id (by omega) (by rw [List.map_id]; exact hc) ?_ ?_
  · intro x hx
    have hv := hV x hx
    have lp : ∀ s, land x s = (x, s) := fun s => land_pur (vl_pur hv)
    simp! [id_eq, lp]
    refine wp_nx (k_right n h1 (hv.good (by omega) (by omega) (by omega))) ?_
    rintro y s ⟨rfl, rfl⟩
    simp! [truth]
    rfl
  · have f0 : (Vs.filter fun _ => false) = [] := by simp
    have q0 : eqD S (.lst []) (.lst []) = some true := rfl
    rw [f0, List.map_nil]
    simp! [q0, Option.map_some, truth]
    exact ⟨by omega, hk _ rfl⟩
theorem k_law {ns : List Int} (hns : ns.length <= 63) : wp (call P 8 F.law [.ref 0]) [.frl (zv ns), .lam 0 [.str LQ]] (fun r s' => r = .bl true /\ s' = [.frl (zv ns), .lam 0 [.str LQ]]) NX := by
  have hsl := sl_ge
  refine w_call (F := c_law) rfl rfl ?_
  have er : List.replicate (c_law.ns - c_law.np) (none : Option D) = [none, none, none, none, none, none, none] := rfl
  have e0 : lands [.ref 0] [D.frl (zv ns), .lam 0 [.str LQ]] = ([.ref 0], [D.frl (zv ns), .lam 0 [.str LQ]]) := rfl
  rw [er, e0, la_body]
  have h0 : ([D.frl (zv ns), .lam 0 [.str LQ]] : Sto)[0]? = some (.frl (zv ns)) := rfl
  have h1 : ([D.frl (zv ns), .lam 0 [.str LQ]] : Sto)[1]? = some (.lam 0 [.str LQ]) := rfl
  have hz : (zv ns).length = ns.length := by simp
  obtain ⟨K, hK, hK2⟩ := K_law8 (n := ns.length)
  simp! [leC_frl, hz, hK, rngL1' (show K <= 2 ^ 20 by omega)]
  refine w_forP (List.range K) _ (fun pre σ s => (∃ x1 x2 x3 x4 x5 x6 x7, σ = [some (.ref 0), x1, x2, x3, x4, x5, x6, x7]) /\ On [D.frl (zv ns), .lam 0 [.str LQ]] s) ⟨⟨_, _, _, _, _, _, _, rfl⟩, On.refl⟩ ?_ ?_
  · rintro pre k post σ s hr ⟨⟨x1, x2, x3, x4, x5, x6, x7, rfl⟩, hO⟩
    obtain ⟨_, hk, _⟩ := range_split hr
    have hs0 : s[0]? = some (.frl (zv ns)) := (hO.2 0 (by simp)).trans h0
    have hl1 : 2 <= s.length := hO.1
    unfold wS1
    simp! []
    refine wp_nx (k_source 6 (by omega) hns hs0) ?_
    rintro y s' ⟨⟨a, b, c, rfl, hb0, hb1⟩, rfl⟩
    have hla : land (src a b c) s' = (.ref s'.length, s' ++ [src a b c]) := la_lst (xs := [.int a, .int b, .int c]) rfl
    simp! [hla]
    have hO1 := hO.app (r := [src a b c])
    have hS1 : Sr (s' ++ [src a b c]) s'.length 36 := ⟨a, b, c, sg0, hb0, by omega⟩
    generalize (s' ++ [src a b c] : Sto) = s1 at *
    generalize hl : s'.length = l at *
    unfold wS2
    simp! []
    refine wp_nx (k_any (n := 4) (m := 6) (k := 8) (by omega) (by omega) (by omega) (by omega) hS1) ?_
    rintro y s2 ⟨⟨g, e, rfl, hg, hg1, hg6, he⟩, hu2⟩
    have hS2 := hu2.sr hS1.lt
    have hO2 := hO1.up hl1 hu2
    have eg : tv g = (g.map nv).map D.tup := by rw [List.map_map]; rfl
    have gf : (g.map nv).flatten.length <= 16 := by
      have : (g.map nv).flatten = nv g.flatten := by rw [nv, List.map_flatten]; rfl
      rw [this, nv_len, hg.len]; omega
    have gl : (g.map nv).length = g.length := List.length_map ..
    have gI : ∀ s, ∀ r, r ∈ g.map nv -> ∀ d, d ∈ r -> Itm s d := fun s r hr d hd => by
      obtain ⟨w, hw, rfl⟩ := List.mem_map.1 hr
      obtain ⟨i, hi, rfl⟩ := List.mem_map.1 hd
      have : i < 2 * e := hg.mem.1 (List.mem_flatten.2 ⟨w, hw, hi⟩)
      exact itm_nat (by omega)
    rw [eg]
    generalize g.map nv = G at *
    have pG := pursG (gI s2)
    unfold wS3
    simp! [la_tup pG]
    refine wp_nx (k_bent 5 hS2 (by omega) (gI s2) (by omega) (by omega) (by omega)) ?_
    rintro y s3 ⟨hB, hu3⟩
    have hS3 := hu3.sr hS2.lt
    have hO3 := hO2.up hl1 hu3
    obtain ⟨x4, J, e4, v4⟩ := bo_land hB hS3.np (gI s3) (by omega) (by omega) (by omega)
    have hS4 := hS3.app (r := J)
    have hO4 := hO3.app (r := J)
    have p4 : x4.pur = true := vl_pur (v4 _ Ag.refl)
    have l4 : ∀ s, land x4 s = (x4, s) := fun s => land_pur p4
    unfold wS4
    simp! [e4, la_tup pG, l4]
    refine wp_nx (k_bent 5 hS4 (by omega) (gI _) (by omega) (by omega) (by omega)) ?_
    rintro y s5 ⟨hB5, hu5⟩
    have hS5 := hu5.sr hS4.lt
    have hO5 := hO4.up hl1 hu5
    obtain ⟨x6', J6, e6, v6⟩ := bo_land hB5 hS5.np (gI s5) (by omega) (by omega) (by omega)
    have p6 : x6'.pur = true := vl_pur (v6 _ Ag.refl)
    have l6 : land (.lst [.tup (G.map D.tup), x4, y]) s5 = (.ref (s5 ++ J6).length, s5 ++ J6 ++ [.lst [.tup (G.map D.tup), x4, x6']]) := by
      simp only [land, lands, lands_pur pG, l4, e6]
    simp! [l6]
    refine ⟨by omega, ?_⟩
    have eB : s5 ++ (J6 ++ [D.lst [D.tup (G.map D.tup), x4, x6']]) = (s5 ++ J6) ++ [D.lst [D.tup (G.map D.tup), x4, x6']] := by rw [List.append_assoc]
    have cB : (s5 ++ (J6 ++ [D.lst [D.tup (G.map D.tup), x4, x6']]))[s5.length + J6.length]? = some (.lst [D.tup (G.map D.tup), x4, x6']) := by
      rw [eB, <- List.length_append]; exact sg0
    have hSB : Sr (s5 ++ (J6 ++ [D.lst [D.tup (G.map D.tup), x4, x6']])) l (36 + 100 + 10 + 10) := hS5.app
    have hOB := hO5.app (r := J6 ++ [D.lst [D.tup (G.map D.tup), x4, x6']])
    have l5 := hu5.len
    have a4 : Ag (fun i => i = l) (s3 ++ J) (s5 ++ (J6 ++ [D.lst [D.tup (G.map D.tup), x4, x6']])) := ((Ag.refl (p := fun i => i = l) (A := s3 ++ J)).up hu5 rfl).app (by omega)
    have a6 : Ag (fun i => i = l) (s5 ++ J6) (s5 ++ (J6 ++ [D.lst [D.tup (G.map D.tup), x4, x6']])) := by rw [eB]; exact Ag.refl.app (Nat.le_refl _)
    have q4 : (s3 ++ J).length <= s5.length + J6.length := by omega
    have q6 : (s5 ++ J6).length <= s5.length + J6.length := by rw [List.length_append]; exact Nat.le_refl _
    have hlq : l < s5.length := hS5.lt
    have hq : s5.length <= s5.length + J6.length := by omega
    generalize (s5 ++ (J6 ++ [D.lst [D.tup (G.map D.tup), x4, x6']]) : Sto) = sB at *
    generalize s5.length + J6.length = q at *
    have mV : ∀ {S : Sto} {x : D}, Vl (G.length + 2) (G.flatten.length + 1) S x -> Vl 10 18 S x := fun h => by
      cases h with
      | nt h p hp => exact .nt h p hp
      | lg R hx hR hl p hp => exact .lg R hx hR hl p hp
      | rw R hx hl hR hn hd => exact .rw R hx hl hR hn hd
      | gr G hx hI h1 h2 => exact .gr G hx hI (by omega) (by omega)
    have vG : ∀ S, Vl 10 18 S (.tup (G.map D.tup)) := fun S => .gr G rfl (gI S) (by omega) (by omega)
    have t1 : ∀ {S}, On [D.frl (zv ns), D.lam 0 [D.str LQ]] S -> S[1]? = some (.lam 0 [.str LQ]) := fun h => (h.2 1 (by simp)).trans h1
    have skip := fun QF0 => w_s6 1 (S := sB) (q := q) (Vs := [D.tup (G.map D.tup), x4, x6']) (x0 := some (.ref 0)) (x1 := some (.int (k : Int))) (x2 := some (.ref l)) (x3 := some (.tup (G.map D.tup))) (x4 := some x4) (x6 := x6) (x7 := x7) (QF := tq (fun σ s => (∃ x1 x2 x3 x4 x5 x6 x7, σ = [some (.ref 0), x1, x2, x3, x4, x5, x6, x7]) /\ On [D.frl (zv ns), .lam 0 [.str LQ]] s) QF0) (t1 hOB) cB (by simp) (fun x hx => by
      simp only [List.mem_cons, List.not_mem_nil, or_false] at hx
      rcases hx with rfl | rfl | rfl
      · exact vG _
      · exact mV (v4 _ a4)
      · exact mV (v6 _ a6)) (fun σ hσ => ⟨⟨_, _, _, _, _, _, _, hσ⟩, hOB⟩)
    unfold wS5
    cases v4 sB a4 with
    | nt h p hp =>
      simp! [h.ty, truth]
      exact skip _
    | lg R hx hR hl p hp =>
      subst hx
      have d1 : decide ((0 : Int) < ((R.length : Nat) : Int)) = true := decide_eq_true (by omega)
      have d2 : decide (((R.length : Nat) : Int) < 61) = false := decide_eq_false (by omega)
      simp! [truth, d1, d2]
      exact skip _
    | rw R hx hl hR hn hd =>
      subst hx
      obtain ⟨r0, hr0, hn0⟩ := hn
      have hlen : 0 < R.length := List.length_pos_of_mem hr0
      have d1 : decide ((0 : Int) < ((R.length : Nat) : Int)) = true := decide_eq_true (by omega)
      have d2 : decide (((R.length : Nat) : Int) < 61) = true := decide_eq_true (by omega)
      simp! [truth, d1, d2]
      have em : R = R.map id := by simp
      rw [em]
      refine w_lcf R id (fun r => !tb r) id (by omega) ?_ ?_
      · intro r hr
        have hrt : isTy sB "tuple" r = some (tb r) /\ r.pur = true := by
          rcases hR r hr with ⟨xs, rfl, h⟩ | h
          · exact ⟨rfl, by simpa only [D.pur] using h⟩
          · exact ⟨by rw [noT_tb h]; exact h.ty, h.pu⟩
        have lr : ∀ s, land r s = (r, s) := fun s => land_pur hrt.2
        simp! [id_eq, lr, hrt.1, truth]
        cases tb r <;> rfl
      · have hfl : (R.filter fun r => !tb r).length <= R.length := List.length_filter_le ..
        have hf0 : 0 < (R.filter fun r => !tb r).length := List.length_pos_of_mem (List.mem_filter.2 ⟨hr0, by rw [noT_tb hn0]; rfl⟩)
        have d3 : decide ((((R.filter fun r => !tb r).length + 0 : Nat) : Int) = 0) = false := decide_eq_false (by omega)
        simp only [List.map_id]
        simp! [b_addLL, eq_int, d3, Option.map_some, truth]
        exact ⟨by omega, by omega, skip _⟩
    | gr G4 hx hI4 g1 g2 =>
      subst hx
      have l4 : (G4.map D.tup).length = G4.length := List.length_map ..
      by_cases hz : G4.length = 0
      · have d1 : decide ((0 : Int) < (((G4.map D.tup).length : Nat) : Int)) = false := decide_eq_false (by omega)
        simp! [truth, d1]
        exact skip _
      · have d1 : decide ((0 : Int) < (((G4.map D.tup).length : Nat) : Int)) = true := decide_eq_true (by omega)
        have d2 : decide ((((G4.map D.tup).length : Nat) : Int) < 61) = true := decide_eq_true (by omega)
        simp! [truth, d1, d2]
        refine w_lcf G4 _ (fun _ => false) D.tup (by omega) ?_ ?_
        · intro r hr
          have lr : ∀ s, land (.tup r) s = (.tup r, s) := fun s => land_pur (by simpa only [D.pur] using ents_pur fun d hd => (hI4 r hr d hd).ent)
          simp! [lr, truth]
          rfl
        · have f0 : (G4.filter fun _ => false) = [] := by simp
          have d3 : decide ((((0 : Nat) : Nat) : Int) = 0) = true := rfl
          rw [f0, List.map_nil]
          simp! [b_addLL, eq_int, d3, Option.map_some, truth]
          rw [cB]
          refine ⟨by omega, by omega, rfl, ?_⟩
          refine wp_nx (k_bent 5 hSB (by omega) hI4 (by omega) (by omega) (by omega)) ?_
          rintro y7 s7 ⟨hB7, hu7⟩
          have hS7 := hu7.sr hSB.lt
          have hO7 := hOB.up hl1 hu7
          have c7 : s7[q]? = some (.lst [D.tup (G.map D.tup), D.tup (G4.map D.tup), x6']) := by rw [up_get hu7 (by omega)]; exact cB
          have hI7 : ∀ r, r ∈ G4 -> ∀ d, d ∈ r -> Itm s7 d := fun r hr d hd => itm_ag (hI4 r hr d hd) hSB.np (Ag.refl.up hu7 rfl)
          have ql7 : q < s7.length := (List.getElem?_eq_some_iff.1 c7).1
          have np : Np (fun i => i = l ∨ i = q) s7 := fun i hi => by
            rcases hi with rfl | rfl
            · exact hS7.np _ rfl
            · exact ⟨ql7, by rw [c7]; intro z; injection z with z; injection z with z; cases z⟩
          obtain ⟨x8, J8, e8, v8⟩ := bo_land hB7 np hI7 (by omega) (by omega) (by omega)
          rw [e8, c7]
          have l7 := hu7.len
          have cq : ((s7 ++ J8).set q (.lst ([D.tup (G.map D.tup), D.tup (G4.map D.tup), x6'] ++ [x8])))[q]? = some (.lst ([D.tup (G.map D.tup), D.tup (G4.map D.tup), x6'] ++ [x8])) := by
            rw [List.getElem?_set_self (by rw [List.length_append]; omega)]
          have hOq : On [D.frl (zv ns), .lam 0 [.str LQ]] ((s7 ++ J8).set q (.lst ([D.tup (G.map D.tup), D.tup (G4.map D.tup), x6'] ++ [x8]))) := hO7.app.set (by simp; omega)
          have b8 : Ag (fun i => i = l ∨ i = q) (s7 ++ J8) ((s7 ++ J8).set q (.lst ([D.tup (G.map D.tup), D.tup (G4.map D.tup), x6'] ++ [x8]))) := Ag.refl.set (.inl (.inr rfl))
          have sBl : sB.length <= s7.length := by omega
          have qB : q < sB.length := (List.getElem?_eq_some_iff.1 cB).1
          have b4 : Ag (fun i => i = l) (s3 ++ J) ((s7 ++ J8).set q (.lst ([D.tup (G.map D.tup), D.tup (G4.map D.tup), x6'] ++ [x8]))) := ((a4.up hu7 rfl).app (by omega)).set (.inr q4)
          have b6 : Ag (fun i => i = l) (s5 ++ J6) ((s7 ++ J8).set q (.lst ([D.tup (G.map D.tup), D.tup (G4.map D.tup), x6'] ++ [x8]))) := ((a6.up hu7 rfl).app (by omega)).set (.inr q6)
          refine ⟨rfl, ?_⟩
          rw [lcC_lst]
          refine ⟨by show 3 < sizeLine; omega, ?_⟩
          refine w_s6 1 (t1 hOq) cq (by simp) (fun x hx => ?_) (fun σ hσ => ⟨⟨_, _, _, _, _, _, _, hσ⟩, hOq⟩)
          simp only [List.mem_append, List.mem_cons, List.not_mem_nil, or_false] at hx
          rcases hx with (rfl | rfl | rfl) | rfl
          · exact vG _
          · exact mV (v4 _ b4)
          · exact mV (v6 _ b6)
          · have := v8 _ b8
            cases this with
            | nt h p hp => exact .nt h p hp
            | lg R hx hR hl p hp => exact .lg R hx hR hl p hp
            | rw R hx hl hR hn hd => exact .rw R hx hl hR hn hd
            | gr G hx hI h1 h2 => exact .gr G hx hI (by omega) (by omega)
  · rintro σ s ⟨⟨x1, x2, x3, x4, x5, x6, x7, rfl⟩, hO⟩
    have t1 : s[1]? = some (.lam 0 [.str LQ]) := (hO.2 1 (by simp)).trans h1
    simp! []
    refine wp_nx (k_limits (n := 0) t1) ?_
    rintro y s' ⟨rfl, rfl⟩
    exact ⟨hO.fin, by rw [rk_clean rfl, og_s]; exact ⟨rfl, hO.take⟩⟩
end Fs
namespace Fs
open PySem PySem.Spec PyProof.Rows L2
theorem Wf.del {w : World} {K : PySem.W.Frag} {mg : Str -> Option Value} {a : Addr} {ca : Nat -> Addr} (hL : LstInts K a) (X : Wf w K mg ca) : Wf w (kdel K a) mg ca := {
  z_ := X.z_
  e_InvalidValue := ExF.del hL.at_ X.e_InvalidValue
  e_InvalidState := ExF.del hL.at_ X.e_InvalidState
  e_LimitReached := ExF.del hL.at_ X.e_LimitReached
  o_BadGraph := OxW.del hL.at_ X.o_BadGraph
  x_BadGraph := xfC_del hL.at_ X.o_BadGraph.obj X.x_BadGraph
  m_InvalidValue := (fun c => match c with | 0 => exm_del2 hL.at_ X.e_InvalidValue.obj X.e_InvalidValue.obj (X.m_InvalidValue 0) | 1 => exm_del2 hL.at_ X.e_InvalidState.obj X.e_InvalidValue.obj (X.m_InvalidValue 1) | 2 => exm_del2 hL.at_ X.e_LimitReached.obj X.e_InvalidValue.obj (X.m_InvalidValue 2) | 3 => exm_del2 hL.at_ X.o_BadGraph.obj X.e_InvalidValue.obj (X.m_InvalidValue 3) | c + 4 => (by have h := exm_del2 hL.at_ X.e_InvalidValue.obj X.e_InvalidValue.obj (X.m_InvalidValue 0); rw [X.z_ c]; exact h))
  m_InvalidState := (fun c => match c with | 0 => exm_del2 hL.at_ X.e_InvalidValue.obj X.e_InvalidState.obj (X.m_InvalidState 0) | 1 => exm_del2 hL.at_ X.e_InvalidState.obj X.e_InvalidState.obj (X.m_InvalidState 1) | 2 => exm_del2 hL.at_ X.e_LimitReached.obj X.e_InvalidState.obj (X.m_InvalidState 2) | 3 => exm_del2 hL.at_ X.o_BadGraph.obj X.e_InvalidState.obj (X.m_InvalidState 3) | c + 4 => (by have h := exm_del2 hL.at_ X.e_InvalidValue.obj X.e_InvalidState.obj (X.m_InvalidState 0); rw [X.z_ c]; exact h))
  m_LimitReached := (fun c => match c with | 0 => exm_del2 hL.at_ X.e_InvalidValue.obj X.e_LimitReached.obj (X.m_LimitReached 0) | 1 => exm_del2 hL.at_ X.e_InvalidState.obj X.e_LimitReached.obj (X.m_LimitReached 1) | 2 => exm_del2 hL.at_ X.e_LimitReached.obj X.e_LimitReached.obj (X.m_LimitReached 2) | 3 => exm_del2 hL.at_ X.o_BadGraph.obj X.e_LimitReached.obj (X.m_LimitReached 3) | c + 4 => (by have h := exm_del2 hL.at_ X.e_InvalidValue.obj X.e_LimitReached.obj (X.m_LimitReached 0); rw [X.z_ c]; exact h))
  m_BadGraph := (fun c => match c with | 0 => exm_del2 hL.at_ X.e_InvalidValue.obj X.o_BadGraph.obj (X.m_BadGraph 0) | 1 => exm_del2 hL.at_ X.e_InvalidState.obj X.o_BadGraph.obj (X.m_BadGraph 1) | 2 => exm_del2 hL.at_ X.e_LimitReached.obj X.o_BadGraph.obj (X.m_BadGraph 2) | 3 => exm_del2 hL.at_ X.o_BadGraph.obj X.o_BadGraph.obj (X.m_BadGraph 3) | c + 4 => (by have h := exm_del2 hL.at_ X.e_InvalidValue.obj X.o_BadGraph.obj (X.m_BadGraph 0); rw [X.z_ c]; exact h))
  f_all := X.f_all
  f_bool := X.f_bool
  f_int := X.f_int
  f_isinstance := X.f_isinstance
  f_len := X.f_len
  f_list := X.f_list
  f_max := X.f_max
  f_min := X.f_min
  f_range := X.f_range
  f_repr := X.f_repr
  f_sorted := X.f_sorted
  f_sum := X.f_sum
  f_tuple := X.f_tuple
  q_MAX_EDGES := X.q_MAX_EDGES
  q_MAX_NODES := X.q_MAX_NODES
  d_zq0 := (let ⟨f, fd, D, hm⟩ := X.d_zq0; ⟨f, fd, FunD.del hL.at_ D, hm⟩)
  d_zq1 := (let ⟨f, fd, D, hm⟩ := X.d_zq1; ⟨f, fd, FunD.del hL.at_ D, hm⟩)
  d_zq2 := (let ⟨f, fd, D, hm⟩ := X.d_zq2; ⟨f, fd, FunD.del hL.at_ D, hm⟩)
  d_zq3 := (let ⟨f, fd, D, hm⟩ := X.d_zq3; ⟨f, fd, FunD.del hL.at_ D, hm⟩)
  d_zq4 := (let ⟨f, fd, D, hm⟩ := X.d_zq4; ⟨f, fd, FunD.del hL.at_ D, hm⟩)
  d_zq5 := (let ⟨f, fd, D, hm⟩ := X.d_zq5; ⟨f, fd, FunD.del hL.at_ D, hm⟩)
  d_zq6 := (let ⟨f, fd, D, hm⟩ := X.d_zq6; ⟨f, fd, FunD.del hL.at_ D, hm⟩)
  d_zq7 := (let ⟨f, fd, D, hm⟩ := X.d_zq7; ⟨f, fd, FunD.del hL.at_ D, hm⟩)
  d_zq8 := (let ⟨f, fd, D, hm⟩ := X.d_zq8; ⟨f, fd, FunD.del hL.at_ D, hm⟩)
  d_zq9 := (let ⟨f, fd, D, hm⟩ := X.d_zq9; ⟨f, fd, FunD.del hL.at_ D, hm⟩)
  d_zq10 := (let ⟨f, fd, D, hm⟩ := X.d_zq10; ⟨f, fd, FunD.del hL.at_ D, hm⟩)
  d_zq11 := (let ⟨f, fd, D, hm⟩ := X.d_zq11; ⟨f, fd, FunD.del hL.at_ D, hm⟩)
  d_zq12 := (let ⟨f, fd, D, hm⟩ := X.d_zq12; ⟨f, fd, FunD.del hL.at_ D, hm⟩)
  d_zq13 := (let ⟨f, fd, D, hm⟩ := X.d_zq13; ⟨f, fd, FunD.del hL.at_ D, hm⟩)
  d_law := (let ⟨f, fd, D, hm⟩ := X.d_law; ⟨f, fd, FunD.del hL.at_ D, hm⟩)
  sm := X.sm.del hL.at_
  ic := (fun c => match c with | 0 => excC_del hL.at_ X.e_InvalidValue.obj (X.ic 0) | 1 => excC_del hL.at_ X.e_InvalidState.obj (X.ic 1) | 2 => excC_del hL.at_ X.e_LimitReached.obj (X.ic 2) | 3 => excC_del hL.at_ X.o_BadGraph.obj (X.ic 3) | c + 4 => (by have h := excC_del hL.at_ X.e_InvalidValue.obj (X.ic 0); rw [X.z_ c]; exact h)) }
theorem law_facts {w : World} {K Kt : PySem.W.Frag} {h0 : Heap} {mg : Str -> Option Value} {fa a : Addr} {ca : Nat -> Addr} (X : Wf w K mg ca) (KX : K.In h0) (KtX : Kt.In h0) (hT : ((tsL.map (·.2)).all (tbB K Kt)) = true) (hD : distB ((tabsOf K (tsL.map (·.2))).map (·.2)) = true) (g__law_right : mg ("_law_right" : Str) = some (.ref (He.ga K "_law_right"))) (hfa : mg ("law" : Str) = some (.ref fa)) (hL : LstInts K a) :
    ∃ (fd : FuncData) (sp : Sp), TabsE (tabsOf K (tsL.map (·.2))) (kdel K a) h0 /\ (∀ (s : Shared) (u : Value), BindsTo s fd ⟨[u], []⟩ [("_law_script", u)]) /\
      (∀ (J : Hp) (ns : List Int), ns.length <= 63 -> (∀ p ∈ tabsOf K (tsL.map (·.2)), J p.2 = some (.tbl #[])) -> (∀ b, J b = none ∨ b ∈ (tabsOf K (tsL.map (·.2))).map (·.2) ∨ ∃ o xs, J b = some (.frz o (.lst xs))) -> a ∉ (tabsOf K (tsL.map (·.2))).map (·.2) -> SqL (kdel K a) J a (ns.map V.int) -> sp [.ref a] J (fun v _ => v = .bl true) fun _ _ _ => False) /\
      ∀ base : Heap, (kdel K a).In base -> base.Ns mainGlobals mg -> (∀ p ∈ tabsOf K (tsL.map (·.2)), LamX.TabB base mg p.1 p.2) -> FgOk pw w (kdel K a) mg base 10 fa fd ["_law_script"] sp := by
  have X2 := X.del hL
  obtain ⟨f, fd, FD, hm⟩ := X2.d_law
  have hff : f = fa := by
    have e := hfa.symm.trans hm
    cases e; rfl
  subst hff
  obtain ⟨TE, nd, len, at_, lk⟩ := tabs_ok KX KtX hT hD (by decide)
  have hb := FunD.bindsA (ps := ["_law_script"]) FD fun _ _ _ _ _ _ us hl => match us, hl with | [_], _ => rfl
  refine ⟨fd, spI ⟨kdel K a, ca, fldF, none, tbK K tsL⟩ (call P 8 F.law) 1, ?_, fun s u => hb s [u] rfl, ?_, ?_⟩
  · obtain ⟨e1, e2, e3⟩ := TE
    exact ⟨e1, fun p hp => by rw [kdel_at]; split <;> first | rfl | exact e2 p hp, e3⟩
  · intro J ns hl hJ hO ha hS
    refine sp_startT (ts := tsL.map (·.1)) (Ps := (tabsOf K (tsL.map (·.2))).map (·.2)) rfl (fun b hb => by obtain ⟨p, hp, rfl⟩ := List.mem_map.mp hb; exact hJ p hp) hO ha nd len at_ (by rw [kdel_at, if_pos rfl]) hS ?_
    obtain ⟨d, s', he, rfl, _⟩ := wp_run (k_law hl)
    exact ⟨s', he⟩
  · intro base _ _ hTB
    have t__law_right : TbF (kdel K a) mg base ⟨kdel K a, ca, fldF, none, tbK K tsL⟩ "_law_right" "_law_right.<locals>.<lambda>" := by
      obtain ⟨p, hp, e1, e2⟩ := lk "_law_right.<locals>.<lambda>" "_law_right" rfl
      exact tbF_of g__law_right e1 e2 (hTB p hp)
    have E := ev_all (base := base) (Z := ⟨kdel K a, ca, fldF, none, tbK K tsL⟩) rfl rfl rfl t__law_right X2 7
    obtain ⟨oc, od, dV, kV, doc, pm, an, cdv, ct, osl, e, lk2, hc, _⟩ := FD.ex
    subst e
    exact fg_of lk2 hc (N := [("_law_script" : Str), ("_law_k" : Str), ("_law_source_here" : Str), ("_law_drawing" : Str), ("_law_bent_here" : Str), ("_law_some" : Str), ("_law_row" : Str), ("_law_thing" : Str)]) ⟨rfl, rfl, rfl, by decide +kernel, rfl, by decide +kernel, by decide +kernel⟩ (fun vs H Q E ⟨hl, _⟩ => hl) fun A outer s H vs Q E2 hr hg h => ⟨_, bd_law rfl rfl E hr hg, enter_ok (F := c_law) rfl rfl h⟩
end Fs
open PySem PySem.W PySem.Calls PyProof.Rows
theorem PySem.Challenge.cw_flatsum_k03_graphs_recognized_holds : PySem.Challenge.rw_flatsum_k03_graphs_recognized.Holds := by
  w_on; o_law
  refine HandSHeadRun.head_any (r := OpenLaw.row PySem.Challenge.rw_flatsum_k03_graphs_recognized) (q := view (OpenLaw.row PySem.Challenge.rw_flatsum_k03_graphs_recognized).prog [23]) (H := Fs.hdH) (ob := Fs.hdO) (M := 3200) (loose := Fs.hdL) (d := HandSHeadRun.topDef (OpenLaw.row PySem.Challenge.rw_flatsum_k03_graphs_recognized).prog 23) (kwd := []) Fs.hdE
    (by kernel_rfl) (fun s => by kernel_rfl) Fs.hd_run (by kernel_rfl) (by kernel_rfl) (by kernel_rfl) (by rfl) (by first | assumption | decide +kernel) (by decide +kernel) ⟨rfl, rfl, rfl, rfl, rfl, by decide +kernel⟩ ?hw ?hc
  case hw => w_witness2
  case hc =>
    refine Fs.walk_hT (l := PySem.Challenge.rw_flatsum_k03_graphs_recognized) (n := 63) (k := 10) (x := "_law_script") rfl (by decide) (by kernel_rfl) ⟨rfl, by decide, by decide⟩ ?F
    intro w mg fa h a vs Y G hmg0 hobj hvi
    obtain ⟨K, Kt, KX, KtX, c, hx0⟩ := Y
    obtain ⟨hs, hx0⟩ := He.ba hx0
    obtain ⟨hx, hx0⟩ := He.ba hx0
    obtain ⟨hi, hx0⟩ := He.ba hx0
    obtain ⟨hb, hx0⟩ := He.ba hx0
    obtain ⟨hT, hD⟩ := He.ba hx0
    have hmg : mg ("law" : PySem.Str) = some (.ref fa) := by
      have e : (HandSHeadRun.topDef (OpenLaw.row PySem.Challenge.rw_flatsum_k03_graphs_recognized).prog 23).name = ("law" : PySem.Str) := by kernel_rfl
      rw [<- e]
      exact hmg0
    have hL : Fs.LstInts K a := fun o e => by
      have e2 := KX a o e
      rw [hobj] at e2
      cases e2
      exact ⟨_, _, rfl, by simpa using hvi⟩
    obtain ⟨fd, sp, h0, h1, h2, h3⟩ := Fs.law_facts (w := w) (Fs.wf_of KX G c hx hi hs) KX KtX hT hD (He.glo_ok KX G (c.fact 12 (f := .glo "_law_right") rfl)) hmg hL
    exact ⟨Fs.kdel K a, _, fd, sp, Fs.kdel_in KX, h0, h1, h2, h3⟩
