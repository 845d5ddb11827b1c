import PyProof.Rows.All
import HandS.Base
import HandS.Words
import HandS.Defaults
import HandS.ExcInit
import HandS.ExcField
import HandS.ExcIs
import KE.KExcSuper
import HandS.Head0
import HandS.Head1
import HandS.Head2
import HandS.HeadEnd
import HandS.HeadHook1
import HandS.HeadHook2
import HandS.HeadHook3
import HandS.HeadHook4
import PyProof.ExcBaseAll.ValueError
import KE.SortData
import KE.SortKeyHeap
import KE.DataCmp
import KE.DataMinMax
import PyProof.P3In
import HandS.List
import KE.KeyNested
import Wide.All
import OpenK.AllK
import Wide.FinOn
import PyProof.EqAt
import PyProof.EqKinds
import PyProof.TupleCall
import HandS.Call
import HandS.Comp
import HandS.Ends
import HandS.Exc
import HandS.WordsExc
import HandS.Walk
import HandS.ExcValue
import HandS.Nested
import HandS.ListEq
import HandS.TupAny
import HandS.IsInst
import HandS.Deep
import HandS.Sort
import HandS.Dict
import HandS.RaiseMore
import PyProof.ReprRoads
import HandS.More
import KE.KDictCopyH
import HandS.Lambda
import HandS.HeadWalk
import HandS.MakeKwOnly
import HandS.ExcOwn
import KE.KDictList
import HandS.Zip
import HandS.Iter
import HandS.DictComp
import HandS.SortKw
import HandS.Style
import HandS.EndTab
import PySem.Challenge.RW_waitless_k75_few_values_at_once_or_never
set_option Elab.async false
set_option linter.all false
/-! IpCore: data, small terms, their meaning in plain Lean. -/
namespace Ip

/-! ### data -/
inductive D where
  | non | bl (b : Bool) | int (i : Int) | str (s : List Nat)
  | tup (xs : List D) | lst (xs : List D) | dct (kvs : List (D × D))
  /-- a dict whose keys are tuples -/
  | tdc (kvs : List (D × D))
  | rng (lo hi : Int) | glo (c : Nat) | ty (n : String) | exc (c : Nat) (fs : List (String × D))
  deriving Inhabited

mutual
/-- the same data -/
def D.same : D → D → Bool
  | .non, .non => true
  | .bl a, .bl b => a == b
  | .int a, .int b => decide (a = b)
  | .str a, .str b => decide (a = b)
  | .tup a, .tup b => sameL a b
  | .lst a, .lst b => sameL a b
  | .dct a, .dct b => sameP a b
  | .tdc a, .tdc b => sameP a b
  | .rng a b, .rng c d => decide (a = c) && decide (b = d)
  | .glo a, .glo b => decide (a = b)
  | .ty a, .ty b => decide (a = b)
  | .exc a f, .exc b g => decide (a = b) && sameF f g
  | _, _ => false
def sameL : List D → List D → Bool
  | [], [] => true
  | x :: xs, y :: ys => D.same x y && sameL xs ys
  | _, _ => false
def sameP : List (D × D) → List (D × D) → Bool
  | [], [] => true
  | (x, u) :: xs, (y, v) :: ys => D.same x y && D.same u v && sameP xs ys
  | _, _ => false
def sameF : List (String × D) → List (String × D) → Bool
  | [], [] => true
  | (x, u) :: xs, (y, v) :: ys => decide (x = y) && D.same u v && sameF xs ys
  | _, _ => false
end
mutual
theorem D.same_eq : ∀ (x y : D), D.same x y = true ↔ x = y
  | .non, y => by cases y <;> simp [D.same]
  | .bl a, y => by cases y <;> simp [D.same]
  | .int a, y => by cases y <;> simp [D.same]
  | .str a, y => by cases y <;> simp [D.same]
  | .tup a, y => by
    cases y with
    | tup b => simp only [D.same, D.tup.injEq]; exact sameL_eq a b
    | _ => simp [D.same]
  | .lst a, y => by
    cases y with
    | lst b => simp only [D.same, D.lst.injEq]; exact sameL_eq a b
    | _ => simp [D.same]
  | .dct a, y => by
    cases y with
    | dct b => simp only [D.same, D.dct.injEq]; exact sameP_eq a b
    | _ => simp [D.same]
  | .tdc a, y => by
    cases y with
    | tdc b => simp only [D.same, D.tdc.injEq]; exact sameP_eq a b
    | _ => simp [D.same]
  | .rng a b, y => by cases y <;> simp [D.same]
  | .glo a, y => by cases y <;> simp [D.same]
  | .ty a, y => by cases y <;> simp [D.same]
  | .exc a f, y => by
    cases y with
    | exc b g => simp only [D.same, D.exc.injEq, Bool.and_eq_true, decide_eq_true_eq]; rw [sameF_eq f g]
    | _ => simp [D.same]
theorem sameL_eq : ∀ (x y : List D), sameL x y = true ↔ x = y
  | [], [] => by simp [sameL]
  | [], _ :: _ => by simp [sameL]
  | _ :: _, [] => by simp [sameL]
  | x :: xs, y :: ys => by simp only [sameL, Bool.and_eq_true, List.cons.injEq]; rw [D.same_eq x y, sameL_eq xs ys]
theorem sameP_eq : ∀ (x y : List (D × D)), sameP x y = true ↔ x = y
  | [], [] => by simp [sameP]
  | [], _ :: _ => by simp [sameP]
  | _ :: _, [] => by simp [sameP]
  | (x, u) :: xs, (y, v) :: ys => by simp only [sameP, Bool.and_eq_true, List.cons.injEq, Prod.mk.injEq]; rw [D.same_eq x y, D.same_eq u v, sameP_eq xs ys]
theorem sameF_eq : ∀ (x y : List (String × D)), sameF x y = true ↔ x = y
  | [], [] => by simp [sameF]
  | [], _ :: _ => by simp [sameF]
  | _ :: _, [] => by simp [sameF]
  | (x, u) :: xs, (y, v) :: ys => by simp only [sameF, Bool.and_eq_true, List.cons.injEq, Prod.mk.injEq, decide_eq_true_eq]; rw [D.same_eq u v, sameF_eq xs ys]
end
instance : DecidableEq D := fun x y => decidable_of_iff _ (D.same_eq x y)

/-- a value of the run: data, an object of the run's own heap, a lambda with its cells -/
inductive W where
  | d (x : D) | ref (n : Nat) | clo (l : Nat) (cs : List Nat)
  deriving DecidableEq, Inhabited
/-- an object of the run's own heap -/
inductive VO where
  | dead | lst (xs : List W) | dct (kvs : List (D × W)) | cel (w : Option W)
  deriving DecidableEq, Inhabited
abbrev Hv := List VO

/-! ### order, equality -/
mutual
/-- Python's == of plain data -/
def eqv : D → D → Bool
  | .non, .non => true
  | .bl a, .bl b => a == b
  | .bl a, .int j => (if a then 1 else 0) == j
  | .int i, .bl b => i == (if b then 1 else 0)
  | .int i, .int j => i == j
  | .str x, .str y => x == y
  | .lst xs, .lst ys => eqvL xs ys
  | .tup xs, .tup ys => eqvL xs ys
  | _, _ => false
def eqvL : List D → List D → Bool
  | [], [] => true
  | x :: xs, y :: ys => eqv x y && eqvL xs ys
  | _, _ => false
end
mutual
/-- plain data of a depth: it can be compared by == -/
def plain : Nat → D → Bool
  | _, .non => true
  | _, .bl _ => true
  | _, .int _ => true
  | _, .str _ => true
  | n + 1, .lst xs => plainL n xs
  | n + 1, .tup xs => plainL n xs
  | _, _ => false
def plainL : Nat → List D → Bool
  | _, [] => true
  | n, x :: xs => plain n x && plainL n xs
end
/-- numbers, texts, tuples: data that a dict may have as a key -/
def b2i (b : Bool) : Int := if b then 1 else 0
mutual
def keyB : Nat → D → Bool
  | _, .int _ => true
  | _, .str _ => true
  | n + 1, .tup xs => keyBL n xs
  | _, _ => false
def keyBL : Nat → List D → Bool
  | _, [] => true
  | n, x :: xs => keyB n x && keyBL n xs
end
mutual
/-- a total order: by kind, then by value -/
def cmpD : D → D → Ordering
  | .int i, .int j => compare i j
  | .int i, .bl b => compare i (b2i b)
  | .bl a, .int j => compare (b2i a) j
  | .bl a, .bl b => compare (b2i a) (b2i b)
  | .str x, .str y => compare x y
  | .tup xs, .tup ys => cmpL xs ys
  | .lst xs, .lst ys => cmpL xs ys
  | _, _ => .eq
def cmpL : List D → List D → Ordering
  | [], [] => .eq
  | [], _ :: _ => .lt
  | _ :: _, [] => .gt
  | x :: xs, y :: ys => (cmpD x y).then (cmpL xs ys)
end
/-- a shape: data of one shape can be compared by < -/
inductive Sh where
  | int | str | tup (ss : List Sh) | seq (s : Sh)
  deriving Inhabited
mutual
def Sh.has : Sh → D → Bool
  | .int, .int _ => true
  | .str, .str _ => true
  | .tup ss, .tup xs => hasL ss xs
  | .seq s, .tup xs => hasA s xs
  | _, _ => false
def hasL : List Sh → List D → Bool
  | [], [] => true
  | s :: ss, x :: xs => s.has x && hasL ss xs
  | _, _ => false
def hasA : Sh → List D → Bool
  | _, [] => true
  | s, x :: xs => s.has x && hasA s xs
end
def sv (s : List Nat) : PySem.Str := ⟨s.toArray⟩
end Ip

set_option Elab.async false
set_option linter.all false
set_option maxRecDepth 100000
set_option maxHeartbeats 400000
/-! IpLook: the look at the written part: what a law's head asks. -/
namespace Ip
open PySem PySem.Spec PyProof.Rows L2
open He (ga ma Fa DefD SaysD obsD valD frG AlD emptyTab lookup_mem frG_mem tabsB cT emptyTab_eq)
structure Tb where
  gs : List Str
  ft : List (Str × Nat)
  ks : List (Str × D)
  pl : List Nat
  /-- the classes of exceptions with an attribute; the defs that catch: name, class -/
  xi : List (Nat × String)
  ct : List (Str × Nat)
  /-- calls by keywords: the def, the names, where each parameter's value stands -/
  kw : List (Nat × List Str × List Nat)
def bltL : List Str := ["len", "abs", "int", "min", "max", "sorted", "list", "tuple", "dict", "set", "sum", "any", "all", "repr", "str", "range", "isinstance", "ord", "reversed", "bool", "enumerate", "zip", "super", "ValueError"]
def notStar0 : Expr → Bool
  | .Starred _ _ => false
  | _ => true
def xiL : List Str := ["corner", "at", "hand", "line", "most", "paper"]
def xiPar (ps : Arguments) (f : Str) : Bool := match ps with
  | ⟨[], [a, b], none, [], [], none, []⟩ => decide (a.arg = "self") && decide (b.arg = f)
  | _ => false
def xiBody (b : List Stmt) (f : Str) : Bool := match b with
  | [.Expr (.Call (.Attribute (.Call (.Name s _) [] [] _) i ap) [.Constant (.str _) _ _] [] p) _, .Assign [.Attribute (.Name x _) g _] (.Name y _) _] =>
      decide (s = "super") && decide (i = "__init__") && decide (x = "self") && decide (g = f) && decide (y = f) && decide (ap.endLine = p.line)
  | _ => false
def xiScope (sc : Scope) (f : Str) : Bool := decide (sc.kind = .function) && !sc.isCoroutine && !sc.isGenerator && sc.names.all (fun y => y.2 != .cell) && sc.names.all (fun y => !(y.2 == .free) || decide (y.1 = "__class__")) &&
  decide (sc.names.lookup ("self" : Str) = some .local) && decide (sc.names.lookup f = some .local) && decide (sc.names.lookup ("__class__" : Str) = some .free) && decide (sc.names.lookup ("super" : Str) = some .globalImplicit)
def oexB (K : PySem.W.Frag) (C : Addr) : Bool := (match K.lookup C with
  | some ⟨.type t, _, .cls ⟨_, _, .ref c :: bm, _, _, true, _, _, _, _, false⟩, ⟨[_, _, _, _, some (.builtin id), _]⟩⟩ => decide (t = "type") && decide (c = C) && PySem.HandSPX.refsVE bm && decide (id = "ValueError.__new__")
  | _ => false) && decide (PySem.W.findIn K (.ref C) "__setattr__" = some (some (.builtin "object.__setattr__"))) && decide (PySem.W.subIn K (.ref C) (.type "BaseException") = some true) && decide (PySem.W.typeIn K (.ref C) = some (.type "type")) && PySem.W.keepIn K (.ref C)
def xicB (K : PySem.W.Frag) (C : Addr) (f : Str) : Bool := oexB K C && (decide (PySem.W.findIn K (.ref C) f = some none) && (decide (PySem.W.ks_superIn K C C "__init__" = some (some (.builtin "ValueError.__init__"))) && (decide (PySem.W.subIn K (.ref C) (.type "ValueError") = some true) &&
  (decide (PySem.W.mroIn K C (.ref C) = some true) && (decide (PySem.W.nsIn K cStatics "thirdparty.any" = some none) && decide (f ∈ xiL))))))
def cellB (K : PySem.W.Frag) (cc C : Addr) : Bool := match K.lookup cc with
  | some ⟨_, _, .cell (some (.ref c)), _⟩ => decide (c = C)
  | _ => false
def codeB (P : Program) (K : PySem.W.Frag) (cda : Addr) : Bool := match K.lookup cda with
  | some ⟨_, _, .fields vs, _⟩ => (match (vs[2]? : Option Value) with
    | some (.str file _) => (P.main.file : Str) == file
    | _ => false)
  | _ => false
def xifB (P : Program) (K : PySem.W.Frag) (C fI : Addr) (f : Str) : Bool := match K.lookup fI with
  | some ⟨_, _, .func ⟨nm, qual, params, .stmts body, scope, gl, [(n0, cc)], .none, .none, _, _, _, .ref cda, _, bn⟩, _⟩ => decide (nm = "__init__") && (decide (gl = mainGlobals) && (decide (bn = builtinsNs) && (decide (n0 = "__class__") &&
      (PySem.W.codeIn K (.ref cda) qual && (xiPar params f && (xiBody body f && (xiScope scope f && (cellB K cc C && codeB P K cda))))))))
  | _ => false
def sysB (K : PySem.W.Frag) : Bool := match K.lookup sysModules with
  | some ⟨_, _, .dict _ _, _⟩ => true
  | _ => false
def excB (K : PySem.W.Frag) (D : Addr) : Bool :=
  decide (PySem.W.findIn K (.ref D) "__getattribute__" = some (some (.builtin "BaseException.__getattribute__"))) && (decide (PySem.W.findIn K (.ref D) "__getattr__" = some none) && (decide (PySem.W.subIn K (.ref D) (.type "BaseException") = some true) && (PySem.W.hasDictIn K D &&
  (decide (PySem.W.findIn K (.ref D) "__class__" = some (some (.builtin "object.__class__"))) && (decide (PySem.W.specialIn K (.builtin "object.__class__") "__get__" = some (some (.builtin "getset_descriptor.__get__"))) && (decide (PySem.W.takesIn K (.builtin "object.__class__") = some true) && decide (PySem.W.mroIn K D (.type "object") = some true)))))))
def ksB (K : PySem.W.Frag) (x : Str) : D → Bool
  | .int i => (Fa.int x i).ok K
  | .str s => (Fa.str x (sv s)).ok K
  | _ => false
def veB : List Value := [.type "ValueError", .type "Exception", .type "BaseException", .type "object"]
def subA (anc : Nat → List Nat) (i j : Nat) : Bool := (anc i).contains j
def clB (K : PySem.W.Frag) (C : Addr) : Bool := (PySem.W.clsIn K C).isSome && PySem.W.typeIn K (.ref C) == some (.type "type")
def mrB (gs : List Str) (anc : Nat → List Nat) (K : PySem.W.Frag) (i : Nat) (C : Addr) : Bool := (anc i).contains i && ((anc i).all (fun k => decide (k < gs.length)) && (PySem.W.clsIn K C).any fun cd => cd.mro == (anc i).map (fun k => Value.ref (ga K (gs.getD k Str.empty))) ++ veB)
def incB : List Nat → Bool
  | a :: b :: r => decide (a < b) && incB (b :: r)
  | _ => true
def allX (B : Tb) : List Nat := B.pl ++ B.xi.map (·.1)
def factsB (P : Program) (B : Tb) (anc : Nat → List Nat) (xi : Nat → Option String) (K : PySem.W.Frag) : Bool :=
  (B.gs.all (fun x => (Fa.glo x).ok K) && B.ft.all (fun p => (Fa.glo p.1).ok K)) && (bltL.all (fun x => (Fa.free x).ok K) && (B.ks.all (fun p => ksB K p.1 p.2) &&
  (B.pl.all (fun j => match B.gs[j]? with
    | some x => (Fa.exc x).ok K && excB K (ga K x)
    | none => true) &&
  (((allX B).all (fun i => match B.gs[i]? with
    | some x => mrB B.gs anc K i (ga K x) && decide (PySem.W.subIn K (.ref (ga K x)) (.type "BaseException") = some true)
    | none => true) && (B.gs.all (fun x => clB K (ga K x)) && incB (B.gs.map (ga K)))) &&
  ((allX B).all (fun i => match B.gs[i]? with
    | some x => decide (PySem.W.kitOne K (.ref (ga K x)) (.type "ValueError") = some true)
    | none => true) &&
  (B.xi.all (fun p => match B.gs[p.1]? with
    | some x => xifB P K (ga K x) (He.ma K (ga K x) "__init__") p.2 && (xicB K (ga K x) p.2 && (decide (PySem.W.findIn K (.ref (ga K x)) "__init__" = some (some (.ref (He.ma K (ga K x) "__init__")))) && (decide (PySem.W.typeIn K (.ref (He.ma K (ga K x) "__init__")) = some (.type "function")) && (xfB K (ga K x) && excB K (ga K x)))))
    | none => true) && (B.pl.all (fun j => (xi j).isNone) && (B.xi.all (fun p => decide (xi p.1 = some p.2)) && (sysB K && (B.ct.all (fun p => (Fa.glo p.1).ok K) && (B.xi.isEmpty || !(P.main.scope.names.lookup ("super" : Str)).isSome)))))))))))
def isLs (o : Obj) : Bool := match o.cls with
  | .type c => decide (c = "list")
  | _ => false
/-- the kept part: what the top names, without lists and empty tables -/
def kept (g : Addr → Option Obj) (as : List Addr) : PySem.W.Frag := (frG g as).filter fun q => !(isLs q.2 || emptyTab q.2)
theorem kept_mem {g : Addr → Option Obj} {as : List Addr} {a : Addr} {o : Obj} (h : (kept g as).lookup a = some o) : g a = some o ∧ isLs o = false ∧ emptyTab o = false := by
  obtain ⟨h1, h2⟩ := List.mem_filter.mp (lookup_mem h)
  simp only [Bool.not_eq_true', Bool.or_eq_false_iff] at h2
  exact ⟨frG_mem h1, h2.1, h2.2⟩
theorem kept_in {as : List Addr} {h : Heap} : (kept h.get? as).In h := fun _ _ e => (kept_mem e).1
/-- what the look says -/
structure Says (fn : List DefD) (tf : List He.Defn) (ex : PySem.W.Frag → Bool) (h : Heap) (K : PySem.W.Frag) : Prop where
  d : SaysD [] fn K
  more : ex K = true
  nol : ∀ a o, K.lookup a = some o → isLs o = false
  hd : ∀ p ∈ tf, PySem.W.codeHdIn K (cT K p).1 (cT K p).2 = true
  out : ∀ p ∈ tf, K.lookup (cT K p).2 = none
  empty : ∀ p ∈ tf, h.get? (cT K p).2 = some { cls := .none, data := .fields #[] }
/-- what is looked at: the module's names, the classes, their namespaces, the defs, their code -/
def adr (g : Addr → Option Obj) (x : Str) : Addr := He.ga (frG g [mainGlobals]) x
def nsA (g : Addr → Option Obj) (C : Addr) : List Addr := match g C with
  | some ⟨_, _, .cls cd, _⟩ => [cd.ns]
  | _ => []
def codA (g : Addr → Option Obj) (f : Addr) : List Addr := match g f with
  | some ⟨_, _, .func fd, _⟩ => He.refV fd.code ++ fd.closure.map (·.2)
  | _ => []
def asE (B : Tb) (g : Addr → Option Obj) : List Addr := mainGlobals :: ((B.gs.flatMap fun x => adr g x :: nsA g (adr g x)) ++ (((B.ft ++ B.ct).flatMap fun p => adr g p.1 :: codA g (adr g p.1)) ++ ((B.xi.flatMap fun p => match B.gs[p.1]? with
  | some x => He.ma (frG g (adr g x :: nsA g (adr g x))) (adr g x) "__init__" :: codA g (He.ma (frG g (adr g x :: nsA g (adr g x))) (adr g x) "__init__")
  | none => []) ++ [cStatics, sysModules])))
abbrev AlN : Type := AlD × Bool
def obsN (n : Tb) (fn : List DefD) (tf : List He.Defn) (ex : PySem.W.Frag → Bool) (g : Addr → Option Obj) : AlN := (obsD [] fn (kept g (asE n g)), ex (kept g (asE n g)) && tabsB g tf (kept g (asE n g)))
def valN (fn : List DefD) : AlN := (valD fn, true)
theorem says_of {n : Tb} {fn : List DefD} {tf : List He.Defn} {ex : PySem.W.Frag → Bool} {h : Heap} (e : obsN n fn tf ex h.get? = valN fn) : Says fn tf ex h (kept h.get? (asE n h.get?)) := by
  have e1 : obsD [] fn (kept h.get? (asE n h.get?)) = valD fn := congrArg Prod.fst e
  have e2 : (ex (kept h.get? (asE n h.get?)) && tabsB h.get? tf (kept h.get? (asE n h.get?))) = true := congrArg Prod.snd e
  rw [Bool.and_eq_true] at e2
  have key : ∀ p ∈ tf, PySem.W.codeHdIn (kept h.get? (asE n h.get?)) (cT (kept h.get? (asE n h.get?)) p).1 (cT (kept h.get? (asE n h.get?)) p).2 = true ∧ ∃ o, h.get? (cT (kept h.get? (asE n h.get?)) p).2 = some o ∧ emptyTab o = true := fun p hp => by
    have q := List.all_eq_true.mp e2.2 p hp
    rw [Bool.and_eq_true] at q
    refine ⟨q.1, ?_⟩
    have q2 := q.2
    split at q2
    · rename_i o eo
      exact ⟨o, eo, q2⟩
    · cases q2
  refine ⟨e1, e2.1, fun a o q => (kept_mem q).2.1, fun p hp => (key p hp).1, fun p hp => ?_, fun p hp => ?_⟩
  · obtain ⟨_, o, q, z⟩ := key p hp
    cases r : (kept h.get? (asE n h.get?)).lookup (cT (kept h.get? (asE n h.get?)) p).2 with
    | none => rfl
    | some u =>
      obtain ⟨k1, _, k3⟩ := kept_mem r
      rw [q] at k1
      cases k1
      rw [z] at k3
      cases k3
  · obtain ⟨_, o, q, z⟩ := key p hp
    rw [q, emptyTab_eq z]
def hookN (n : Tb) (fn : List DefD) (tf : List He.Defn) (ex : PySem.W.Frag → Bool) : PySem.W.Hook where
  α := AlN
  obs := fun s => obsN n fn tf ex s.heap.get?
  val := fun _ => valN fn
  says := fun _ h => ∃ K : PySem.W.Frag, K.In h ∧ Says fn tf ex h K
  of := fun _ _ e => ⟨_, kept_in, says_of e⟩
  keeps := fun _ _ _ ⟨K, hK, c⟩ k => ⟨K, PySem.W.Frag.In.keeps hK k, ⟨c.d, c.more, c.nol, c.hd, c.out, fun p hp => k _ _ (c.empty p hp)⟩⟩
theorem obsN_eq {n : Tb} {fn : List DefD} {tf : List He.Defn} {ex : PySem.W.Frag → Bool} {g : Addr → Option Obj} {s : Shared} (h : ∀ a, g a = s.heap.get? a) : obsN n fn tf ex g = (hookN n fn tf ex).obs s := by
  have e : g = s.heap.get? := funext h
  rw [e]
  rfl
def nmD : Stmt → Str
  | .FunctionDef n .. => n
  | _ => ""
def ddOf (s : Stmt) : He.DefD := ⟨(nmD s, none), nmD s, nmD s, defArgs s, defBody s, defScope s, [], []⟩
def tbl (K : PySem.W.Frag) (p : Str × Str) : Addr := (He.cT K (p.1, none)).2
/-- tables of different names -/
def tabUL (l : List (Str × Str)) (K : PySem.W.Frag) : Bool := l.all fun p => l.all fun q => decide (tbl K p = tbl K q → p.2 = q.2)
end Ip

set_option Elab.async false
set_option linter.all false
set_option maxRecDepth 100000
set_option maxHeartbeats 0
namespace Law
open PySem PySem.Spec PyProof.Rows L2 Ip
abbrev rw_ := PySem.Challenge.rw_waitless_k75_few_values_at_once_or_never
abbrev prog := PySem.Challenge.pw_waitless_k75_few_values_at_once_or_never
def B : Tb := { gs := (["HandError", "BadMany", "BadMost", "BadValues"] : List Str), ft := ([("is_number", 1), ("is_between", 3), ("need_many", 1), ("need_most", 1), ("need_few", 3), ("is_easy", 3), ("few_rounds", 3), ("few_paper", 3), ("_law_begun", 1), ("_law_blend", 1), ("_law_take", 2), ("_law_pick", 2), ("_law_is_number", 1), ("_law_is_row", 1), ("_law_hands", 1), ("_law_parts", 1), ("_law_long", 1), ("_law_rows_over", 2), ("_law_paper_right", 4), ("law", 1)] : List (Str × Nat)), ks := [("MOST_HANDS", .int 4)], pl := ([0, 1, 2, 3] : List Nat), xi := [], ct := [("_law_caught", 0)], kw := [(6, ["most", "values", "many"], [2, 1, 0]), (7, ["most", "values", "many"], [2, 1, 0])] }
def ancL : List (List Nat) := ([[0], [1, 0], [2, 0], [3, 0]] : List (List Nat))
def anc (i : Nat) : List Nat := ancL.getD i []
def xi (i : Nat) : Option String := (B.xi.find? fun p => p.1 == i).map (·.2)
def stm (i : Nat) : Stmt := prog.main.body.getD i (.Pass default)
def sts : List Stmt := [stm 7, stm 8, stm 10, stm 12, stm 14, stm 15, stm 16, stm 17, stm 19, stm 20, stm 21, stm 22, stm 24, stm 25, stm 26, stm 27, stm 28, stm 29, stm 30, stm 31, stm 23]
def ll : List (Str × Str) := [("law", "law.<locals>.<lambda>")]
def tf : List He.Defn := ll.map fun p => (p.1, none)
def fn : List He.DefD := sts.map ddOf
def exB (K : PySem.W.Frag) : Bool := factsB prog B anc xi K && tabUL ll K
abbrev R : PySem.W.OpenRow := PySem.W.OpenLaw.row rw_
abbrev hk : PySem.W.Hook := hookN B fn tf exB
def ob (s : PySem.W.SharedT) : AlN := obsN B fn tf exB (HandSHeadRun.getT s)
theorem ob_eq (s : PySem.W.SharedT) : ob s = hk.obs s.abs := obsN_eq (HandSHeadRun.getT_eq s)
def loose : List Str := (["HandError", "BadMany", "BadMost", "BadValues", "MOST_HANDS", "is_number", "is_between", "need_many", "need_most", "need_few", "is_easy", "few_rounds", "few_paper", "_law_begun", "_law_blend", "_law_take", "_law_pick", "_law_caught", "_law_is_number", "_law_is_row", "_law_hands", "_law_parts", "_law_long", "_law_rows_over", "_law_paper_right"] : List Str)
theorem run (w : World) : HandSHeadRun.RunEq R (PySem.W.view R.prog [31]) hk ob 8000 loose w := by
  intro os
  kernel_rfl
end Law

set_option Elab.async false
set_option linter.all false
/-! IpEv: small terms and what they come to. -/
namespace Ip

/-! ### what a run gives -/
inductive R (α : Type) where
  | ok (a : α) (h : Hv) | exc (e : D) (h : Hv) | bad
def M (α : Type) := Hv → R α
namespace M
variable {α β γ : Type}
def pure (a : α) : M α := fun h => .ok a h
def bad : M α := fun _ => .bad
def bind (m : M α) (f : α → M β) : M β := fun h => match m h with
  | .ok a h' => f a h'
  | .exc e h' => .exc e h'
  | .bad => .bad
end M
instance : Monad M where
  pure := M.pure
  bind := M.bind
section
variable {α β γ : Type}
@[simp] theorem M.pure_ap (a : α) (h : Hv) : (Pure.pure a : M α) h = .ok a h := rfl
@[simp] theorem M.bad_ap (h : Hv) : (M.bad : M α) h = .bad := rfl
theorem M.bind_ap (m : M α) (f : α → M β) (h : Hv) : (m >>= f) h = match m h with
  | .ok a h' => f a h'
  | .exc e h' => .exc e h'
  | .bad => .bad := rfl
theorem M.bind_ok {m : M α} {f : α → M β} {h h' : Hv} {a : α} (e : m h = .ok a h') : (m >>= f) h = f a h' := by rw [M.bind_ap, e]
theorem M.bind_exc {m : M α} {f : α → M β} {h h' : Hv} {e : D} (q : m h = .exc e h') : (m >>= f) h = .exc e h' := by rw [M.bind_ap, q]
theorem M.bind_bad {m : M α} {f : α → M β} {h : Hv} (q : m h = .bad) : (m >>= f) h = .bad := by rw [M.bind_ap, q]
@[simp] theorem M.pure_bind (a : α) (f : α → M β) : (Pure.pure a >>= f) = f a := rfl
@[simp] theorem M.bind_pure (m : M α) : (m >>= fun a => Pure.pure a) = m := by
  funext h
  rw [M.bind_ap]
  cases m h <;> rfl
@[simp] theorem M.bind_assoc (m : M α) (f : α → M β) (g : β → M γ) : ((m >>= f) >>= g) = m >>= fun a => f a >>= g := by
  funext h
  rw [M.bind_ap, M.bind_ap, M.bind_ap]
  cases m h <;> rfl
@[simp] theorem M.bad_bind (f : α → M β) : ((M.bad : M α) >>= f) = M.bad := rfl
end

/-! ### terms -/
inductive Bop where
  | add | sub | mul | fdiv | mod | pow | bor
  deriving DecidableEq, Inhabited
inductive Cop where
  | eq | ne | lt | le | gt | ge | isin | notin | is_ | isnot
  deriving DecidableEq, Inhabited
/-- the built-in functions -/
inductive Fn where
  | len | abs | int | min | max | sorted | list | tuple | dict | set | sum | any | all | repr | str | range | isinst | ord | reversed | bool | dlist | dsort | dmx
  deriving DecidableEq, Inhabited
/-- what reads data and makes data -/
inductive Pr where
  | bin (o : Bop) | cmp (o : Cop) | neg | item | slice (lo hi : Bool) | tup | lst | dct | fn (f : Fn) | meth (n : Nat) | attr (n : String)
  deriving DecidableEq, Inhabited
/-- how an iterable is walked -/
inductive Ik where
  | plain | raw | range | rngv | enum | zip | items | values | rev
  deriving DecidableEq, Inhabited
/-- targets -/
inductive Pt where
  | var (i : Nat) | pair (a b : Pt) | tri (a b c : Pt)
  deriving DecidableEq, Inhabited
inductive Ex where
  | nil | cons (a r : Ex)
  | cst (d : D) | var (i : Nat)
  | pr (p : Pr) (es : Ex) | slc (a b d : Ex)
  | nt (a : Ex) | and (a b : Ex) | or (a b : Ex) | chn (o p : Cop) (a b c : Ex) | ite (c a b : Ex)
  | call (md : Nat) (f : Nat) (es : Ex)
  | callk (md : Nat) (f : Nat) (n : Nat) (pm : List Nat) (es : Ex)
  | callw (i : Nat) (es : Ex)
  | alp (p : Pr) (es : Ex) | nlst (es : Ex) | ndct (es : Ex)
  | frz (a : Ex)
  | lam (l : Nat) (cs : List Nat)
  | app (a e : Ex) | pop (a : Ex) | popi (a e : Ex) | dget (a b : Ex)
  | lc (al : Bool) (vs : List Nat) (k : Ik) (pt : Pt) (it r : Ex) | dc (vs : List Nat) (k : Ik) (pt : Pt) (it r : Ex)
  | gfor (k : Ik) (vs : List Nat) (pt : Pt) (it r : Ex) | gif (c r : Ex) | yld (e : Ex) | yld2 (a b : Ex)
  | lcn (al : Bool) (r : Ex) | dcn (r : Ex)
  | mk (c : Nat) (es : Ex) | mkk (c : Nat) (e : Ex) | cau (q : Nat) (e : Ex) | srt (f : Nat) (e : Ex) | mxk (e : Ex) | upd (a e : Ex)
  deriving Inhabited
inductive Sm where
  | sk | sq (a b : Sm) | asg (i : Nat) (e : Ex) | asgp (p : Pt) (e : Ex) | par (is : List Nat) (es : Ex) | ife (c : Ex) (a b : Sm) | ret (e : Ex) | exp (e : Ex)
  | dset (a k e : Ex) | whl (c : Ex) (b : Sm) | forr (k : Ik) (p : Pt) (it : Ex) (b : Sm) | brk | cnt | rais (e : Ex) | tryw (b : Sm) (c : Nat) (i : Nat) (a : Sm)
  /-- a list of lambdas, called one by one in a test's comprehension -/
  | wk (i j q : Nat) (d : D) (as : Ex) (b r : Sm)
  deriving Inhabited

def dats : List W → Option (List D)
  | [] => some []
  | .d x :: r => (dats r).map (x :: ·)
  | _ :: _ => none
/-- what a value reads as -/
def rdW (h : Hv) : W → Option D
  | .d x => some x
  | .ref n => match h[n]? with
    | some (.lst ws) => (dats ws).map D.lst
    | _ => none
  | _ => none
def rdWs (h : Hv) : List W → Option (List D)
  | [] => some []
  | w :: r => match rdW h w with
    | some d => (rdWs h r).map (d :: ·)
    | none => none
def ofO {α : Type} : Option α → M α
  | some a => Pure.pure a
  | none => M.bad
def asD : W → M D
  | .d x => Pure.pure x
  | _ => M.bad
def asB : W → M Bool
  | .d (.bl b) => Pure.pure b
  | _ => M.bad
def asR (ws : List W) : M (List D) := fun h => match rdWs h ws with
  | some ds => .ok ds h
  | none => .bad
end Ip

set_option Elab.async false
set_option linter.all false
set_option maxRecDepth 100000
/-! IpPrim: what the built-in operations do with data, in plain Lean. -/
namespace Ip
open PySem


mutual
def toP : D → PyData
  | .non => .none
  | .bl b => .bool b
  | .int i => .int i
  | .str s => .str (sv s)
  | .tup xs => .tuple (toPL xs)
  | .lst xs => .list (toPL xs)
  | _ => .none
def toPL : List D → List PyData
  | [] => []
  | x :: xs => toP x :: toPL xs
end
mutual
/-- None, dbools, dints, texts, tuples and lists of these -/
def pln : D → Bool
  | .non => true
  | .bl _ => true
  | .int _ => true
  | .str s => s.all (· < 0x110000)
  | .tup xs => plnL xs
  | .lst xs => plnL xs
  | _ => false
def plnL : List D → Bool
  | [] => true
  | x :: xs => pln x && plnL xs
end
mutual
def dep : D → Nat
  | .tup xs => depL xs + 1
  | .lst xs => depL xs + 1
  | _ => 0
def depL : List D → Nat
  | [] => 0
  | x :: xs => max (dep x) (depL xs)
end
theorem toPL_map : ∀ xs : List D, toPL xs = xs.map toP
  | [] => rfl
  | x :: xs => by rw [toPL, toPL_map xs]; rfl
theorem plnL_all : ∀ xs : List D, plnL xs = xs.all pln
  | [] => rfl
  | x :: xs => by rw [plnL, plnL_all xs]; rfl
mutual
theorem toP_lay : ∀ x : D, pln x = true → (toP x).canLay0 = true
  | .non, _ => by simp [toP, PyData.canLay0]
  | .bl _, _ => by simp [toP, PyData.canLay0]
  | .int _, _ => by simp [toP, PyData.canLay0]
  | .str s, h => by
    simp only [toP, PyData.canLay0, PyData.strOk, sv]
    simpa [pln] using h
  | .tup xs, h => by simp only [toP, PyData.canLay0]; exact toPL_lay xs (by simpa [pln] using h)
  | .lst xs, h => by simp only [toP, PyData.canLay0]; exact toPL_lay xs (by simpa [pln] using h)
  | .dct _, h => by simp [pln] at h
  | .tdc _, h => by simp [pln] at h
  | .rng _ _, h => by simp [pln] at h
  | .glo _, h => by simp [pln] at h
  | .ty _, h => by simp [pln] at h
  | .exc _ _, h => by simp [pln] at h
theorem toPL_lay : ∀ xs : List D, plnL xs = true → PyData.canLayAll0 (toPL xs) = true
  | [], _ => by simp [toPL, PyData.canLayAll0]
  | x :: xs, h => by
    simp only [plnL, Bool.and_eq_true] at h
    simp only [toPL, PyData.canLayAll0, Bool.and_eq_true]
    exact ⟨toP_lay x h.1, toPL_lay xs h.2⟩
end
mutual
theorem toP_dep : ∀ x : D, (toP x).depth = dep x
  | .non => by simp [toP, dep, PyData.depth]
  | .bl _ => by simp [toP, dep, PyData.depth]
  | .int _ => by simp [toP, dep, PyData.depth]
  | .str s => by simp [toP, dep, PyData.depth]
  | .tup xs => by simp only [toP, dep, PyData.depth]; rw [toPL_dep xs]
  | .lst xs => by simp only [toP, dep, PyData.depth]; rw [toPL_dep xs]
  | .dct _ => by simp [toP, dep, PyData.depth]
  | .tdc _ => by simp [toP, dep, PyData.depth]
  | .rng _ _ => by simp [toP, dep, PyData.depth]
  | .glo _ => by simp [toP, dep, PyData.depth]
  | .ty _ => by simp [toP, dep, PyData.depth]
  | .exc _ _ => by simp [toP, dep, PyData.depth]
theorem toPL_dep : ∀ xs : List D, PyData.depthAll (toPL xs) = depL xs
  | [] => by simp [toPL, depL, PyData.depthAll]
  | x :: xs => by simp only [toPL, depL, PyData.depthAll]; rw [toP_dep x, toPL_dep xs]
end
theorem sv_eq {a b : List Nat} : sv a = sv b ↔ a = b := by
  constructor
  · intro h
    have h2 : a.toArray = b.toArray := Str.mk.inj h
    simpa using h2
  · rintro rfl; rfl
theorem sv_beq (a b : List Nat) : (sv a == sv b) = (a == b) := by
  rw [Bool.eq_iff_iff]
  simp [sv_eq]
mutual
theorem toP_eqv : ∀ x y : D, pln x = true → pln y = true → PyData.eqv (toP x) (toP y) = eqv x y
  | .non, y, _, hy => by cases y <;> simp [pln] at hy <;> simp [toP, eqv, PyData.eqv]
  | .bl _, y, _, hy => by cases y <;> simp [pln] at hy <;> simp [toP, eqv, PyData.eqv]
  | .int _, y, _, hy => by cases y <;> simp [pln] at hy <;> simp [toP, eqv, PyData.eqv]
  | .str s, y, _, hy => by cases y <;> simp [pln] at hy <;> simp [toP, eqv, PyData.eqv, sv_beq]
  | .tup xs, y, hx, hy => by
    cases y with
    | tup ys => simp only [toP, eqv, PyData.eqv]; exact toPL_eqv xs ys (by simpa [pln] using hx) (by simpa [pln] using hy)
    | _ => first | (simp [pln] at hy; done) | simp [toP, eqv, PyData.eqv]
  | .lst xs, y, hx, hy => by
    cases y with
    | lst ys => simp only [toP, eqv, PyData.eqv]; exact toPL_eqv xs ys (by simpa [pln] using hx) (by simpa [pln] using hy)
    | _ => first | (simp [pln] at hy; done) | simp [toP, eqv, PyData.eqv]
  | .dct _, _, h, _ => by simp [pln] at h
  | .tdc _, _, h, _ => by simp [pln] at h
  | .rng _ _, _, h, _ => by simp [pln] at h
  | .glo _, _, h, _ => by simp [pln] at h
  | .ty _, _, h, _ => by simp [pln] at h
  | .exc _ _, _, h, _ => by simp [pln] at h
theorem toPL_eqv : ∀ xs ys : List D, plnL xs = true → plnL ys = true → PyData.eqvAll (toPL xs) (toPL ys) = eqvL xs ys
  | [], [], _, _ => by simp [toPL, eqvL, PyData.eqvAll]
  | [], _ :: _, _, _ => by simp [toPL, eqvL, PyData.eqvAll]
  | _ :: _, [], _, _ => by simp [toPL, eqvL, PyData.eqvAll]
  | x :: xs, y :: ys, hx, hy => by
    simp only [plnL, Bool.and_eq_true] at hx hy
    simp only [toPL, eqvL, PyData.eqvAll]
    rw [toP_eqv x y hx.1 hy.1, toPL_eqv xs ys hx.2 hy.2]
end
/-- == can be asked -/
def shp (x : D) : Bool := pln x && decide (dep x ≤ 64)
theorem shp_ok {x : D} (h : shp x = true) : pln x = true ∧ SeqAt.shaped (toP x) = true := by
  simp only [shp, Bool.and_eq_true, decide_eq_true_eq] at h
  refine ⟨h.1, ?_⟩
  simp only [SeqAt.shaped, Bool.and_eq_true, decide_eq_true_eq, toP_dep]
  exact ⟨toP_lay x h.1, h.2⟩

/-! ### dicts: keys that are ints or texts -/
def keyK : D → Option L2.Key
  | .int i => some (.inl i)
  | .str s => some (.inr (sv s))
  | _ => none
mutual
/-- a key's key: whole numbers, tuples of such -/
def nkD : D → Option NestedKey
  | .int i => some (.num i)
  | .tup xs => (nkL xs).map .tup
  | _ => none
def nkL : List D → Option (List NestedKey)
  | [] => some []
  | x :: xs => match nkD x, nkL xs with
    | some a, some b => some (a :: b)
    | _, _ => none
end
/-- a tuple that may be a key -/
def tkD (x : D) : Option NestedKey := match x with
  | .tup xs => match nkL xs with
    | some ks => if (NestedKey.tup ks).depth ≤ 8 then some (.tup ks) else none
    | none => none
  | _ => none
def getK {α : Type} (kvs : List (D × α)) (k : D) : Option α := (kvs.find? fun p => decide (p.1 = k)).map (·.2)
def setK {α : Type} (kvs : List (D × α)) (k : D) (v : α) : List (D × α) := if kvs.any (fun p => decide (p.1 = k)) then kvs.map (fun p => if p.1 = k then (p.1, v) else p) else kvs ++ [(k, v)]
theorem sv_inj {a b : List Nat} (h : sv a = sv b) : a = b := sv_eq.mp h
theorem keyK_inj {a b : D} {k : L2.Key} (h1 : keyK a = some k) (h2 : keyK b = some k) : a = b := by
  cases a <;> first | (cases h1; done) | skip
  · cases b <;> first | (cases h2; done) | skip
    · cases h1; cases h2; rfl
    · cases h1; cases h2
  · cases b <;> first | (cases h2; done) | skip
    · cases h1; cases h2
    · rename_i x y
      have e1 : Sum.inr (sv x) = k := Option.some.inj h1
      have e2 : Sum.inr (sv y) = k := Option.some.inj h2
      have e3 : (Sum.inr (sv x) : L2.Key) = Sum.inr (sv y) := e1.trans e2.symm
      rw [sv_inj (Sum.inr.inj e3)]

/-! ### order -/
mutual
def alk : D → D → Bool
  | .bl _, .bl _ => true
  | .int _, .int _ => true
  | .str _, .str _ => true
  | .tup xs, .tup ys => alkL xs ys
  | .lst xs, .lst ys => alkL xs ys
  | _, _ => false
def alkL : List D → List D → Bool
  | [], _ => true
  | _ :: _, [] => true
  | x :: xs, y :: ys => alk x y && alkL xs ys
end
mutual
/-- x < y -/
def ltv : D → D → Bool
  | .bl a, .bl b => !a && b
  | .int i, .int j => decide (i < j)
  | .str x, .str y => decide (x < y)
  | .tup xs, .tup ys => ltvL xs ys
  | .lst xs, .lst ys => ltvL xs ys
  | _, _ => false
def ltvL : List D → List D → Bool
  | [], [] => false
  | [], _ :: _ => true
  | _ :: _, [] => false
  | x :: xs, y :: ys => if eqv x y then ltvL xs ys else ltv x y
end
mutual
theorem alk_pln : ∀ x y : D, alk x y = true → PySem.W.alike (toP x) (toP y) = true
  | .bl _, y, h => by cases y <;> simp [alk] at h; simp [toP, W.alike]
  | .int _, y, h => by cases y <;> simp [alk] at h; simp [toP, W.alike]
  | .str _, y, h => by cases y <;> simp [alk] at h; simp [toP, W.alike]
  | .tup xs, y, h => by
    cases y with
    | tup ys => simp only [toP, W.alike]; exact alkL_pln xs ys (by simpa [alk] using h)
    | _ => simp [alk] at h
  | .lst xs, y, h => by
    cases y with
    | lst ys => simp only [toP, W.alike]; exact alkL_pln xs ys (by simpa [alk] using h)
    | _ => simp [alk] at h
  | .non, y, h => by simp [alk] at h
  | .dct _, y, h => by simp [alk] at h
  | .tdc _, y, h => by simp [alk] at h
  | .rng _ _, y, h => by simp [alk] at h
  | .glo _, y, h => by simp [alk] at h
  | .ty _, y, h => by simp [alk] at h
  | .exc _ _, y, h => by simp [alk] at h
theorem alkL_pln : ∀ xs ys : List D, alkL xs ys = true → PySem.W.alikeAll (toPL xs) (toPL ys) = true
  | [], ys, _ => by simp [toPL, W.alikeAll]
  | _ :: _, [], _ => by simp [toPL, W.alikeAll]
  | x :: xs, y :: ys, h => by
    simp only [alkL, Bool.and_eq_true] at h
    simp only [toPL, W.alikeAll, Bool.and_eq_true]
    exact ⟨alk_pln x y h.1, alkL_pln xs ys h.2⟩
end
mutual
theorem ltv_ok : ∀ x y : D, pln x = true → pln y = true → alk x y = true → PySem.W.dataLt (toP x) (toP y) = ltv x y
  | .bl a, y, _, _, h => by
    cases y with
    | bl b => cases a <;> cases b <;> simp [toP, ltv, W.dataLt, W.keyToks, PyProof.Rows.lexLt, PyProof.Rows.itemLt]
    | _ => simp [alk] at h
  | .int i, y, _, _, h => by
    cases y <;> simp [alk] at h
    simp [toP, ltv, W.dataLt, W.keyToks, PyProof.Rows.lexLt, PyProof.Rows.itemLt]
  | .str x, y, _, _, h => by
    cases y <;> simp [alk] at h
    simp [toP, ltv, W.dataLt, W.keyToks, PyProof.Rows.lexLt, PyProof.Rows.itemLt, sv, PyProof.Rows.strKind]
  | .tup xs, y, hx, hy, h => by
    cases y with
    | tup ys =>
      simp only [ltv]
      rw [← ltvL_ok xs ys (by simpa [pln] using hx) (by simpa [pln] using hy) (by simpa [alk] using h)]
      simp only [toP, W.dataLt, W.keyToks]
    | _ => simp [alk] at h
  | .lst xs, y, hx, hy, h => by
    cases y with
    | lst ys =>
      simp only [ltv]
      rw [← ltvL_ok xs ys (by simpa [pln] using hx) (by simpa [pln] using hy) (by simpa [alk] using h)]
      simp only [toP, W.dataLt, W.keyToks]
    | _ => simp [alk] at h
  | .non, y, _, _, h => by simp [alk] at h
  | .dct _, y, _, _, h => by simp [alk] at h
  | .tdc _, y, _, _, h => by simp [alk] at h
  | .rng _ _, y, _, _, h => by simp [alk] at h
  | .glo _, y, _, _, h => by simp [alk] at h
  | .ty _, y, _, _, h => by simp [alk] at h
  | .exc _ _, y, _, _, h => by simp [alk] at h
theorem ltvL_ok : ∀ xs ys : List D, plnL xs = true → plnL ys = true → alkL xs ys = true → PyProof.Rows.lexLt PyProof.Rows.itemOrd (PySem.W.keyToksAll (toPL xs)) (PySem.W.keyToksAll (toPL ys)) = ltvL xs ys
  | [], [], _, _, _ => by simp [toPL, ltvL, W.keyToksAll, PyProof.Rows.lex_irrefl]
  | [], y :: ys, _, _, _ => by
    simp only [toPL, ltvL, W.keyToksAll]
    exact PyProof.Rows.lex_true.mpr (.inl (by simp [PyProof.Rows.itemLt]))
  | x :: xs, [], _, _, _ => by
    simp only [toPL, ltvL, W.keyToksAll]
    exact PyProof.Rows.lex_false.mpr ⟨by simp [PyProof.Rows.itemLt], .inl (by simp [PyProof.Rows.itemLt])⟩
  | x :: xs, y :: ys, hx, hy, h => by
    simp only [alkL, Bool.and_eq_true] at h
    simp only [plnL, Bool.and_eq_true] at hx hy
    simp only [toPL, ltvL]
    rw [W.dataLt_cons (alk_pln x y h.1), toP_eqv x y hx.1 hy.1, ltv_ok x y hx.1 hy.1 h.1, ltvL_ok xs ys hx.2 hy.2 h.2]
end

/-! ### the operations -/
def lim : Nat := 16777216
def dbin : Bop → D → D → Option D
  | .add, .int i, .int j => some (.int (i + j))
  | .add, .str a, .str b => if a.length + b.length ≤ lim then some (.str (a ++ b)) else none
  | .add, .lst a, .lst b => if a.length + b.length ≤ lim then some (.lst (a ++ b)) else none
  | .add, .tup a, .tup b => if a.length + b.length ≤ lim then some (.tup (a ++ b)) else none
  | .sub, .int i, .int j => some (.int (i - j))
  | .mul, .int i, .int j => if (-(2 ^ 64) < i ∧ i < 2 ^ 64) ∨ (-(2 ^ 64) < j ∧ j < 2 ^ 64) then some (.int (i * j)) else none
  | .fdiv, .int i, .int j => if j ≠ 0 ∧ j.natAbs < 1073741824 then some (.int (i.fdiv j)) else none
  | .mod, .int i, .int j => if j ≠ 0 then some (.int (i.fmod j)) else none
  | .pow, .int i, .int j => if 0 ≤ j ∧ j ≤ 1000000 ∧ i.natAbs < 2 ^ 64 then some (.int (i ^ j.toNat)) else none
  | _, _, _ => none
def seqOf : D → Option (List D)
  | .lst xs => some xs
  | .tup xs => some xs
  | _ => none
mutual
/-- data that may be asked == with itself: dicts with tuples as keys, too -/
def sok : Nat → D → Bool
  | _, .non => true
  | _, .bl _ => true
  | _, .int _ => true
  | _, .str s => s.all (· < 0x110000)
  | n + 1, .tup xs => sokL n xs
  | n + 1, .lst xs => sokL n xs
  | n + 1, .tdc kvs => sokP n kvs
  | _, _ => false
def sokL : Nat → List D → Bool
  | _, [] => true
  | n, x :: xs => sok n x && sokL n xs
def sokP : Nat → List (D × D) → Bool
  | _, [] => true
  | n, (_, x) :: r => sok n x && sokP n r
end
def eqD (x y : D) : Option Bool := if shp x && shp y then some (eqv x y) else none
def isSq : D → Bool
  | .tup _ => true
  | .lst _ => true
  | _ => false
def eqE (x y : D) : Option Bool := match eqD x y with
  | some b => some b
  | none => if sok 40 x && isSq x && decide (x = y) then some true else none
def inD (x : D) (xs : List D) : Option Bool := if shp x && xs.all shp then some (xs.any fun y => eqv y x) else none
def cmpOk (x y : D) : Bool := shp x && shp y && alk x y && alk y x
def ltD (x y : D) : Option Bool := if cmpOk x y then some (ltv x y) else none
def dcmp : Cop → D → D → Option Bool
  | .eq, x, y => eqE x y
  | .ne, x, y => (eqE x y).map not
  | .lt, .int i, .int j => some (decide (i < j))
  | .le, .int i, .int j => some (decide (i ≤ j))
  | .gt, .int i, .int j => some (decide (j < i))
  | .ge, .int i, .int j => some (decide (j ≤ i))
  | .lt, x, y => ltD x y
  | .le, x, y => (ltD y x).map not
  | .gt, x, y => ltD y x
  | .ge, x, y => (ltD x y).map not
  | .is_, x, .non => some (decide (x = .non))
  | .isnot, x, .non => some (!decide (x = .non))
  | .isin, x, y => match seqOf y with
    | some xs => inD x xs
    | none => match x, y with
      | .int i, .rng lo hi => some (decide (lo ≤ i ∧ i < hi))
      | k, .dct kvs => if (keyK k).isSome then some (getK kvs k).isSome else none
      | _, _ => none
  | .notin, x, y => match seqOf y with
    | some xs => (inD x xs).map not
    | none => match y with
      | .dct kvs => if (keyK x).isSome then some (!(getK kvs x).isSome) else none
      | _ => none
  | _, _, _ => none
def cutD (xs : List D) (lo hi : Option Int) : List D := (xs.drop (HT.sIx xs.length 0 lo)).take (HT.sIx xs.length xs.length hi - HT.sIx xs.length 0 lo)
def ditem : D → D → Option D
  | .dct kvs, k => if (keyK k).isSome then getK kvs k else none
  | .tdc kvs, k => if (tkD k).isSome then getK kvs k else none
  | .lst xs, .int i => L2.atI xs i
  | .tup xs, .int i => L2.atI xs i
  | .str s, .int i => if s.length ≤ lim then (L2.atI s i).map fun c => .str [c] else none
  | _, _ => none
def dlen : D → Option Nat
  | .str s => if s.length ≤ lim then some s.length else none
  | .lst xs => some xs.length
  | .tup xs => some xs.length
  | .dct kvs => some kvs.length
  | _ => none
/-- isinstance -/
def tyName : D → Option String
  | .non => some "NoneType"
  | .bl _ => some "bool"
  | .int _ => some "int"
  | .str _ => some "str"
  | .tup _ => some "tuple"
  | .lst _ => some "list"
  | .dct _ => some "dict"
  | .tdc _ => some "dict"
  | _ => none
def tys : List String := ["NoneType", "bool", "int", "str", "tuple", "list", "dict"]
def isExc : D → Bool
  | .exc _ _ => true
  | _ => false
def disi (sub : Nat → Nat → Bool) (x : D) : D → Option Bool
  | .ty n => if tys.contains n then (tyName x).map fun m => m == n || (m == "bool" && n == "int") else if isExc x && decide (n = "ValueError") then some true else none
  | .glo k => match x with
    | .exc c _ => some (sub c k)
    | _ => none
  | _ => none
def dints : List D → Option (List Int)
  | [] => some []
  | .int i :: r => (dints r).map (i :: ·)
  | _ :: _ => none
def dbools : List D → Option (List Bool)
  | [] => some []
  | .bl i :: r => (dbools r).map (i :: ·)
  | _ :: _ => none
section
variable {α : Type}
def mergeF (le : α → α → Bool) : Nat → List α → List α → List α
  | 0, _, _ => []
  | n + 1, [], ys => ys
  | n + 1, xs, [] => xs
  | n + 1, x :: xs, y :: ys => if le x y then x :: mergeF le n xs (y :: ys) else y :: mergeF le n (x :: xs) ys
def msortF (le : α → α → Bool) : Nat → List α → List α
  | 0, xs => xs
  | n + 1, [] => []
  | n + 1, [a] => [a]
  | n + 1, a :: b :: r => mergeF le (r.length + 3) (msortF le n ((a :: b :: r).take ((r.length + 3) / 2))) (msortF le n ((a :: b :: r).drop ((r.length + 3) / 2)))
/-- a list sorted: as the library's, in a form that can be gone through -/
def msort (le : α → α → Bool) (xs : List α) : List α := msortF le xs.length xs
theorem mergeF_eq (le : α → α → Bool) : ∀ (n : Nat) (xs ys : List α), xs.length + ys.length < n → mergeF le n xs ys = List.merge xs ys le
  | 0, _, _, h => absurd h (Nat.not_lt_zero _)
  | n + 1, [], ys, _ => by simp [mergeF]
  | n + 1, x :: xs, [], _ => by simp [mergeF]
  | n + 1, x :: xs, y :: ys, h => by
    have h1 : xs.length + (y :: ys).length < n := by simp at h ⊢; omega
    have h2 : (x :: xs).length + ys.length < n := by simp at h ⊢; omega
    simp only [mergeF, List.cons_merge_cons, mergeF_eq le n _ _ h1, mergeF_eq le n _ _ h2]
theorem msortF_eq (le : α → α → Bool) : ∀ (n : Nat) (xs : List α), xs.length ≤ n → msortF le n xs = xs.mergeSort le
  | 0, xs, h => by
    have : xs = [] := List.length_eq_zero_iff.mp (Nat.le_zero.mp h)
    subst this
    simp [msortF]
  | n + 1, [], _ => by simp [msortF]
  | n + 1, [a], _ => by simp [msortF]
  | n + 1, a :: b :: r, h => by
    have h : r.length + 2 ≤ n + 1 := h
    rw [msortF, List.mergeSort]
    have e : ((r.length + 1 + 1 + 1) / 2) = (r.length + 3) / 2 := rfl
    have l1 : ((a :: b :: r).take ((r.length + 3) / 2)).length = (r.length + 3) / 2 := by
      rw [List.length_take]; simp; omega
    have l2 : ((a :: b :: r).drop ((r.length + 3) / 2)).length = r.length + 2 - (r.length + 3) / 2 := by
      rw [List.length_drop]; rfl
    rw [msortF_eq le n _ (by rw [l1]; omega), msortF_eq le n _ (by rw [l2]; omega), mergeF_eq]
    · simp [List.MergeSort.Internal.splitInTwo]
    · rw [List.length_mergeSort, List.length_mergeSort, l1, l2]
      omega
theorem msort_eq (le : α → α → Bool) (xs : List α) : msort le xs = xs.mergeSort le := msortF_eq le _ _ (Nat.le_refl _)
end
def sortD (xs : List D) : List D := msort (fun a b => !ltv b a) xs
def neTup : D → Bool
  | .tup (_ :: _) => true
  | _ => false
def noTup : D → Bool
  | .tup _ => false
  | .non => false
  | _ => true
def allAlk (xs : List D) : Bool := xs.all fun x => xs.all fun y => alk x y
def dsorted (xs : List D) : Option (List D) := if xs.all shp && allAlk xs && (xs.all neTup || xs.all noTup) && decide (xs.length ≤ lim) then some (sortD xs) else none
def sortK (ps : List (D × D)) : List (D × D) := msort (fun a b => !ltv b.1 a.1) ps
/-- sorted by keys -/
def dsortK (ps : List (D × D)) : Option (List D) := if (ps.map (·.1)).all shp && allAlk (ps.map (·.1)) && ((ps.map (·.1)).all neTup || (ps.map (·.1)).all noTup) && decide (ps.length ≤ lim) then some ((sortK ps).map (·.2)) else none
def dmin (xs : List D) : Option D := match dints xs with
  | some (n :: ns) => some (.int (ns.foldl min n))
  | _ => none
def dmax (xs : List D) : Option D := match dints xs with
  | some (n :: ns) => some (.int (ns.foldl max n))
  | _ => none
mutual
/-- what repr can be asked of, as the library reads it -/
def toR : D → PyData
  | .non => .none
  | .bl b => .bool b
  | .int i => .int i
  | .str s => .str (sv s)
  | .tup xs => .tuple (toRL xs)
  | .lst xs => .list (toRL xs)
  | .dct kvs => .dict (toRP kvs)
  | _ => .none
def toRL : List D → List PyData
  | [] => []
  | x :: xs => toR x :: toRL xs
def toRP : List (D × D) → List (PyData × PyData)
  | [] => []
  | (k, x) :: r => (toR k, toR x) :: toRP r
end
mutual
def rok : D → Bool
  | .non => true
  | .bl _ => true
  | .int _ => true
  | .str _ => true
  | .tup xs => rokL xs
  | .lst xs => rokL xs
  | .dct kvs => rokP kvs
  | _ => false
def rokL : List D → Bool
  | [] => true
  | x :: xs => rok x && rokL xs
def rokP : List (D × D) → Bool
  | [] => true
  | (k, x) :: r => (keyK k).isSome && rok x && rokP r
end
/-- repr -/
def drepr (x : D) : Option D := if rok x && (toR x).showable && decide ((toR x).depth ≤ 64) && decide ((toR x).shown.length ≤ lim) then some (.str (toR x).shown.cps.toList) else none
def dvals : D → Option D
  | .dct kvs => some (.lst (kvs.map (·.2)))
  | _ => none
def isPairs : List D → Option (List (D × D))
  | [] => some []
  | .tup [k, v] :: r => (isPairs r).map ((k, v) :: ·)
  | _ :: _ => none
def mergeD (kvs : List (D × D)) : List (D × D) → List (D × D)
  | [] => kvs
  | (k, v) :: r => mergeD (setK kvs k v) r
def allKK (kvs : List (D × D)) : Bool := kvs.all fun p => (keyK p.1).isSome
def ddict (xs : List D) : Option D := match isPairs xs with
  | some ps => if allKK ps && decide (ps.length ≤ lim) then some (.dct (mergeD [] ps)) else none
  | none => none
def dfn (sub : Nat → Nat → Bool) : Fn → List D → Option D
  | .repr, [x] => drepr x
  | .dict, [.lst xs] => ddict xs
  | .dlist, [.dct kvs] => some (.lst (kvs.map (·.1)))
  | .dlist, [.tdc kvs] => some (.lst (kvs.map (·.1)))
  | .dsort, [.dct kvs] => (match dints (kvs.map (·.1)) with
    | some ns => if kvs.length < 64 then some (.lst ((msort (fun a b => decide (a ≤ b)) ns).map D.int)) else none
    | none => none)
  | .dmx, [.dct kvs] => dmax (kvs.map (·.1))
  | .len, [x] => (dlen x).map fun n => .int n
  | .abs, [.int i] => some (.int (if i < 0 then -i else i))
  | .int, [.int i] => some (.int i)
  | .int, [.bl b] => some (.int (b2i b))
  | .min, [.int i, .int j] => some (.int (if j < i then j else i))
  | .max, [.int i, .int j] => some (.int (if j > i then j else i))
  | .min, [.lst xs] => dmin xs
  | .max, [.lst xs] => dmax xs
  | .sum, [.lst xs] => (dints xs).map fun ns => .int ns.sum
  | .any, [.lst xs] => (dbools xs).map fun bs => .bl (bs.any id)
  | .all, [.lst xs] => (dbools xs).map fun bs => .bl (bs.all id)
  | .list, [.lst xs] => some (.lst xs)
  | .list, [.tup xs] => some (.lst xs)
  | .tuple, [.lst xs] => some (.tup xs)
  | .tuple, [.tup xs] => some (.tup xs)
  | .sorted, [.lst xs] => (dsorted xs).map .lst
  | .isinst, [x, t] => (disi sub x t).map .bl
  | .range, [.int j] => some (.rng 0 j)
  | .range, [.int i, .int j] => some (.rng i j)
  | _, _ => none
/-- what an operation makes of data -/
def dprim (sub : Nat → Nat → Bool) : Pr → List D → Option D
  | .bin o, [x, y] => dbin o x y
  | .cmp o, [x, y] => (dcmp o x y).map .bl
  | .neg, [.int i] => some (.int (-i))
  | .item, [x, y] => ditem x y
  | .tup, ds => if ds.length ≤ lim then some (.tup ds) else none
  | .lst, ds => if ds.length ≤ lim then some (.lst ds) else none
  | .slice false false, [.lst xs] => some (.lst (cutD xs none none))
  | .slice true false, [.lst xs, .int i] => some (.lst (cutD xs (some i) none))
  | .slice false true, [.lst xs, .int j] => some (.lst (cutD xs none (some j)))
  | .slice true true, [.lst xs, .int i, .int j] => some (.lst (cutD xs (some i) (some j)))
  | .slice false false, [.tup xs] => some (.tup (cutD xs none none))
  | .slice true false, [.tup xs, .int i] => some (.tup (cutD xs (some i) none))
  | .slice false true, [.tup xs, .int j] => some (.tup (cutD xs none (some j)))
  | .slice true true, [.tup xs, .int i, .int j] => some (.tup (cutD xs (some i) (some j)))
  | .fn f, ds => dfn sub f ds
  | .attr n, [.exc _ fs] => fs.lookup n
  | .meth 0, [d] => dvals d
  | _, _ => none
end Ip

set_option Elab.async false
set_option linter.all false
/-! IpRun: the evaluator. -/
namespace Ip

/-- what the code leans on: calls of own defs (mode, place), the classes' order, how long a while may run -/
structure Cfg where
  call : Nat → Nat → List W → M W
  sub : Nat → Nat → Bool
  fuel : Nat
  /-- the attribute that a class of exceptions keeps -/
  xi : Nat → Option String

/-- what an iterable's arguments read as -/
inductive Snap where
  | ds (xs : List D) | ws (xs : List W)
  deriving DecidableEq
def snap (k : Ik) (ws : List W) (h : Hv) : Option Snap := match k with
  | .raw => match ws with
    | [.ref n] => match h[n]? with
      | some (.lst us) => some (.ws us)
      | _ => none
    | _ => none
  | _ => (rdWs h ws).map .ds
def pairD (x y : D) : D := .tup [x, y]
def rngD (lo hi : Int) : List D := (List.range (hi - lo).toNat).map fun (i : Nat) => .int (lo + (i : Int))
def small62 (i : Int) : Bool := decide (-(2 ^ 62) ≤ i) && decide (i < 2 ^ 62)
/-- what is walked -/
def itD : Ik → List D → Option (List D)
  | .plain, [.lst xs] => some xs
  | .plain, [.tup xs] => some xs
  | .plain, [.rng i j] => if small62 i && small62 j then some (rngD i j) else none
  | .range, [.int j] => if small62 j then some (rngD 0 j) else none
  | .range, [.int i, .int j] => if small62 i && small62 j then some (rngD i j) else none
  | .rngv, [.rng i j] => if small62 i && small62 j then some (rngD i j) else none
  | .enum, [.lst xs] => some (xs.mapIdx fun i x => pairD (.int (i : Nat)) x)
  | .zip, [.lst xs, .lst ys] => some (List.zipWith pairD xs ys)
  | .zip, [.tup xs, .tup ys] => some (List.zipWith pairD xs ys)
  | _, _ => none
def itS (k : Ik) : Snap → Option (List W)
  | .ds xs => (itD k xs).map fun ys => ys.map W.d
  | .ws xs => some xs
def snapM (k : Ik) (ws : List W) : M Snap := fun h => match snap k ws h with
  | some s => .ok s h
  | none => .bad
/-- an exception is not let out here -/
def noX {α : Type} (m : M α) : M α := fun h => match m h with
  | .exc _ _ => .bad
  | r => r
/-- a target takes a value -/
def bindP : Pt → W → List (Option W) → Option (List (Option W))
  | .var i, w, ν => some (ν.set i (some w))
  | .pair a b, .d (.tup [x, y]), ν => (bindP a (.d x) ν).bind (bindP b (.d y))
  | .tri a b c, .d (.tup [x, y, z]), ν => ((bindP a (.d x) ν).bind (bindP b (.d y))).bind (bindP c (.d z))
  | _, _, _ => none
def wipeV (ν : List (Option W)) : List Nat → List (Option W)
  | [] => ν
  | v :: vs => (wipeV ν vs).set v none
def loopM {α : Type} (k : Ik) (ws : List W) (sn : Snap) (f : W → M (List α)) : List W → M (List α)
  | [] => fun h => if snap k ws h = some sn then .ok [] h else .bad
  | x :: xs => fun h => if snap k ws h = some sn then (do
      let ys ← f x
      let zs ← loopM k ws sn f xs
      Pure.pure (ys ++ zs)) h else .bad
/-- the new list -/
def mkL (al : Bool) (ys : List D) : M W := fun h => if ys.length ≤ lim then (if al then .ok (.ref h.length) (h ++ [.lst (ys.map W.d)]) else .ok (.d (.lst ys)) h) else .bad
def mkW (ws : List W) : M W := fun h => if ws.length ≤ lim then .ok (.ref h.length) (h ++ [.lst ws]) else .bad
def datP : List (D × W) → Option (List (D × D))
  | [] => some []
  | (k, .d x) :: r => (datP r).map ((k, x) :: ·)
  | _ :: _ => none
/-- the own list is data from now on -/
def frzW : W → M W
  | .d x => Pure.pure (.d x)
  | .ref n => fun h => match h[n]? with
    | some (.lst ws) => match dats ws with
      | some ds => .ok (.d (.lst ds)) (h.set n .dead)
      | none => .bad
    | some (.dct kvs) => match datP kvs with
      | some ds => .ok (.d (.dct ds)) (h.set n .dead)
      | none => .bad
    | _ => .bad
  | _ => M.bad
def asI (w : W) : M Unit := match w with
  | .d (.int _) => Pure.pure ()
  | _ => M.bad
def chkL (w : W) : M Unit := fun h => match w with
  | .ref n => match h[n]? with
    | some (.lst _) => .ok () h
    | _ => .bad
  | _ => .bad
def appW (w x : W) : M W := fun h => match w with
  | .ref n => match h[n]? with
    | some (.lst ws) => if ws.length < lim then .ok (.d .non) (h.set n (.lst (ws ++ [x]))) else .bad
    | _ => .bad
  | _ => .bad
def popW (w : W) : M W := fun h => match w with
  | .ref n => match h[n]? with
    | some (.lst ws) => match ws.getLast? with
      | some x => .ok x (h.set n (.lst ws.dropLast))
      | none => .bad
    | _ => .bad
  | _ => .bad
def popiW (w : W) (i : W) : M W := fun h => match w, i with
  | .ref n, .d (.int j) => match h[n]? with
    | some (.lst ws) => match L2.ixN ws.length j with
      | some m => match ws[m]? with
        | some x => if -(2 ^ 63) ≤ j ∧ j < 2 ^ 63 then .ok x (h.set n (.lst (ws.eraseIdx m))) else .bad
        | none => .bad
      | none => .bad
    | _ => .bad
  | _, _ => .bad

def dgetW (w k : W) : M W := fun h => match w, k with
  | .ref n, .d kd => match h[n]? with
    | some (.dct kvs) => (if (keyK kd).isSome then (match getK kvs kd with
      | some x => .ok x h
      | none => .bad) else .bad)
    | _ => .bad
  | _, _ => .bad
def dsetW (w k x : W) : M Unit := fun h => match w, k with
  | .ref n, .d kd => match h[n]? with
    | some (.dct kvs) => (if (keyK kd).isSome ∧ kvs.length < lim then .ok () (h.set n (.dct (setK kvs kd x))) else .bad)
    | _ => .bad
  | _, _ => .bad
/-- the pairs of a display -/
def pairsW : List W → Option (List (D × W))
  | [] => some []
  | .d k :: w :: r => if (keyK k).isSome then (pairsW r).map ((k, w) :: ·) else none
  | _ => none
def ndupK : List (D × W) → Bool
  | [] => true
  | p :: r => !(r.any fun q => decide (q.1 = p.1)) && ndupK r
def mkD (ws : List W) : M W := fun h => match pairsW ws with
  | some kvs => if ndupK kvs && decide (kvs.length ≤ 15) then .ok (.ref h.length) (h ++ [.dct kvs]) else .bad
  | none => .bad
/-- a new exception -/
def mkX (c : Cfg) (k : Nat) (ws : List W) : M W := match ws with
  | [w] => (match c.xi k with
    | none => Pure.pure (.d (.exc k []))
    | some f => (match w with
      | .d x => Pure.pure (.d (.exc k [(f, x)]))
      | _ => M.bad))
  | _ => M.bad
/-- exceptions of a class are caught -/
def catM (sub : Nat → Nat → Bool) (q : Nat) (m : M W) : M W := fun h => match m h with
  | .ok _ h' => .ok (.d .non) h'
  | .exc (.exc k fs) h' => if sub k q then .ok (.d (.exc k fs)) h' else .bad
  | _ => .bad
/-- in the parameters' order -/
def permW (pm : List Nat) (ws : List W) : Option (List W) := match pm with
  | [] => some []
  | i :: r => match ws[i]? with
    | some w => (permW r ws).map (w :: ·)
    | none => none
/-- a dict comprehension's pairs -/
def mkDC (kvs : List (D × D)) : M W := fun h => if allKK kvs && decide (kvs.length ≤ lim) then .ok (.d (.dct (mergeD [] kvs))) h else .bad
/-- a dict comprehension's pairs, the keys tuples -/
def allTK (kvs : List (D × D)) : Bool := kvs.all fun p => (tkD p.1).isSome
def mkDT (kvs : List (D × D)) : M W := fun h => if allTK kvs && decide (kvs.length ≤ lim) then .ok (.d (.tdc (mergeD [] kvs))) h else .bad
def chkC (w : W) : M Unit := fun h => match w with
  | .ref n => match h[n]? with
    | some (.dct _) => .ok () h
    | _ => .bad
  | _ => .bad
def updW (w x : W) : M W := fun h => match w, x with
  | .ref n, .d (.dct ps) => match h[n]? with
    | some (.dct kvs) => (if allKK ps ∧ kvs.length + ps.length ≤ lim then .ok (.d .non) (h.set n (.dct (ps.foldl (fun a p => setK a p.1 (.d p.2)) kvs))) else .bad)
    | _ => .bad
  | _, _ => .bad
/-- a display asks data; all else reads own lists, too -/
def strictP : Pr → Bool
  | .tup => true
  | .lst => true
  | .dct => true
  | _ => false
def rdP (p : Pr) (ws : List W) : M (List D) := if strictP p then ofO (dats ws) else asR ws
/-- what is raised -/
def raisC : Ex → Option (Nat × Ex)
  | .mk k (.cons a .nil) => some (k, a)
  | _ => none
/-- a suite that keeps the exception -/
def cauS : Sm → Option (Nat × Nat)
  | .asg j (.var i) => some (j, i)
  | _ => none
section
variable (c : Cfg)
/-- a def's answers, one by one -/
def keysM (f : Nat) : List D → M (List D)
  | [] => Pure.pure []
  | x :: xs => do
    let w ← noX (c.call 0 f [.d x])
    let k ← asD w
    let ks ← keysM f xs
    Pure.pure (k :: ks)
def seqD : List D → Option (List D)
  | [.lst xs] => some xs
  | _ => none
def srtM (f : Nat) (w : W) : M W := do
  let ds ← asR [w]
  let xs ← ofO (seqD ds)
  let ks ← keysM c f xs
  let ys ← ofO (dsortK (ks.zip xs))
  Pure.pure (.d (.lst ys))
mutual
def ev : Ex → List (Option W) → M W
  | .cst d, _ => Pure.pure (.d d)
  | .var i, ν => match ν[i]? with
    | some (some w) => Pure.pure w
    | _ => M.bad
  | .pr p es, ν => do
    let ws ← evl es ν
    let ds ← rdP p ws
    let z ← ofO (dprim c.sub p ds)
    Pure.pure (.d z)
  | .slc a b d, ν => do
    let x ← ev a ν
    let y ← ev b ν
    let _ ← asI y
    let z ← ev d ν
    let ds ← asR [x, y, z]
    let r ← ofO (dprim c.sub (.slice true true) ds)
    Pure.pure (.d r)
  | .nt a, ν => do
    let x ← ev a ν
    let b ← asB x
    Pure.pure (.d (.bl (!b)))
  | .and a b, ν => do
    let x ← ev a ν
    let k ← asB x
    if k then ev b ν else Pure.pure (.d (.bl false))
  | .or a b, ν => do
    let x ← ev a ν
    let k ← asB x
    if k then Pure.pure (.d (.bl true)) else ev b ν
  | .chn o p a b e, ν => do
    let x ← ev a ν
    let y ← ev b ν
    let ds ← asR [x, y]
    let k ← ofO (dprim c.sub (.cmp o) ds)
    let k ← asB (.d k)
    if k then do
      let z ← ev e ν
      let ds ← asR [y, z]
      let r ← ofO (dprim c.sub (.cmp p) ds)
      Pure.pure (.d r)
    else Pure.pure (.d (.bl false))
  | .ite t a b, ν => do
    let x ← ev t ν
    let k ← asB x
    if k then ev a ν else ev b ν
  | .call md f es, ν => do
    let ws ← evl es ν
    c.call md f ws
  | .alp p es, ν => do
    let ws ← evl es ν
    let ds ← asR ws
    let z ← ofO (dprim c.sub p ds)
    match z with
    | .lst xs => mkL true xs
    | _ => M.bad
  | .nlst es, ν => do
    let ws ← evl es ν
    mkW ws
  | .frz a, ν => do
    let w ← ev a ν
    frzW w
  | .app a e, ν => do
    let w ← ev a ν
    let _ ← chkL w
    let x ← ev e ν
    appW w x
  | .pop a, ν => do
    let w ← ev a ν
    popW w
  | .popi a e, ν => do
    let w ← ev a ν
    let _ ← chkL w
    let i ← ev e ν
    popiW w i
  | .dget a b, ν => do
    let w ← ev a ν
    let k ← ev b ν
    dgetW w k
  | .mk k es, ν => do
    let ws ← evl es ν
    mkX c k ws
  | .mkk k e, ν => do
    let w ← ev e ν
    mkX c k [w]
  | .cau q e, ν => catM c.sub q (ev e ν)
  | .srt f e, ν => do
    let w ← ev e ν
    srtM c f w
  | .callk md f _ pm es, ν => do
    let ws ← evl es ν
    let us ← ofO (permW pm ws)
    c.call md f us
  | .upd a e, ν => do
    let w ← ev a ν
    let _ ← chkC w
    let x ← ev e ν
    updW w x
  | .dc vs k pt it r, ν => do
    let ws ← evl it ν
    let sn ← snapM k ws
    let its ← ofO (itS k sn)
    let ys ← loopM k ws sn (fun x => noX (match bindP pt x (wipeV ν vs) with
      | some ν' => evp r ν'
      | none => M.bad)) its
    mkDC ys
  | .ndct es, ν => do
    let ws ← evl es ν
    mkD ws
  | .lcn al r, ν => do
    let ys ← noX (evg r ν)
    mkL al ys
  | .dcn r, ν => do
    let ys ← noX (evp r ν)
    mkDT ys
  | .lc al vs k pt it r, ν => do
    let ws ← evl it ν
    let sn ← snapM k ws
    let its ← ofO (itS k sn)
    let ys ← loopM k ws sn (fun x => noX (match bindP pt x (wipeV ν vs) with
      | some ν' => evg r ν'
      | none => M.bad)) its
    mkL al ys
  | _, _ => M.bad
def evl : Ex → List (Option W) → M (List W)
  | .nil, _ => Pure.pure []
  | .cons a r, ν => do
    let w ← ev a ν
    let ws ← evl r ν
    Pure.pure (w :: ws)
  | _, _ => M.bad
/-- what a comprehension's turn yields -/
def evg : Ex → List (Option W) → M (List D)
  | .yld e, ν => do
    let w ← ev e ν
    match w with
    | .d x => Pure.pure [x]
    | _ => M.bad
  | .gif t r, ν => do
    let x ← ev t ν
    let k ← asB x
    if k then evg r ν else Pure.pure []
  | .gfor k vs pt it r, ν => do
    let ws ← evl it ν
    let sn ← snapM k ws
    let its ← ofO (itS k sn)
    loopM k ws sn (fun x => match bindP pt x (wipeV ν vs) with
      | some ν' => evg r ν'
      | none => M.bad) its
  | _, _ => M.bad
/-- the pairs of a turn -/
def evp : Ex → List (Option W) → M (List (D × D))
  | .yld2 a b, ν => do
    let x ← ev a ν
    let y ← ev b ν
    match x, y with
    | .d k, .d v => Pure.pure [(k, v)]
    | _, _ => M.bad
  | .gif t r, ν => do
    let x ← ev t ν
    let k ← asB x
    if k then evp r ν else Pure.pure []
  | .gfor k vs pt it r, ν => do
    let ws ← evl it ν
    let sn ← snapM k ws
    let its ← ofO (itS k sn)
    loopM k ws sn (fun x => match bindP pt x (wipeV ν vs) with
      | some ν' => evp r ν'
      | none => M.bad) its
  | _, _ => M.bad
end
/-- an operation behind its arguments -/
def prM (g : List D → Option D) (ws : List W) : M W := do
  let ds ← asR ws
  let z ← ofO (g ds)
  Pure.pure (.d z)
/-- what the comprehension comes to -/
def wkM (q : Nat) (d : D) : List Ex → List (Option W) → M (List D)
  | [], _ => Pure.pure []
  | a :: as, ν => do
    let w ← catM c.sub q (ev c a ν)
    let r ← prM (dfn c.sub .isinst) [w, .d d]
    let b ← asB r
    let ys ← wkM q d as ν
    Pure.pure (if b then ys else .int 1 :: ys)
def exL : Ex → List Ex
  | .cons a r => a :: exL r
  | _ => []

/-! ### statements -/
inductive O where
  | nx (ν : List (Option W)) (h : Hv) | ret (w : W) (h : Hv) | brk (ν : List (Option W)) (h : Hv) | cnt (ν : List (Option W)) (h : Hv) | exc (e : D) (ν : List (Option W)) (h : Hv) | bad
def O.ofE {α : Type} (ν : List (Option W)) (r : R α) (k : α → Hv → O) : O := match r with
  | .ok w h => k w h
  | .exc e h => .exc e ν h
  | .bad => .bad
def loopS (k : Ik) (ws : List W) (sn : Snap) (f : W → List (Option W) → Hv → O) : List W → List (Option W) → Hv → O
  | [], ν, h => if snap k ws h = some sn then .nx ν h else .bad
  | x :: xs, ν, h => if snap k ws h = some sn then (match f x ν h with
    | .nx ν' h' => loopS k ws sn f xs ν' h'
    | .cnt ν' h' => loopS k ws sn f xs ν' h'
    | .brk ν' h' => .nx ν' h'
    | o => o) else .bad
def loopW (t : List (Option W) → M W) (b : List (Option W) → Hv → O) : Nat → List (Option W) → Hv → O
  | 0, _, _ => .bad
  | n + 1, ν, h => O.ofE ν (t ν h) fun w h' => match w with
    | .d (.bl true) => match b ν h' with
      | .nx ν' h'' => loopW t b n ν' h''
      | .cnt ν' h'' => loopW t b n ν' h''
      | .brk ν' h'' => .nx ν' h''
      | o => o
    | .d (.bl false) => .nx ν h'
    | _ => .bad
/-- several slots take several values -/
def setL : List Nat → List W → List (Option W) → Option (List (Option W))
  | [], [], ν => some ν
  | i :: is, w :: ws, ν => setL is ws (ν.set i (some w))
  | _, _, _ => none
def sx : Sm → List (Option W) → Hv → O
  | .sk, ν, h => .nx ν h
  | .sq a b, ν, h => match sx a ν h with
    | .nx ν' h' => sx b ν' h'
    | o => o
  | .asg i e, ν, h => O.ofE ν (ev c e ν h) fun w h' => .nx (ν.set i (some w)) h'
  | .asgp p e, ν, h => O.ofE ν (ev c e ν h) fun w h' => match bindP p w ν with
    | some ν' => .nx ν' h'
    | none => .bad
  | .par is es, ν, h => O.ofE ν (evl c es ν h) fun ws h' => match setL is ws ν with
    | some ν' => .nx ν' h'
    | none => .bad
  | .ife t a b, ν, h => O.ofE ν (ev c t ν h) fun w h' => match w with
    | .d (.bl true) => sx a ν h'
    | .d (.bl false) => sx b ν h'
    | _ => .bad
  | .ret e, ν, h => O.ofE ν (ev c e ν h) fun w h' => .ret w h'
  | .exp e, ν, h => O.ofE ν (ev c e ν h) fun _ h' => .nx ν h'
  | .brk, ν, h => .brk ν h
  | .cnt, ν, h => .cnt ν h
  | .forr k p it b, ν, h => O.ofE ν ((do
      let ws ← evl c it ν
      let sn ← snapM k ws
      let its ← ofO (itS k sn)
      Pure.pure (ws, sn, its)) h) fun q h' => loopS k q.1 q.2.1 (fun x ν h => match bindP p x ν with
      | some ν' => sx b ν' h
      | none => .bad) q.2.2 ν h'
  | .dset a k e, ν, h => O.ofE ν ((do
      let x ← ev c e ν
      let w ← ev c a ν
      let y ← ev c k ν
      dsetW w y x) h) fun _ h' => .nx ν h'
  | .whl t b, ν, h => loopW (ev c t) (sx b) c.fuel ν h
  | .rais e, ν, h => match raisC e with
    | some (k, a) => O.ofE ν ((do
        let w ← ev c a ν
        mkX c k [w]) h) fun w h' => match w with
      | .d (.exc k fs) => .exc (.exc k fs) ν h'
      | _ => .bad
    | none => .bad
  | .tryw b k i a, ν, h => match sx b ν h with
    | .exc (.exc c0 fs) ν' h' => match cauS a with
      | some (j, i') => if i' = i ∧ i < ν'.length then (if c.sub c0 k then .nx (((ν'.set i (some (.d (.exc c0 fs)))).set j (some (.d (.exc c0 fs)))).set i none) h' else .exc (.exc c0 fs) ν' h') else .bad
      | none => .bad
    | .exc _ _ _ => .bad
    | o => o
  | .wk i j q d as b r, ν, h => O.ofE (ν.set i none) (wkM c q d (exL as) (ν.set i none) h) fun zs h' => if zs.isEmpty then sx r (ν.set i none) h' else (match sx b (ν.set i none) h' with
    | .nx ν' h'' => sx r ν' h''
    | o => o)
end
end Ip

set_option Elab.async false
set_option linter.all false
set_option maxRecDepth 100000
/-! IpRep: how the run's data stand in the layer's heap. -/
namespace Ip
open PySem PySem.Spec PyProof.Rows L2

/-- what is fixed of the program -/
structure Env where
  P : Program
  w : World
  K : PySem.W.Frag
  mg : Str → Option Value
  base : Heap
  /-- the classes by place, the defs by place with the number of their arguments -/
  gs : List Str
  ft : List (Str × Nat)
  /-- the names of plain data, the classes of exceptions without an __init__ of their own -/
  ks : List (Str × D)
  pl : List Nat
  /-- the tables of code objects -/
  T : List (Addr × Str)
  /-- the classes of exceptions with an attribute -/
  xi : List (Nat × String)
  /-- the defs that catch; the calls by keywords -/
  ct : List (Str × Nat)
  kw : List (Nat × List Str × List Nat)


/-- an exception's object at a: its class, its dict -/
def EX (cls : Value) (d : Option Addr) (a : Addr) : HO := .ext fun h => ∃ (oe : Obj) (vs : Array Value), h.get? a = some oe ∧ Zc cls d oe ∧ oe.data = .fields vs
theorem ex_ok {P : Program} {w : World} {H : Hp} {h : Heap} {a : Addr} {cls : Value} {d : Option Addr} {oe : Obj} {vs : Array Value} (e : h.get? a = some oe) (z : Zc cls d oe) (q : oe.data = .fields vs) : ObjOk P w H h a (EX cls d a) :=
  ⟨⟨oe, vs, e, z, q⟩, ⟨oe, e⟩, fun _ _ ⟨o, v, q, r⟩ k => ⟨o, v, k o q, r⟩⟩
/-- an exception without attributes stands at a: caught, or made and not raised -/
def ExAt (G : Hp) (cls : Value) (a : Addr) : Prop := G a = some (EX cls none a) ∨ G a = some (ExO cls a)
theorem ExAt.mono {G G' : Hp} {cls : Value} {a : Addr} (e : Same G G') (h : ExAt G cls a) : ExAt G' cls a := by
  rcases h with h | h
  · exact .inl (e _ _ h)
  · exact .inr (e _ _ h)
/-- a dict whose keys are tuples of whole numbers: its keys, where they stand, its values -/
def DT (P : Program) (w : World) (a : Addr) (xs : List (NestedKey × Addr × Value)) : HO := .ext fun h => (a == sysModules) = false ∧ xs.length ≤ sizeLine ∧ (xs.map (·.1)).Nodup ∧
  ∃ o es ep, h.get? a = some o ∧ o.ExactDict ∧ o.data = .dict es ep ∧ es.toList = xs.map (entryOfKey (nestedKind P w))
mutual
inductive Rep (Γ : Env) (G : Hp) : D → V → Prop
  | non : Rep Γ G .non .non
  | bl (b : Bool) : Rep Γ G (.bl b) (.bl b)
  | int (i : Int) : Rep Γ G (.int i) (.int i)
  | str (s : List Nat) : Rep Γ G (.str s) (.str (sv s))
  | tup {a : Addr} {vs : List V} {xs : List D} : SqT Γ.K G a vs → RepL Γ G xs vs → Rep Γ G (.tup xs) (.ref a)
  | lst {a : Addr} {vs : List V} {xs : List D} : Rd G a (.lst vs) → RepL Γ G xs vs → Rep Γ G (.lst xs) (.ref a)
  | rng {a : Addr} {lo hi : Int} : G a = some (.rng lo hi) → Rep Γ G (.rng lo hi) (.ref a)
  | glo {c : Nat} {x : Str} {a : Addr} : Γ.gs[c]? = some x → Γ.mg x = some (.ref a) → Rep Γ G (.glo c) (.ref a)
  | ty (n : String) : Rep Γ G (.ty n) (.ty n)
  | exc {c : Nat} {x : Str} {C a : Addr} : c ∈ Γ.pl → Γ.gs[c]? = some x → Γ.mg x = some (.ref C) → ExAt G (.ref C) a → Rep Γ G (.exc c []) (.ref a)
  | excF {c : Nat} {x : Str} {C a d : Addr} {f : String} {v : V} {y : D} : (c, f) ∈ Γ.xi → Γ.gs[c]? = some x → Γ.mg x = some (.ref C) → G a = some (EX (.ref C) (some d) a) → G d = some (.xd [((f : Str), v)]) → Rep Γ G y v → Rep Γ G (.exc c [(f, y)]) (.ref a)
  | dctK {a : Addr} {ks : List (Key × V)} {kvs : List (D × D)} : Rd G a (.dK ks) → RepP Γ G kvs ks → Rep Γ G (.dct kvs) (.ref a)
  | tdc {a : Addr} {xs : List (NestedKey × Addr × Value)} {kvs : List (D × D)} : Rd G a (DT Γ.P Γ.w a xs) → RepT Γ G kvs xs → Rep Γ G (.tdc kvs) (.ref a)
inductive RepT (Γ : Env) (G : Hp) : List (D × D) → List (NestedKey × Addr × Value) → Prop
  | nil : RepT Γ G [] []
  | cons {k x : D} {nk : NestedKey} {b : Addr} {v : V} {u : Value} {r : List (D × D)} {rs : List (NestedKey × Addr × Value)} : tkD k = some nk → Rep Γ G k (.ref b) → RelV v u → Rep Γ G x v → RepT Γ G r rs → RepT Γ G ((k, x) :: r) ((nk, b, u) :: rs)
inductive RepP (Γ : Env) (G : Hp) : List (D × D) → List (Key × V) → Prop
  | nil : RepP Γ G [] []
  | cons {k x : D} {key : Key} {v : V} {r : List (D × D)} {rs : List (Key × V)} : keyK k = some key → Rep Γ G x v → RepP Γ G r rs → RepP Γ G ((k, x) :: r) ((key, v) :: rs)
inductive RepL (Γ : Env) (G : Hp) : List D → List V → Prop
  | nil : RepL Γ G [] []
  | cons {x : D} {v : V} {xs : List D} {vs : List V} : Rep Γ G x v → RepL Γ G xs vs → RepL Γ G (x :: xs) (v :: vs)
end

theorem Same.sqT {K : PySem.W.Frag} {H H' : Hp} {a : Addr} {xs : List V} (e : Same H H') (h : SqT K H a xs) : SqT K H' a xs := by
  rcases h with (h | ⟨o, h⟩) | h
  · exact .inl (.inl (e _ _ h))
  · exact .inl (.inr ⟨o, e _ _ h⟩)
  · exact .inr h
theorem Same.rd {H H' : Hp} {a : Addr} {u : HO} (e : Same H H') (h : Rd H a u) : Rd H' a u := by
  rcases h with h | ⟨o, h⟩
  · exact .inl (e _ _ h)
  · exact .inr ⟨o, e _ _ h⟩
mutual
theorem Rep.mono {Γ : Env} {G G' : Hp} (e : Same G G') : ∀ {x : D} {v : V}, Rep Γ G x v → Rep Γ G' x v
  | _, _, .non => .non
  | _, _, .bl b => .bl b
  | _, _, .int i => .int i
  | _, _, .str s => .str s
  | _, _, .tup h r => .tup (Same.sqT e h) (RepL.mono e r)
  | _, _, .lst h r => .lst (Same.rd e h) (RepL.mono e r)
  | _, _, .rng h => .rng (e _ _ h)
  | _, _, .glo h m => .glo h m
  | _, _, .ty n => .ty n
  | _, _, .exc hp h m q => .exc hp h m (ExAt.mono e q)
  | _, _, .excF hp h m q1 q2 r => .excF hp h m (e _ _ q1) (e _ _ q2) (Rep.mono e r)
  | _, _, .dctK h r => .dctK (Same.rd e h) (RepP.mono e r)
  | _, _, .tdc h r => .tdc (Same.rd e h) (RepT.mono e r)
theorem RepT.mono {Γ : Env} {G G' : Hp} (e : Same G G') : ∀ {xs : List (D × D)} {vs : List (NestedKey × Addr × Value)}, RepT Γ G xs vs → RepT Γ G' xs vs
  | _, _, .nil => .nil
  | _, _, .cons hk h rv q t => .cons hk (Rep.mono e h) rv (Rep.mono e q) (RepT.mono e t)
theorem RepP.mono {Γ : Env} {G G' : Hp} (e : Same G G') : ∀ {xs : List (D × D)} {vs : List (Key × V)}, RepP Γ G xs vs → RepP Γ G' xs vs
  | _, _, .nil => .nil
  | _, _, .cons h r t => .cons h (Rep.mono e r) (RepP.mono e t)
theorem RepL.mono {Γ : Env} {G G' : Hp} (e : Same G G') : ∀ {xs : List D} {vs : List V}, RepL Γ G xs vs → RepL Γ G' xs vs
  | _, _, .nil => .nil
  | _, _, .cons h r => .cons (Rep.mono e h) (RepL.mono e r)
end
theorem RepL.length {Γ : Env} {G : Hp} : ∀ {xs : List D} {vs : List V}, RepL Γ G xs vs → vs.length = xs.length
  | _, _, .nil => rfl
  | _, _, .cons _ r => by simp [RepL.length r]
theorem RepL.append {Γ : Env} {G : Hp} : ∀ {xs ys : List D} {vs us : List V}, RepL Γ G xs vs → RepL Γ G ys us → RepL Γ G (xs ++ ys) (vs ++ us)
  | _, _, _, _, .nil, s => s
  | _, _, _, _, .cons h r, s => .cons h (RepL.append r s)
theorem RepL.get {Γ : Env} {G : Hp} : ∀ {xs : List D} {vs : List V} {i : Nat} {x : D}, RepL Γ G xs vs → xs[i]? = some x → ∃ v, vs[i]? = some v ∧ Rep Γ G x v
  | _, _, _, _, .nil, e => by simp at e
  | _, _, 0, _, .cons h _, e => by simp at e; subst e; exact ⟨_, rfl, h⟩
  | _, _, i + 1, _, .cons _ r, e => by
    obtain ⟨v, h1, h2⟩ := RepL.get (i := i) r (by simpa using e)
    exact ⟨v, by simpa using h1, h2⟩

/-! ### the run's own heap -/
abbrev Rho := Nat → Option Addr
def RepW (Γ : Env) (G : Hp) (ρ : Rho) : W → V → Prop
  | .d x, v => Rep Γ G x v
  | .ref n, v => ∃ a, ρ n = some a ∧ v = .ref a
  | .clo _ _, _ => False
inductive RepKs (Γ : Env) (G : Hp) (ρ : Rho) : List (D × W) → List (Key × V) → Prop
  | nil : RepKs Γ G ρ [] []
  | cons {k : D} {w : W} {key : Key} {v : V} {r : List (D × W)} {rs : List (Key × V)} : keyK k = some key → RepW Γ G ρ w v → RepKs Γ G ρ r rs → RepKs Γ G ρ ((k, w) :: r) ((key, v) :: rs)
inductive RepWs (Γ : Env) (G : Hp) (ρ : Rho) : List W → List V → Prop
  | nil : RepWs Γ G ρ [] []
  | cons {w : W} {v : V} {ws : List W} {vs : List V} : RepW Γ G ρ w v → RepWs Γ G ρ ws vs → RepWs Γ G ρ (w :: ws) (v :: vs)
theorem RepWs.length {Γ : Env} {G : Hp} {ρ : Rho} : ∀ {ws : List W} {vs : List V}, RepWs Γ G ρ ws vs → vs.length = ws.length
  | _, _, .nil => rfl
  | _, _, .cons _ r => by simp [RepWs.length r]
theorem RepWs.append {Γ : Env} {G : Hp} {ρ : Rho} : ∀ {ws us : List W} {vs xs : List V}, RepWs Γ G ρ ws vs → RepWs Γ G ρ us xs → RepWs Γ G ρ (ws ++ us) (vs ++ xs)
  | _, _, _, _, .nil, s => s
  | _, _, _, _, .cons h r, s => .cons h (RepWs.append r s)
def live (η : Hv) (n : Nat) : Prop := ∃ o, η[n]? = some o ∧ o ≠ .dead
/-- the address is one of the run's own -/
def Own (η : Hv) (ρ : Rho) (a : Addr) : Prop := ∃ n, live η n ∧ ρ n = some a
def RepO (Γ : Env) (G : Hp) (ρ : Rho) (H : Hp) (n : Nat) : VO → Prop
  | .dead => True
  | .lst xs => ∃ a vs, ρ n = some a ∧ G a = none ∧ H a = some (.lst vs) ∧ RepWs Γ G ρ xs vs
  | .dct kvs => ∃ a ks, ρ n = some a ∧ G a = none ∧ H a = some (.dK ks) ∧ RepKs Γ G ρ kvs ks
  | .cel _ => False
structure Sim (Γ : Env) (ρ : Rho) (G : Hp) (η : Hv) (H : Hp) : Prop where
  same : Same G H
  obj : ∀ n o, η[n]? = some o → RepO Γ G ρ H n o
  inj : ∀ n m a, live η n → live η m → ρ n = some a → ρ m = some a → n = m
  new : ∀ n, η.length ≤ n → ρ n = none
  tab : LamX.Tabs Γ.T H
  ntb : ∀ a ps, G a ≠ some (.tbl ps)
def Slots (Γ : Env) (G : Hp) (ρ : Rho) (ν : List (Option W)) (σ : L2.St) : Prop :=
  ν.length = σ.length ∧ ∀ (i : Nat) (w : W), ν[i]? = some (some w) → ∃ v, σ[i]? = some (some v) ∧ RepW Γ G ρ w v

/-- from one state to a later one -/
structure Ext (ρ : Rho) (G : Hp) (η : Hv) (H : Hp) (ρ' : Rho) (G' : Hp) (η' : Hv) (H' : Hp) : Prop where
  rho : ∀ n a, ρ n = some a → ρ' n = some a
  same : Same G G'
  kept : ∀ a o, H a = some o → ¬ Own η ρ a → (∀ ps, o ≠ .tbl ps) → H' a = some o
  tbl : ∀ a ps, H a = some (.tbl ps) → ∃ qs, H' a = some (.tbl qs)
  fresh : ∀ a, G' a ≠ none → G a ≠ none ∨ H a = none ∨ Own η ρ a ∨ ∃ xs, H a = some (.tup xs)
  own : ∀ a, Own η' ρ' a → Own η ρ a ∨ H a = none

theorem RepW.mono {Γ : Env} {G G' : Hp} {ρ ρ' : Rho} (e : Same G G') (er : ∀ n a, ρ n = some a → ρ' n = some a) {w : W} {v : V} (h : RepW Γ G ρ w v) : RepW Γ G' ρ' w v := by
  cases w with
  | d x => exact Rep.mono e h
  | ref n => obtain ⟨a, h1, h2⟩ := h; exact ⟨a, er _ _ h1, h2⟩
  | clo l cs => exact h.elim
theorem RepWs.mono {Γ : Env} {G G' : Hp} {ρ ρ' : Rho} (e : Same G G') (er : ∀ n a, ρ n = some a → ρ' n = some a) : ∀ {ws : List W} {vs : List V}, RepWs Γ G ρ ws vs → RepWs Γ G' ρ' ws vs
  | _, _, .nil => .nil
  | _, _, .cons h r => .cons (h.mono e er) (RepWs.mono e er r)
theorem RepKs.mono {Γ : Env} {G G' : Hp} {ρ ρ' : Rho} (e : Same G G') (er : ∀ n a, ρ n = some a → ρ' n = some a) : ∀ {ws : List (D × W)} {vs : List (Key × V)}, RepKs Γ G ρ ws vs → RepKs Γ G' ρ' ws vs
  | _, _, .nil => .nil
  | _, _, .cons hk h r => .cons hk (h.mono e er) (RepKs.mono e er r)
theorem Slots.mono {Γ : Env} {G G' : Hp} {ρ ρ' : Rho} {ν : List (Option W)} {σ : L2.St} (e : Same G G') (er : ∀ n a, ρ n = some a → ρ' n = some a) (h : Slots Γ G ρ ν σ) : Slots Γ G' ρ' ν σ :=
  ⟨h.1, fun i w hi => let ⟨v, h1, h2⟩ := h.2 i w hi; ⟨v, h1, h2.mono e er⟩⟩
theorem Ext.refl (ρ : Rho) (G : Hp) (η : Hv) (H : Hp) : Ext ρ G η H ρ G η H := ⟨fun _ _ h => h, Same.refl G, fun _ _ h _ _ => h, fun _ ps h => ⟨ps, h⟩, fun _ h => .inl h, fun _ h => .inl h⟩
theorem Ext.trans {ρ ρ1 ρ2 : Rho} {G G1 G2 : Hp} {η η1 η2 : Hv} {H H1 H2 : Hp} (a : Ext ρ G η H ρ1 G1 η1 H1) (b : Ext ρ1 G1 η1 H1 ρ2 G2 η2 H2) : Ext ρ G η H ρ2 G2 η2 H2 := by
  have back : ∀ x, H1 x = none → H x = none ∨ Own η ρ x := fun x h => by
    by_cases ho : Own η ρ x
    · exact .inr ho
    · refine .inl ?_
      cases e : H x with
      | none => rfl
      | some o =>
        by_cases ht : ∃ ps, o = .tbl ps
        · obtain ⟨ps, rfl⟩ := ht
          obtain ⟨qs, q⟩ := a.tbl x ps e
          rw [h] at q; cases q
        · have q := a.kept x o e ho fun ps z => ht ⟨ps, z⟩
          rw [h] at q; cases q
  refine ⟨fun n x h => b.rho n x (a.rho n x h), a.same.trans b.same, fun x o h no nt => ?_, fun x ps h => ?_, fun x h => ?_, fun x h => ?_⟩
  · refine b.kept x o (a.kept x o h no nt) (fun ho => ?_) nt
    rcases a.own x ho with q | q
    · exact no q
    · rw [q] at h; cases h
  · obtain ⟨qs, q⟩ := a.tbl x ps h
    exact b.tbl x qs q
  · rcases b.fresh x h with q | q | q | q
    · exact a.fresh x q
    · exact (back x q).elim (fun z => .inr (.inl z)) fun z => .inr (.inr (.inl z))
    · exact (a.own x q).elim (fun z => .inr (.inr (.inl z))) fun z => .inr (.inl z)
    · obtain ⟨xs, q⟩ := q
      cases e : H x with
      | none => exact .inr (.inl rfl)
      | some o =>
        by_cases ho : Own η ρ x
        · exact .inr (.inr (.inl ho))
        · by_cases ht : ∃ ps, o = .tbl ps
          · obtain ⟨ps, rfl⟩ := ht
            obtain ⟨qs, z⟩ := a.tbl x ps e
            rw [q] at z; cases z
          · have z := a.kept x o e ho fun ps z => ht ⟨ps, z⟩
            rw [q] at z; cases z
            exact .inr (.inr (.inr ⟨xs, rfl⟩))
  · rcases b.own x h with q | q
    · exact a.own x q
    · exact (back x q).elim .inr .inl

/-! ### what is new joins the frozen part -/
def flt : Option HO → Option HO
  | some (.tbl _) => none
  | o => o
theorem flt_some {o : HO} (h : ∀ ps, o ≠ .tbl ps) : flt (some o) = some o := by
  cases o <;> first | rfl | exact absurd rfl (h _)
theorem flt_of {x : Option HO} {o : HO} (h : flt x = some o) : x = some o ∧ ∀ ps, o ≠ .tbl ps := by
  cases x with
  | none => cases h
  | some u =>
    cases u <;> first | (have h : some _ = some o := h; cases h; exact ⟨rfl, fun ps z => by cases z⟩) | (have h : (none : Option HO) = some o := h; cases h)
def isTupO : HO → Bool
  | .tup _ => true
  | _ => false
/-- what is new, and all tuples -/
def grow (G H H' : Hp) : Hp := fun a => match H a with
  | none => flt (H' a)
  | some o => if isTupO o then some o else G a
theorem grow_new {G H H' : Hp} {a : Addr} (h : H a = none) : grow G H H' a = flt (H' a) := by unfold grow; rw [h]
theorem grow_up {G H : Hp} {a : Addr} {o : HO} (h : H a = none) (n : ∀ ps, o ≠ .tbl ps := by exact fun _ z => by cases z) : grow G H (upd H a o) a = some o := by
  rw [grow_new h, upd_same]; exact flt_some n
theorem grow_old {G H H' : Hp} {a : Addr} {o : HO} (h : H a = some o) (n : isTupO o = false := by rfl) : grow G H H' a = G a := by
  unfold grow; rw [h]; simp [n]
theorem grow_tup {G H H' : Hp} {a : Addr} {xs : List V} (h : H a = some (.tup xs)) : grow G H H' a = some (.tup xs) := by
  unfold grow; rw [h]; rfl
theorem isTup_of {o : HO} (h : isTupO o = true) : ∃ xs, o = .tup xs := by
  cases o <;> first | exact ⟨_, rfl⟩ | cases h
theorem grow_same {G H H' : Hp} (e : Same G H) : Same G (grow G H H') := fun a o h => by
  have q := e a o h
  cases ht : isTupO o with
  | true =>
    obtain ⟨xs, rfl⟩ := isTup_of ht
    exact grow_tup q
  | false => rw [grow_old q ht]; exact h
theorem grow_le {G H H' : Hp} (e : Same G H) (e' : Same H H') : Same (grow G H H') H' := fun a o h => by
  cases q : H a with
  | none => rw [grow_new q] at h; exact (flt_of h).1
  | some u =>
    cases ht : isTupO u with
    | true =>
      obtain ⟨xs, rfl⟩ := isTup_of ht
      rw [grow_tup q] at h
      cases h
      exact e' _ _ q
    | false => rw [grow_old q ht] at h; exact e' a o (e a o h)
theorem RepO.grow {Γ : Env} {G H H' : Hp} {ρ : Rho} (e : Same G H) (e' : Same H H') {n : Nat} {o : VO} (h : RepO Γ G ρ H n o) : RepO Γ (grow G H H') ρ H' n o := by
  cases o with
  | dead => trivial
  | lst xs =>
    obtain ⟨a, vs, h1, h2, h3, h4⟩ := h
    exact ⟨a, vs, h1, by rw [grow_old h3]; exact h2, e' _ _ h3, h4.mono (grow_same e) (fun _ _ q => q)⟩
  | dct _ =>
    obtain ⟨a, vs, h1, h2, h3, h4⟩ := h
    exact ⟨a, vs, h1, by rw [grow_old h3]; exact h2, e' _ _ h3, h4.mono (grow_same e) (fun _ _ q => q)⟩
  | cel _ => exact h
theorem tab_at {T : List (Addr × Str)} {H : Hp} (t : LamX.Tabs T H) {p : Addr × Str} (hp : p ∈ T) : ∃ ps, H p.1 = some (.tbl ps) := by
  obtain ⟨ps, h, _⟩ := t p hp
  exact ⟨ps, h⟩
theorem tab_same {T : List (Addr × Str)} {H H' : Hp} (t : LamX.Tabs T H) (e : Same H H') : LamX.Tabs T H' := t.ext e
/-- what may be written -/
def Cont : HO → Prop
  | .lst _ => True
  | .dK _ => True
  | .dT _ => True
  | .set _ _ => True
  | .ins _ _ _ => True
  | _ => False
/-- a heap that differs only where such a thing stood, or nothing -/
theorem tab_move {T : List (Addr × Str)} {H H' : Hp} (t : LamX.Tabs T H) (e : ∀ b o, H b = some o → ¬ Cont o → H' b = some o) : LamX.Tabs T H' := fun p hp => by
  obtain ⟨ps, h1, h2, h3⟩ := t p hp
  refine ⟨ps, e _ _ h1 (fun z => z), h2, fun pos cv hc => ?_⟩
  obtain ⟨c, e1, e2⟩ := h3 pos cv hc
  exact ⟨c, e1, e _ _ e2 (fun z => z)⟩
theorem Sim.grow {Γ : Env} {G H H' : Hp} {ρ : Rho} {η : Hv} (S : Sim Γ ρ G η H) (e : Same H H') : Sim Γ ρ (grow G H H') η H' :=
  ⟨grow_le S.same e, fun n o h => (S.obj n o h).grow S.same e, S.inj, S.new, tab_same S.tab e, fun a ps h => by
    cases q : H a with
    | none => rw [grow_new q] at h; exact (flt_of h).2 ps rfl
    | some u =>
      cases ht : isTupO u with
      | true =>
        obtain ⟨xs, rfl⟩ := isTup_of ht
        rw [grow_tup q] at h
        cases h
      | false => rw [grow_old q ht] at h; exact S.ntb a ps h⟩
theorem Ext.grow {Γ : Env} {G H H' : Hp} {ρ : Rho} {η : Hv} (S : Sim Γ ρ G η H) (e : Same H H') : Ext ρ G η H ρ (Ip.grow G H H') η H' :=
  ⟨fun _ _ h => h, grow_same S.same, fun a o h _ _ => e a o h, fun a ps h => ⟨ps, e a _ h⟩, fun a h => by
    cases q : H a with
    | none => exact .inr (.inl rfl)
    | some u =>
      cases ht : isTupO u with
      | true =>
        obtain ⟨xs, rfl⟩ := isTup_of ht
        exact .inr (.inr (.inr ⟨xs, rfl⟩))
      | false => rw [grow_old q ht] at h; exact .inl h, fun _ h => .inl h⟩
theorem same_upd {H : Hp} {a : Addr} {o : HO} (h : H a = none) : Same H (upd H a o) := fun b u q => by rw [upd_ne (ne_of_none q h)]; exact q

/-! ### what is read -/
/-- data that a value reads as: frozen, or a list of the run's own -/
inductive RepA (Γ : Env) (G H : Hp) : D → V → Prop
  | fix {x : D} {v : V} : Rep Γ G x v → RepA Γ G H x v
  | lst {xs : List D} {a : Addr} {vs : List V} : H a = some (.lst vs) → RepL Γ G xs vs → RepA Γ G H (.lst xs) (.ref a)
inductive RepAs (Γ : Env) (G H : Hp) : List D → List V → Prop
  | nil : RepAs Γ G H [] []
  | cons {x : D} {v : V} {xs : List D} {vs : List V} : RepA Γ G H x v → RepAs Γ G H xs vs → RepAs Γ G H (x :: xs) (v :: vs)
theorem RepL.of_ws {Γ : Env} {G : Hp} {ρ : Rho} : ∀ {ws : List W} {vs : List V} {ds : List D}, RepWs Γ G ρ ws vs → dats ws = some ds → RepL Γ G ds vs
  | _, _, _, .nil, e => by cases e; exact .nil
  | .d x :: ws, _, ds, .cons h r, e => by
    unfold dats at e
    cases q : dats ws with
    | none => rw [q] at e; cases e
    | some xs =>
      rw [q] at e
      cases e
      exact .cons h (RepL.of_ws r q)
  | .ref _ :: _, _, _, .cons _ _, e => by cases e
  | .clo _ _ :: _, _, _, .cons _ _, e => by cases e
theorem RepW.read {Γ : Env} {G H : Hp} {ρ : Rho} {η : Hv} (S : Sim Γ ρ G η H) {w : W} {v : V} {d : D} (r : RepW Γ G ρ w v) (e : rdW η w = some d) : RepA Γ G H d v := by
  cases w with
  | d x => cases e; exact .fix r
  | ref n =>
    simp only [rdW] at e
    cases q : η[n]? with
    | none => rw [q] at e; cases e
    | some o =>
      rw [q] at e
      have so := S.obj n o q
      cases o with
      | lst ws =>
        cases q2 : dats ws with
        | none => simp only [q2] at e; cases e
        | some ds =>
          simp only [q2] at e
          cases e
          obtain ⟨a, vs, h1, h2, h3, h4⟩ := so
          obtain ⟨b, h5, rfl⟩ := r
          rw [h1] at h5
          cases h5
          exact .lst h3 (RepL.of_ws h4 q2)
      | dead => cases e
      | dct _ => cases e
      | cel _ => cases e
  | clo _ _ => cases e
theorem RepWs.read {Γ : Env} {G H : Hp} {ρ : Rho} {η : Hv} (S : Sim Γ ρ G η H) : ∀ {ws : List W} {vs : List V} {ds : List D}, RepWs Γ G ρ ws vs → rdWs η ws = some ds → RepAs Γ G H ds vs
  | _, _, _, .nil, e => by cases e; exact .nil
  | w :: ws, _, ds, .cons h r, e => by
    unfold rdWs at e
    cases q : rdW η w with
    | none => rw [q] at e; cases e
    | some d =>
      rw [q] at e
      simp only at e
      cases q2 : rdWs η ws with
      | none => rw [q2] at e; cases e
      | some xs =>
        rw [q2] at e
        cases e
        exact .cons (h.read S q) (RepWs.read S r q2)
section
variable {Γ : Env} {G H : Hp} {v : V}
theorem RepA.non (h : RepA Γ G H .non v) : v = .non := by cases h with | fix h => cases h; rfl
theorem RepA.bl {b : Bool} (h : RepA Γ G H (.bl b) v) : v = .bl b := by cases h with | fix h => cases h; rfl
theorem RepA.int {i : Int} (h : RepA Γ G H (.int i) v) : v = .int i := by cases h with | fix h => cases h; rfl
theorem RepA.str {x : List Nat} (h : RepA Γ G H (.str x) v) : v = .str (sv x) := by cases h with | fix h => cases h; rfl
theorem RepA.ty {n : String} (h : RepA Γ G H (.ty n) v) : v = .ty n := by cases h with | fix h => cases h; rfl
theorem RepA.tup {xs : List D} (h : RepA Γ G H (.tup xs) v) : ∃ a vs, v = .ref a ∧ SqT Γ.K G a vs ∧ RepL Γ G xs vs := by
  cases h with
  | fix h => cases h with | tup h r => exact ⟨_, _, rfl, h, r⟩
theorem RepA.isLst {xs : List D} (S : Same G H) (h : RepA Γ G H (.lst xs) v) : ∃ a vs, v = .ref a ∧ Rd H a (.lst vs) ∧ RepL Γ G xs vs := by
  cases h with
  | fix h => cases h with | lst h r => exact ⟨_, _, rfl, Same.rd S h, r⟩
  | lst h r => exact ⟨_, _, rfl, .inl h, r⟩
theorem RepP.length {Γ : Env} {G : Hp} : ∀ {xs : List (D × D)} {vs : List (Key × V)}, RepP Γ G xs vs → vs.length = xs.length
  | _, _, .nil => rfl
  | _, _, .cons _ _ r => by simp [RepP.length r]
theorem RepA.isDct {kvs : List (D × D)} (S : Same G H) (h : RepA Γ G H (.dct kvs) v) : ∃ a ks, v = .ref a ∧ Rd H a (.dK ks) ∧ RepP Γ G kvs ks := by
  cases h with
  | fix h => cases h with | dctK h r => exact ⟨_, _, rfl, Same.rd S h, r⟩
theorem RepA.isTdc {kvs : List (D × D)} (S : Same G H) (h : RepA Γ G H (.tdc kvs) v) : ∃ a xs, v = .ref a ∧ Rd H a (DT Γ.P Γ.w a xs) ∧ RepT Γ G kvs xs := by
  cases h with
  | fix h => cases h with | tdc h r => exact ⟨_, _, rfl, Same.rd S h, r⟩
theorem RepA.isRng {lo hi : Int} (h : RepA Γ G H (.rng lo hi) v) : ∃ a, v = .ref a ∧ G a = some (.rng lo hi) := by
  cases h with
  | fix h => cases h with | rng h => exact ⟨_, rfl, h⟩
theorem RepL.all {Γ : Env} {G : Hp} {p : D → Bool} : ∀ {xs : List D} {vs : List V}, RepL Γ G xs vs → xs.all p = true → ∀ v ∈ vs, ∃ x, p x = true ∧ Rep Γ G x v
  | _, _, .nil, _ => fun v h => by cases h
  | x :: xs, _, .cons h r, e => fun v hv => by
    simp only [List.all_cons, Bool.and_eq_true] at e
    rcases List.mem_cons.mp hv with rfl | hv
    · exact ⟨x, e.1, h⟩
    · exact RepL.all r e.2 v hv
end
end Ip

set_option Elab.async false
set_option linter.all false
set_option maxRecDepth 100000
set_option maxHeartbeats 2000000
/-! IpTry: an exception that is caught is an object like others. -/
namespace Ip
open PySem PySem.Spec PyProof.Rows L2

/-- the context of a suite -/
abbrev suiteX (X : Cx) (a : Addr) (pn : List (Addr × Obj)) : Cx := { X with A := X.A.mark (some (.ref a)), calm := false, pn := pn, xe := fun _ _ => False }
/-- what the clause wishes: the object is tracked from the suite's begin on -/
def wAsT (K : PySem.W.Frag) (c : Value) (i : Nat) (ts : TS) (Wout : WX) (D : Ends) : WX := fun cls d σ H =>
  ∃ b, PySem.W.exmOne K cls c = some b ∧ (b = true → ∀ a, H a = none → ts { nx := fun σ' H' => D.nx (σ'.set i none) H', rt := D.rt, bk := fun σ' H' => D.bk (σ'.set i none) H', ct := fun σ' H' => D.ct (σ'.set i none) H' } (σ.set i (some (.ref a))) (upd H a (EX cls d a))) ∧
    (b = false → Wout cls d σ H)
section
variable {X : Cx} {pins : List (Addr × Obj)} {σ : L2.St} {H : Hp} {s : Shared}
theorem inv_suite (I : Inv X pins σ H s) (a : Addr) : Inv (suiteX X a (X.pn ++ pins)) [] σ H s :=
  ⟨⟨I.ok.mod, I.ok.kind, I.ok.glob, I.ok.blt, I.ok.above, I.ok.inj, I.ok.has, I.ok.cab, (fun z => absurd (show false = true from z) Bool.false_ne_true), I.ok.frames, I.ok.stk, I.ok.exf, I.ok.bs, I.ok.bsz, I.ok.noex, I.ok.exfs, I.ok.funs, I.ok.frf⟩,
    I.os, I.bare, I.base, I.loc, I.cell, I.free, I.freeC, fun p hp => I.pin p (by rw [List.append_nil] at hp; exact hp), I.hok, I.len⟩
theorem inv_unsuite {pn' : List (Addr × Obj)} {a : Addr} (I : Inv (suiteX X a (X.pn ++ pins)) pn' σ H s) (ok : X.Ok) : Inv X pins σ H s :=
  ⟨ok, I.os, I.bare, I.base, I.loc, I.cell, I.free, I.freeC, fun p hp => I.pin p (List.mem_append_left _ hp), I.hok, I.len⟩
/-- on the ground, and the exception's object tracked -/
theorem inv_land {B : Heap} {sI s' : Shared} {a : Addr} {cls : Value} {d : Option Addr} {oe : Obj} {vs : Array Value} (I : Inv X pins σ H sI) (nb : ∀ b o, sI.heap.get? b = some o → b ∉ frs X.stack → B.get? b = some o) (st : B.StaysIn s'.heap)
    (up : sI.heap.UpToSlots s'.heap) (os : s'.os = sI.os) (ag : AllBare s'.gens) (nB : B.get? a = none) (nF : a ∉ frs X.stack) (na : H a = none) (he : s'.heap.get? a = some oe) (hz : Zc cls d oe) (hd : oe.data = .fields vs) :
    Inv X pins σ (upd H a (EX cls d a)) s' := by
  have nI : sI.heap.get? a = none := by
    cases q : sI.heap.get? a with
    | none => rfl
    | some o => rw [nb a o q nF] at nB; cases nB
  obtain ⟨G, g1, g2⟩ := restrict s'.heap fun b => decide (b ≠ a)
  have ga : G.get? a = none := g2 a (decide_eq_false fun z => z rfl)
  have gk : ∀ b, b ≠ a → G.get? b = s'.heap.get? b := fun b hb => g1 b (decide_eq_true hb)
  have gs : ∀ b o, G.get? b = some o → s'.heap.get? b = some o := fun b o e => by
    by_cases hb : b = a
    · rw [hb, ga] at e; cases e
    · rw [← gk b hb]; exact e
  have stG : B.StaysIn G := fun b o e => by
    have hb : b ≠ a := fun z => by rw [z, nB] at e; cases e
    rw [gk b hb]; exact st b o e
  have upG : sI.heap.UpToSlots G := fun b o e hdd => by
    have hb : b ≠ a := fun z => by rw [z, nI] at e; cases e
    obtain ⟨sl, q⟩ := up b o e hdd
    exact ⟨sl, by rw [gk b hb]; exact q⟩
  have J : Inv X pins σ H { s' with heap := G } := I.landed (s' := { s' with heap := G }) nb stG upG os ag
  have L := J.laidN (h' := s'.heap) (a := a) (o := EX cls d a) (t' := s'.toks) gs ga na (ex_ok he hz hd)
  exact L
end
section
variable {X : Cx} {x n : Str} {c : Value} {i : Nat} {body suite : List Stmt} {b₀ : Stmt} {np pos pos' : Pos} {tb : WX → TS} {ts : TS} {Wout : WX}
theorem ps_try_own (hs : X.stack = X.env :: X.outer) (hf : X.env.frame = some X.env.locals) (hN : X.N.Nodup) (hi : X.N[i]? = some n) (hln : X.env.kindOf n = some .local) (hc : Names X x c) (tk : Takes X Wout)
    (hb : ∀ (W : WX) (pn : List (Addr × Obj)) (xe : Value → Shared → Prop), Takes (X.tr pn xe) W → PassesOwn (model X.prog X.w) X.A X.env xe → PSs (X.tr pn xe) body (tb W))
    (hsu : ∀ (a : Addr) (pn : List (Addr × Obj)), PSs (suiteX X a pn) (b₀ :: suite) ts) :
    PS X (.Try body [.ExceptHandler (some (.Name x np)) (some n) (b₀ :: suite) pos'] [] [] pos) (fun D σ H => tb (wAsT X.K c i ts Wout D) D σ H) := by
  refine ⟨fun pins s σ H D I h => ?_⟩
  have ok := I.ok
  have frm : X.A.frames = some (X.env :: X.outer) := by rw [ok.frames, hs]
  have isL : Loc X.env.scope n := .inl hln
  refine wpAny_Try_except ?_
  refine wpAny_mono ((hb (wAsT X.K c i ts Wout D) (X.pn ++ pins) (fun e s₁ => wpAny (model X.prog X.w) X.A (noteFrame e X.env) (fun _ s₂ => wpAny (model X.prog X.w) X.A (setFlight e none) (fun _ s₃ =>
    wpAny (model X.prog X.w) X.A (handleBy e X.env [.ExceptHandler (some (.Name x np)) (some n) (b₀ :: suite) pos']) (SP X pins D) X.xe s₃) X.xe s₂) X.xe s₁) (fun u s' air => ?_) PassesOwn.looking).run [] s σ H D (I.toTry _) h) (fun f s1 got => ?_) (fun e s1 he => he)
  · obtain ⟨a, Gr, sK, pins', σ', H', cl, d, rfl, Iv', old, up, sky, na, osE, bare, b, hb1, onY, onN⟩ := air
    have Iv : Inv X pins σ' H' sK := Iv'.ofTry ok
    have aloft : Sky Gr (X.env :: X.outer) a (Zc cl d) X.env.locals s'.heap := by rw [← hs]; exact sky
    show wpAny (model X.prog X.w) X.A (noteFrame (.ref a) X.env) _ _ _
    refine Sky.land Zc.steady frm hf aloft fun p3 fly3 g3 => ?_
    have Iv3 : Inv X pins σ' H' { s' with heap := p3 } := Iv.landed old fly3.1 (up.trans g3) osE bare
    obtain ⟨ob3, us3, at3, zc3, dt3⟩ := fly3.there
    have offF : ∀ {h : Heap} {o : Obj} {vs : Array Value}, h.FunFrames Gr (X.env :: X.outer) → h.get? a = some o → o.data = .fields vs → a ∉ frs (X.env :: X.outer) := fun {h o vs} ff e dd hm => by
      obtain ⟨_, o', e', hnf⟩ := ff.mem hm
      rw [e] at e'; cases e'
      exact hnf _ dd
    have offN := offF fly3.2.2.1 at3 dt3
    have dL : a ≠ X.env.locals := fun z => offN (List.mem_filterMap.mpr ⟨X.env, List.mem_cons_self, by rw [hf, z]⟩)
    have dF : a ∉ X.fs := fun hm => by
      obtain ⟨e, he, q⟩ := List.mem_filterMap.mp hm
      exact offN (List.mem_filterMap.mpr ⟨e, List.mem_cons_of_mem _ he, q⟩)
    have Su3 := Iv3.suite at3 dt3 na dL dF
    refine wpAny_handleBy_cons (codeAny_handlers_test ?_) (by intro q; cases q)
    have tyA : PySem.W.Looks (model X.prog X.w) p3 (typeOf (.ref a)) cl := fun A Q E s k q => wpAny_typeOf_ref (k _ _ at3) (by rw [zc3.1]; exact q)
    have mtc := PySem.W.exm_one (M := model X.prog X.w) (Iv3.kIn) tyA hb1
    have tst : ∀ {Q : Value → Shared → Prop} {E : Value → Shared → Prop}, Q c { s' with heap := p3 } → wpAny (model X.prog X.w) (X.A.mark (some (.ref a))) (eval (.Name x np) X.env) Q E { s' with heap := p3 } := fun {Q E} q => by
      obtain ⟨hg, hdbg, hm | ⟨hm, hv, hnn⟩⟩ := hc
      · exact ld_glob (X := X.suite a ((a, ob3) :: (X.pn ++ pins))) Su3 hg hm q hdbg
      · exact ld_blt (X := X.suite a ((a, ob3) :: (X.pn ++ pins))) Su3 hg hm hv q hnn hdbg
    refine tst (mtc.here ?_)
    cases b with
    | true =>
      refine codeAny_handlers_suite_as ?_
      refine HandSPX.lands_againZ fly3 fun p4 fly4 g4 => ?_
      obtain ⟨ob4, us4, at4, zc4, dt4⟩ := fly4.there
      have Iv4 : Inv X pins σ' (upd H' a (EX cl d a)) { s' with heap := p4 } := inv_land (s' := { s' with heap := p4 }) Iv old fly4.1 ((up.trans g3).trans g4) osE bare fly4.2.1 (by rw [hs]; exact offN) na at4 zc4 dt4
      have Su4 := inv_suite Iv4 a
      refine store_ok (X := suiteX X a (X.pn ++ pins)) (v := .ref a) Su4 hN hi isL rfl (fun sv5 Su5 => ?_) (.inr hln)
      refine wpAny_mono ((hsu a (X.pn ++ pins)).run [] sv5 _ _ _ Su5 (onY rfl a na)) (fun f sz got => ?_) (fun _ _ z => False.elim z)
      have fine_ : ∀ {σz : L2.St} {Hz : Hp} {Q : Shared → Prop}, Inv (suiteX X a (X.pn ++ pins)) [] σz Hz sz → (∀ sy, Inv X pins (σz.set i none) Hz sy → Q sy) →
          wpAny (model X.prog X.w) X.A (do bindName X.env n .none; unbindBehindTheSuite X.env n pos') (fun _ sy => Q sy) X.xe sz := fun {σz Hz Q} Iz hq => gone_ok (inv_unsuite Iz ok) hN hi hln hq
      cases f with
      | next =>
        obtain ⟨σz, Hz, Iz, qz⟩ := got
        exact fine_ Iz fun sy Iy => ⟨_, _, Iy, qz⟩
      | brk =>
        obtain ⟨σz, Hz, Iz, qz⟩ := got
        exact fine_ Iz fun sy Iy => ⟨_, _, Iy, qz⟩
      | cont =>
        obtain ⟨σz, Hz, Iz, qz⟩ := got
        exact fine_ Iz fun sy Iy => ⟨_, _, Iy, qz⟩
      | ret u =>
        obtain ⟨vz, σz, Hz, Iz, rz, qz⟩ := got
        exact fine_ Iz fun sy Iy => ⟨_, _, _, Iy, rz, qz⟩
    | false =>
      show wpAny _ X.A (handleBy (.ref a) X.env []) _ _ _
      refine wpAny_handleBy_nil ?_
      obtain ⟨k1, k2, k3, oe, vs, T, oT, ts', he, hz, hd, h1, hr⟩ := id fly3
      unfold PySem.passOn
      refine wpAny_bind (wpAny_field he hd h1 ?_)
      rw [if_neg (show ¬ ((Value.ref T == Value.none) = true) from by simp)]
      have goesOn : wpAny (model X.prog X.w) X.A (setFlight (.ref a) X.env.frame) (fun _ s4 => wpAny (model X.prog X.w) X.A (throw (.ref a) : Sem Flow) (SP X pins D) X.xe s4) X.xe { s' with heap := p3 } := by
        rw [hf]
        refine HandSPX.setFlight_upZ fly3 fun p4 hld4 g4 => wpAny_throw (tk _ _ ?_)
        exact ⟨a, Gr, sK, pins, σ', H', cl, d, rfl, Iv, old, (up.trans g3).trans g4, .inr (.inr (by rw [hs]; exact hld4)), na, osE, bare, onN rfl⟩
      first
        | exact wpAny_bind (wpAny_pure (wpAny_bind goesOn))
        | exact wpAny_bind goesOn
  · cases f with
    | next =>
      obtain ⟨σ', H', Iv', q⟩ := got
      exact wpAny_execs_nil ⟨σ', H', Iv'.ofTry ok, q⟩
    | brk =>
      obtain ⟨σ', H', Iv', q⟩ := got
      exact ⟨σ', H', Iv'.ofTry ok, q⟩
    | cont =>
      obtain ⟨σ', H', Iv', q⟩ := got
      exact ⟨σ', H', Iv'.ofTry ok, q⟩
    | ret u =>
      obtain ⟨v, σ', H', Iv', r, q⟩ := got
      exact ⟨v, σ', H', Iv'.ofTry ok, r, q⟩
end
/-- isinstance of an exception's object -/
def rIsX (K : PySem.W.Frag) : List V → Hp → VK → Prop := fun xs H Q => ∃ (a D C : Addr) (b : Bool), xs = [.ref a, .ref C] ∧ ExAt H (.ref D) a ∧ ExcC K D ∧ PySem.W.kitOne K (.ref D) (.ref C) = some b ∧ Q (.bl b) H
theorem call_isX {X : Cx} : CallR X (.builtin "isinstance") (rIsX X.K) := by
  intro pins s σ H xs us Q I r h
  obtain ⟨a, D, C, b, rfl, ha, hc, e, q⟩ := h
  obtain ⟨u1, u2, rfl, r1, r2⟩ := vals2 r
  cases (show u1 = Value.ref a from r1)
  cases (show u2 = Value.ref C from r2)
  obtain ⟨oe, vs, ho, hz, hd⟩ : ∃ (oe : Obj) (vs : Array Value), s.heap.get? a = some oe ∧ Zc (.ref D) none oe ∧ oe.data = .fields vs := by
    rcases ha with ha | ha
    · obtain ⟨⟨oe, vs, ho, hz, hd⟩, _, _⟩ := I.hok a _ ha
      exact ⟨oe, vs, ho, hz, hd⟩
    · obtain ⟨⟨oe, vs, ho, hz, hd, _⟩, _, _⟩ := I.hok a _ ha
      exact ⟨oe, vs, ho, hz, hd⟩
  have N : PySem.W.InstAt s.heap a oe D none := by
    obtain ⟨oc, od, oda, osl⟩ := oe
    obtain ⟨k1, k2⟩ := hz
    dsimp only at k1 k2 hd
    subst k1 k2 hd
    exact ⟨ho, rfl, rfl, trivial⟩
  have Kx := PySem.W.handS_kitx_exc (K := X.K) (x := a) (ox := oe) hc.hg hc.hk hc.hs hc.hd hc.ha hc.hn hc.ht hc.hm
  exact PySem.W.kia_one Kx I.kIn N e (fun z => nomatch z) fun tk => ⟨.bl b, H, I.tok tk, rfl, q⟩
end Ip

set_option Elab.async false
set_option linter.all false
set_option maxRecDepth 100000
set_option maxHeartbeats 2000000
/-! IpEqs: dicts whose keys are tuples of whole numbers; == of the same data. -/
namespace Ip
open PySem PySem.Spec PyProof.Rows L2
section
variable {prog : Program} {w : World} {K : Type} [DecidableEq K] {knd : HeapKind prog w K} {A : Around} {E : Value → Shared → Prop} {s : Shared}
theorem samePairsT {nm : String} {a b : Addr} {xs ys : List (K × Addr × Value)} {Q : Bool → Shared → Prop} (ha : (a == sysModules) = false) (hb : (b == sysModules) = false)
    (da : s.heap.DictOfH knd a xs) (db : s.heap.DictOfH knd b ys) (hu : knd.room A) (hk : xs.map (·.1) = ys.map (·.1)) (hv : ∀ (i : Nat) x y, xs[i]? = some x → ys[i]? = some y → SeqAt.EqP prog w A s x.2.2 y.2.2 true) (h : Q true s) :
    wpAny (model prog w) A (Builtin.Dict.samePairs nm a b) Q E s := by
  obtain ⟨oa, es, ep, hoa, _, hda, hea, hia, hna⟩ := da
  obtain ⟨ob, es', ep', hob, _, hdb, heb, hib, hnb⟩ := db
  have hla : es.size = xs.length := size_of_entries hea
  have hlb : es'.size = ys.length := size_of_entries heb
  have hlen : xs.length = ys.length := by have := congrArg List.length hk; simpa using this
  have hsz : es.size = es'.size := by omega
  unfold Builtin.Dict.samePairs Builtin.Dict.showsAll
  rw [if_neg (show ¬ (a == sysModules) = true by rw [ha]; exact Bool.false_ne_true), if_neg (show ¬ (b == sysModules) = true by rw [hb]; exact Bool.false_ne_true)]
  refine wpAny_bind (wpAny_pure (wpAny_bind (wpAny_pure ?_)))
  refine wpAny_bind (wpAny_dictEntries hoa hda ?_)
  dsimp only
  refine wpAny_bind (wpAny_dictEntries hob hdb ?_)
  rw [if_neg (by rw [hsz]; simp)]
  refine wpAny_bind (wpAny_dictEpoch hoa hda ?_)
  refine wpAny_bind ?_
  rw [Std.Legacy.Range.forIn_eq_forIn_range']
  simp only [Std.Legacy.Range.size, Nat.sub_zero, Nat.add_sub_cancel, Nat.div_one]
  refine wpAny_forIn_list _
    (fun rest q s' => s' = s ∧ q = (none, ()) ∧ ∃ i, rest = List.range' i (es.size - i) ∧ i ≤ es.size)
    _ ?_ ?_ _ _ ⟨rfl, rfl, 0, by simp, Nat.zero_le _⟩
  · rintro x rest q s' ⟨rfl, rfl, i, hr, hi⟩
    have hlt : i < es.size := by
      rcases Nat.lt_or_ge i es.size with h | h
      · exact h
      · rw [Nat.sub_eq_zero_of_le h] at hr; simp at hr
    obtain ⟨rfl, hrest⟩ : x = i ∧ rest = List.range' (i + 1) (es.size - (i + 1)) := by
      have e : es.size - i = (es.size - (i + 1)) + 1 := by omega
      rw [e, List.range'_succ] at hr
      injection hr with h1 h2
      exact ⟨h1, h2⟩
    refine wpAny_bind (wpAny_dictEntries hoa hda ?_)
    rw [Array.getElem?_eq_getElem hlt]
    have hlt' : x < xs.length := by omega
    obtain ⟨⟨k, c, v⟩, hkv⟩ : ∃ y, xs[x]? = some y := ⟨_, List.getElem?_eq_getElem hlt'⟩
    have hex : es[x] = ⟨knd.hash k, .ref c, v⟩ := by
      have := entry_at hea x
      rw [hkv, Array.getElem?_eq_getElem hlt] at this
      exact Option.some.inj this
    rw [hex]
    show wpAny _ _ (holding [Value.ref c, v] _ >>= _) _ _ _
    refine wpAny_bind (wpAny_holding (wpAny_bind (wpAny_dictFind_heap hu (hia _ (List.mem_of_getElem? hkv)) hob hdb heb hib hnb (fun hn => ?_) (fun j p hj => ?_))))
    · exfalso
      have hky : (ys.map (·.1))[x]? = some k := by rw [← hk, List.getElem?_map, hkv]; rfl
      rw [List.getElem?_map] at hky
      cases q : ys[x]? with
      | none => rw [q] at hky; cases hky
      | some y =>
        rw [q] at hky
        obtain ⟨k2, p2⟩ := y
        cases hky
        exact hn x p2 q
    · have hkx : (xs.map (·.1))[x]? = some k := by rw [List.getElem?_map, hkv]; rfl
      have hkj : (ys.map (·.1))[j]? = some k := by rw [List.getElem?_map, hj]; rfl
      rw [hk] at hkx
      have ej : j = x := (List.getElem?_inj (List.getElem?_eq_some_iff.mp hkj).1 hnb).mp (hkj.trans hkx.symm)
      subst ej
      have hjlt : j < es'.size := by omega
      have hey : es'[j] = ⟨knd.hash k, .ref p.1, p.2⟩ := by
        have := entry_at heb j
        rw [hj, Array.getElem?_eq_getElem hjlt] at this
        exact Option.some.inj this
      refine wpAny_bind (wpAny_dictEntries hob hdb ?_)
      rw [Array.getElem?_eq_getElem hjlt, hey]
      refine wpAny_holding (hv j _ _ hkv hj _ _ ?_)
      show wpAny _ _ (if (!true) = true then _ else _) _ _ _
      rw [if_neg (by decide)]
      refine wpAny_bind (wpAny_dictEpoch hoa hda ?_)
      rw [if_neg (by simp)]
      exact wpAny_pure ⟨rfl, rfl, j + 1, hrest, hlt⟩
  · rintro q s' ⟨rfl, rfl, i, hr, hi⟩
    exact wpAny_pure h
theorem rcT_dicts {a b : Addr} {xs ys : List (K × Addr × Value)} (ha : (a == sysModules) = false) (hb : (b == sysModules) = false)
    (da : s.heap.DictOfH knd a xs) (db : s.heap.DictOfH knd b ys) (hu : A.units < cLine) (hr : knd.room A.in1) (hk : xs.map (·.1) = ys.map (·.1)) (hv : ∀ (i : Nat) x y, xs[i]? = some x → ys[i]? = some y → SeqAt.EqP prog w A.in1 s x.2.2 y.2.2 true) (E Q : Value → Shared → Prop) (h : Q (.bool true) s) : wpAny (model prog w) A (richCompare .Eq (.ref a) (.ref b)) Q E s := by
  refine wpAny_richCompare_same_room (op := .Eq) da.typeIs db.typeIs PySem.F.slot_dict_eq (wpAny_call_entry PySem.F.slot_dict_eq da.typeIs PySem.F.entry_dict_eq ?_ (PySem.F.args_dict_eq_2 _ _)) hu
  show wpAny _ _ (Builtin.Dict.dictSlotArgs "__eq__" ⟨[.ref a, .ref b], []⟩ >>= _) _ _ s
  refine wpAny_bind ?_
  unfold Builtin.Dict.dictSlotArgs
  refine wpAny_bind (wpAny_notOrdered_dict da.typeIs ?_)
  show wpAny _ _ (pure (Value.ref a, Value.ref b)) _ _ s
  refine wpAny_pure ?_
  refine wpAny_bind (wpAny_isInstance (T := "dict") db.typeIs PySem.F.sub_dict_dict ?_)
  simp only [Bool.not_true, Bool.false_eq_true, if_false]
  refine wpAny_bind (wpAny_pure (wpAny_bind (wpAny_pure ?_)))
  refine wpAny_bind (samePairsT ha hb da db hr hk hv ?_)
  refine wpAny_pure ⟨_, rfl, ?_, ?_⟩
  · exact fun x => nomatch x
  · simpa using h
end
mutual
theorem nk_hash : ∀ {x : D} {k : NestedKey} (w w' : World), nkD x = some k → k.hash w = k.hash w'
  | .int i, _, w, w', h => by cases h; rfl
  | .tup xs, _, w, w', h => by
    simp only [nkD] at h
    cases e : nkL xs with
    | none => rw [e] at h; cases h
    | some ks =>
      rw [e] at h
      cases h
      simp only [NestedKey.hash]
      rw [nk_hashL w w' e]
  | .non, _, _, _, h => by cases h
  | .bl _, _, _, _, h => by cases h
  | .str _, _, _, _, h => by cases h
  | .lst _, _, _, _, h => by cases h
  | .dct _, _, _, _, h => by cases h
  | .tdc _, _, _, _, h => by cases h
  | .rng _ _, _, _, _, h => by cases h
  | .glo _, _, _, _, h => by cases h
  | .ty _, _, _, _, h => by cases h
  | .exc _ _, _, _, _, h => by cases h
theorem nk_hashL : ∀ {xs : List D} {ks : List NestedKey} (w w' : World), nkL xs = some ks → NestedKey.hashes w ks = NestedKey.hashes w' ks
  | [], _, _, _, h => by cases h; rfl
  | x :: xs, _, w, w', h => by
    simp only [nkL] at h
    cases e1 : nkD x with
    | none => rw [e1] at h; cases h
    | some a =>
      cases e2 : nkL xs with
      | none => rw [e1, e2] at h; cases h
      | some b =>
        rw [e1, e2] at h
        cases h
        simp only [NestedKey.hashes]
        rw [nk_hash w w' e1, nk_hashL w w' e2]
end
mutual
theorem nk_inj : ∀ {x y : D} {k : NestedKey}, nkD x = some k → nkD y = some k → x = y
  | .int i, y, _, h, h2 => by
    cases h
    cases y <;> first | (cases h2; done) | skip
    · cases h2; rfl
    · rename_i ys
      simp only [nkD] at h2
      cases e : nkL ys <;> rw [e] at h2 <;> cases h2
  | .tup xs, y, _, h, h2 => by
    simp only [nkD] at h
    cases e : nkL xs with
    | none => rw [e] at h; cases h
    | some ks =>
      rw [e] at h
      cases h
      cases y <;> first | (cases h2; done) | skip
      rename_i ys
      simp only [nkD] at h2
      cases e2 : nkL ys with
      | none => rw [e2] at h2; cases h2
      | some ks2 =>
        rw [e2] at h2
        cases h2
        rw [nk_injL e e2]
  | .non, _, _, h, _ => by cases h
  | .bl _, _, _, h, _ => by cases h
  | .str _, _, _, h, _ => by cases h
  | .lst _, _, _, h, _ => by cases h
  | .dct _, _, _, h, _ => by cases h
  | .tdc _, _, _, h, _ => by cases h
  | .rng _ _, _, _, h, _ => by cases h
  | .glo _, _, _, h, _ => by cases h
  | .ty _, _, _, h, _ => by cases h
  | .exc _ _, _, _, h, _ => by cases h
theorem nk_injL : ∀ {xs ys : List D} {ks : List NestedKey}, nkL xs = some ks → nkL ys = some ks → xs = ys
  | [], ys, _, h, h2 => by
    cases h
    cases ys with
    | nil => rfl
    | cons y ys =>
      simp only [nkL] at h2
      cases e1 : nkD y <;> cases e2 : nkL ys <;> rw [e1, e2] at h2 <;> cases h2
  | x :: xs, ys, _, h, h2 => by
    simp only [nkL] at h
    cases e1 : nkD x with
    | none => rw [e1] at h; cases h
    | some a =>
      cases e2 : nkL xs with
      | none => rw [e1, e2] at h; cases h
      | some b =>
        rw [e1, e2] at h
        cases h
        cases ys with
        | nil => cases h2
        | cons y ys =>
          simp only [nkL] at h2
          cases f1 : nkD y with
          | none => rw [f1] at h2; cases h2
          | some a2 =>
            cases f2 : nkL ys with
            | none => rw [f1, f2] at h2; cases h2
            | some b2 =>
              rw [f1, f2] at h2
              cases h2
              rw [nk_inj e1 f1, nk_injL e2 f2]
end
theorem tk_nk {x : D} {k : NestedKey} (h : tkD x = some k) : nkD x = some k ∧ k.depth ≤ 8 := by
  unfold tkD at h
  cases x <;> first | (cases h; done) | skip
  rename_i xs
  simp only at h
  cases e : nkL xs with
  | none => rw [e] at h; cases h
  | some ks =>
    rw [e] at h
    simp only at h
    split at h
    · rename_i hd
      cases h
      exact ⟨by simp only [nkD, e]; rfl, hd⟩
    · cases h
theorem tk_inj {x y : D} {k : NestedKey} (h : tkD x = some k) (h2 : tkD y = some k) : x = y := nk_inj (tk_nk h).1 (tk_nk h2).1
section
variable {Γ : Env} {X : Cx} {pins : List (Addr × Obj)} {σ : L2.St} {G H : Hp} {s : Shared}
mutual
theorem Rep.nested (hK : X.K = Γ.K) (I : Inv X pins σ H s) (S : Same G H) : ∀ {x : D} {k : NestedKey} {v : V} {u : Value}, nkD x = some k → Rep Γ G x v → L2.RelV v u → NestedIs s.heap k u
  | .int i, _, _, _, h, r, ru => by cases h; cases r; obtain ⟨t, rfl⟩ := ru; exact .int _ _
  | .tup xs, _, _, _, h, r, ru => by
    simp only [nkD] at h
    cases e : nkL xs with
    | none => rw [e] at h; cases h
    | some ks =>
      rw [e] at h
      cases h
      cases r with
      | tup hs rl =>
        cases ru
        obtain ⟨its, rv, ⟨o, ho, hc, n, hd⟩, _⟩ := I.tuple (show SqT X.K H _ _ by rw [hK]; exact Same.sqT S hs)
        exact .tup ho hc hd (RepL.nested hK I S e rl rv)
  | .non, _, _, _, h, _, _ => by cases h
  | .bl _, _, _, _, h, _, _ => by cases h
  | .str _, _, _, _, h, _, _ => by cases h
  | .lst _, _, _, _, h, _, _ => by cases h
  | .dct _, _, _, _, h, _, _ => by cases h
  | .tdc _, _, _, _, h, _, _ => by cases h
  | .rng _ _, _, _, _, h, _, _ => by cases h
  | .glo _, _, _, _, h, _, _ => by cases h
  | .ty _, _, _, _, h, _, _ => by cases h
  | .exc _ _, _, _, _, h, _, _ => by cases h
theorem RepL.nested (hK : X.K = Γ.K) (I : Inv X pins σ H s) (S : Same G H) : ∀ {xs : List D} {ks : List NestedKey} {vs : List V} {us : List Value}, nkL xs = some ks → RepL Γ G xs vs → Vals vs us → NestedAll s.heap ks us
  | [], _, _, _, h, r, ru => by cases h; cases r; cases ru; exact .nil
  | x :: xs, _, _, _, h, r, ru => by
    simp only [nkL] at h
    cases e1 : nkD x with
    | none => rw [e1] at h; cases h
    | some a =>
      cases e2 : nkL xs with
      | none => rw [e1, e2] at h; cases h
      | some b =>
        rw [e1, e2] at h
        cases h
        cases r with
        | cons r1 r2 =>
          cases ru with
          | cons u1 u2 => exact .cons (Rep.nested hK I S e1 r1 u1) (RepL.nested hK I S e2 r2 u2)
end
theorem RepT.length : ∀ {kvs : List (D × D)} {xs : List (NestedKey × Addr × Value)}, RepT Γ G kvs xs → xs.length = kvs.length
  | _, _, .nil => rfl
  | _, _, .cons _ _ _ _ t => by simp [RepT.length t]
theorem RepT.keys (hK : X.K = Γ.K) (I : Inv X pins σ H s) (S : Same G H) : ∀ {kvs : List (D × D)} {xs : List (NestedKey × Addr × Value)}, RepT Γ G kvs xs → ∀ x ∈ xs, NestedIs s.heap x.1 (.ref x.2.1) ∧ x.1.depth ≤ 8 ∧ ∀ w w', x.1.hash w = x.1.hash w'
  | _, _, .nil, x, hx => by simp at hx
  | _, _, .cons h1 h2 _ _ t, x, hx => by
    rcases List.mem_cons.mp hx with rfl | hx
    · exact ⟨Rep.nested hK I S (tk_nk h1).1 h2 rfl, (tk_nk h1).2, fun w w' => nk_hash w w' (tk_nk h1).1⟩
    · exact RepT.keys hK I S t x hx
/-- the dict's object, for any program -/
theorem RepT.dictOf (hK : X.K = Γ.K) (I : Inv X pins σ H s) (S : Same G H) {kvs : List (D × D)} {xs : List (NestedKey × Addr × Value)} {a : Addr} (hr : Rd H a (DT Γ.P Γ.w a xs)) (r : RepT Γ G kvs xs) (P : Program) (w : World) : (a == sysModules) = false ∧ xs.length ≤ sizeLine ∧ s.heap.DictOfH (nestedKind P w) a xs := by
  obtain ⟨⟨h1, h2, h3, o, es, ep, ho, hc, hd, he⟩, _⟩ : ObjOk X.prog X.w H s.heap a (DT Γ.P Γ.w a xs) := hr.ok I.hok
  have hk := RepT.keys hK I S r
  refine ⟨h1, h2, o, es, ep, ho, hc, hd, ?_, fun x hx => ⟨(hk x hx).1, (hk x hx).2.1⟩, h3⟩
  rw [he]
  refine List.map_congr_left fun x hx => ?_
  show (⟨x.1.hash Γ.w, _, _⟩ : DictEntry) = ⟨x.1.hash w, _, _⟩
  rw [(hk x hx).2.2 Γ.w w]
theorem RepT.at : ∀ {kvs : List (D × D)} {xs : List (NestedKey × Addr × Value)} {i : Nat} {x : NestedKey × Addr × Value}, RepT Γ G kvs xs → xs[i]? = some x → ∃ k d v, kvs[i]? = some (k, d) ∧ tkD k = some x.1 ∧ Rep Γ G k (.ref x.2.1) ∧ RelV v x.2.2 ∧ Rep Γ G d v
  | _, _, _, _, .nil, h => by simp at h
  | _, _, 0, _, .cons h1 h2 h3 h4 _, h => by simp at h; subst h; exact ⟨_, _, _, rfl, h1, h2, h3, h4⟩
  | _, _, i + 1, _, .cons _ _ _ _ t, h => by
    obtain ⟨k, d, v, q⟩ := RepT.at (i := i) t (by simpa using h)
    exact ⟨k, d, v, by simpa using q.1, q.2⟩
theorem RepT.nks : ∀ {kvs : List (D × D)} {xs ys : List (NestedKey × Addr × Value)}, RepT Γ G kvs xs → RepT Γ G kvs ys → xs.map (·.1) = ys.map (·.1)
  | _, _, _, .nil, h => by cases h; rfl
  | _, _, _, .cons h1 _ _ _ t, h => by
    cases h with
    | cons k1 _ _ _ t2 =>
      rw [h1] at k1
      cases k1
      rw [List.map_cons, List.map_cons, RepT.nks t t2]
theorem all_true (n : Nat) : ((List.range n).all fun _ => true) = true := List.all_eq_true.mpr fun _ _ => rfl
/-- the same data, read twice -/
theorem eqS (hK : X.K = Γ.K) (I : Inv X pins σ H s) : ∀ (n : Nat) (x : D), sok n x = true → ∀ (G G' : Hp), Same G H → Same G' H → ∀ (v v' : V) (u u' : Value), RepA Γ G H x v → RepA Γ G' H x v' → RelV v u → RelV v' u' → ∀ (A : Around), A.units + n + 10 < cLine → SeqAt.EqAt A s u u' true := by
  intro n
  induction n with
  | zero =>
    intro x hx G G' S S' v v' u u' r r' ru ru' A hA
    cases x <;> first | (simp [sok] at hx; done) | skip
    · obtain rfl := r.non; obtain rfl := r'.non; cases ru; cases ru'; exact SeqAt.EqAt.same _
    · obtain rfl := r.bl; obtain rfl := r'.bl; cases ru; cases ru'; exact SeqAt.EqAt.same _
    · obtain rfl := r.int; obtain rfl := r'.int; obtain ⟨t, rfl⟩ := ru; obtain ⟨t', rfl⟩ := ru'; exact (SeqAt.EqAt.int_int _ _ _ _).cast (by simp)
    · obtain rfl := r.str; obtain rfl := r'.str; obtain ⟨t, rfl⟩ := ru; obtain ⟨t', rfl⟩ := ru'; exact (SeqAt.EqAt.str_str _ _ _ _).cast (by simp)
  | succ n ih =>
    intro x hx G G' S S' v v' u u' r r' ru ru' A hA
    have items : ∀ (xs : List D), sokL n xs = true → ∀ (vs vs' : List V) (us us' : List Value), RepL Γ G xs vs → RepL Γ G' xs vs' → Vals vs us → Vals vs' us' → ∀ j (h1 : j < us.toArray.size) (h2 : j < us'.toArray.size), SeqAt.EqAt A.in1 s us.toArray[j] us'.toArray[j] true := by
      intro xs
      induction xs with
      | nil =>
        intro _ vs vs' us us' h1 h2 h3 h4 j hj
        cases h1
        cases h3
        exact absurd hj (by simp)
      | cons x xs ihx =>
        intro hs vs vs' us us' h1 h2 h3 h4 j hj hj'
        simp only [sokL, Bool.and_eq_true] at hs
        cases h1 with
        | cons a1 b1 =>
          cases h2 with
          | cons a2 b2 =>
            cases h3 with
            | cons a3 b3 =>
              cases h4 with
              | cons a4 b4 =>
                cases j with
                | zero => exact ih x hs.1 G G' S S' _ _ _ _ (.fix a1) (.fix a2) a3 a4 A.in1 (by show A.units + 1 + n + 10 < cLine; omega)
                | succ j =>
                  have := ihx hs.2 _ _ _ _ b1 b2 b3 b4 j (by simpa using hj) (by simpa using hj')
                  simpa using this
    cases x <;> first | (simp [sok] at hx; done) | skip
    · obtain rfl := r.non; obtain rfl := r'.non; cases ru; cases ru'; exact SeqAt.EqAt.same _
    · obtain rfl := r.bl; obtain rfl := r'.bl; cases ru; cases ru'; exact SeqAt.EqAt.same _
    · obtain rfl := r.int; obtain rfl := r'.int; obtain ⟨t, rfl⟩ := ru; obtain ⟨t', rfl⟩ := ru'; exact (SeqAt.EqAt.int_int _ _ _ _).cast (by simp)
    · obtain rfl := r.str; obtain rfl := r'.str; obtain ⟨t, rfl⟩ := ru; obtain ⟨t', rfl⟩ := ru'; exact (SeqAt.EqAt.str_str _ _ _ _).cast (by simp)
    · rename_i xs
      obtain ⟨a, vs, rfl, h1, rl⟩ := r.tup
      obtain ⟨b, vs', rfl, h2, rl'⟩ := r'.tup
      cases ru
      cases ru'
      obtain ⟨its, rv, p1, _⟩ := I.tuple (show SqT X.K H _ _ by rw [hK]; exact Same.sqT S h1)
      obtain ⟨its', rv', p2, _⟩ := I.tuple (show SqT X.K H _ _ by rw [hK]; exact Same.sqT S' h2)
      by_cases hab : a = b
      · subst hab; exact SeqAt.EqAt.same _
      · have hz : its.toArray.size = its'.toArray.size := by
          rw [List.size_toArray, List.size_toArray, ← rv.length, ← rv'.length, rl.length, rl'.length]
        refine SeqAt.EqAt.cast (SeqAt.EqAt.of_refs hab (SeqAt.RcAt.tuples (e := fun _ => true) p1 p2 (by omega) (items xs (by simpa [sok] using hx) _ _ _ _ rl rl' rv rv'))) ?_
        rw [hz, all_true]
        simp
    · rename_i xs
      obtain ⟨a, vs, rfl, h1, rl⟩ := r.isLst S
      obtain ⟨b, vs', rfl, h2, rl'⟩ := r'.isLst S'
      cases ru
      cases ru'
      obtain ⟨its, rv, p1, _⟩ := I.list (.inl h1)
      obtain ⟨its', rv', p2, _⟩ := I.list (.inl h2)
      by_cases hab : a = b
      · subst hab; exact SeqAt.EqAt.same _
      · have hz : its.toArray.size = its'.toArray.size := by
          rw [List.size_toArray, List.size_toArray, ← rv.length, ← rv'.length, rl.length, rl'.length]
        refine SeqAt.EqAt.cast (SeqAt.EqAt.of_refs hab (SeqAt.RcAt.lists (e := fun _ => true) p1.isList p2.isList hz (by omega) (items xs (by simpa [sok] using hx) _ _ _ _ rl rl' rv rv'))) ?_
        rw [all_true]
    · rename_i kvs
      obtain ⟨a, xs, rfl, h1, rl⟩ := r.isTdc S
      obtain ⟨b, ys, rfl, h2, rl'⟩ := r'.isTdc S'
      cases ru
      cases ru'
      by_cases hab : a = b
      · subst hab; exact SeqAt.EqAt.same _
      · refine SeqAt.EqAt.of_refs hab fun prog w E Q hq => ?_
        obtain ⟨q1, _, q2⟩ := RepT.dictOf hK I S h1 rl prog w
        obtain ⟨q3, _, q4⟩ := RepT.dictOf hK I S' h2 rl' prog w
        have hn : RepT Γ H kvs xs := RepT.mono S rl
        have hn' : RepT Γ H kvs ys := RepT.mono S' rl'
        refine rcT_dicts q1 q3 q2 q4 (by omega) (by show A.units + 1 + 8 < cLine; omega) (RepT.nks hn hn') (fun i x y hx1 hy1 => ?_) E Q hq
        obtain ⟨k, d, v, e1, e2, e3, e4, e5⟩ := RepT.at hn hx1
        obtain ⟨k', d', v', f1, f2, f3, f4, f5⟩ := RepT.at hn' hy1
        rw [e1] at f1
        cases f1
        have hd : sok n d = true := by
          have : ∀ (kvs : List (D × D)) (i : Nat), sokP n kvs = true → kvs[i]? = some (k, d) → sok n d = true := by
            intro kvs
            induction kvs with
            | nil => intro i _ h; simp at h
            | cons p r ihp =>
              intro i h1 h2
              obtain ⟨pk, px⟩ := p
              simp only [sokP, Bool.and_eq_true] at h1
              cases i with
              | zero => simp at h2; rw [← h2.2]; exact h1.1
              | succ i => exact ihp i h1.2 (by simpa using h2)
          exact this kvs i (by simpa [sok] using hx) e1
        exact (ih d hd H H (Same.refl H) (Same.refl H) _ _ _ _ (.fix e5) (.fix f5) e4 f4 A.in1 (by show A.units + 1 + n + 10 < cLine; omega)).eqP
theorem itemsS (hK : X.K = Γ.K) (I : Inv X pins σ H s) {n : Nat} {G G' : Hp} (S : Same G H) (S' : Same G' H) {A : Around} (hA : A.units + n + 10 < cLine) : ∀ (xs : List D), sokL n xs = true → ∀ (vs vs' : List V) (us us' : List Value), RepL Γ G xs vs → RepL Γ G' xs vs' → Vals vs us → Vals vs' us' → ∀ j (h1 : j < us.toArray.size) (h2 : j < us'.toArray.size), SeqAt.EqAt A s us.toArray[j] us'.toArray[j] true := by
  intro xs
  induction xs with
  | nil =>
    intro _ vs vs' us us' h1 h2 h3 h4 j hj
    cases h1
    cases h3
    exact absurd hj (by simp)
  | cons x xs ihx =>
    intro hs vs vs' us us' h1 h2 h3 h4 j hj hj'
    simp only [sokL, Bool.and_eq_true] at hs
    cases h1 with
    | cons a1 b1 =>
      cases h2 with
      | cons a2 b2 =>
        cases h3 with
        | cons a3 b3 =>
          cases h4 with
          | cons a4 b4 =>
            cases j with
            | zero => exact eqS hK I n x hs.1 G G' S S' _ _ _ _ (.fix a1) (.fix a2) a3 a4 A hA
            | succ j =>
              have := ihx hs.2 _ _ _ _ b1 b2 b3 b4 j (by simpa using hj) (by simpa using hj')
              simpa using this
/-- a == b, a != b: the same data -/
def rEqS (Γ : Env) (r : Bool) : R2 := fun x y H Q => ∃ G d, Same G H ∧ RepA Γ G H d x ∧ RepA Γ G H d y ∧ sok 40 d = true ∧ isSq d = true ∧ Q (.bl r) H
theorem seqS_core (hK : X.K = Γ.K) (hu : X.A.units + 64 < cLine) (I : Inv X pins σ H s) {G : Hp} {d : D} {x y : V} {v u : Value} (S : Same G H) (r1 : RepA Γ G H d x) (r2 : RepA Γ G H d y) (h1 : sok 40 d = true) (h2 : isSq d = true) (rx : RelV x v) (ry : RelV y u) : SeqAt.RcAt X.A s v u true ∧ SeqAt.RcNeAt X.A s v u false := by
  cases d <;> first | (cases h2; done) | skip
  · rename_i xs
    obtain ⟨a, vs, rfl, h1', rl⟩ := r1.tup
    obtain ⟨b, vs', rfl, h2', rl'⟩ := r2.tup
    cases rx
    cases ry
    obtain ⟨its, rv, p1, _⟩ := I.tuple (show SqT X.K H _ _ by rw [hK]; exact Same.sqT S h1')
    obtain ⟨its', rv', p2, _⟩ := I.tuple (show SqT X.K H _ _ by rw [hK]; exact Same.sqT S h2')
    have hz : its.toArray.size = its'.toArray.size := by
      rw [List.size_toArray, List.size_toArray, ← rv.length, ← rv'.length, rl.length, rl'.length]
    have it := itemsS hK I S S (A := X.A.in1) (n := 39) (by show X.A.units + 1 + 39 + 10 < cLine; omega) xs (by simpa [sok] using h1) _ _ _ _ rl rl' rv rv'
    have e1 := SeqAt.RcAt.tuples (e := fun _ => true) p1 p2 (by omega) it
    have e2 := SeqAt.RcNeAt.tuples (e := fun _ => true) p1 p2 (by omega) it
    rw [hz, all_true] at e1 e2
    simp only [beq_self_eq_true, Bool.and_self, Bool.not_true] at e1 e2
    exact ⟨e1, e2⟩
  · rename_i xs
    obtain ⟨a, vs, rfl, h1', rl⟩ := r1.isLst S
    obtain ⟨b, vs', rfl, h2', rl'⟩ := r2.isLst S
    cases rx
    cases ry
    obtain ⟨its, rv, p1, _⟩ := I.list (.inl h1')
    obtain ⟨its', rv', p2, _⟩ := I.list (.inl h2')
    have hz : its.toArray.size = its'.toArray.size := by
      rw [List.size_toArray, List.size_toArray, ← rv.length, ← rv'.length, rl.length, rl'.length]
    have it := itemsS hK I S S (A := X.A.in1) (n := 39) (by show X.A.units + 1 + 39 + 10 < cLine; omega) xs (by simpa [sok] using h1) _ _ _ _ rl rl' rv rv'
    have e1 := SeqAt.RcAt.lists (e := fun _ => true) p1.isList p2.isList hz (by omega) it
    have e2 := SeqAt.RcNeAt.lists (e := fun _ => true) p1.isList p2.isList hz (by omega) it
    rw [all_true] at e1 e2
    exact ⟨e1, e2⟩
theorem op_eqS (hK : X.K = Γ.K) (hu : X.A.units + 64 < cLine) : OpR X (compareOp .Eq) (rEqS Γ true) := by
  intro pins s σ H x y v u Q I rx ry h
  obtain ⟨G, d, S, r1, r2, h1, h2, q⟩ := h
  exact (seqS_core hK hu I S r1 r2 h1 h2 rx ry).1 X.prog X.w X.xe _ ⟨.bl true, H, I, rfl, q⟩
theorem op_neS (hK : X.K = Γ.K) (hu : X.A.units + 64 < cLine) : OpR X (compareOp .NotEq) (rEqS Γ false) := by
  intro pins s σ H x y v u Q I rx ry h
  obtain ⟨G, d, S, r1, r2, h1, h2, q⟩ := h
  exact (seqS_core hK hu I S r1 r2 h1 h2 rx ry).2 X.prog X.w X.xe _ ⟨.bl false, H, I, rfl, q⟩
/-- where a key stands -/
theorem RepT.get {k : D} {nk : NestedKey} (hk : tkD k = some nk) : ∀ {kvs : List (D × D)} {xs : List (NestedKey × Addr × Value)} {z : D}, RepT Γ G kvs xs → getK kvs k = some z → ∃ b v u, atKey xs nk = some (b, u) ∧ RelV v u ∧ Rep Γ G z v
  | _, _, _, .nil, h => by simp [getK] at h
  | _, _, z, .cons (k := k') (x := x) (nk := nk') (b := b) (v := v) (u := u) (r := r) (rs := rs) h1 h2 h3 h4 t, h => by
    by_cases e : k' = k
    · subst e
      rw [hk] at h1
      cases h1
      have hz : x = z := by simpa [getK] using h
      subst hz
      exact ⟨b, v, u, by simp [atKey], h3, h4⟩
    · have ne : nk' ≠ nk := fun q => e (tk_inj (q ▸ h1) hk)
      have h' : getK r k = some z := by
        unfold getK at h ⊢
        rw [List.find?_cons_of_neg (by simpa using e)] at h
        exact h
      obtain ⟨b', v', u', q1, q2⟩ := RepT.get hk t h'
      refine ⟨b', v', u', ?_, q2⟩
      unfold atKey at q1 ⊢
      rw [List.find?_cons_of_neg (by simpa using ne)]
      exact q1
theorem tk_tup {k : D} {nk : NestedKey} (h : tkD k = some nk) : ∃ xs, k = .tup xs := by
  cases k <;> first | (cases h; done) | exact ⟨_, rfl⟩
theorem RepA.tkey (hK : X.K = Γ.K) (I : Inv X pins σ H s) (S : Same G H) {k : D} {nk : NestedKey} {y : V} (h : tkD k = some nk) (r : RepA Γ G H k y) : ∃ b, y = .ref b ∧ Rep Γ G k (.ref b) ∧ NestedIs s.heap nk (.ref b) ∧ nk.depth ≤ 8 := by
  obtain ⟨xs, rfl⟩ := tk_tup h
  obtain ⟨b, vs, rfl, h1, h2⟩ := r.tup
  exact ⟨b, rfl, .tup h1 h2, Rep.nested hK I S (tk_nk h).1 (.tup h1 h2) rfl, (tk_nk h).2⟩
end
end Ip

set_option Elab.async false
set_option linter.all false
set_option maxRecDepth 100000
set_option maxHeartbeats 2000000
/-! IpOp: the layer's rules for the built-in operations, over general data. -/
namespace Ip
open PySem PySem.Spec PyProof.Rows L2

def pr2 (Γ : Env) (g : D → D → Option D) : R2 := fun x y H Q => ∃ G dx dy z, Same G H ∧ RepA Γ G H dx x ∧ RepA Γ G H dy y ∧ g dx dy = some z ∧ ∀ v H', Same H H' → Rep Γ (grow G H H') z v → Q v H'
def pr1 (Γ : Env) (g : D → Option D) : V → Hp → VK → Prop := fun x H Q => ∃ G dx z, Same G H ∧ RepA Γ G H dx x ∧ g dx = some z ∧ ∀ v H', Same H H' → Rep Γ (grow G H H') z v → Q v H'
def prL (Γ : Env) (g : List D → Option D) : List V → Hp → VK → Prop := fun xs H Q => ∃ G ds z, Same G H ∧ RepAs Γ G H ds xs ∧ g ds = some z ∧ ∀ v H', Same H H' → Rep Γ (grow G H H') z v → Q v H'

theorem OpR.imp {X : Cx} {f : Value → Value → Sem Value} {r r' : R2} (h : OpR X f r) (k : ∀ x y H Q, r' x y H Q → r x y H Q) : OpR X f r' := fun pins s σ H x y v u Q I rx ry q => h pins s σ H x y v u Q I rx ry (k x y H Q q)
theorem CallR.imp {X : Cx} {f : Value} {r r' : List V → Hp → VK → Prop} (h : CallR X f r) (k : ∀ x H Q, r' x H Q → r x H Q) : CallR X f r' := fun pins s σ H x v Q I rx q => h pins s σ H x v Q I rx (k x H Q q)
theorem UnR.imp {X : Cx} {f : Value → Sem Value} {r r' : V → Hp → VK → Prop} (h : UnR X f r) (k : ∀ x H Q, r' x H Q → r x H Q) : UnR X f r' := fun pins s σ H x v Q I rx q => h pins s σ H x v Q I rx (k x H Q q)
theorem IxR.imp {X : Cx} {r r' : R2} (h : IxR X r) (k : ∀ x y H Q, r' x y H Q → r x y H Q) : IxR X r' := fun value slice pins s σ H x y v u Q I rx ry q hs => h value slice pins s σ H x y v u Q I rx ry (k x y H Q q) hs

section
variable {Γ : Env} {G H : Hp} {Q : VK} {z : D}
/-- the value stands as it is -/
theorem give0 (S : Same G H) (q : ∀ v H', Same H H' → Rep Γ (grow G H H') z v → Q v H') {v : V} (r : Rep Γ G z v) : Q v H :=
  q v H (Same.refl H) (Rep.mono (grow_same S) r)
theorem giveL {xs : List D} (S : Same G H) (q : ∀ v H', Same H H' → Rep Γ (grow G H H') (.lst xs) v → Q v H') {vs : List V} (r : RepL Γ G xs vs) {p : Addr} (hp : H p = none) : Q (.ref p) (upd H p (.lst vs)) :=
  q _ _ (same_upd hp) (.lst (.inl (grow_up hp)) (RepL.mono (grow_same S) r))
theorem giveT {xs : List D} (S : Same G H) (q : ∀ v H', Same H H' → Rep Γ (grow G H H') (.tup xs) v → Q v H') {vs : List V} (r : RepL Γ G xs vs) {p : Addr} (hp : H p = none) : Q (.ref p) (upd H p (.tup vs)) :=
  q _ _ (same_upd hp) (.tup (SqT.of (grow_up hp)) (RepL.mono (grow_same S) r))
theorem giveR {lo hi : Int} (S : Same G H) (q : ∀ v H', Same H H' → Rep Γ (grow G H H') (.rng lo hi) v → Q v H') {p : Addr} (hp : H p = none) : Q (.ref p) (upd H p (.rng lo hi)) :=
  q _ _ (same_upd hp) (.rng (grow_up hp))

/-! ### data as the library reads it -/
mutual
theorem Rep.dp (S : Same G H) : ∀ {x : D} {v : V}, pln x = true → Rep Γ G x v → Dp Γ.K H v (toP x)
  | _, _, _, .non => .non
  | _, _, _, .bl b => .bl b
  | _, _, _, .int i => .int i
  | _, _, _, .str s => .str _
  | _, _, h, .tup t r => .tup (Same.sqT S t) (RepL.dp S (by simpa [pln] using h) r)
  | _, _, h, .lst t r => .lst (.inl (Same.rd S t)) (RepL.dp S (by simpa [pln] using h) r)
  | _, _, h, .rng _ => by simp [pln] at h
  | _, _, h, .glo _ _ => by simp [pln] at h
  | _, _, h, .ty _ => by simp [pln] at h
  | _, _, h, .dctK _ _ => by simp [pln] at h
  | _, _, h, .tdc _ _ => by simp [pln] at h
theorem RepL.dp (S : Same G H) : ∀ {xs : List D} {vs : List V}, plnL xs = true → RepL Γ G xs vs → DpAll Γ.K H vs (toPL xs)
  | _, _, _, .nil => .nil
  | _, _, h, .cons a r => by
    simp only [plnL, Bool.and_eq_true] at h
    exact .cons (Rep.dp S h.1 a) (RepL.dp S h.2 r)
end
theorem RepA.dp (S : Same G H) {x : D} {v : V} (h : pln x = true) (r : RepA Γ G H x v) : Dp Γ.K H v (toP x) := by
  cases r with
  | fix r => exact Rep.dp S h r
  | lst t r => exact .lst (.inl (.inl t)) (RepL.dp S (by simpa [pln] using h) r)
end

section
variable {X : Cx} {Γ : Env}
theorem hsz : sizeLine = lim := sizeLine_eq
/-! ### arithmetic -/
theorem op_catR : OpR X (binaryOp .Add) (fun x y H Q => ∃ l b xs zs, x = .ref l ∧ y = .ref b ∧ Rd H l (.lst xs) ∧ Rd H b (.lst zs) ∧ xs.length + zs.length ≤ sizeLine ∧ ∀ p, H p = none → Q (.ref p) (upd H p (.lst (xs ++ zs)))) := by
  intro pins s σ H x y v u Q I rx ry h
  obtain ⟨l, b, xs, zs, rfl, rfl, hH, hB, hz, q⟩ := h
  cases rx
  cases ry
  obtain ⟨z, its, n, r, e⟩ := hH.ok I.hok
  obtain ⟨z2, its2, n2, r2, e2⟩ := hB.ok I.hok
  have hl := r.length
  have hl2 := r2.length
  refine PySem.P.add_list e e2 ?_ (by rw [List.size_toArray, List.size_toArray]; omega)
  have ea : its.toArray ++ its2.toArray = (its ++ its2).toArray := by simp
  rw [ea]
  exact ⟨.ref _, _, I.lnew (t' := s.toks) (r.append r2) (by rw [List.length_append]; omega), rfl, q _ I.fresh⟩
theorem op_cat0 : OpR X (binaryOp .Add) (fun x y H Q => ∃ a b ys, x = .ref a ∧ y = .ref b ∧ SqT X.K H a [] ∧ SqT X.K H b ys ∧ Q (.ref b) H) := by
  intro pins s σ H x y v u Q I rx ry h
  obtain ⟨a, b, ys, rfl, rfl, ha, hb, q⟩ := h
  cases rx
  cases ry
  obtain ⟨its, r1, p1, _⟩ := I.tuple ha
  obtain ⟨its2, r2, p2, _⟩ := I.tuple hb
  cases r1
  exact L2.cat_tup0 p1 p2 ⟨.ref b, H, I, rfl, q⟩
theorem or_add (hK : X.K = Γ.K) : OpR X (binaryOp .Add) (pr2 Γ (dbin .add)) := by
  refine OpR.imp (OpR.or op_add (OpR.or op_add_str (OpR.or op_catR (OpR.or op_catT op_cat0)))) fun x y H Q h => ?_
  obtain ⟨G, dx, dy, z, S, ax, ay, e, q⟩ := h
  cases dx <;> cases dy <;> first | (simp [dbin] at e; done) | skip
  · rename_i i j
    cases e
    exact .inl ⟨i, j, ax.int, ay.int, give0 S q (.int _)⟩
  · rename_i a b
    simp only [dbin] at e
    split at e
    · rename_i hz
      cases e
      refine .inr (.inl ⟨sv a, sv b, ax.str, ay.str, by rw [hsz]; simpa [Str.length, sv] using hz, ?_⟩)
      have e2 : sv a ++ sv b = sv (a ++ b) := by show Str.mk _ = Str.mk _; simp [sv]
      rw [e2]
      exact give0 S q (.str _)
    · cases e
  · rename_i a b
    simp only [dbin] at e
    split at e
    · rename_i hz
      cases e
      obtain ⟨l, vs, rfl, hl, r1⟩ := ax.tup
      obtain ⟨m, us, rfl, hm, r2⟩ := ay.tup
      have hl' : SqT X.K H l vs := by rw [hK]; exact Same.sqT S hl
      have hm' : SqT X.K H m us := by rw [hK]; exact Same.sqT S hm
      cases vs with
      | nil =>
        cases r1
        exact .inr (.inr (.inr (.inr ⟨l, m, us, rfl, rfl, hl', hm', give0 S q (.tup hm r2)⟩)))
      | cons v vs =>
        refine .inr (.inr (.inr (.inl ⟨l, m, v :: vs, us, rfl, rfl, hl', hm', by simp, by rw [hsz, r1.length, r2.length]; exact hz, fun hu => ?_, fun _ p hp => giveT S q (r1.append r2) hp⟩)))
        subst hu
        cases r2
        rw [List.append_nil] at q
        exact give0 S q (.tup hl r1)
    · cases e
  · rename_i a b
    simp only [dbin] at e
    split at e
    · rename_i hz
      cases e
      obtain ⟨l, vs, rfl, hl, r1⟩ := ax.isLst S
      obtain ⟨m, us, rfl, hm, r2⟩ := ay.isLst S
      exact .inr (.inr (.inl ⟨l, m, vs, us, rfl, rfl, hl, hm, by rw [hsz, r1.length, r2.length]; exact hz, fun p hp => giveL S q (r1.append r2) hp⟩))
    · cases e
theorem or_sub : OpR X (binaryOp .Sub) (pr2 Γ (dbin .sub)) := by
  refine OpR.imp op_sub fun x y H Q h => ?_
  obtain ⟨G, dx, dy, z, S, ax, ay, e, q⟩ := h
  cases dx <;> cases dy <;> first | (simp [dbin] at e; done) | skip
  · rename_i i j
    cases e
    exact ⟨i, j, ax.int, ay.int, give0 S q (.int _)⟩
theorem or_mul : OpR X (binaryOp .Mult) (pr2 Γ (dbin .mul)) := by
  refine OpR.imp op_mul fun x y H Q h => ?_
  obtain ⟨G, dx, dy, z, S, ax, ay, e, q⟩ := h
  cases dx <;> cases dy <;> first | (simp [dbin] at e; done) | skip
  · rename_i i j
    simp only [dbin] at e
    split at e
    · rename_i hc
      cases e
      exact ⟨i, j, ax.int, ay.int, hc, give0 S q (.int _)⟩
    · cases e
theorem or_fdiv : OpR X (binaryOp .FloorDiv) (pr2 Γ (dbin .fdiv)) := by
  refine OpR.imp op_fdivN fun x y H Q h => ?_
  obtain ⟨G, dx, dy, z, S, ax, ay, e, q⟩ := h
  cases dx <;> cases dy <;> first | (simp [dbin] at e; done) | skip
  · rename_i i j
    simp only [dbin] at e
    split at e
    · rename_i hc
      cases e
      exact ⟨i, j, ax.int, ay.int, hc, give0 S q (.int _)⟩
    · cases e
theorem or_mod : OpR X (binaryOp .Mod) (pr2 Γ (dbin .mod)) := by
  refine OpR.imp op_modN fun x y H Q h => ?_
  obtain ⟨G, dx, dy, z, S, ax, ay, e, q⟩ := h
  cases dx <;> cases dy <;> first | (simp [dbin] at e; done) | skip
  · rename_i i j
    simp only [dbin] at e
    split at e
    · rename_i hc
      cases e
      exact ⟨i, j, ax.int, ay.int, hc, give0 S q (.int _)⟩
    · cases e
theorem or_pow : OpR X (binaryOp .Pow) (pr2 Γ (dbin .pow)) := by
  refine OpR.imp op_pow fun x y H Q h => ?_
  obtain ⟨G, dx, dy, z, S, ax, ay, e, q⟩ := h
  cases dx <;> cases dy <;> first | (simp [dbin] at e; done) | skip
  · rename_i i j
    simp only [dbin] at e
    split at e
    · rename_i hc
      cases e
      exact ⟨i, j, ax.int, ay.int, hc, give0 S q (.int _)⟩
    · cases e

/-! ### comparisons -/
theorem eqD_some {x y : D} {b : Bool} (h : eqD x y = some b) : shp x = true ∧ shp y = true ∧ b = eqv x y := by
  unfold eqD at h
  split at h
  · rename_i hc
    cases h
    simp only [Bool.and_eq_true] at hc
    exact ⟨hc.1, hc.2, rfl⟩
  · cases h
theorem eqE_some {x y : D} {b : Bool} (h : eqE x y = some b) : eqD x y = some b ∨ (sok 40 x = true ∧ isSq x = true ∧ x = y ∧ b = true) := by
  unfold eqE at h
  cases e : eqD x y with
  | some c => rw [e] at h; exact .inl h
  | none =>
    rw [e] at h
    simp only at h
    split at h
    · rename_i hc
      cases h
      simp only [Bool.and_eq_true, decide_eq_true_eq] at hc
      exact .inr ⟨hc.1.1, hc.1.2, hc.2, rfl⟩
    · cases h
theorem or_eq (hK : X.K = Γ.K) (hu : X.A.units + 64 < cLine) : OpR X (compareOp .Eq) (pr2 Γ fun x y => (dcmp .eq x y).map .bl) := by
  refine OpR.imp ((op_eqD hu).or (op_eqS hK hu)) fun x y H Q h => ?_
  obtain ⟨G, dx, dy, z, S, ax, ay, e, q⟩ := h
  simp only [dcmp] at e
  cases e2 : eqE dx dy with
  | none => rw [e2] at e; cases e
  | some b =>
    rw [e2] at e
    cases e
    rcases eqE_some e2 with e2 | ⟨h1, h2, rfl, rfl⟩
    · obtain ⟨h1, h2, rfl⟩ := eqD_some e2
      refine .inl ⟨toP dx, toP dy, by rw [hK]; exact ax.dp S (shp_ok h1).1, by rw [hK]; exact ay.dp S (shp_ok h2).1, (shp_ok h1).2, (shp_ok h2).2, ?_⟩
      rw [toP_eqv _ _ (shp_ok h1).1 (shp_ok h2).1]
      exact give0 S q (.bl _)
    · exact .inr ⟨G, dx, S, ax, ay, h1, h2, give0 S q (.bl _)⟩
theorem or_ne (hK : X.K = Γ.K) (hu : X.A.units + 64 < cLine) : OpR X (compareOp .NotEq) (pr2 Γ fun x y => (dcmp .ne x y).map .bl) := by
  refine OpR.imp ((op_neD hu).or (op_neS hK hu)) fun x y H Q h => ?_
  obtain ⟨G, dx, dy, z, S, ax, ay, e, q⟩ := h
  simp only [dcmp] at e
  cases e2 : eqE dx dy with
  | none => rw [e2] at e; cases e
  | some b =>
    rw [e2] at e
    cases e
    rcases eqE_some e2 with e2 | ⟨h1, h2, rfl, rfl⟩
    · obtain ⟨h1, h2, rfl⟩ := eqD_some e2
      refine .inl ⟨toP dx, toP dy, by rw [hK]; exact ax.dp S (shp_ok h1).1, by rw [hK]; exact ay.dp S (shp_ok h2).1, (shp_ok h1).2, (shp_ok h2).2, ?_⟩
      rw [toP_eqv _ _ (shp_ok h1).1 (shp_ok h2).1]
      exact give0 S q (.bl _)
    · exact .inr ⟨G, dx, S, ax, ay, h1, h2, give0 S q (.bl _)⟩
theorem cmpOk_ok {x y : D} (h : cmpOk x y = true) : pln x = true ∧ pln y = true ∧ alk x y = true ∧ alk y x = true ∧ dep x ≤ 64 ∧ dep y ≤ 64 := by
  simp only [cmpOk, Bool.and_eq_true, shp, decide_eq_true_eq] at h
  exact ⟨h.1.1.1.1, h.1.1.2.1, h.1.2, h.2, h.1.1.1.2, h.1.1.2.2⟩
theorem ltD_some {x y : D} {b : Bool} (h : ltD x y = some b) : cmpOk x y = true ∧ b = ltv x y := by
  unfold ltD at h
  split at h
  · rename_i hc
    cases h
    exact ⟨hc, rfl⟩
  · cases h
theorem alk_none {x y : D} (h : alk x y = true) : toP x ≠ .none := by cases x <;> simp [alk] at h <;> simp [toP]
/-- the four, of alike data -/
def rOrd (Γ : Env) (g : D → D → Bool) : R2 := fun x y H Q => ∃ G dx dy, Same G H ∧ RepA Γ G H dx x ∧ RepA Γ G H dy y ∧ cmpOk dx dy = true ∧ Q (.bl (g dx dy)) H
theorem ord_core (hK : X.K = Γ.K) (hu : X.A.units + 64 < cLine) {op : CmpOp} {g : D → D → Bool}
    (rule : ∀ {s : Shared} {a b : Value} {da db : PyData} {as bs : List Addr} {Q : Value → Shared → Prop} (x y : D), da = toP x → db = toP y → cmpOk x y = true → Reads s.heap a da as → Reads s.heap b db bs → W.alike da db = true → W.alike db da = true → da ≠ .none → X.A.units + min da.depth db.depth < cLine → Q (.bool (g x y)) s → wpAny (model X.prog X.w) X.A (compareOp op a b) Q X.xe s) :
    OpR X (compareOp op) (rOrd Γ g) := by
  intro pins s σ H x y v u Q I rx ry h
  obtain ⟨G, dx, dy, S, ax, ay, hc, q⟩ := h
  obtain ⟨p1, p2, k1, k2, d1, d2⟩ := cmpOk_ok hc
  obtain ⟨as, r1⟩ := Dp.reads I (toP dx) x v (by rw [hK]; exact ax.dp S p1) rx
  obtain ⟨bs, r2⟩ := Dp.reads I (toP dy) y u (by rw [hK]; exact ay.dp S p2) ry
  refine rule dx dy rfl rfl hc r1 r2 (alk_pln _ _ k1) (alk_pln _ _ k2) (alk_none k1) ?_ ⟨.bl _, H, I, rfl, q⟩
  rw [toP_dep, toP_dep]
  have := Nat.min_le_left (dep dx) (dep dy)
  omega
theorem lt_cases (x y : D) : (∃ i j, x = .int i ∧ y = .int j ∧ dcmp .lt x y = some (decide (i < j))) ∨ dcmp .lt x y = ltD x y := by
  cases x <;> cases y <;> first | exact .inl ⟨_, _, rfl, rfl, rfl⟩ | exact .inr rfl
theorem gt_cases (x y : D) : (∃ i j, x = .int i ∧ y = .int j ∧ dcmp .gt x y = some (decide (j < i))) ∨ dcmp .gt x y = ltD y x := by
  cases x <;> cases y <;> first | exact .inl ⟨_, _, rfl, rfl, rfl⟩ | exact .inr rfl
theorem le_cases (x y : D) : (∃ i j, x = .int i ∧ y = .int j ∧ dcmp .le x y = some (decide (i ≤ j))) ∨ dcmp .le x y = (ltD y x).map not := by
  cases x <;> cases y <;> first | exact .inl ⟨_, _, rfl, rfl, rfl⟩ | exact .inr rfl
theorem ge_cases (x y : D) : (∃ i j, x = .int i ∧ y = .int j ∧ dcmp .ge x y = some (decide (j ≤ i))) ∨ dcmp .ge x y = (ltD x y).map not := by
  cases x <;> cases y <;> first | exact .inl ⟨_, _, rfl, rfl, rfl⟩ | exact .inr rfl
theorem or_lt (hK : X.K = Γ.K) (hu : X.A.units + 64 < cLine) : OpR X (compareOp .Lt) (pr2 Γ fun x y => (dcmp .lt x y).map .bl) := by
  refine OpR.imp (OpR.or op_lt (ord_core (g := ltv) hK hu fun x y e1 e2 hc r1 r2 k1 k2 hn hd hq => ?_)) fun x y H Q h => ?_
  · obtain ⟨p1, p2, k1', k2', _, _⟩ := cmpOk_ok hc
    refine W.lt_data r1 r2 k1 hn hd ?_
    subst e1; subst e2
    rw [ltv_ok _ _ p1 p2 k1']
    exact hq
  · obtain ⟨G, dx, dy, z, S, ax, ay, e, q⟩ := h
    dsimp only at e
    rcases lt_cases dx dy with ⟨i, j, rfl, rfl, e3⟩ | e3
    · rw [e3] at e
      cases e
      exact .inl ⟨_, _, ax.int, ay.int, give0 S q (.bl _)⟩
    · rw [e3] at e
      cases e2 : ltD dx dy with
      | none => rw [e2] at e; cases e
      | some b =>
        rw [e2] at e
        cases e
        obtain ⟨hc, rfl⟩ := ltD_some e2
        exact .inr ⟨G, dx, dy, S, ax, ay, hc, give0 S q (.bl _)⟩
theorem cmpOk_comm {x y : D} (h : cmpOk x y = true) : cmpOk y x = true := by
  simp only [cmpOk, Bool.and_eq_true] at h ⊢
  exact ⟨⟨⟨h.1.1.2, h.1.1.1⟩, h.2⟩, h.1.2⟩
theorem or_gt (hK : X.K = Γ.K) (hu : X.A.units + 64 < cLine) : OpR X (compareOp .Gt) (pr2 Γ fun x y => (dcmp .gt x y).map .bl) := by
  refine OpR.imp (OpR.or op_gt (ord_core (g := fun x y => ltv y x) hK hu fun x y e1 e2 hc r1 r2 k1 k2 hn hd hq => ?_)) fun x y H Q h => ?_
  · obtain ⟨p1, p2, k1', k2', _, _⟩ := cmpOk_ok hc
    refine W.gt_data r1 r2 k1 hn hd ?_
    subst e1; subst e2
    rw [ltv_ok _ _ p2 p1 k2']
    exact hq
  · obtain ⟨G, dx, dy, z, S, ax, ay, e, q⟩ := h
    dsimp only at e
    rcases gt_cases dx dy with ⟨i, j, rfl, rfl, e3⟩ | e3
    · rw [e3] at e
      cases e
      exact .inl ⟨_, _, ax.int, ay.int, give0 S q (.bl _)⟩
    · rw [e3] at e
      cases e2 : ltD dy dx with
      | none => rw [e2] at e; cases e
      | some b =>
        rw [e2] at e
        cases e
        obtain ⟨hc, rfl⟩ := ltD_some e2
        exact .inr ⟨G, dx, dy, S, ax, ay, cmpOk_comm hc, give0 S q (.bl _)⟩
theorem or_le (hK : X.K = Γ.K) (hu : X.A.units + 64 < cLine) : OpR X (compareOp .LtE) (pr2 Γ fun x y => (dcmp .le x y).map .bl) := by
  refine OpR.imp (OpR.or op_le (ord_core (g := fun x y => !ltv y x) hK hu fun x y e1 e2 hc r1 r2 k1 k2 hn hd hq => ?_)) fun x y H Q h => ?_
  · obtain ⟨p1, p2, k1', k2', _, _⟩ := cmpOk_ok hc
    refine W.le_data r1 r2 k1 hn hd ?_
    subst e1; subst e2
    rw [ltv_ok _ _ p2 p1 k2']
    exact hq
  · obtain ⟨G, dx, dy, z, S, ax, ay, e, q⟩ := h
    dsimp only at e
    rcases le_cases dx dy with ⟨i, j, rfl, rfl, e3⟩ | e3
    · rw [e3] at e
      cases e
      exact .inl ⟨_, _, ax.int, ay.int, give0 S q (.bl _)⟩
    · rw [e3] at e
      cases e2 : ltD dy dx with
      | none => rw [e2] at e; cases e
      | some b =>
        rw [e2] at e
        cases e
        obtain ⟨hc, rfl⟩ := ltD_some e2
        exact .inr ⟨G, dx, dy, S, ax, ay, cmpOk_comm hc, give0 S q (.bl _)⟩
theorem or_ge (hK : X.K = Γ.K) (hu : X.A.units + 64 < cLine) : OpR X (compareOp .GtE) (pr2 Γ fun x y => (dcmp .ge x y).map .bl) := by
  refine OpR.imp (OpR.or op_ge (ord_core (g := fun x y => !ltv x y) hK hu fun x y e1 e2 hc r1 r2 k1 k2 hn hd hq => ?_)) fun x y H Q h => ?_
  · obtain ⟨p1, p2, k1', k2', _, _⟩ := cmpOk_ok hc
    refine W.ge_data r1 r2 k1 hn hd ?_
    subst e1; subst e2
    rw [ltv_ok _ _ p1 p2 k1']
    exact hq
  · obtain ⟨G, dx, dy, z, S, ax, ay, e, q⟩ := h
    dsimp only at e
    rcases ge_cases dx dy with ⟨i, j, rfl, rfl, e3⟩ | e3
    · rw [e3] at e
      cases e
      exact .inl ⟨_, _, ax.int, ay.int, give0 S q (.bl _)⟩
    · rw [e3] at e
      cases e2 : ltD dx dy with
      | none => rw [e2] at e; cases e
      | some b =>
        rw [e2] at e
        cases e
        obtain ⟨hc, rfl⟩ := ltD_some e2
        exact .inr ⟨G, dx, dy, S, ax, ay, hc, give0 S q (.bl _)⟩
end
end Ip

set_option Elab.async false
set_option linter.all false
set_option maxRecDepth 100000
set_option maxHeartbeats 2000000
/-! IpOp2: in, is, subscripts, slices, calls of the built-in functions. -/
namespace Ip
open PySem PySem.Spec PyProof.Rows L2
section
variable {X : Cx} {Γ : Env}
theorem depL_all : ∀ {xs : List D}, xs.all shp = true → depL xs ≤ 64 ∧ plnL xs = true
  | [], _ => ⟨by simp [depL], rfl⟩
  | x :: xs, h => by
    simp only [List.all_cons, Bool.and_eq_true] at h
    obtain ⟨h1, h2⟩ := depL_all h.2
    have h3 := h.1
    simp only [shp, Bool.and_eq_true, decide_eq_true_eq] at h3
    refine ⟨?_, by simp [plnL, h3.1, h2]⟩
    simp only [depL]
    omega
theorem inD_some {x : D} {xs : List D} {b : Bool} (h : inD x xs = some b) : shp x = true ∧ xs.all shp = true ∧ b = xs.any fun y => eqv y x := by
  unfold inD at h
  split at h
  · rename_i hc
    cases h
    simp only [Bool.and_eq_true] at hc
    exact ⟨hc.1, hc.2, rfl⟩
  · cases h
theorem any_eqv {x : D} (hx : pln x = true) : ∀ {xs : List D}, plnL xs = true → ((toPL xs).any fun y => PyData.eqv y (toP x)) = xs.any fun y => eqv y x
  | [], _ => rfl
  | y :: ys, h => by
    simp only [plnL, Bool.and_eq_true] at h
    simp only [toPL, List.any_cons]
    rw [toP_eqv y x h.1 hx, any_eqv hx h.2]
theorem RepA.seq {G H : Hp} {v : V} (S : Same G H) {y : D} {xs : List D} (e : seqOf y = some xs) (r : RepA Γ G H y v) : (y = .lst xs ∧ ∃ a vs, v = .ref a ∧ Rd H a (.lst vs) ∧ RepL Γ G xs vs) ∨ (y = .tup xs ∧ ∃ a vs, v = .ref a ∧ SqT Γ.K G a vs ∧ RepL Γ G xs vs) := by
  cases y with
  | lst ys => cases e; exact .inl ⟨rfl, r.isLst S⟩
  | tup ys => cases e; exact .inr ⟨rfl, r.tup⟩
  | _ => cases e
theorem in_core (hK : X.K = Γ.K) (hu : X.A.units + 65 < cLine) (neg : Bool) : OpR X (compareOp (if neg then .NotIn else .In)) (fun x y H Q => ∃ G dx dy xs b, Same G H ∧ RepA Γ G H dx x ∧ RepA Γ G H dy y ∧ seqOf dy = some xs ∧ inD dx xs = some b ∧ Q (.bl (if neg then !b else b)) H) := by
  intro pins s σ H x y v u Q I rx ry h
  obtain ⟨G, dx, dy, xs, b, S, ax, ay, hs, hi, q⟩ := h
  obtain ⟨h1, h2, rfl⟩ := inD_some hi
  obtain ⟨d1, d2⟩ := depL_all h2
  have hpx := (shp_ok h1).1
  have hdx : dep dx ≤ 64 := by
    simp only [shp, Bool.and_eq_true, decide_eq_true_eq] at h1
    exact h1.2
  obtain ⟨as, r1⟩ := Dp.reads I (toP dx) x v (by rw [hK]; exact ax.dp S hpx) rx
  have hroom : X.A.units + 1 + min (PyData.depthAll (toPL xs)) (toP dx).depth < cLine := by
    rw [toPL_dep, toP_dep]
    have := Nat.min_le_left (depL xs) (dep dx)
    omega
  have hc1 := toPL_lay xs d2
  have hc2 := toP_lay dx hpx
  rw [← any_eqv hpx d2] at q
  rcases RepA.seq S hs ay with ⟨rfl, _⟩ | ⟨rfl, _⟩
  · obtain ⟨bs, r2⟩ := Dp.reads I (.list (toPL xs)) y u (by rw [hK]; exact ay.dp S (by simpa [pln] using d2)) ry
    cases neg with
    | true => exact SeqAt.notIn_list_reads r2 r1 hc1 hc2 hroom ⟨.bl _, H, I, rfl, q⟩
    | false => exact SeqAt.in_list_reads r2 r1 hc1 hc2 hroom ⟨.bl _, H, I, rfl, q⟩
  · obtain ⟨bs, r2⟩ := Dp.reads I (.tuple (toPL xs)) y u (by rw [hK]; exact ay.dp S (by simpa [pln] using d2)) ry
    cases neg with
    | true => exact SeqAt.notIn_tuple_reads r2 r1 hc1 hc2 hroom ⟨.bl _, H, I, rfl, q⟩
    | false => exact SeqAt.in_tuple_reads r2 r1 hc1 hc2 hroom ⟨.bl _, H, I, rfl, q⟩
theorem keyV {G H : Hp} {k : D} {key : Key} {v : V} (hk : keyK k = some key) (r : RepA Γ G H k v) : v = kV key := by
  cases k <;> first | (cases hk; done) | skip
  · cases hk; exact r.int
  · cases hk; exact r.str
theorem RepP.get {G : Hp} {k : D} {key : Key} (hk : keyK k = some key) : ∀ {kvs : List (D × D)} {ks : List (Key × V)}, RepP Γ G kvs ks → (getK kvs k = none ∧ valV ks key = none) ∨ ∃ x v, getK kvs k = some x ∧ valV ks key = some v ∧ Rep Γ G x v
  | _, _, .nil => .inl ⟨rfl, rfl⟩
  | (k0, x) :: r, (key0, v) :: rs, .cons h0 hx t => by
    by_cases e : k0 = k
    · subst e
      rw [hk] at h0
      cases h0
      exact .inr ⟨x, v, by simp [getK], valV_pos rfl, hx⟩
    · have e2 : ¬ key0 = key := fun q => e (keyK_inj h0 (q ▸ hk))
      have e3 : getK ((k0, x) :: r) k = getK r k := by simp [getK, List.find?_cons, e]
      rw [e3, valV_neg e2]
      exact RepP.get hk t
theorem op_inD2 (hu : X.A.units + 1 < cLine) : OpR X (compareOp .In) (fun x y H Q => ∃ a o, y = .ref a ∧ DGet H a x o ∧ Q (.bl o.isSome) H) := by
  intro pins s σ H x y v u Q I rx ry h
  obtain ⟨a, o, rfl, g, q⟩ := h
  cases ry
  exact d_in hu I g rx fun s3 I3 => ⟨.bl o.isSome, H, I3, rfl, q⟩
theorem op_notInD2 (hu : X.A.units + 1 < cLine) : OpR X (compareOp .NotIn) (fun x y H Q => ∃ a o, y = .ref a ∧ DGet H a x o ∧ Q (.bl (!o.isSome)) H) := by
  intro pins s σ H x y v u Q I rx ry h
  obtain ⟨a, o, rfl, g, q⟩ := h
  cases ry
  exact d_notIn hu I g rx fun s3 I3 => ⟨.bl (!o.isSome), H, I3, rfl, q⟩
theorem ix_dict (hu : X.A.units + 1 < cLine) : IxR X (fun x y H Q => ∃ a v, x = .ref a ∧ DGet H a y (some v) ∧ Q v H) := by
  intro value slice pins s σ H x y v u Q I rx ry h hs
  obtain ⟨a, w, rfl, g, q⟩ := h
  cases rx
  exact tail_any (dict_typeIs I g) PySem.F.slot_dict_getitem.lookup (d_getItem hu I g ry fun w' s3 I3 rw' => ⟨w, H, I3, rw', q⟩) hs
/-- where the key stands -/
theorem dget_of {G H : Hp} (S : Same G H) {kvs : List (D × D)} {k : D} {x y : V} (hk : (keyK k).isSome = true) (ax : RepA Γ G H k x) (ay : RepA Γ G H (.dct kvs) y) : ∃ a o, y = .ref a ∧ DGet H a x o ∧ o.isSome = (getK kvs k).isSome ∧ ∀ z, getK kvs k = some z → ∃ v, o = some v ∧ Rep Γ G z v := by
  obtain ⟨key, hk⟩ := Option.isSome_iff_exists.mp hk
  obtain ⟨a, ks, rfl, hr, rp⟩ := ay.isDct S
  refine ⟨a, valV ks key, rfl, .inl ⟨ks, key, hr, keyV hk ax, rfl⟩, ?_, fun z hz => ?_⟩
  · rcases rp.get hk with ⟨h1, h2⟩ | ⟨x, v, h1, h2, _⟩ <;> rw [h1, h2] <;> rfl
  · rcases rp.get hk with ⟨h1, _⟩ | ⟨x, v, h1, h2, h3⟩
    · rw [h1] at hz; cases hz
    · rw [h1] at hz; cases hz; exact ⟨v, h2, h3⟩
theorem or_in (hK : X.K = Γ.K) (hu : X.A.units + 65 < cLine) : OpR X (compareOp .In) (pr2 Γ fun x y => (dcmp .isin x y).map .bl) := by
  refine OpR.imp (OpR.or (in_core (Γ := Γ) hK hu false) (OpR.or op_in_rng (op_inD2 (by omega)))) fun x y H Q h => ?_
  obtain ⟨G, dx, dy, z, S, ax, ay, e, q⟩ := h
  simp only [dcmp] at e
  cases es : seqOf dy with
  | some xs =>
    rw [es] at e
    simp only at e
    cases e2 : inD dx xs with
    | none => rw [e2] at e; cases e
    | some b =>
      rw [e2] at e
      cases e
      exact .inl ⟨G, dx, dy, xs, b, S, ax, ay, es, e2, give0 S q (.bl _)⟩
  | none =>
    rw [es] at e
    have dctc : ∀ kvs, dy = .dct kvs → (if (keyK dx).isSome then some (getK kvs dx).isSome else none).map D.bl = some z → rIn X.K false x y H Q ∨ True := fun _ _ _ => .inr trivial
    have fin : ∀ kvs, dy = .dct kvs → (if (keyK dx).isSome then some (getK kvs dx).isSome else none).map D.bl = some z → ∃ a o, y = .ref a ∧ DGet H a x o ∧ Q (.bl o.isSome) H := fun kvs e1 e2 => by
      subst e1
      by_cases hk : (keyK dx).isSome = true
      · rw [if_pos hk] at e2
        cases e2
        obtain ⟨a, o, rfl, h1, h2, _⟩ := dget_of S hk ax ay
        exact ⟨a, o, rfl, h1, by rw [h2]; exact give0 S q (.bl _)⟩
      · rw [if_neg hk] at e2; cases e2
    cases dy <;> first | (cases es; done) | skip
    all_goals first | (cases dx <;> (simp at e; done)) | skip
    · exact .inr (.inr (fin _ rfl (by cases dx <;> exact e)))
    · cases dx <;> first | (simp at e; done) | skip
      rename_i lo hi i
      cases e
      obtain ⟨a, rfl, ha⟩ := ay.isRng
      exact .inr (.inl ⟨i, a, lo, hi, ax.int, rfl, S _ _ ha, give0 S q (.bl _)⟩)
theorem or_notin (hK : X.K = Γ.K) (hu : X.A.units + 65 < cLine) : OpR X (compareOp .NotIn) (pr2 Γ fun x y => (dcmp .notin x y).map .bl) := by
  refine OpR.imp (OpR.or (in_core (Γ := Γ) hK hu true) (op_notInD2 (by omega))) fun x y H Q h => ?_
  obtain ⟨G, dx, dy, z, S, ax, ay, e, q⟩ := h
  simp only [dcmp] at e
  cases es : seqOf dy with
  | some xs =>
    rw [es] at e
    simp only at e
    cases e2 : inD dx xs with
    | none => rw [e2] at e; cases e
    | some b =>
      rw [e2] at e
      cases e
      exact .inl ⟨G, dx, dy, xs, b, S, ax, ay, es, e2, give0 S q (.bl _)⟩
  | none =>
    rw [es] at e
    cases dy <;> first | (cases es; done) | (cases e; done) | skip
    rename_i kvs
    have e : (if (keyK dx).isSome then some (!(getK kvs dx).isSome) else none).map D.bl = some z := e
    by_cases hk : (keyK dx).isSome = true
    · rw [if_pos hk] at e
      cases e
      obtain ⟨a, o, rfl, h1, h2, _⟩ := dget_of S hk ax ay
      exact .inr ⟨a, o, rfl, h1, by rw [h2]; exact give0 S q (.bl _)⟩
    · rw [if_neg hk] at e; cases e
theorem RepA.isN {G H : Hp} {v : V} {x : D} (r : RepA Γ G H x v) : decide (x = .non) = decide (v = .non) := by
  cases r with
  | fix r => cases r <;> simp
  | lst _ _ => simp
theorem or_is : OpR X (compareOp .Is) (pr2 Γ fun x y => (dcmp .is_ x y).map .bl) := by
  refine OpR.imp op_isN fun x y H Q h => ?_
  obtain ⟨G, dx, dy, z, S, ax, ay, e, q⟩ := h
  cases dy <;> first | (simp [dcmp] at e; done) | skip
  have e' : some (D.bl (decide (dx = .non))) = some z := by
    rw [← e]; cases dx <;> rfl
  cases e'
  refine ⟨ay.non, ?_⟩
  rw [← ax.isN]
  exact give0 S q (.bl _)
theorem or_isnot : OpR X (compareOp .IsNot) (pr2 Γ fun x y => (dcmp .isnot x y).map .bl) := by
  refine OpR.imp op_notN fun x y H Q h => ?_
  obtain ⟨G, dx, dy, z, S, ax, ay, e, q⟩ := h
  cases dy <;> first | (simp [dcmp] at e; done) | skip
  have e' : some (D.bl (!decide (dx = .non))) = some z := by
    rw [← e]; cases dx <;> rfl
  cases e'
  refine ⟨ay.non, ?_⟩
  rw [← ax.isN]
  exact give0 S q (.bl _)
theorem un_negD : UnR X (unaryOp .USub) (pr1 Γ fun x => match x with | .int i => some (.int (-i)) | _ => none) := by
  refine UnR.imp un_neg fun x H Q h => ?_
  obtain ⟨G, dx, z, S, ax, e, q⟩ := h
  cases dx <;> first | (simp at e; done) | skip
  cases e
  exact ⟨_, ax.int, give0 S q (.int _)⟩

/-! ### subscripts -/
theorem atI_rep {G : Hp} {xs : List D} {vs : List V} {i : Int} {x : D} (r : RepL Γ G xs vs) (e : atI xs i = some x) : ∃ v, atI vs i = some v ∧ Rep Γ G x v := by
  unfold atI at e ⊢
  rw [r.length]
  cases q : ixN xs.length i with
  | none => rw [q] at e; cases e
  | some j =>
    rw [q] at e
    exact r.get e
theorem ix_tdc (hK : X.K = Γ.K) (hu : X.A.units + 65 < cLine) : IxR X (fun x y H Q => ∃ G kvs k z, Same G H ∧ RepA Γ G H (.tdc kvs) x ∧ RepA Γ G H k y ∧ (tkD k).isSome = true ∧ getK kvs k = some z ∧ ∀ v, Rep Γ G z v → Q v H) := by
  intro value slice pins s σ H x y v u Q I rx ry h hs
  obtain ⟨G, kvs, k, z, S, r1, r2, hk, hz, q⟩ := h
  obtain ⟨nk, hk⟩ := Option.isSome_iff_exists.mp hk
  obtain ⟨a, xs, rfl, h1, rt⟩ := r1.isTdc S
  obtain ⟨b, rfl, _, hn, hd⟩ := r2.tkey hK I S hk
  cases rx
  cases ry
  obtain ⟨_, _, hm⟩ := RepT.dictOf hK I S h1 rt X.prog X.w
  obtain ⟨b', v', u', ha, ru, rz⟩ := rt.get hk hz
  exact tail_any hm.typeIs PySem.F.slot_dict_getitem.lookup (wpAny_getItem_heap (knd := nestedKind X.prog X.w) (show X.A.units + 1 + 8 < cLine by omega) ⟨hn, hd⟩ hm ha ⟨v', H, I.tok _, ru, q v' rz⟩) hs
theorem ix_D (hK : X.K = Γ.K) (hu : X.A.units + 65 < cLine) : IxR X (pr2 Γ ditem) := by
  refine IxR.imp (IxR.or (IxR.or ix_seq (ix_dict (by omega))) (ix_tdc hK hu)) fun x y H Q h => ?_
  obtain ⟨G, dx, dy, z, S, ax, ay, e, q⟩ := h
  by_cases ht : ∃ kvs, dx = .tdc kvs
  · obtain ⟨kvs, rfl⟩ := ht
    have e : (if (tkD dy).isSome then getK kvs dy else none) = some z := e
    by_cases hk : (tkD dy).isSome = true
    · rw [if_pos hk] at e
      exact .inr ⟨G, kvs, dy, z, S, ax, ay, hk, e, fun v r => give0 S q r⟩
    · rw [if_neg hk] at e; cases e
  refine .inl ?_
  by_cases hd : ∃ kvs, dx = .dct kvs
  · obtain ⟨kvs, rfl⟩ := hd
    have e : (if (keyK dy).isSome then getK kvs dy else none) = some z := e
    by_cases hk : (keyK dy).isSome = true
    · rw [if_pos hk] at e
      obtain ⟨a, o, rfl, h1, h2, h3⟩ := dget_of S hk ay ax
      obtain ⟨v, rfl, rv⟩ := h3 z e
      exact .inr ⟨a, v, rfl, h1, give0 S q rv⟩
    · rw [if_neg hk] at e; cases e
  refine .inl ?_
  cases dx <;> first | exact absurd ⟨_, rfl⟩ hd | exact absurd ⟨_, rfl⟩ ht | skip
  all_goals (cases dy <;> first | (simp [ditem] at e; done) | skip)
  · rename_i s i
    simp only [ditem] at e
    split at e
    · rename_i hz
      cases e2 : atI s i with
      | none => rw [e2] at e; cases e
      | some c =>
        rw [e2] at e
        cases e
        refine .inr (.inr ⟨sv s, i, c, ax.str, ay.int, by rw [hsz]; simpa [Str.length, sv] using hz, by simpa [sv] using e2, ?_⟩)
        exact give0 S q (.str [c])
    · cases e
  · rename_i xs i
    obtain ⟨a, vs, rfl, ha, r⟩ := ax.tup
    obtain ⟨v, hv, rv⟩ := atI_rep r e
    exact .inr (.inl ⟨a, vs, i, v, rfl, ay.int, by rw [hK]; exact Same.sqT S ha, hv, give0 S q rv⟩)
  · rename_i xs i
    obtain ⟨a, vs, rfl, ha, r⟩ := ax.isLst S
    obtain ⟨v, hv, rv⟩ := atI_rep r e
    exact .inl ⟨a, vs, i, v, rfl, ay.int, .inl ha, hv, give0 S q rv⟩

/-! ### slices -/
def dsl (x : D) (lo hi : Option Int) : Option D := match x with
  | .lst xs => some (.lst (cutD xs lo hi))
  | .tup xs => some (.tup (cutD xs lo hi))
  | _ => none
def prS (Γ : Env) : V → Option Int → Option Int → Hp → VK → Prop := fun x lo hi H Q => ∃ G dx z, Same G H ∧ RepA Γ G H dx x ∧ dsl dx lo hi = some z ∧ ∀ v H', Same H H' → Rep Γ (grow G H H') z v → Q v H'
theorem RepL.drop {G : Hp} : ∀ {xs : List D} {vs : List V} (n : Nat), RepL Γ G xs vs → RepL Γ G (xs.drop n) (vs.drop n)
  | _, _, 0, r => r
  | _, _, _ + 1, .nil => .nil
  | _, _, n + 1, .cons _ r => RepL.drop n r
theorem RepL.take {G : Hp} : ∀ {xs : List D} {vs : List V} (n : Nat), RepL Γ G xs vs → RepL Γ G (xs.take n) (vs.take n)
  | _, _, 0, _ => .nil
  | _, _, _ + 1, .nil => .nil
  | _, _, n + 1, .cons h r => .cons h (RepL.take n r)
theorem cut_rep {G : Hp} {xs : List D} {vs : List V} (lo hi : Option Int) (r : RepL Γ G xs vs) : RepL Γ G (cutD xs lo hi) (cutV vs lo hi) := by
  unfold cutD cutV
  rw [r.length]
  exact (r.drop _).take _
theorem SlR.imp {r r' : V → Option Int → Option Int → Hp → VK → Prop} (h : SlR X r) (k : ∀ x lo hi H Q, r' x lo hi H Q → r x lo hi H Q) : SlR X r' := fun pins s σ H x v vl vu lo hi sl Q I rx hs pl pu q => h pins s σ H x v vl vu lo hi sl Q I rx hs pl pu (k x lo hi H Q q)
theorem cut_all {xs : List D} {lo hi : Option Int} (h : HT.sIx xs.length 0 lo = 0 ∧ HT.sIx xs.length xs.length hi = xs.length) : cutD xs lo hi = xs := by
  unfold cutD
  rw [h.1, h.2]
  simp
theorem sl_D (hK : X.K = Γ.K) : SlR X (prS Γ) := by
  refine SlR.imp (SlR.or sl_list sl_tupA) fun x lo hi H Q h => ?_
  obtain ⟨G, dx, z, S, ax, e, q⟩ := h
  cases dx <;> first | (simp [dsl] at e; done) | skip
  · rename_i xs
    cases e
    obtain ⟨a, vs, rfl, ha, r⟩ := ax.tup
    refine .inr ⟨a, vs, rfl, by rw [hK]; exact Same.sqT S ha, fun hw => ?_, fun _ p hp => giveT S q (cut_rep lo hi r) hp⟩
    rw [r.length] at hw
    rw [cut_all hw] at q
    exact give0 S q (.tup ha r)
  · rename_i xs
    cases e
    obtain ⟨a, vs, rfl, ha, r⟩ := ax.isLst S
    exact .inl ⟨a, vs, rfl, .inl ha, fun p hp => giveL S q (cut_rep lo hi r) hp⟩
end
end Ip

set_option Elab.async false
set_option linter.all false
set_option maxRecDepth 100000
set_option maxHeartbeats 2000000
/-! IpOp3: calls of the built-in functions. -/
namespace Ip
open PySem PySem.Spec PyProof.Rows L2
section
variable {X : Cx} {Γ : Env}
theorem RepAs.one {G H : Hp} {d : D} {vs : List V} (r : RepAs Γ G H [d] vs) : ∃ v, vs = [v] ∧ RepA Γ G H d v := by
  cases r with
  | cons h t => cases t; exact ⟨_, rfl, h⟩
theorem RepAs.two {G H : Hp} {d e : D} {vs : List V} (r : RepAs Γ G H [d, e] vs) : ∃ v u, vs = [v, u] ∧ RepA Γ G H d v ∧ RepA Γ G H e u := by
  cases r with
  | cons h t =>
    obtain ⟨u, rfl, h2⟩ := t.one
    exact ⟨_, u, rfl, h, h2⟩
theorem RepL.ints {G : Hp} : ∀ {xs : List D} {vs : List V} {ns : List Int}, RepL Γ G xs vs → dints xs = some ns → vs = ns.map V.int
  | _, _, _, .nil, e => by cases e; rfl
  | x :: xs, _, ns, .cons h r, e => by
    cases x <;> first | (simp [dints] at e; done) | skip
    simp only [dints] at e
    cases q : dints xs with
    | none => rw [q] at e; cases e
    | some ms =>
      rw [q] at e
      cases e
      cases h
      rw [RepL.ints r q]
      rfl
theorem RepL.bools {G : Hp} : ∀ {xs : List D} {vs : List V} {ns : List Bool}, RepL Γ G xs vs → dbools xs = some ns → vs = ns.map V.bl
  | _, _, _, .nil, e => by cases e; rfl
  | x :: xs, _, ns, .cons h r, e => by
    cases x <;> first | (simp [dbools] at e; done) | skip
    simp only [dbools] at e
    cases q : dbools xs with
    | none => rw [q] at e; cases e
    | some ms =>
      rw [q] at e
      cases e
      cases h
      rw [RepL.bools r q]
      rfl
theorem kitsAll (K : PySem.W.Frag) : (tys.all fun m => tys.all fun n => PySem.W.kitOne K (.type m) (.type n) == some (m == n || (m == "bool" && n == "int"))) = true := by kernel_rfl
theorem kits {K : PySem.W.Frag} {m n : String} (hm : m ∈ tys) (hn : n ∈ tys) : PySem.W.kitOne K (.type m) (.type n) = some (m == n || (m == "bool" && n == "int")) := by
  have h := List.all_eq_true.mp (kitsAll K) m hm
  have h2 := List.all_eq_true.mp h n hn
  simpa using h2
theorem RepA.tyx {G H : Hp} (S : Same G H) {x : D} {v : V} {m : String} (r : RepA Γ G H x v) (e : tyName x = some m) (ht : ∀ kvs, x ≠ .tdc kvs) : TyX Γ.K H v (.type m) ∧ m ∈ tys := by
  cases r with
  | lst h _ => cases e; exact ⟨.base (.lst h), by simp [tys]⟩
  | fix r =>
    cases r with
    | non => cases e; exact ⟨.base .non, by simp [tys]⟩
    | bl b => cases e; exact ⟨.base (.bl b), by simp [tys]⟩
    | int i => cases e; exact ⟨.base (.int i), by simp [tys]⟩
    | str i => cases e; exact ⟨.base (.str _), by simp [tys]⟩
    | tup h _ =>
      cases e
      refine ⟨?_, by simp [tys]⟩
      rcases Same.sqT S h with (h | ⟨o, h⟩) | ⟨o, _, _, h1, h2, _⟩
      · exact .base (.tup h)
      · exact .fTuple h
      · exact .kTuple h1 h2
    | lst h _ =>
      cases e
      refine ⟨?_, by simp [tys]⟩
      rcases Same.rd S h with h | ⟨o, h⟩
      · exact .base (.lst h)
      · exact .base (.frz h)
    | rng _ => cases e
    | glo _ _ => cases e
    | ty _ => cases e
    | exc _ _ _ _ => cases e
    | excF _ _ _ _ _ _ => cases e
    | tdc _ _ => exact absurd rfl (ht _)
    | dctK h _ =>
      cases e
      refine ⟨?_, by simp [tys]⟩
      rcases Same.rd S h with h | ⟨o, h⟩
      · exact .base (.dK h)
      · exact .fDict h
/-- isinstance of a dict whose keys are tuples -/
theorem call_isiT' (hK : X.K = Γ.K) : CallR X (.builtin "isinstance") (fun vs H Q => ∃ G kvs v n, Same G H ∧ RepA Γ G H (.tdc kvs) v ∧ vs = [v, .ty n] ∧ n ∈ tys ∧ Q (.bl ("dict" == n || ("dict" == "bool" && n == "int"))) H) := by
  intro pins s σ H xs us Q I r h
  obtain ⟨G, kvs, v, n, S, ra, rfl, hn, q⟩ := h
  obtain ⟨u1, u2, rfl, r1, r2⟩ := vals2 r
  obtain ⟨a, ys, rfl, h1, rt⟩ := ra.isTdc S
  cases r1
  cases (ClsV.ty n).eq r2
  obtain ⟨_, _, o, es, ep, ho, hc, _⟩ := RepT.dictOf hK I S h1 rt X.prog X.w
  exact PySem.W.kia_one PySem.W.kitx_dict I.kIn ⟨o, ho, hc.1⟩ (kits (m := "dict") (by simp [tys]) hn) (fun z => nomatch z) fun tk => ⟨.bl _, H, I.tok tk, rfl, q⟩
theorem cr_isiD (hK : X.K = Γ.K) : CallR X (.builtin "isinstance") (prL Γ fun ds => match ds with
    | [x, .ty n] => if tys.contains n then (tyName x).map fun m => D.bl (m == n || (m == "bool" && n == "int")) else none
    | _ => none) := by
  refine CallR.imp (call_isi.or (call_isiT' hK)) fun xs H Q h => ?_
  obtain ⟨G, ds, z, S, as, e, q⟩ := h
  dsimp only at e
  split at e
  · rename_i x n
    obtain ⟨v, u, rfl, a1, a2⟩ := as.two
    split at e
    · rename_i hn
      cases e2 : tyName x with
      | none => rw [e2] at e; cases e
      | some m =>
        rw [e2] at e
        cases e
        rw [a2.ty]
        by_cases ht : ∃ kvs, x = .tdc kvs
        · obtain ⟨kvs, rfl⟩ := ht
          cases e2
          exact .inr ⟨G, kvs, v, n, S, a1, rfl, by simpa using hn, give0 S q (.bl _)⟩
        obtain ⟨t1, t2⟩ := a1.tyx S e2 (fun kvs z => ht ⟨kvs, z⟩)
        refine .inl ⟨v, .ty n, _, _, _, rfl, .ty n, by rw [hK]; exact t1, kits t2 (by simpa using hn), give0 S q (.bl _)⟩
    · cases e
  · cases e
/-! ### numbers -/
theorem cr_absD : CallR X (.builtin "abs") (prL Γ (dfn (fun _ _ => false) .abs)) := by
  refine CallR.imp call_abs fun xs H Q h => ?_
  obtain ⟨G, ds, z, S, as, e, q⟩ := h
  cases ds with
  | nil => simp [dfn] at e
  | cons d ds =>
    cases ds with
    | cons _ _ => simp [dfn] at e
    | nil =>
      obtain ⟨v, rfl, a⟩ := as.one
      cases d <;> first | (simp [dfn] at e; done) | skip
      rename_i i
      cases e
      exact ⟨i, by rw [a.int], give0 S q (.int _)⟩
theorem cr_intD : CallR X (.type "int") (prL Γ (dfn (fun _ _ => false) .int)) := by
  refine CallR.imp call_int1 fun xs H Q h => ?_
  obtain ⟨G, ds, z, S, as, e, q⟩ := h
  cases ds with
  | nil => simp [dfn] at e
  | cons d ds =>
    cases ds with
    | cons _ _ => simp [dfn] at e
    | nil =>
      obtain ⟨v, rfl, a⟩ := as.one
      cases d <;> first | (simp [dfn] at e; done) | skip
      · rename_i b
        cases e
        exact .inr ⟨b, by rw [a.bl], give0 S q (by cases b <;> exact .int _)⟩
      · rename_i i
        cases e
        exact .inl ⟨i, by rw [a.int], give0 S q (.int _)⟩
theorem fold_min : ∀ (ns : List Int) (n : Int), ns.foldl min n ∈ n :: ns ∧ ∀ y ∈ n :: ns, ns.foldl min n ≤ y
  | [], n => ⟨by simp, fun y hy => by simp at hy; subst hy; exact Int.le_refl _⟩
  | m :: ns, n => by
    obtain ⟨h1, h2⟩ := fold_min ns (min n m)
    simp only [List.foldl_cons]
    have hm : min n m = n ∨ min n m = m := by omega
    refine ⟨?_, fun y hy => ?_⟩
    · rcases List.mem_cons.mp h1 with h | h
      · rw [h]; rcases hm with q | q <;> rw [q] <;> simp
      · simp [h]
    · have h3 := h2 (min n m) (by simp)
      rcases List.mem_cons.mp hy with rfl | hy
      · omega
      · rcases List.mem_cons.mp hy with rfl | hy
        · omega
        · exact h2 y (by simp [hy])
theorem fold_max : ∀ (ns : List Int) (n : Int), ns.foldl max n ∈ n :: ns ∧ ∀ y ∈ n :: ns, y ≤ ns.foldl max n
  | [], n => ⟨by simp, fun y hy => by simp at hy; subst hy; exact Int.le_refl _⟩
  | m :: ns, n => by
    obtain ⟨h1, h2⟩ := fold_max ns (max n m)
    simp only [List.foldl_cons]
    have hm : max n m = n ∨ max n m = m := by omega
    refine ⟨?_, fun y hy => ?_⟩
    · rcases List.mem_cons.mp h1 with h | h
      · rw [h]; rcases hm with q | q <;> rw [q] <;> simp
      · simp [h]
    · have h3 := h2 (max n m) (by simp)
      rcases List.mem_cons.mp hy with rfl | hy
      · omega
      · rcases List.mem_cons.mp hy with rfl | hy
        · omega
        · exact h2 y (by simp [hy])
theorem cr_minD (hc : X.calm = true) : CallR X (.builtin "min") (prL Γ (dfn (fun _ _ => false) .min)) := by
  refine CallR.imp (CallR.or (cr_min hc) (call_min2 hc)) fun xs H Q h => ?_
  obtain ⟨G, ds, z, S, as, e, q⟩ := h
  rcases ds with _ | ⟨d, _ | ⟨d2, _ | ⟨d3, ds⟩⟩⟩
  · simp [dfn] at e
  · obtain ⟨v, rfl, a⟩ := as.one
    cases d <;> first | (simp [dfn] at e; done) | skip
    rename_i xs
    simp only [dfn, dmin] at e
    split at e
    · rename_i n ns hn
      cases e
      obtain ⟨p, vs, rfl, hp, r⟩ := a.isLst S
      rw [r.ints hn] at hp
      refine .inl ⟨p, n :: ns, rfl, .inl hp, by simp, fun m hm hl => ?_⟩
      obtain ⟨h1, h2⟩ := fold_min ns n
      have : m = ns.foldl min n := Int.le_antisymm (hl _ h1) (h2 _ hm)
      subst this
      exact give0 S q (.int _)
    · cases e
  · obtain ⟨v, u, rfl, a, b⟩ := as.two
    cases d <;> cases d2 <;> first | (simp [dfn] at e; done) | skip
    rename_i i j
    cases e
    exact .inr ⟨i, j, by rw [a.int, b.int], give0 S q (by exact .int _)⟩
  · simp [dfn] at e
theorem cr_maxD (hc : X.calm = true) : CallR X (.builtin "max") (prL Γ (dfn (fun _ _ => false) .max)) := by
  refine CallR.imp (CallR.or (cr_max hc) (call_max2 hc)) fun xs H Q h => ?_
  obtain ⟨G, ds, z, S, as, e, q⟩ := h
  rcases ds with _ | ⟨d, _ | ⟨d2, _ | ⟨d3, ds⟩⟩⟩
  · simp [dfn] at e
  · obtain ⟨v, rfl, a⟩ := as.one
    cases d <;> first | (simp [dfn] at e; done) | skip
    rename_i xs
    simp only [dfn, dmax] at e
    split at e
    · rename_i n ns hn
      cases e
      obtain ⟨p, vs, rfl, hp, r⟩ := a.isLst S
      rw [r.ints hn] at hp
      refine .inl ⟨p, n :: ns, rfl, .inl hp, by simp, fun m hm hl => ?_⟩
      obtain ⟨h1, h2⟩ := fold_max ns n
      have : m = ns.foldl max n := Int.le_antisymm (h2 _ hm) (hl _ h1)
      subst this
      exact give0 S q (.int _)
    · cases e
  · obtain ⟨v, u, rfl, a, b⟩ := as.two
    cases d <;> cases d2 <;> first | (simp [dfn] at e; done) | skip
    rename_i i j
    cases e
    exact .inr ⟨i, j, by rw [a.int, b.int], give0 S q (by exact .int _)⟩
  · simp [dfn] at e
theorem cr_sumD (hc : X.calm = true) : CallR X (.builtin "sum") (prL Γ (dfn (fun _ _ => false) .sum)) := by
  refine CallR.imp (cr_sum hc) fun xs H Q h => ?_
  obtain ⟨G, ds, z, S, as, e, q⟩ := h
  rcases ds with _ | ⟨d, _ | ⟨d2, ds⟩⟩
  · simp [dfn] at e
  · obtain ⟨v, rfl, a⟩ := as.one
    cases d <;> first | (simp [dfn] at e; done) | skip
    rename_i xs
    simp only [dfn] at e
    cases hn : dints xs with
    | none => rw [hn] at e; cases e
    | some ns =>
      rw [hn] at e
      cases e
      obtain ⟨p, vs, rfl, hp, r⟩ := a.isLst S
      rw [r.ints hn] at hp
      exact ⟨p, ns, rfl, .inl hp, give0 S q (.int _)⟩
  · simp [dfn] at e
theorem cr_anyD (hc : X.calm = true) : CallR X (.builtin "any") (prL Γ (dfn (fun _ _ => false) .any)) := by
  refine CallR.imp (cr_any hc) fun xs H Q h => ?_
  obtain ⟨G, ds, z, S, as, e, q⟩ := h
  rcases ds with _ | ⟨d, _ | ⟨d2, ds⟩⟩
  · simp [dfn] at e
  · obtain ⟨v, rfl, a⟩ := as.one
    cases d <;> first | (simp [dfn] at e; done) | skip
    rename_i xs
    simp only [dfn] at e
    cases hn : dbools xs with
    | none => rw [hn] at e; cases e
    | some ns =>
      rw [hn] at e
      cases e
      obtain ⟨p, vs, rfl, hp, r⟩ := a.isLst S
      rw [r.bools hn] at hp
      exact ⟨p, ns, rfl, .inl hp, give0 S q (.bl _)⟩
  · simp [dfn] at e
theorem cr_allD (hc : X.calm = true) : CallR X (.builtin "all") (prL Γ (dfn (fun _ _ => false) .all)) := by
  refine CallR.imp (cr_all hc) fun xs H Q h => ?_
  obtain ⟨G, ds, z, S, as, e, q⟩ := h
  rcases ds with _ | ⟨d, _ | ⟨d2, ds⟩⟩
  · simp [dfn] at e
  · obtain ⟨v, rfl, a⟩ := as.one
    cases d <;> first | (simp [dfn] at e; done) | skip
    rename_i xs
    simp only [dfn] at e
    cases hn : dbools xs with
    | none => rw [hn] at e; cases e
    | some ns =>
      rw [hn] at e
      cases e
      obtain ⟨p, vs, rfl, hp, r⟩ := a.isLst S
      rw [r.bools hn] at hp
      exact ⟨p, ns, rfl, .inl hp, give0 S q (.bl _)⟩
  · simp [dfn] at e
theorem call_lenD2 : CallR X (.builtin "len") (fun xs H Q => ∃ a kvs, xs = [.ref a] ∧ Rd H a (.dK kvs) ∧ Q (.int kvs.length) H) := by
  intro pins s σ H xs us Q I r h
  obtain ⟨a, kvs, rfl, hr, q⟩ := h
  obtain ⟨u, rfl, ru⟩ := vals1 r
  cases ru
  exact d_len I hr fun t s' I' => ⟨.int _, H, I', ⟨t, rfl⟩, q⟩
theorem cr_lenD (hK : X.K = Γ.K) : CallR X (.builtin "len") (prL Γ (dfn (fun _ _ => false) .len)) := by
  refine CallR.imp (CallR.or (CallR.or call_len_seq call_len_str) call_lenD2) fun xs H Q h => ?_
  obtain ⟨G, ds, z, S, as, e, q⟩ := h
  rcases ds with _ | ⟨d, _ | ⟨d2, ds⟩⟩
  · simp [dfn] at e
  · obtain ⟨v, rfl, a⟩ := as.one
    simp only [dfn] at e
    cases d <;> first | (simp [dlen] at e; done) | skip
    · rename_i x
      simp only [dlen] at e
      split at e
      · rename_i hz
        cases e
        refine .inl (.inr ⟨sv x, by rw [a.str], by rw [hsz]; simpa [Str.length, sv] using hz, ?_⟩)
        have : ((sv x).length : Int) = (x.length : Int) := by simp [Str.length, sv]
        rw [this]
        exact give0 S q (.int _)
      · cases e
    · rename_i xs
      cases e
      obtain ⟨p, vs, rfl, hp, r⟩ := a.tup
      refine .inl (.inl ⟨p, vs, rfl, .inr (by rw [hK]; exact Same.sqT S hp), ?_⟩)
      rw [r.length]
      exact give0 S q (.int _)
    · rename_i xs
      cases e
      obtain ⟨p, vs, rfl, hp, r⟩ := a.isLst S
      refine .inl (.inl ⟨p, vs, rfl, .inl (.inl hp), ?_⟩)
      rw [r.length]
      exact give0 S q (.int _)
    · rename_i kvs
      cases e
      obtain ⟨p, ks, rfl, hp, r⟩ := a.isDct S
      refine .inr ⟨p, ks, rfl, hp, ?_⟩
      rw [r.length]
      exact give0 S q (.int _)
  · simp [dfn] at e
theorem cr_listD (hK : X.K = Γ.K) : CallR X (.type "list") (prL Γ (dfn (fun _ _ => false) .list)) := by
  refine CallR.imp call_list_of fun xs H Q h => ?_
  obtain ⟨G, ds, z, S, as, e, q⟩ := h
  rcases ds with _ | ⟨d, _ | ⟨d2, ds⟩⟩
  · simp [dfn] at e
  · obtain ⟨v, rfl, a⟩ := as.one
    cases d <;> first | (simp [dfn] at e; done) | skip
    · rename_i xs
      cases e
      obtain ⟨p, vs, rfl, hp, r⟩ := a.tup
      exact ⟨p, vs, rfl, .inr (by rw [hK]; exact Same.sqT S hp), fun l hl => giveL S q r hl⟩
    · rename_i xs
      cases e
      obtain ⟨p, vs, rfl, hp, r⟩ := a.isLst S
      exact ⟨p, vs, rfl, .inl (.inl hp), fun l hl => giveL S q r hl⟩
  · simp [dfn] at e
theorem cr_tupleD (hK : X.K = Γ.K) : CallR X (.type "tuple") (prL Γ (dfn (fun _ _ => false) .tuple)) := by
  refine CallR.imp call_tuple_of fun xs H Q h => ?_
  obtain ⟨G, ds, z, S, as, e, q⟩ := h
  rcases ds with _ | ⟨d, _ | ⟨d2, ds⟩⟩
  · simp [dfn] at e
  · obtain ⟨v, rfl, a⟩ := as.one
    cases d <;> first | (simp [dfn] at e; done) | skip
    · rename_i xs
      cases e
      obtain ⟨p, vs, rfl, hp, r⟩ := a.tup
      exact ⟨p, vs, rfl, .inr ⟨by rw [hK]; exact Same.sqT S hp, give0 S q (.tup hp r)⟩⟩
    · rename_i xs
      cases e
      obtain ⟨p, vs, rfl, hp, r⟩ := a.isLst S
      exact ⟨p, vs, rfl, .inl ⟨.inl hp, fun l hl => giveT S q r hl⟩⟩
  · simp [dfn] at e
theorem cr_range1 : CallR X (.type "range") (fun vs H Q => ∃ j, vs = [V.int j] ∧ ∀ p, H p = none → Q (.ref p) (upd H p (.rng 0 j))) := by
  intro pins s σ H vs us Q I r h
  obtain ⟨j, rfl, q⟩ := h
  obtain ⟨u2, rfl, rj⟩ := vals1 r
  obtain ⟨u, rfl⟩ := rj
  refine call_range_1 ⟨.ref s.heap.objs.size, upd H s.heap.objs.size (.rng 0 j), I.laid (t' := s.toks + 2) (fun b o e => Heap.get?_push_of_some _ e) (Nat.le_refl _) ?_, rfl, q _ (I.hok.fresh (Nat.le_refl _))⟩
  exact ⟨_, _, _, Heap.get?_push_size _ rfl⟩
theorem cr_rangeD : CallR X (.type "range") (prL Γ (dfn (fun _ _ => false) .range)) := by
  refine CallR.imp (CallR.or cr_range1 cr_range2) fun xs H Q h => ?_
  obtain ⟨G, ds, z, S, as, e, q⟩ := h
  rcases ds with _ | ⟨d, _ | ⟨d2, _ | ⟨d3, ds⟩⟩⟩
  · simp [dfn] at e
  · obtain ⟨v, rfl, a⟩ := as.one
    cases d <;> first | (simp [dfn] at e; done) | skip
    cases e
    exact .inl ⟨_, by rw [a.int], fun p hp => giveR S q hp⟩
  · obtain ⟨v, u, rfl, a, b⟩ := as.two
    cases d <;> cases d2 <;> first | (simp [dfn] at e; done) | skip
    cases e
    exact .inr ⟨_, _, by rw [a.int, b.int], fun p hp => giveR S q hp⟩
  · simp [dfn] at e

/-! ### sorted -/
def RvD (Γ : Env) (G : Hp) : Value → D → Prop := fun u d => ∃ v, RelV v u ∧ Rep Γ G d v
theorem each_of {G : Hp} : ∀ {xs : List D} {vs : List V} {us : List Value}, RepL Γ G xs vs → Vals vs us → PySem.W.EachIs (RvD Γ G) us xs
  | _, _, _, .nil, r => by cases r; exact .nil
  | _, _, _, .cons h t, r => by
    cases r with
    | cons r1 r2 => exact .cons ⟨_, r1, h⟩ (each_of t r2)
theorem of_each {G : Hp} : ∀ {us : List Value} {xs : List D}, PySem.W.EachIs (RvD Γ G) us xs → ∃ vs, Vals vs us ∧ RepL Γ G xs vs
  | _, _, .nil => ⟨[], .nil, .nil⟩
  | _, _, .cons ⟨v, h1, h2⟩ t => by
    obtain ⟨vs, h3, h4⟩ := of_each t
    exact ⟨v :: vs, .cons h1 h3, .cons h2 h4⟩
theorem dsorted_some {xs ys : List D} (h : dsorted xs = some ys) : xs.all shp = true ∧ allAlk xs = true ∧ (xs.all neTup = true ∨ xs.all noTup = true) ∧ xs.length ≤ lim ∧ ys = sortD xs := by
  unfold dsorted at h
  split at h
  · rename_i hc
    cases h
    simp only [Bool.and_eq_true, Bool.or_eq_true, decide_eq_true_eq] at hc
    exact ⟨hc.1.1.1, hc.1.1.2, hc.1.2, hc.2, rfl⟩
  · cases h
theorem cr_sortedD (hK : X.K = Γ.K) (hu : X.A.units + 66 < cLine) : CallR X (.builtin "sorted") (prL Γ (dfn (fun _ _ => false) .sorted)) := by
  intro pins s σ H vs us Q I r h
  obtain ⟨G, ds, z, S, as, e, q⟩ := h
  rcases ds with _ | ⟨d, _ | ⟨d2, ds⟩⟩
  · simp [dfn] at e
  · obtain ⟨v, rfl, a⟩ := as.one
    cases d <;> first | (simp [dfn] at e; done) | skip
    rename_i xs
    simp only [dfn] at e
    cases e2 : dsorted xs with
    | none => rw [e2] at e; cases e
    | some ys =>
      rw [e2] at e
      cases e
      obtain ⟨h1, h2, h3, h4, rfl⟩ := dsorted_some e2
      obtain ⟨p, ws, rfl, hp, rr⟩ := a.isLst S
      obtain ⟨u, rfl, ru⟩ := vals1 r
      cases ru
      obtain ⟨its, rv, pl, hz⟩ := I.list (.inl hp)
      have eR := each_of rr rv
      have shpOf : ∀ x ∈ xs, shp x = true := List.all_eq_true.mp h1
      have alkOf : ∀ x ∈ xs, ∀ y ∈ xs, alk x y = true := fun x hx y hy => List.all_eq_true.mp (List.all_eq_true.mp h2 x hx) y hy
      have er : PySem.W.EachIs (fun v b => ∃ as, Reads s.heap v (toP b) as) its xs := by
        have e3 := PySem.W.each_mem eR
        refine e3.mono fun u d ⟨⟨v, r1, r2⟩, hd⟩ => ?_
        exact Dp.reads I (toP d) v u (by rw [hK]; exact Rep.dp S (shp_ok (shpOf d hd)).1 r2) r1
      have hal : PySem.W.AllAlike (xs.map toP) := by
        intro d hd d' hd'
        obtain ⟨x, hx, rfl⟩ := List.mem_map.mp hd
        obtain ⟨y, hy, rfl⟩ := List.mem_map.mp hd'
        exact alk_pln x y (alkOf x hx y hy)
      have hk : PySem.W.Sortable (xs.map toP) := by
        rcases h3 with h3 | h3
        · refine .inl fun d hd => ?_
          obtain ⟨x, hx, rfl⟩ := List.mem_map.mp hd
          have := List.all_eq_true.mp h3 x hx
          cases x <;> first | (simp [neTup] at this; done) | skip
          rename_i ws
          cases ws with
          | nil => simp [neTup] at this
          | cons w ws => exact ⟨toP w, toPL ws, by simp [toP, toPL]⟩
        · refine .inr fun d hd => ?_
          obtain ⟨x, hx, rfl⟩ := List.mem_map.mp hd
          have h5 := List.all_eq_true.mp h3 x hx
          have h6 := (shp_ok (shpOf x hx)).1
          cases x <;> first | (simp [noTup] at h5; done) | (simp [pln] at h6; done) | simp [toP]
      refine PySem.W.sorted_data (R := RvD Γ G) (enc := toP) pl.isList eR er hal hk (by rw [hsz]; exact h4) (fun b hb => ?_) fun out hlen eo => ?_
      · have h7 := shpOf b hb
        simp only [shp, Bool.and_eq_true, decide_eq_true_eq] at h7
        rw [toP_dep]
        omega
      · have ec : xs.mergeSort (PySem.W.dataLe false toP) = sortD xs := by
          rw [sortD, msort_eq]
          refine PySem.W.sort_congr fun x hx y hy => ?_
          rw [PySem.W.dataLe_eq]
          simp only [cond_false]
          rw [ltv_ok y x (shp_ok (shpOf y hy)).1 (shp_ok (shpOf x hx)).1 (alkOf y hy x hx)]
        rw [ec] at eo
        obtain ⟨ws', rv', rr'⟩ := of_each eo
        obtain ⟨ep, he'⟩ := PyProof.Rows.sortedAll_at s.heap its out.toArray
        have hl' : ws'.length ≤ sizeLine := by
          rw [rv'.length, hlen, hsz]; exact h4
        exact ⟨.ref _, upd H (s.heap.objs.size + 1) (.lst ws'), I.laid (t' := s.toks) (fun _ _ => PyProof.Rows.sortedAll_old) (Nat.le_succ _) ⟨hl', out, ep, rv', he'⟩, rfl, giveL S q rr' (I.hok.fresh (Nat.le_succ _))⟩
  · simp [dfn] at e
end
end Ip

set_option Elab.async false
set_option linter.all false
set_option maxRecDepth 100000
set_option maxHeartbeats 2000000
/-! IpOp4: repr; dicts made of pairs, sorted, listed. -/
namespace Ip
open PySem PySem.Spec PyProof.Rows L2
section
variable {X : Cx} {Γ : Env} {pins : List (Addr × Obj)} {σ : L2.St} {G H : Hp} {s : Shared}
def SysD (K : PySem.W.Frag) : Prop := ∃ (o : Obj) (es : Array DictEntry) (n : Nat), K.lookup sysModules = some o ∧ o.data = .dict es n
theorem reads_key {k : D} {key : Key} {u : Value} (h : keyK k = some key) (r : keyIs key u = true) : Reads s.heap u (toR k) [] := by
  cases k <;> first | (cases h; done) | skip
  · cases h
    obtain ⟨t, rfl⟩ := Value.isInt_shape r
    exact .int _ t
  · rename_i x
    cases h
    obtain ⟨t, rfl⟩ := Value.isStrOf_shape r
    exact .str _ t
theorem ne_sys (hs : SysD X.K) (I : Inv X pins σ H s) {a : Addr} {o : Obj} {vs : Array Value} {n : Nat} (ho : s.heap.get? a = some o) (hd : o.data = .seq vs n) : a ≠ sysModules := fun e => by
  obtain ⟨o2, es, n2, h1, h2⟩ := hs
  have := I.kIn _ _ h1
  rw [← e, ho] at this
  cases this
  rw [hd] at h2; cases h2
mutual
theorem Rep.reads (hK : X.K = Γ.K) (hs : SysD X.K) (I : Inv X pins σ H s) (S : Same G H) : ∀ {x : D} {v : V} {u : Value}, rok x = true → Rep Γ G x v → L2.RelV v u → ∃ as, Reads s.heap u (toR x) as ∧ ∀ b ∈ as, b ≠ sysModules
  | _, _, _, _, .non, r => by cases r; exact ⟨_, .none, fun b h => by simp at h⟩
  | _, _, _, _, .bl b, r => by cases r; exact ⟨_, .bool b, fun b h => by simp at h⟩
  | _, _, _, _, .int i, r => by obtain ⟨t, rfl⟩ := r; exact ⟨_, .int i t, fun b h => by simp at h⟩
  | _, _, _, _, .str x, r => by obtain ⟨t, rfl⟩ := r; exact ⟨_, .str _ t, fun b h => by simp at h⟩
  | _, _, _, h, .tup t r, e => by
    cases e
    obtain ⟨its, rv, ⟨o, ho, hc, n, hd⟩, _⟩ := I.tuple (show SqT X.K H _ _ by rw [hK]; exact Same.sqT S t)
    obtain ⟨as, hr, hn⟩ := RepL.reads hK hs I S (by simpa [rok] using h) r rv
    exact ⟨_, .tuple ho hc hd hr, hn⟩
  | _, _, _, h, .lst (a := a) t r, e => by
    cases e
    obtain ⟨its, rv, ⟨o, n, ho, hc, _, hd⟩, _⟩ := I.list (show SqL X.K H a _ from .inl (Same.rd S t))
    obtain ⟨as, hr, hn⟩ := RepL.reads hK hs I S (by simpa [rok] using h) r rv
    refine ⟨_, .list ho hc hd hr, fun b hb => ?_⟩
    rcases List.mem_cons.mp hb with rfl | hb
    · exact ne_sys hs I ho hd
    · exact hn b hb
  | _, _, _, h, .rng _, _ => by simp [rok] at h
  | _, _, _, h, .glo _ _, _ => by simp [rok] at h
  | _, _, _, h, .ty _, _ => by simp [rok] at h
  | _, _, _, h, .exc _ _ _ _, _ => by simp [rok] at h
  | _, _, _, h, .excF _ _ _ _ _ _, _ => by simp [rok] at h
  | _, _, _, h, .tdc _ _, _ => by simp [rok] at h
  | _, _, _, h, .dctK (a := a) t r, e => by
    cases e
    obtain ⟨z, y, vs, rk, o, es, ep, ho, ex, hd, hk, hp, _⟩ : ObjOk X.prog X.w H s.heap a (.dK _) := (Same.rd S t).ok I.hok
    obtain ⟨as, bs, r1, r2, hn⟩ := RepP.reads hK hs I S (by simpa [rok] using h) r rk hp
    refine ⟨_, .dict ho ex.1 hd r1 r2, fun b hb => ?_⟩
    rcases List.mem_append.mp hb with hb | hb
    · rcases List.mem_cons.mp hb with rfl | hb
      · exact beq_eq_false_iff_ne.mp y
      · exact hn b (.inl hb)
    · exact hn b (.inr hb)
theorem RepL.reads (hK : X.K = Γ.K) (hs : SysD X.K) (I : Inv X pins σ H s) (S : Same G H) : ∀ {xs : List D} {vs : List V} {us : List Value}, rokL xs = true → RepL Γ G xs vs → Vals vs us → ∃ as, ReadsAll s.heap us (toRL xs) as ∧ ∀ b ∈ as, b ≠ sysModules
  | _, _, _, _, .nil, r => by cases r; exact ⟨_, .nil, fun b h => by simp at h⟩
  | _, _, _, h, .cons a t, r => by
    cases r with
    | cons r1 r2 =>
      simp only [rokL, Bool.and_eq_true] at h
      obtain ⟨as, h1, n1⟩ := Rep.reads hK hs I S h.1 a r1
      obtain ⟨bs, h2, n2⟩ := RepL.reads hK hs I S h.2 t r2
      exact ⟨_, .cons h1 h2, fun b hb => (List.mem_append.mp hb).elim (n1 b) (n2 b)⟩
theorem RepP.reads (hK : X.K = Γ.K) (hs : SysD X.K) (I : Inv X pins σ H s) (S : Same G H) : ∀ {kvs : List (D × D)} {ks : List (Key × V)} {vs : List (Key × Value)} {es : List DictEntry}, rokP kvs = true → RepP Γ G kvs ks → KV ks vs → Pairs (mixKind X.prog X.w) es vs →
    ∃ as bs, ReadsAll s.heap (es.map (·.key)) ((toRP kvs).map (·.1)) as ∧ ReadsAll s.heap (es.map (·.val)) ((toRP kvs).map (·.2)) bs ∧ ∀ b, b ∈ as ∨ b ∈ bs → b ≠ sysModules
  | _, _, _, _, _, .nil, r, p => by
    cases r
    cases p
    exact ⟨_, _, .nil, .nil, fun b h => by simp at h⟩
  | _, _, _, _, h, .cons hk a t, r, p => by
    cases r with
    | cons r1 r2 =>
      cases p with
      | cons q1 q2 p2 =>
        simp only [rokP, Bool.and_eq_true] at h
        obtain ⟨e1, e2⟩ := r1
        rw [← q2] at e2
        obtain ⟨as, h1, n1⟩ := Rep.reads hK hs I S h.1.2 a e2
        obtain ⟨as2, bs2, h3, h4, n2⟩ := RepP.reads hK hs I S h.2 t r2 p2
        refine ⟨_, _, .cons (reads_key hk (by have z := q1; rw [← (show _ = _ from e1)] at z; exact z)) h3, .cons h1 h4, fun b hb => ?_⟩
        rcases hb with hb | hb
        · exact n2 b (.inl (by simpa using hb))
        · rcases List.mem_append.mp hb with hb | hb
          · exact n1 b hb
          · exact n2 b (.inr hb)
end
/-- repr(x) -/
theorem cr_reprD (hK : X.K = Γ.K) (hs : SysD X.K) (hg : X.A.guards = some []) (hu : X.A.units + 66 < cLine) : CallR X (.builtin "repr") (prL Γ (dfn (fun _ _ => false) .repr)) := by
  intro pins s σ H xs us Q I r h
  obtain ⟨G, ds, z, S, as, e, q⟩ := h
  rcases ds with _ | ⟨d, _ | ⟨d2, ds⟩⟩
  · simp [dfn] at e
  · obtain ⟨v, rfl, a⟩ := as.one
    simp only [dfn, drepr] at e
    split at e
    · rename_i hc
      cases e
      simp only [Bool.and_eq_true, decide_eq_true_eq] at hc
      obtain ⟨⟨⟨h1, h2⟩, h3⟩, h4⟩ := hc
      rw [← hsz] at h4
      have fin : ∀ {t : Tok} {h' : Heap} {tk : Tok}, (∀ b o, s.heap.get? b = some o → h'.get? b = some o) → EP X pins σ Q (.str (toR d).shown t) { s with heap := h', toks := tk } := fun {t h' tk} k => by
        refine ⟨.str (sv (toR d).shown.cps.toList), H, I.kept k, ⟨t, by unfold sv; simp⟩, give0 S q (.str _)⟩
      obtain ⟨u, rfl, rx⟩ := vals1 r
      obtain ⟨as2, rd, hn⟩ : ∃ as2, Reads s.heap u (toR d) as2 ∧ ∀ b ∈ as2, b ≠ sysModules := by
        cases a with
        | fix a => exact Rep.reads hK hs I S h1 a rx
        | lst t rl =>
          cases rx
          obtain ⟨its, rv, ⟨o, n, ho, hc, _, hd⟩, _⟩ := I.list (.inl (.inl t))
          obtain ⟨as, hr, hn⟩ := RepL.reads hK hs I S (by simpa [rok] using h1) rl rv
          refine ⟨_, .list ho hc hd hr, fun b hb => ?_⟩
          rcases List.mem_cons.mp hb with rfl | hb
          · exact ne_sys hs I ho hd
          · exact hn b hb
      have hsm : (toR d).hasDict = true → sysModules ∉ as2 := fun _ hm => hn _ hm rfl
      have kk : ∀ b o, s.heap.get? b = some o → s.heap.get? b = some o := fun _ _ e => e
      clear a
      generalize toR d = y at rd hsm h2 h3 h4 fin
      cases rd with
      | none => exact PySem.P.repr_of_none (fin kk)
      | bool b => exact PySem.P.repr_of_bool (fin kk)
      | int i t => exact PySem.P.repr_of_int (by simpa [PyData.showable] using h2) (fin kk)
      | str x t => exact PySem.P.repr_of_str (fin kk) h4
      | list e1 e2 e3 e4 => exact repr_of_reads' (.list e1 e2 e3 e4) h2 hsm hg (by omega) kk (fun h' u tk k => fin k) h4
      | tuple e1 e2 e3 e4 => exact repr_of_reads' (.tuple e1 e2 e3 e4) h2 hsm hg (by omega) kk (fun h' u tk k => fin k) h4
      | dict e1 e2 e3 e4 e5 => exact repr_of_reads' (.dict e1 e2 e3 e4 e5) h2 hsm hg (by omega) kk (fun h' u tk k => fin k) h4
    · cases e
  · simp [dfn] at e
/-! ### dicts of data -/
theorem RepP.any {k : D} {key : Key} (hk : keyK k = some key) : ∀ {kvs : List (D × D)} {ks : List (Key × V)}, RepP Γ G kvs ks → (ks.any fun kv => decide (kv.1 = key)) = kvs.any fun p => decide (p.1 = k)
  | _, _, .nil => rfl
  | (k0, w) :: r, (key0, v) :: rs, .cons h0 _ t => by
    rw [List.any_cons, List.any_cons, RepP.any hk t]
    congr 1
    by_cases q : k0 = k
    · subst q; rw [hk] at h0; cases h0; simp
    · have e2 : ¬ key0 = key := fun z => q (keyK_inj h0 (z ▸ hk))
      simp [q, e2]
theorem RepP.append : ∀ {a b : List (D × D)} {x y : List (Key × V)}, RepP Γ G a x → RepP Γ G b y → RepP Γ G (a ++ b) (x ++ y)
  | _, _, _, _, .nil, s => s
  | _, _, _, _, .cons h0 h t, s => .cons h0 h (RepP.append t s)
theorem RepP.repl {k y : D} {key : Key} {v : V} (hk : keyK k = some key) (ry : Rep Γ G y v) : ∀ {kvs : List (D × D)} {ks : List (Key × V)}, RepP Γ G kvs ks →
    RepP Γ G (kvs.map fun p => if p.1 = k then (p.1, y) else p) (ks.map fun kv => if kv.1 = key then (kv.1, v) else kv)
  | _, _, .nil => .nil
  | (k0, w0) :: r, (key0, v0) :: rs, .cons h0 hx t => by
    rw [List.map_cons, List.map_cons]
    by_cases q : k0 = k
    · have e : key0 = key := by subst q; rw [hk] at h0; cases h0; rfl
      simp only [q, e, if_true]
      exact .cons hk ry (RepP.repl hk ry t)
    · have e2 : ¬ key0 = key := fun z => q (keyK_inj h0 (z ▸ hk))
      simp only [q, e2, if_false]
      exact .cons h0 hx (RepP.repl hk ry t)
theorem RepP.set {k y : D} {key : Key} {v : V} (hk : keyK k = some key) (ry : Rep Γ G y v) {kvs : List (D × D)} {ks : List (Key × V)} (r : RepP Γ G kvs ks) : RepP Γ G (setK kvs k y) (putK ks key v) := by
  unfold setK putK
  rw [r.any hk]
  split
  · exact r.repl hk ry
  · exact r.append (.cons hk ry .nil)
theorem RepP.merge : ∀ {ps kvs : List (D × D)} {qs ks : List (Key × V)}, RepP Γ G ps qs → RepP Γ G kvs ks → RepP Γ G (mergeD kvs ps) (mergeK ks qs)
  | _, _, _, _, .nil, s => s
  | _ :: ps, kvs, _ :: qs, ks, .cons h0 h t, s => RepP.merge (ps := ps) (qs := qs) t (RepP.set h0 h s)
theorem RepL.vals : ∀ {kvs : List (D × D)} {ks : List (Key × V)}, RepP Γ G kvs ks → RepL Γ G (kvs.map (·.2)) (ks.map (·.2))
  | _, _, .nil => .nil
  | _, _, .cons _ h t => .cons h (RepL.vals t)
theorem keyRep {k : D} {key : Key} (hk : keyK k = some key) : Rep Γ G k (kV key) := by
  cases k <;> first | (cases hk; done) | skip
  · cases hk; exact .int _
  · cases hk; exact .str _
theorem RepL.keys : ∀ {kvs : List (D × D)} {ks : List (Key × V)}, RepP Γ G kvs ks → RepL Γ G (kvs.map (·.1)) (ks.map fun kv => kV kv.1)
  | _, _, .nil => .nil
  | _, _, .cons h _ t => .cons (keyRep h) (RepL.keys t)
theorem keyV' {k : D} {key : Key} {v : V} (hk : keyK k = some key) (r : Rep Γ G k v) : v = kV key := by
  cases k <;> first | (cases hk; done) | skip
  · cases hk; cases r; rfl
  · cases hk; cases r; rfl
/-- the pairs of a list -/
theorem pairsOf : ∀ {xs : List D} {ps : List (D × D)} {vs : List V}, isPairs xs = some ps → allKK ps = true → RepL Γ G xs vs → ∃ (as : List Addr) (qs : List (Key × V)), vs = as.map V.ref ∧ Paired (fun a kv => SqT Γ.K G a [kV kv.1, kv.2]) as qs ∧ RepP Γ G ps qs
  | [], _, _, e, _, .nil => by cases e; exact ⟨[], [], rfl, .nil, .nil⟩
  | x :: xs, ps, _, e, ha, .cons h t => by
    cases x <;> first | (cases e; done) | skip
    rename_i ys
    rcases ys with _ | ⟨k, _ | ⟨v, _ | ⟨z, ys⟩⟩⟩ <;> first | (cases e; done) | skip
    have e : (isPairs xs).map ((k, v) :: ·) = some ps := e
    cases e2 : isPairs xs with
    | none => rw [e2] at e; cases e
    | some pr =>
      rw [e2] at e
      cases e
      simp only [allKK, List.all_cons, Bool.and_eq_true] at ha
      obtain ⟨key, hk⟩ := Option.isSome_iff_exists.mp ha.1
      obtain ⟨as, qs, rfl, h1, h2⟩ := pairsOf e2 (by simpa [allKK] using ha.2) t
      cases h with
      | tup ht rl =>
        cases rl with
        | cons r1 rl =>
          cases rl with
          | cons r2 rl =>
            cases rl
            rw [keyV' hk r1] at ht
            exact ⟨_ :: as, (key, _) :: qs, rfl, .cons ht h1, .cons hk r2 h2⟩
theorem cr_dictD (hK : X.K = Γ.K) (hc : X.calm = true) : CallR X (.type "dict") (prL Γ (dfn (fun _ _ => false) .dict)) := by
  refine CallR.imp (call_dictP hc) fun xs H Q h => ?_
  obtain ⟨G, ds, z, S, as, e, q⟩ := h
  rcases ds with _ | ⟨d, _ | ⟨d2, ds⟩⟩
  · simp [dfn] at e
  · obtain ⟨v, rfl, a⟩ := as.one
    cases d <;> first | (simp [dfn] at e; done) | skip
    rename_i ys
    simp only [dfn, ddict] at e
    cases e2 : isPairs ys with
    | none => rw [e2] at e; cases e
    | some ps =>
      rw [e2] at e
      simp only at e
      split at e
      · rename_i hc2
        simp only [Bool.and_eq_true, decide_eq_true_eq] at hc2
        cases e
        obtain ⟨b, vs, rfl, ha, r⟩ := a.isLst S
        obtain ⟨bs, qs, rfl, h1, h2⟩ := pairsOf e2 hc2.1 r
        refine ⟨b, bs, qs, rfl, .inl ha, Paired.mapP h1 fun p kv hp => by rw [hK]; exact Same.sqT S hp, fun p hp => ?_⟩
        exact q _ _ (same_upd hp) (.dctK (.inl (grow_up hp)) ((RepP.merge h2 .nil).mono (grow_same S)))
      · cases e
  · simp [dfn] at e
/-- list of a dict whose keys are tuples -/
theorem RepT.keyL : ∀ {kvs : List (D × D)} {xs : List (NestedKey × Addr × Value)}, RepT Γ G kvs xs → RepL Γ G (kvs.map (·.1)) (xs.map fun x => V.ref x.2.1)
  | _, _, .nil => .nil
  | _, _, .cons _ h2 _ _ t => .cons h2 (RepT.keyL t)
theorem refs_vals (f : Nat → Option Addr) : ∀ (l : List Addr) (acc : List Value), acc.length = l.length → (∀ (j : Nat) v, acc[j]? = some v → ∃ a, l[j]? = some a ∧ v = .ref a) → Vals (l.map V.ref) acc
  | [], [], _, _ => .nil
  | [], _ :: _, h, _ => by simp at h
  | _ :: _, [], h, _ => by simp at h
  | a :: l, v :: acc, h, q => by
    obtain ⟨a', h1, h2⟩ := q 0 v rfl
    simp at h1
    subst h1
    exact .cons h2 (refs_vals f l acc (by simpa using h) fun j v e => by
      obtain ⟨a', h1, h2⟩ := q (j + 1) v (by simpa using e)
      exact ⟨a', by simpa using h1, h2⟩)
theorem call_listT (hK : X.K = Γ.K) (hcalm : X.calm = true) : CallR X (.type "list") (fun vs H Q => ∃ G kvs v, Same G H ∧ RepA Γ G H (.tdc kvs) v ∧ vs = [v] ∧ ∀ ks p, RepL Γ G (kvs.map (·.1)) ks → H p = none → Q (.ref p) (upd H p (.lst ks))) := by
  intro pins s σ H vs us Q I r h
  obtain ⟨G, kvs, v, S, ra, rfl, q⟩ := h
  obtain ⟨u, rfl, ru⟩ := vals1 r
  obtain ⟨a, xs, rfl, h1, rt⟩ := ra.isTdc S
  cases ru
  obtain ⟨lo, hz, o, es, ep, ho, hc, hd, he, _⟩ := RepT.dictOf hK I S h1 rt X.prog X.w
  have hsz2 : es.size = xs.length := size_of_entries he
  refine PySem.W.kdl_call (KdlSrc.rawDict (es := es) (ep := ep) lo) (I.ok.hd hcalm) ⟨o, ho, hc, hd⟩ (by rw [hsz2]; exact hz) fun h' tk acc c' hk hD hacc => ?_
  have hv : Vals (xs.map fun x => V.ref x.2.1) acc.toList := by
    have e : (xs.map fun x => V.ref x.2.1) = (xs.map fun x => x.2.1).map V.ref := by rw [List.map_map]; rfl
    rw [e]
    refine refs_vals (fun _ => none) _ _ (by rw [Array.length_toList, hacc.1, hsz2, List.length_map]) fun j v ej => ?_
    rw [Array.getElem?_toList] at ej
    obtain ⟨hi, ev⟩ := hacc.2 j v ej
    have := entry_at he j
    rw [Array.getElem?_eq_getElem hi] at this
    cases q2 : xs[j]? with
    | none => rw [q2] at this; cases this
    | some x =>
      rw [q2] at this
      have e2 : es[j] = entryOfKey (nestedKind X.prog X.w) x := Option.some.inj this
      refine ⟨x.2.1, by rw [List.getElem?_map, q2]; rfl, ?_⟩
      rw [ev, e2]
      rfl
  exact ⟨.ref s.heap.objs.size, upd H s.heap.objs.size (.lst (xs.map fun x => V.ref x.2.1)), I.laid (t' := tk) hk (Nat.le_refl _)
    (show ObjOk X.prog X.w _ _ _ (.lst (xs.map fun x => V.ref x.2.1)) from ⟨by rw [List.length_map]; exact hz, acc.toList, c', hv, by rw [Array.toArray_toList]; exact hD⟩), rfl, q _ _ (RepT.keyL rt) (I.hok.fresh (Nat.le_refl _))⟩
theorem cr_dlistD (hK : X.K = Γ.K) (hc : X.calm = true) : CallR X (.type "list") (prL Γ (dfn (fun _ _ => false) .dlist)) := by
  refine CallR.imp ((call_listD hc).or (call_listT hK hc)) fun xs H Q h => ?_
  obtain ⟨G, ds, z, S, as, e, q⟩ := h
  rcases ds with _ | ⟨d, _ | ⟨d2, ds⟩⟩
  · simp [dfn] at e
  · obtain ⟨v, rfl, a⟩ := as.one
    cases d <;> first | (simp [dfn] at e; done) | skip
    · rename_i kvs
      cases e
      obtain ⟨b, ks, rfl, h1, r⟩ := a.isDct S
      exact .inl ⟨b, ks, rfl, h1, fun p hp => giveL S q (RepL.keys r) hp⟩
    · rename_i kvs
      cases e
      exact .inr ⟨G, kvs, v, S, a, rfl, fun ks p rk hp => q _ _ (same_upd hp) (.lst (.inl (grow_up hp (fun ps z => by cases z))) (RepL.mono (grow_same S) rk))⟩
  · simp [dfn] at e
theorem keysI : ∀ {kvs : List (D × D)} {ks : List (Key × V)} {ns : List Int}, RepP Γ G kvs ks → dints (kvs.map (·.1)) = some ns → ks.map (·.1) = ns.map Sum.inl
  | _, _, _, .nil, e => by cases e; rfl
  | (k, x) :: r, (key, v) :: rs, ns, .cons h0 _ t, e => by
    cases k <;> first | (cases e; done) | skip
    rename_i i
    have e : (dints (r.map (·.1))).map (i :: ·) = some ns := e
    cases e2 : dints (r.map (·.1)) with
    | none => rw [e2] at e; cases e
    | some ms =>
      rw [e2] at e
      cases e
      cases h0
      rw [List.map_cons, List.map_cons, keysI t e2]
theorem sort_one {xs ys : List Int} (p : ys.Perm xs) (s : ys.Pairwise (· ≤ ·)) : ys = xs.mergeSort fun a b => decide (a ≤ b) := by
  have p2 : (xs.mergeSort fun a b => decide (a ≤ b)).Perm xs := List.mergeSort_perm _ _
  have s2 : (xs.mergeSort fun a b => decide (a ≤ b)).Pairwise (fun a b => decide (a ≤ b) = true) := List.pairwise_mergeSort (fun a b c h1 h2 => by simp at *; omega) (fun a b => by simp; omega) _
  refine List.Perm.eq_of_pairwise (le := (· ≤ ·)) (fun a b _ _ h1 h2 => Int.le_antisymm h1 h2) s (s2.imp fun h => by simpa using h) (p.trans p2.symm)
theorem rep_intL {G : Hp} : ∀ (ns : List Int), RepL Γ G (ns.map D.int) (ns.map V.int)
  | [] => .nil
  | n :: ns => .cons (.int n) (rep_intL ns)
theorem cr_dsortD (hc : X.calm = true) : CallR X (.builtin "sorted") (prL Γ (dfn (fun _ _ => false) .dsort)) := by
  refine CallR.imp (call_sortedDI hc) fun xs H Q h => ?_
  obtain ⟨G, ds, z, S, as, e, q⟩ := h
  rcases ds with _ | ⟨d, _ | ⟨d2, ds⟩⟩
  · simp [dfn] at e
  · obtain ⟨v, rfl, a⟩ := as.one
    cases d <;> first | (simp [dfn] at e; done) | skip
    rename_i kvs
    simp only [dfn] at e
    cases e2 : dints (kvs.map (·.1)) with
    | none => rw [e2] at e; cases e
    | some ns =>
      rw [e2] at e
      simp only at e
      split at e
      · rename_i hl
        cases e
        obtain ⟨b, ks, rfl, h1, r⟩ := a.isDct S
        have hk := keysI r e2
        have hlen : ns.length = kvs.length := by
          have := congrArg List.length hk
          simp only [List.length_map] at this
          rw [← this, r.length]
        refine ⟨b, ks, ns, rfl, h1, hk, by omega, fun ys p hp hs hn => ?_⟩
        rw [sort_one hp hs, ← msort_eq]
        exact giveL S q (rep_intL _) hn
      · cases e
  · simp [dfn] at e
end
end Ip

set_option Elab.async false
set_option linter.all false
set_option maxRecDepth 100000
set_option maxHeartbeats 2000000
/-! IpJ: what a small term says as a reading of the layer. -/
namespace Ip
open PySem PySem.Spec PyProof.Rows L2

/-- an exception of the run, in the layer -/
def RepX (Γ : Env) (G : Hp) : D → Value → Option Addr → Prop
  | .exc c [], cls, d => c ∈ Γ.pl ∧ ∃ x a, Γ.gs[c]? = some x ∧ Γ.mg x = some (.ref a) ∧ cls = .ref a ∧ d = none
  | .exc c [(f, y)], cls, d => (c, f) ∈ Γ.xi ∧ ∃ x C dd v, Γ.gs[c]? = some x ∧ Γ.mg x = some (.ref C) ∧ cls = .ref C ∧ d = some dd ∧ G dd = some (.xd [((f : Str), v)]) ∧ Rep Γ G y v
  | _, _, _ => False

/-- what is wanted of a run's end, from a state on -/
def Fin {α : Type} (Γ : Env) (Z : WX) (Rp : Hp → Rho → α → Hp → Prop) (σ : L2.St) (ρ : Rho) (G : Hp) (η : Hv) (H : Hp) : R α → Prop
  | .ok w η' => ∀ ρ' G' H', Sim Γ ρ' G' η' H' → Ext ρ G η H ρ' G' η' H' → Rp G' ρ' w H'
  | .exc e η' => ∀ cls d ρ' G' H', Sim Γ ρ' G' η' H' → Ext ρ G η H ρ' G' η' H' → RepX Γ G' e cls d → Z cls d σ H'
  | .bad => False
theorem Fin.step {α : Type} {Γ : Env} {Z : WX} {Rp : Hp → Rho → α → Hp → Prop} {σ : L2.St} {ρ ρ1 : Rho} {G G1 : Hp} {η η1 : Hv} {H H1 : Hp} {r : R α} (e : Ext ρ G η H ρ1 G1 η1 H1) (h : Fin Γ Z Rp σ ρ G η H r) : Fin Γ Z Rp σ ρ1 G1 η1 H1 r := by
  cases r with
  | ok w η' => exact fun ρ' G' H' S E => h ρ' G' H' S (e.trans E)
  | exc x η' => exact fun c d ρ' G' H' S E => h c d ρ' G' H' S (e.trans E)
  | bad => exact h
theorem Fin.imp {α : Type} {Γ : Env} {Z : WX} {Rp Rp' : Hp → Rho → α → Hp → Prop} {σ : L2.St} {ρ : Rho} {G : Hp} {η : Hv} {H : Hp} {r : R α} (h : Fin Γ Z Rp σ ρ G η H r) (k : ∀ G ρ w H, Rp G ρ w H → Rp' G ρ w H) : Fin Γ Z Rp' σ ρ G η H r := by
  cases r with
  | ok w η' => exact fun ρ' G' H' S E => k _ _ _ _ (h ρ' G' H' S E)
  | exc x η' => exact h
  | bad => exact h
theorem Fin.imp' {α : Type} {Γ : Env} {Z : WX} {Rp Rp' : Hp → Rho → α → Hp → Prop} {σ : L2.St} {ρ : Rho} {G : Hp} {η : Hv} {H : Hp} {r : R α} (h : Fin Γ Z Rp σ ρ G η H r) (k : ∀ w η', r = .ok w η' → ∀ G ρ H, Rp G ρ w H → Rp' G ρ w H) : Fin Γ Z Rp' σ ρ G η H r := by
  cases r with
  | ok w η' => exact fun ρ' G' H' S E => k w η' rfl _ _ _ (h ρ' G' H' S E)
  | exc x η' => exact h
  | bad => exact h
def pW (Γ : Env) (Q : VK) : Hp → Rho → W → Hp → Prop := fun G ρ w H => ∀ v, RepW Γ G ρ w v → Q v H
def pWs (Γ : Env) (Q : List V → Hp → Prop) : Hp → Rho → List W → Hp → Prop := fun G ρ ws H => ∀ vs, RepWs Γ G ρ ws vs → Q vs H
def pB (Q : Bool → Hp → Prop) : Hp → Rho → W → Hp → Prop := fun _ _ w H => ∃ b, w = .d (.bl b) ∧ Q b H
/-- behind a run's step, the next one -/
theorem Fin.bind {α β : Type} {Γ : Env} {Z : WX} {Rp : Hp → Rho → β → Hp → Prop} {σ : L2.St} {ρ : Rho} {G : Hp} {η : Hv} {H : Hp} {m : M α} {k : α → M β} (h : Fin Γ Z Rp σ ρ G η H ((m >>= k) η)) :
    ∀ (Rq : Hp → Rho → α → Hp → Prop), (∀ w ρ1 G1 η1 H1, Sim Γ ρ1 G1 η1 H1 → Ext ρ G η H ρ1 G1 η1 H1 → Fin Γ Z Rp σ ρ1 G1 η1 H1 (k w η1) → Rq G1 ρ1 w H1) → Fin Γ Z Rq σ ρ G η H (m η) := by
  intro Rq hq
  rw [M.bind_ap] at h
  cases e : m η with
  | ok w η1 =>
    rw [e] at h
    exact fun ρ1 G1 H1 S1 E1 => hq w ρ1 G1 η1 H1 S1 E1 (Fin.step E1 h)
  | exc x η1 =>
    rw [e] at h
    exact h
  | bad =>
    rw [e] at h
    exact h

theorem Fin.bindE {α β : Type} {Γ : Env} {Z : WX} {Rp : Hp → Rho → β → Hp → Prop} {σ : L2.St} {ρ : Rho} {G : Hp} {η : Hv} {H : Hp} {m : M α} {k : α → M β} (h : Fin Γ Z Rp σ ρ G η H ((m >>= k) η)) :
    ∀ (Rq : Hp → Rho → α → Hp → Prop), (∀ w ρ1 G1 η1 H1, m η = .ok w η1 → Sim Γ ρ1 G1 η1 H1 → Ext ρ G η H ρ1 G1 η1 H1 → Fin Γ Z Rp σ ρ1 G1 η1 H1 (k w η1) → Rq G1 ρ1 w H1) → Fin Γ Z Rq σ ρ G η H (m η) := by
  intro Rq hq
  rw [M.bind_ap] at h
  cases e : m η with
  | ok w η1 =>
    rw [e] at h
    exact fun ρ1 G1 H1 S1 E1 => hq w ρ1 G1 η1 H1 e S1 E1 (Fin.step E1 h)
  | exc x η1 =>
    rw [e] at h
    exact h
  | bad =>
    rw [e] at h
    exact h

/-- an expression's reading -/
def tI (Γ : Env) (Z : WX) (f : List (Option W) → M W) : TE := fun σ H Q => ∃ ν η ρ G, Sim Γ ρ G η H ∧ Slots Γ G ρ ν σ ∧ Fin Γ Z (pW Γ Q) σ ρ G η H (f ν η)
/-- a test's -/
def tT (Γ : Env) (Z : WX) (f : List (Option W) → M W) : TT := fun σ H Q => ∃ ν η ρ G, Sim Γ ρ G η H ∧ Slots Γ G ρ ν σ ∧ Fin Γ Z (pB Q) σ ρ G η H (f ν η)
/-- an argument list's -/
def tA (Γ : Env) (Z : WX) (f : List (Option W) → M (List W)) : TA := fun σ H Q => ∃ ν η ρ G, Sim Γ ρ G η H ∧ Slots Γ G ρ ν σ ∧ Fin Γ Z (pWs Γ Q) σ ρ G η H (f ν η)
/-- what is wanted of a statement's end -/
def FinS (Γ : Env) (Z : WX) (D : Ends) (ρ : Rho) (G : Hp) (η : Hv) (H : Hp) : O → Prop
  | .nx ν' η' => ∀ σ' ρ' G' H', Sim Γ ρ' G' η' H' → Ext ρ G η H ρ' G' η' H' → Slots Γ G' ρ' ν' σ' → D.nx σ' H'
  | .brk ν' η' => ∀ σ' ρ' G' H', Sim Γ ρ' G' η' H' → Ext ρ G η H ρ' G' η' H' → Slots Γ G' ρ' ν' σ' → D.bk σ' H'
  | .cnt ν' η' => ∀ σ' ρ' G' H', Sim Γ ρ' G' η' H' → Ext ρ G η H ρ' G' η' H' → Slots Γ G' ρ' ν' σ' → D.ct σ' H'
  | .ret w η' => ∀ v ρ' G' H', Sim Γ ρ' G' η' H' → Ext ρ G η H ρ' G' η' H' → RepW Γ G' ρ' w v → D.rt v H'
  | .exc e ν' η' => ∀ cls d σ' ρ' G' H', Sim Γ ρ' G' η' H' → Ext ρ G η H ρ' G' η' H' → Slots Γ G' ρ' ν' σ' → RepX Γ G' e cls d → Z cls d σ' H'
  | .bad => False
theorem FinS.step {Γ : Env} {Z : WX} {D : Ends} {ρ ρ1 : Rho} {G G1 : Hp} {η η1 : Hv} {H H1 : Hp} {o : O} (e : Ext ρ G η H ρ1 G1 η1 H1) (h : FinS Γ Z D ρ G η H o) : FinS Γ Z D ρ1 G1 η1 H1 o := by
  cases o with
  | bad => exact h
  | exc x ν' η' => exact fun c d σ' ρ' G' H' S E => h c d σ' ρ' G' H' S (e.trans E)
  | _ => exact fun σ' ρ' G' H' S E => h σ' ρ' G' H' S (e.trans E)
/-- a statement's reading -/
def tS (Γ : Env) (Z : WX) (f : List (Option W) → Hv → O) : TS := fun D σ H => ∃ ν η ρ G, Sim Γ ρ G η H ∧ Slots Γ G ρ ν σ ∧ FinS Γ Z D ρ G η H (f ν η)
/-- an expression within a statement -/
theorem FinS.ofE {α : Type} {Γ : Env} {Z : WX} {D : Ends} {σ : L2.St} {ν : List (Option W)} {ρ : Rho} {G : Hp} {η : Hv} {H : Hp} {m : M α} {k : α → Hv → O} (T : Slots Γ G ρ ν σ) (h : FinS Γ Z D ρ G η H (O.ofE ν (m η) k)) :
    ∀ (Rq : Hp → Rho → α → Hp → Prop), (∀ w ρ1 G1 η1 H1, Sim Γ ρ1 G1 η1 H1 → Ext ρ G η H ρ1 G1 η1 H1 → FinS Γ Z D ρ1 G1 η1 H1 (k w η1) → Rq G1 ρ1 w H1) → Fin Γ Z Rq σ ρ G η H (m η) := by
  intro Rq hq
  unfold O.ofE at h
  cases e : m η with
  | ok w η1 =>
    rw [e] at h
    exact fun ρ1 G1 H1 S1 E1 => hq w ρ1 G1 η1 H1 S1 E1 (FinS.step E1 h)
  | exc x η1 =>
    rw [e] at h
    exact fun c d ρ' G' H' S E r => h c d σ ρ' G' H' S E (T.mono E.same E.rho) r
  | bad =>
    rw [e] at h
    exact h

theorem PE.imp {X : Cx} {e : Expr} {t t' : TE} (h : PE X e t) (k : ∀ σ H Q, t' σ H Q → t σ H Q) : PE X e t' := ⟨fun pins s σ H Q I q => h.run pins s σ H Q I (k σ H Q q)⟩
theorem PT.imp {X : Cx} {e : Expr} {t t' : TT} (h : PT X e t) (k : ∀ σ H Q, t' σ H Q → t σ H Q) : PT X e t' := ⟨fun pins s σ H Q I q => h.run pins s σ H Q I (k σ H Q q)⟩
theorem PA.imp {X : Cx} {e : List Expr} {t t' : TA} (h : PA X e t) (k : ∀ σ H Q, t' σ H Q → t σ H Q) : PA X e t' := ⟨fun pos pins s σ H Q I q => h.run pos pins s σ H Q I (k σ H Q q)⟩
theorem PS.imp {X : Cx} {e : Stmt} {t t' : TS} (h : PS X e t) (k : ∀ D σ H, t' D σ H → t D σ H) : PS X e t' := ⟨fun pins s σ H D I q => h.run pins s σ H D I (k D σ H q)⟩
theorem PSs.imp {X : Cx} {e : List Stmt} {t t' : TS} (h : PSs X e t) (k : ∀ D σ H, t' D σ H → t D σ H) : PSs X e t' := ⟨fun pins s σ H D I q => h.run pins s σ H D I (k D σ H q)⟩

section
variable {Γ : Env} {Z : WX} {X : Cx}
/-- an argument more -/
theorem tA_cons {fa : List (Option W) → M W} {fr : List (Option W) → M (List W)} {σ : L2.St} {H : Hp} {Q : List V → Hp → Prop} (h : tA Γ Z (fun ν => do let x ← fa ν; let r ← fr ν; Pure.pure (x :: r)) σ H Q) : tCons (tI Γ Z fa) (tA Γ Z fr) σ H Q := by
  obtain ⟨ν, η, ρ, G, S, T, h⟩ := h
  refine ⟨ν, η, ρ, G, S, T, Fin.bind h _ fun wx ρ1 G1 η1 H1 S1 E1 h1 x rx => ?_⟩
  refine ⟨ν, η1, ρ1, G1, S1, T.mono E1.same E1.rho, Fin.bind h1 _ fun wr ρ2 G2 η2 H2 S2 E2 h2 vr rr => ?_⟩
  exact h2 ρ2 G2 H2 S2 (Ext.refl _ _ _ _) (x :: vr) (.cons (rx.mono E2.same E2.rho) rr)
theorem tA_nil {σ : L2.St} {H : Hp} {Q : List V → Hp → Prop} (h : tA Γ Z (fun _ => Pure.pure []) σ H Q) : tNil σ H Q := by
  obtain ⟨ν, η, ρ, G, S, T, h⟩ := h
  exact h ρ G H S (Ext.refl _ _ _ _) [] .nil
theorem prM_ok {g : List D → Option D} {ws : List W} {Rp : Hp → Rho → W → Hp → Prop} {σ : L2.St} {ρ : Rho} {G : Hp} {η : Hv} {H : Hp} (h : Fin Γ Z Rp σ ρ G η H (prM g ws η)) :
    ∃ ds z, rdWs η ws = some ds ∧ g ds = some z ∧ Fin Γ Z Rp σ ρ G η H (.ok (.d z) η) := by
  unfold prM at h
  rw [M.bind_ap] at h
  unfold asR at h
  cases e : rdWs η ws with
  | none => rw [e] at h; exact h.elim
  | some ds =>
    rw [e] at h
    simp only at h
    rw [M.bind_ap] at h
    cases e2 : g ds with
    | none => rw [e2] at h; exact h.elim
    | some z => rw [e2] at h; exact ⟨ds, z, rfl, e2, h⟩
theorem prim_call {g : List D → Option D} {fs : List (Option W) → M (List W)} {σ : L2.St} {H : Hp} {Q : VK} (h : tI Γ Z (fun ν => do let ws ← fs ν; prM g ws) σ H Q) : tCB (prL Γ g) (tA Γ Z fs) σ H Q := by
  obtain ⟨ν, η, ρ, G, S, T, h⟩ := h
  refine ⟨ν, η, ρ, G, S, T, Fin.bind h _ fun ws ρ1 G1 η1 H1 S1 E1 h1 vs rs => ?_⟩
  obtain ⟨ds, z, e1, e2, h2⟩ := prM_ok h1
  exact ⟨G1, ds, z, S1.same, RepWs.read S1 rs e1, e2, fun v H' hs r => h2 ρ1 (grow G1 H1 H') H' (S1.grow hs) (Ext.grow S1 hs) v r⟩
theorem rd_two {η : Hv} {a b : W} {ds : List D} (h : rdWs η [a, b] = some ds) : ∃ x y, ds = [x, y] ∧ rdW η a = some x ∧ rdW η b = some y := by
  simp only [rdWs] at h
  cases e1 : rdW η a with
  | none => rw [e1] at h; cases h
  | some x =>
    rw [e1] at h
    simp only at h
    cases e2 : rdW η b with
    | none => rw [e2] at h; cases h
    | some y => rw [e2] at h; cases h; exact ⟨x, y, rfl, rfl, rfl⟩
theorem rd_one {η : Hv} {a : W} {ds : List D} (h : rdWs η [a] = some ds) : ∃ x, ds = [x] ∧ rdW η a = some x := by
  simp only [rdWs] at h
  cases e1 : rdW η a with
  | none => rw [e1] at h; cases h
  | some x => rw [e1] at h; cases h; exact ⟨x, rfl, rfl⟩
theorem prim_op {g : List D → Option D} {g2 : D → D → Option D} (hg : ∀ x y, g [x, y] = g2 x y) {fa fb : List (Option W) → M W} {σ : L2.St} {H : Hp} {Q : VK} (h : tI Γ Z (fun ν => do let x ← fa ν; let y ← fb ν; prM g [x, y]) σ H Q) : tOp (pr2 Γ g2) (tI Γ Z fa) (tI Γ Z fb) σ H Q := by
  obtain ⟨ν, η, ρ, G, S, T, h⟩ := h
  refine ⟨ν, η, ρ, G, S, T, Fin.bind h _ fun wx ρ1 G1 η1 H1 S1 E1 h1 x rx => ?_⟩
  refine ⟨ν, η1, ρ1, G1, S1, T.mono E1.same E1.rho, Fin.bind h1 _ fun wy ρ2 G2 η2 H2 S2 E2 h2 y ry => ?_⟩
  obtain ⟨ds, z, e1, e2, h3⟩ := prM_ok h2
  obtain ⟨d1, d2, rfl, r1, r2⟩ := rd_two e1
  rw [hg] at e2
  exact ⟨G2, d1, d2, z, S2.same, (rx.mono E2.same E2.rho).read S2 r1, ry.read S2 r2, e2, fun v H' hs r => h3 ρ2 (grow G2 H2 H') H' (S2.grow hs) (Ext.grow S2 hs) v r⟩
theorem prim_un {g : List D → Option D} {g1 : D → Option D} (hg : ∀ x, g [x] = g1 x) {fa : List (Option W) → M W} {σ : L2.St} {H : Hp} {Q : VK} (h : tI Γ Z (fun ν => do let x ← fa ν; prM g [x]) σ H Q) : tUn (pr1 Γ g1) (tI Γ Z fa) σ H Q := by
  obtain ⟨ν, η, ρ, G, S, T, h⟩ := h
  refine ⟨ν, η, ρ, G, S, T, Fin.bind h _ fun wx ρ1 G1 η1 H1 S1 E1 h1 x rx => ?_⟩
  obtain ⟨ds, z, e1, e2, h3⟩ := prM_ok h1
  obtain ⟨d1, rfl, r1⟩ := rd_one e1
  rw [hg] at e2
  exact ⟨G1, d1, z, S1.same, rx.read S1 r1, e2, fun v H' hs r => h3 ρ1 (grow G1 H1 H') H' (S1.grow hs) (Ext.grow S1 hs) v r⟩
end
end Ip

set_option Elab.async false
set_option linter.all false
set_option maxRecDepth 100000
set_option maxHeartbeats 2000000
/-! IpOk: which small term goes with which expression. -/
namespace Ip
open PySem PySem.Spec PyProof.Rows L2

/-- what is fixed of a block: its slots' names, its scope, the names whose cells are its own (none: all) -/
structure SC where
  N : List Str
  sc : Scope
  fnl : Option (List (Str × NameKind))
  /-- the name of its lambdas, if it may make any -/
  lm : Option Str
/-- of a lambda's body -/
def SC.lam (S : SC) (scope : Scope) : SC := { N := S.N, sc := scope, fnl := some [], lm := none }
def SC.up (S : SC) : Nat := if S.lm.isSome then 6 else 4
def SC.knd (S : SC) (x : Str) : Option NameKind := S.sc.names.lookup x
def SC.vis (S : SC) (x : Str) : Bool := match S.knd x with
  | some .local => true
  | some .cell => true
  | some .free => true
  | _ => false
def SC.own (S : SC) (x : Str) : Bool := match S.fnl with
  | none => true
  | some l => l.lookup x == some .cell
def SC.loc (S : SC) (x : Str) : Bool := match S.knd x with
  | some .local => true
  | some .cell => S.own x
  | _ => false
def SC.gl (S : SC) (x : Str) : Bool := S.knd x == some .globalImplicit
def nodbg (x : Str) : Bool := !(x == ("__debug__" : Str)) && !(x == ("__classdict__" : Str))
def SC.var (S : SC) (i : Nat) (x : Str) : Bool := S.N[i]? == some x && S.vis x && nodbg x
def SC.glb (S : SC) (x : Str) : Bool := S.gl x && nodbg x

def cD : Const → D → Bool
  | .none, .non => true
  | .bool b, .bl c => b == c
  | .int i, .int j => decide (i = j)
  | .str x, .str s => decide (x = sv s)
  | _, _ => false
def opB : Bop → Operator → Bool
  | .add, .Add => true
  | .sub, .Sub => true
  | .mul, .Mult => true
  | .fdiv, .FloorDiv => true
  | .mod, .Mod => true
  | .pow, .Pow => true
  | _, _ => false
def opC : Cop → CmpOp → Bool
  | .eq, .Eq => true
  | .ne, .NotEq => true
  | .lt, .Lt => true
  | .le, .LtE => true
  | .gt, .Gt => true
  | .ge, .GtE => true
  | .isin, .In => true
  | .notin, .NotIn => true
  | .is_, .Is => true
  | .isnot, .IsNot => true
  | _, _ => false
def fnNm : Fn → Str
  | .len => "len" | .abs => "abs" | .int => "int" | .min => "min" | .max => "max" | .sorted => "sorted" | .list => "list" | .tuple => "tuple" | .dict => "dict" | .set => "set" | .sum => "sum"
  | .any => "any" | .all => "all" | .repr => "repr" | .str => "str" | .range => "range" | .isinst => "isinstance" | .ord => "ord" | .reversed => "reversed" | .bool => "bool" | .dlist => "list" | .dsort => "sorted" | .dmx => "max"
def fnVal : Fn → Value
  | .len => .builtin "len" | .abs => .builtin "abs" | .int => .type "int" | .min => .builtin "min" | .max => .builtin "max" | .sorted => .builtin "sorted" | .list => .type "list" | .tuple => .type "tuple"
  | .dict => .type "dict" | .set => .type "set" | .sum => .builtin "sum" | .any => .builtin "any" | .all => .builtin "all" | .repr => .builtin "repr" | .str => .type "str" | .range => .type "range"
  | .isinst => .builtin "isinstance" | .ord => .builtin "ord" | .reversed => .type "reversed" | .bool => .type "bool" | .dlist => .type "list" | .dsort => .builtin "sorted" | .dmx => .builtin "max"
theorem fn_boot (f : Fn) : bootBuiltins (fnNm f) = some (fnVal f) := by cases f <;> decide +kernel
theorem fn_blt (f : Fn) : fnNm f ∈ bltL := by cases f <;> decide +kernel
theorem fn_name (f : Fn) : fnNm f ≠ "__name__" := by cases f <;> decide +kernel
theorem fn_dbg (f : Fn) : (fnNm f == ("__debug__" : Str)) = false := by cases f <;> decide +kernel
/-- the functions that have a rule -/
def okFn : Fn → Bool
  | .len => true | .abs => true | .int => true | .min => true | .max => true | .sorted => true | .list => true | .tuple => true | .sum => true | .any => true | .all => true | .range => true | .isinst => true | .repr => true | .dict => true | .dlist => true | .dsort => true
  | _ => false
def tyL : List (Str × String) := [("int", "int"), ("bool", "bool"), ("str", "str"), ("tuple", "tuple"), ("list", "list"), ("dict", "dict"), ("ValueError", "ValueError")]
def notStar : Expr → Bool
  | .Starred _ _ => false
  | _ => true
def notSlice : Expr → Bool
  | .Slice _ _ _ _ => false
  | _ => true
/-- its test is its value's -/
def plainT : Expr → Bool
  | .UnaryOp .Not _ _ => false
  | .BoolOp _ _ _ => false
  | .IfExp _ _ _ _ => false
  | .Compare _ _ _ _ => false
  | _ => true
theorem isTrue_plain {e : Expr} (h : plainT e = true) (env : PySem.Env) (whole : Sem Value) : isTrue e env whole = (do let v ← whole; standAt e.pos; holding [v] (truthy v)) := by
  cases e <;> first | (simp [plainT] at h; done) | rfl | skip
  rename_i op a pos
  cases op <;> first | (simp [plainT] at h; done) | rfl
theorem star_of {e : Expr} (h : notStar e = true) (es : List Expr) (env : PySem.Env) : starEach (e :: es) env = (false, eval e env) :: starEach es env := by
  cases e <;> first | (simp [notStar] at h; done) | rfl
theorem plainIx_of {e : Expr} (h : notSlice e = true) : PlainIx e := by
  intro o i
  cases e <;> first | (simp [notSlice] at h; done) | rfl
theorem noSplat {es : List Expr} (h : es.all notStar = true) (pos : Pos) (env : PySem.Env) : (backTo pos (starEach es env)).any (·.1) = false := by
  induction es with
  | nil => rfl
  | cons e es ih =>
    simp only [List.all_cons, Bool.and_eq_true] at h
    rw [star_of h.1]
    show ((false : Bool) || _) = false
    rw [Bool.false_or]
    exact ih h.2

/-- not super().name or the like -/
def notCall0 : Expr → Bool
  | .Call (.Name _ _) [] [] _ => false
  | _ => true
theorem base_of {o : Expr} (h : notCall0 o = true) (name : Str) (env : PySem.Env) : attributeBase o name env (eval o env) = eval o env := by
  unfold attributeBase
  split
  · simp [notCall0] at h
  · rfl
def optL : Option Expr → List Expr
  | none => []
  | some e => [e]
/-! ### the forms -/
section
variable (B : Tb) (S : SC)
def fCst (d : D) (e : Expr) : Bool := match e with
  | .Constant k _ _ => cD k d
  | .Name x _ => S.glb x && (match d with
    | .glo c => B.gs[c]? == some x
    | .ty n => tyL.contains (x, n)
    | d => decide ((x, d) ∈ B.ks))
  | _ => false
def fVar (i : Nat) (e : Expr) : Bool := match e with
  | .Name x _ => S.var i x
  | _ => false
def fBin (o : Bop) (e : Expr) (k : List Expr → Bool) : Bool := match e with
  | .BinOp l op r _ => opB o op && k [l, r]
  | _ => false
def fCmp (o : Cop) (e : Expr) (k : List Expr → Bool) : Bool := match e with
  | .Compare l [op] [r] _ => opC o op && !behindInMarks op r && k [l, r]
  | _ => false
def fNeg (e : Expr) (k : List Expr → Bool) : Bool := match e with
  | .UnaryOp .USub a _ => k [a]
  | _ => false
def fItem (e : Expr) (k : List Expr → Bool) : Bool := match e with
  | .Subscript a b _ => notSlice b && k [a, b]
  | _ => false
def fSlice (lo hi : Bool) (e : Expr) (k : List Expr → Bool) : Bool := match e with
  | .Subscript a (.Slice l h none _) _ => !(lo && hi) && (l.isSome == lo) && (h.isSome == hi) && k (a :: (optL l ++ optL h))
  | _ => false
def fTup (e : Expr) (k : List Expr → Bool) : Bool := match e with
  | .Tuple as _ _ => k as
  | _ => false
def fLst (e : Expr) (k : List Expr → Bool) : Bool := match e with
  | .List as _ => k as
  | _ => false
def fFn (f : Fn) (e : Expr) (k : List Expr → Bool) : Bool := match e with
  | .Call (.Name x _) (a :: as) [] _ => okFn f && decide (x = fnNm f) && S.gl x && k (a :: as)
  | _ => false
def fAttr (n : String) (e : Expr) (k : List Expr → Bool) : Bool := match e with
  | .Attribute o m _ => decide (m = (n : Str)) && notCall0 o && k [o]
  | _ => false
def fVals (e : Expr) (k : List Expr → Bool) : Bool := match e with
  | .Call (.Name x _) [.Call (.Attribute o m ap) [] [] cp] [] _ => decide (x = "list") && S.gl "list" && decide (m = "values") && notCall0 o && (ap.endLine == cp.line) && k [o]
  | _ => false
def fPr (p : Pr) (e : Expr) (k : List Expr → Bool) : Bool := match p with
  | .bin o => fBin o e k
  | .cmp o => fCmp o e k
  | .neg => fNeg e k
  | .item => fItem e k
  | .slice lo hi => fSlice lo hi e k
  | .tup => fTup e k
  | .lst => fLst e k
  | .fn f => fFn S f e k
  | .attr n => fAttr n e k
  | .meth 0 => fVals S e k
  | _ => false
def fSlc (e : Expr) (k1 k2 k3 : Expr → Bool) : Bool := match e with
  | .Subscript x (.Slice (some y) (some z) none _) _ => k1 x && k2 y && k3 z
  | _ => false
def fNt (e : Expr) (k : Expr → Bool) : Bool := match e with
  | .UnaryOp .Not x _ => k x
  | _ => false
def fAnd (e : Expr) (k1 k2 : Expr → Bool) : Bool := match e with
  | .BoolOp .And [x, y] _ => k1 x && k2 y
  | .BoolOp .And (x :: y :: z :: r) pos => k1 x && k2 (.BoolOp .And (y :: z :: r) pos)
  | _ => false
def fOr (e : Expr) (k1 k2 : Expr → Bool) : Bool := match e with
  | .BoolOp .Or [x, y] _ => k1 x && k2 y
  | .BoolOp .Or (x :: y :: z :: r) pos => k1 x && k2 (.BoolOp .Or (y :: z :: r) pos)
  | _ => false
def fChn (o p : Cop) (e : Expr) (k1 k2 k3 : Expr → Bool) : Bool := match e with
  | .Compare l [op, oq] [m, r] _ => opC o op && opC p oq && !behindInMarks oq r && k1 l && k2 m && k3 r
  | _ => false
def fIte (e : Expr) (k1 k2 k3 : Expr → Bool) : Bool := match e with
  | .IfExp t x y _ => k1 t && k2 x && k3 y
  | _ => false
def fCall (f : Nat) (e : Expr) (k : List Expr → Bool) : Bool := match e with
  | .Call (.Name x _) as [] _ => (B.ft[f]? == some (x, as.length)) && S.glb x && k as
  | _ => false
def fMk (c : Nat) (e : Expr) (k : List Expr → Bool) : Bool := match e with
  | .Call (.Name x _) [y] [] _ => (B.gs[c]? == some x) && B.pl.contains c && S.glb x && notStar y && k [y]
  | _ => false
def fMx (c : Nat) (e : Expr) (k : List Expr → Bool) : Bool := match e with
  | .Call (.Name x _) [y] [] _ => (B.gs[c]? == some x) && B.xi.any (fun p => p.1 == c) && S.glb x && notStar y && k [y]
  | _ => false
def fMkk (c : Nat) (e : Expr) (k : Expr → Bool) : Bool := match e with
  | .Call (.Name x _) [] [⟨some nm, y, _⟩] _ => (B.gs[c]? == some x) && B.xi.any (fun p => p.1 == c && decide ((p.2 : Str) = nm)) && S.glb x && k y
  | _ => false
def parNil : Arguments → Bool
  | ⟨[], [], none, [], [], none, []⟩ => true
  | _ => false
def fCau (q : Nat) (e : Expr) (k : SC → Expr → Bool) : Bool := match e with
  | .Call (.Name x _) [.Lambda ps body scope _] [] _ => decide ((x, q) ∈ B.ct) && S.glb x && S.lm.isSome && parNil ps && LamX.lamSB S.sc scope && k (S.lam scope) body
  | _ => false
def fSrt (f : Nat) (e : Expr) (k : Expr → Bool) : Bool := match e with
  | .Call (.Name x _) [y] [⟨some nm, .Name fx _, _⟩] _ => decide (x = "sorted") && S.gl "sorted" && decide (nm = "key") && (B.ft[f]? == some (fx, 1)) && S.glb fx && notStar y && k y
  | _ => false
def kwNm : List Keyword → Option (List Str)
  | [] => some []
  | ⟨some n, _, _⟩ :: r => (kwNm r).map (n :: ·)
  | _ :: _ => none
def fCallk (f n : Nat) (pm : List Nat) (e : Expr) (k : List Expr → Bool) : Bool := match e with
  | .Call (.Name x _) [] kws _ => (match B.ft[f]?, kwNm kws with
    | some (y, m), some ks => decide (y = x) && decide (m = n) && decide (kws.length = n) && decide (pm.length = n) && decide ((f, ks, pm) ∈ B.kw) && S.glb x && k (kws.map (·.value))
    | _, _ => false)
  | _ => false
def fMt1 (nm : Str) (e : Expr) (k1 k2 : Expr → Bool) : Bool := match e with
  | .Call (.Attribute o name apos) [y] [] cpos => decide (name = nm) && notCall0 o && (apos.endLine == cpos.line) && notStar y && k1 o && k2 y
  | _ => false
def fMt0 (nm : Str) (e : Expr) (k1 : Expr → Bool) : Bool := match e with
  | .Call (.Attribute o name apos) [] [] cpos => decide (name = nm) && notCall0 o && (apos.endLine == cpos.line) && k1 o
  | _ => false
end
def Pt.vars : Pt → List Nat
  | .var i => [i]
  | .pair a b => a.vars ++ b.vars
  | .tri a b d => a.vars ++ (b.vars ++ d.vars)
def fPv (S : SC) (i : Nat) (e : Expr) : Bool := match e with
  | .Name x _ => (S.N[i]? == some x) && S.loc x
  | _ => false
def fPp (e : Expr) (k1 k2 : Expr → Bool) : Bool := match e with
  | .Tuple [x, y] _ _ => notStar x && notStar y && k1 x && k2 y
  | _ => false
def fPt (e : Expr) (k1 k2 k3 : Expr → Bool) : Bool := match e with
  | .Tuple [x, y, z] _ _ => notStar x && notStar y && notStar z && k1 x && k2 y && k3 z
  | _ => false
def okP (S : SC) : Pt → Expr → Bool
  | .var i, e => fPv S i e
  | .pair a b, e => fPp e (okP S a) (okP S b)
  | .tri a b d, e => fPt e (okP S a) (okP S b) (okP S d)
theorem fPv_inv {S : SC} {i : Nat} {e : Expr} (h : fPv S i e = true) : ∃ x p, e = .Name x p ∧ (S.N[i]? == some x) = true ∧ S.loc x = true := by
  unfold fPv at h
  split at h
  · rw [Bool.and_eq_true] at h; exact ⟨_, _, rfl, h.1, h.2⟩
  · cases h
theorem fPp_inv {e : Expr} {k1 k2 : Expr → Bool} (h : fPp e k1 k2 = true) : ∃ x y j p, e = .Tuple [x, y] j p ∧ notStar x = true ∧ notStar y = true ∧ k1 x = true ∧ k2 y = true := by
  unfold fPp at h
  split at h
  · simp only [Bool.and_eq_true] at h; exact ⟨_, _, _, _, rfl, h.1.1.1, h.1.1.2, h.1.2, h.2⟩
  · cases h
theorem fPt_inv {e : Expr} {k1 k2 k3 : Expr → Bool} (h : fPt e k1 k2 k3 = true) : ∃ x y z j p, e = .Tuple [x, y, z] j p ∧ notStar x = true ∧ notStar y = true ∧ notStar z = true ∧ k1 x = true ∧ k2 y = true ∧ k3 z = true := by
  unfold fPt at h
  split at h
  · simp only [Bool.and_eq_true] at h; exact ⟨_, _, _, _, _, rfl, h.1.1.1.1.1, h.1.1.1.1.2, h.1.1.1.2, h.1.1.2, h.1.2, h.2⟩
  · cases h
theorem assign_of {e : Expr} (h : notStar e = true) (es : List Expr) (env : PySem.Env) : assignEach (e :: es) env = (false, assign e env) :: assignEach es env := by
  cases e <;> first | (cases h; done) | rfl
def SC.blk (S : SC) (scope : Scope) : SC := { N := S.N, sc := relS scope S.sc, fnl := some scope.names, lm := none }
def okBlk (S : SC) (scope : Scope) (vs : List Nat) : Bool :=
  (scope.kind == .function) && scope.names.all (fun y => scope.names.lookup y.1 == some y.2) && vs.all (fun i => decide (i < S.N.length)) &&
  scope.names.all (fun y => !(y.2 == .free) || (S.sc.names.lookup y.1 == some .cell || S.sc.names.lookup y.1 == some .free)) &&
  scope.names.all (fun y => !(y.2 == .local || y.2 == .cell) || ((vs.map fun i => S.N.getD i ⟨#[]⟩).contains y.1 || !(S.N.contains y.1)))

def fItem2 (e : Expr) (k1 k2 : Expr → Bool) : Bool := match e with
  | .Subscript a b _ => notSlice b && k1 a && k2 b
  | _ => false
def inter : List (Option Expr) → List Expr → List Expr
  | some k :: ks, v :: vs => k :: v :: inter ks vs
  | _, _ => []
def fDct (e : Expr) (k : List Expr → Bool) : Bool := match e with
  | .Dict keys vals _ => keys.all (·.isSome) && decide (keys.length = vals.length) && decide (keys.length ≤ 15) && k (inter keys vals)
  | _ => false
theorem fItem2_inv {e : Expr} {k1 k2 : Expr → Bool} (h : fItem2 e k1 k2 = true) : ∃ a b p, e = .Subscript a b p ∧ notSlice b = true ∧ k1 a = true ∧ k2 b = true := by
  unfold fItem2 at h
  split at h
  · simp only [Bool.and_eq_true] at h; exact ⟨_, _, _, rfl, h.1.1, h.1.2, h.2⟩
  · cases h
theorem fDct_inv {e : Expr} {k : List Expr → Bool} (h : fDct e k = true) : ∃ keys vals p, e = .Dict keys vals p ∧ keys.all (·.isSome) = true ∧ keys.length = vals.length ∧ keys.length ≤ 15 ∧ k (inter keys vals) = true := by
  unfold fDct at h
  split at h
  · simp only [Bool.and_eq_true, decide_eq_true_eq] at h; exact ⟨_, _, _, rfl, h.1.1.1, h.1.1.2, h.1.2, h.2⟩
  · cases h
def notSet : Expr → Bool
  | .Set _ _ _ => false
  | _ => true
theorem foldSet {e : Expr} (h : notSet e = true) (env : PySem.Env) (x : Value) : foldedSetIterable e env x = pure x := by
  cases e <;> first | (cases h; done) | rfl
def isTup : Expr → Bool
  | .Tuple _ _ _ => true
  | _ => false
def fIt (S : SC) (ik : Ik) (tg e : Expr) (k : List Expr → Bool) : Bool := match ik with
  | .plain => notSet e && k [e]
  | .raw => notSet e && k [e]
  | .range => (match e with
    | .Call (.Name x _) as [] _ => decide (x = "range") && S.gl "range" && (as.length == 1 || as.length == 2) && k as
    | _ => false)
  | .zip => (match e with
    | .Call (.Name x _) [a, b] [] _ => decide (x = "zip") && S.gl "zip" && isTup tg && k [a, b]
    | _ => false)
  | .enum => (match e with
    | .Call (.Name x _) [a] [] _ => decide (x = "enumerate") && S.gl "enumerate" && isTup tg && k [a]
    | _ => false)
  | _ => false
def fLc (S : SC) (vs : List Nat) (ik : Ik) (pt : Pt) (e : Expr) (kI : List Expr → Bool) (kG : SC → Expr → List Expr → Bool) : Bool := match e with
  | .ListComp elt [⟨tg, iter, ifs, isA⟩] scope _ => decide (isA = 0) && okBlk S scope vs && okP (S.blk scope) pt tg && pt.vars.all (fun i => vs.contains i) && fIt S ik tg iter kI && decide (ifs.length ≤ 1) && kG (S.blk scope) elt ifs
  | _ => false
def fLcn (S : SC) (vs : List Nat) (ik : Ik) (pt : Pt) (e : Expr) (kI : List Expr → Bool) (kR : SC → List Nat → List Expr → List Comprehension → List Expr → Bool) : Bool := match e with
  | .ListComp elt (⟨tg, iter, ifs, isA⟩ :: gs) scope _ => decide (isA = 0) && okBlk S scope vs && okP (S.blk scope) pt tg && pt.vars.all (fun i => vs.contains i) && fIt S ik tg iter kI && kR (S.blk scope) vs ifs gs [elt]
  | _ => false
def fDcn (S : SC) (vs : List Nat) (ik : Ik) (pt : Pt) (e : Expr) (kI : List Expr → Bool) (kR : SC → List Nat → List Expr → List Comprehension → List Expr → Bool) : Bool := match e with
  | .DictComp kx vx (⟨tg, iter, ifs, isA⟩ :: gs) scope _ => decide (isA = 0) && okBlk S scope vs && okP (S.blk scope) pt tg && pt.vars.all (fun i => vs.contains i) && fIt S ik tg iter kI && kR (S.blk scope) vs ifs gs [kx, vx]
  | _ => false
def fDcc (S : SC) (vs : List Nat) (ik : Ik) (pt : Pt) (e : Expr) (kI : List Expr → Bool) (kG : SC → Expr → Expr → List Expr → Bool) : Bool := match e with
  | .DictComp kx vx [⟨tg, iter, ifs, isA⟩] scope _ => decide (isA = 0) && okBlk S scope vs && okP (S.blk scope) pt tg && pt.vars.all (fun i => vs.contains i) && fIt S ik tg iter kI && kG (S.blk scope) kx vx ifs
  | _ => false
section
variable (B : Tb)
mutual
def okE : Ex → SC → Expr → Bool
  | .cst d, S, e => fCst B S d e
  | .var i, S, e => fVar S i e
  | .pr p es, S, e => fPr S p e (okL es S)
  | .slc a b d, S, e => fSlc e (okE a S) (okE b S) (okE d S)
  | .nt a, S, e => fNt e (okE a S)
  | .and a b, S, e => fAnd e (okE a S) (okE b S)
  | .or a b, S, e => fOr e (okE a S) (okE b S)
  | .chn o p a b d, S, e => fChn o p e (okE a S) (okE b S) (okE d S)
  | .ite c a b, S, e => fIte e (okE c S) (okE a S) (okE b S)
  | .call _ f es, S, e => fCall B S f e (okL es S)
  | .nlst es, S, e => fLst e (okL es S)
  | .mk c es, S, e => fMk B S c e (okL es S) || fMx B S c e (okL es S)
  | .mkk c a, S, e => fMkk B S c e (okE a S)
  | .cau q a, S, e => fCau B S q e (okE a)
  | .srt f a, S, e => fSrt B S f e (okE a S)
  | .callk _ f n pm es, S, e => fCallk B S f n pm e (okL es S)
  | .frz a, S, e => plainT e && okE a S e
  | .app a x, S, e => fMt1 "append" e (okE a S) (okE x S)
  | .upd a x, S, e => fMt1 "update" e (okE a S) (okE x S)
  | .pop a, S, e => fMt0 "pop" e (okE a S)
  | .popi a x, S, e => fMt1 "pop" e (okE a S) (okE x S)
  | .dget a b, S, e => fItem2 e (okE a S) (okE b S)
  | .ndct es, S, e => fDct e (okL es S)
  | .lc _ vs ik pt it r, S, e => fLc S vs ik pt e (okL it S) (okG r)
  | .lcn false (.gfor ik vs pt it r), S, e => fLcn S vs ik pt e (okL it S) (okR r)
  | .dcn (.gfor ik vs pt it r), S, e => fDcn S vs ik pt e (okL it S) (okR r)
  | .dc vs ik pt it (.yld2 a b), S, e => fDcc S vs ik pt e (okL it S) (fun S' kx vx ifs => ifs.isEmpty && okE a S' kx && okE b S' vx)
  | .dc vs ik pt it (.gif t (.yld2 a b)), S, e => fDcc S vs ik pt e (okL it S) (fun S' kx vx ifs => match ifs with
    | [cd] => okE t S' cd && okE a S' kx && okE b S' vx
    | _ => false)
  | _, _, _ => false
def okL : Ex → SC → List Expr → Bool
  | .nil, _, es => es.isEmpty
  | .cons a r, S, es => match es with
    | e :: es => notStar e && okE a S e && okL r S es
    | [] => false
  | _, _, _ => false
/-- a turn of a comprehension -/
def okG : Ex → SC → Expr → List Expr → Bool
  | .yld x, S, elt, ifs => ifs.isEmpty && okE x S elt
  | .gif t r, S, elt, ifs => match ifs with
    | cd :: ifs => okE t S cd && okG r S elt ifs
    | [] => false
  | _, _, _, _ => false
/-- the clauses of a comprehension -/
def okR : Ex → SC → List Nat → List Expr → List Comprehension → List Expr → Bool
  | .yld x, S, _, ifs, gs, L => match ifs, gs, L with
    | [], [], [e] => okE x S e
    | _, _, _ => false
  | .yld2 a b, S, _, ifs, gs, L => match ifs, gs, L with
    | [], [], [kx, vx] => okE a S kx && okE b S vx
    | _, _, _ => false
  | .gif t r, S, vs, ifs, gs, L => match ifs with
    | [cd] => okE t S cd && okR r S vs [] gs L
    | _ => false
  | .gfor ik ws pt it r, S, vs, ifs, gs, L => match ifs, gs with
    | [], ⟨tg, iter, ifs2, isA⟩ :: gs2 => decide (isA = 0) && okP S pt tg && pt.vars.all (fun i => ws.contains i) && ws.all (fun i => vs.contains i) && fIt S ik tg iter (okL it S) && okR r S ws ifs2 gs2 L
    | _, _ => false
  | _, _, _, _, _, _ => false
end
end

section
variable {B : Tb} {S : SC} {e : Expr} {k : List Expr → Bool} {k1 k2 k3 : Expr → Bool}
theorem fCst_inv {d : D} (h : fCst B S d e = true) : (∃ k j p, e = .Constant k j p ∧ cD k d = true) ∨ (∃ x p, e = .Name x p ∧ S.glb x = true ∧ ((∃ c, d = .glo c ∧ B.gs[c]? = some x) ∨ (∃ n, d = .ty n ∧ tyL.contains (x, n) = true) ∨ (x, d) ∈ B.ks)) := by
  unfold fCst at h
  split at h
  · exact .inl ⟨_, _, _, rfl, h⟩
  · rw [Bool.and_eq_true] at h
    refine .inr ⟨_, _, rfl, h.1, ?_⟩
    have h2 := h.2
    split at h2
    · exact .inl ⟨_, rfl, beq_iff_eq.mp h2⟩
    · exact .inr (.inl ⟨_, rfl, h2⟩)
    · exact .inr (.inr (of_decide_eq_true h2))
  · cases h
theorem fVar_inv {i : Nat} (h : fVar S i e = true) : ∃ x p, e = .Name x p ∧ S.var i x = true := by
  unfold fVar at h; split at h <;> first | exact ⟨_, _, rfl, h⟩ | cases h
theorem fBin_inv {o : Bop} (h : fBin o e k = true) : ∃ l op r p, e = .BinOp l op r p ∧ opB o op = true ∧ k [l, r] = true := by
  unfold fBin at h
  split at h
  · rw [Bool.and_eq_true] at h; exact ⟨_, _, _, _, rfl, h.1, h.2⟩
  · cases h
theorem fCmp_inv {o : Cop} (h : fCmp o e k = true) : ∃ l op r p, e = .Compare l [op] [r] p ∧ opC o op = true ∧ behindInMarks op r = false ∧ k [l, r] = true := by
  unfold fCmp at h
  split at h
  · rw [Bool.and_eq_true, Bool.and_eq_true, Bool.not_eq_true'] at h; exact ⟨_, _, _, _, rfl, h.1.1, h.1.2, h.2⟩
  · cases h
theorem fNeg_inv (h : fNeg e k = true) : ∃ a p, e = .UnaryOp .USub a p ∧ k [a] = true := by
  unfold fNeg at h; split at h <;> first | exact ⟨_, _, rfl, h⟩ | cases h
theorem fItem_inv (h : fItem e k = true) : ∃ a b p, e = .Subscript a b p ∧ notSlice b = true ∧ k [a, b] = true := by
  unfold fItem at h
  split at h
  · rw [Bool.and_eq_true] at h; exact ⟨_, _, _, rfl, h.1, h.2⟩
  · cases h
theorem fSlice_inv {lo hi : Bool} (h : fSlice lo hi e k = true) : ∃ a l u p p2, e = .Subscript a (.Slice l u none p2) p ∧ (lo && hi) = false ∧ l.isSome = lo ∧ u.isSome = hi ∧ k (a :: (optL l ++ optL u)) = true := by
  unfold fSlice at h
  split at h
  · rw [Bool.and_eq_true, Bool.and_eq_true, Bool.and_eq_true, Bool.not_eq_true', beq_iff_eq, beq_iff_eq] at h; exact ⟨_, _, _, _, _, rfl, h.1.1.1, h.1.1.2, h.1.2, h.2⟩
  · cases h
theorem fTup_inv (h : fTup e k = true) : ∃ as j p, e = .Tuple as j p ∧ k as = true := by
  unfold fTup at h; split at h <;> first | exact ⟨_, _, _, rfl, h⟩ | cases h
theorem fLst_inv (h : fLst e k = true) : ∃ as p, e = .List as p ∧ k as = true := by
  unfold fLst at h; split at h <;> first | exact ⟨_, _, rfl, h⟩ | cases h
theorem fFn_inv {f : Fn} (h : fFn S f e k = true) : ∃ q a as p, e = .Call (.Name (fnNm f) q) (a :: as) [] p ∧ okFn f = true ∧ S.gl (fnNm f) = true ∧ k (a :: as) = true := by
  unfold fFn at h
  split at h
  · rw [Bool.and_eq_true, Bool.and_eq_true, Bool.and_eq_true, decide_eq_true_eq] at h
    obtain ⟨⟨⟨h1, rfl⟩, h3⟩, h4⟩ := h
    exact ⟨_, _, _, _, rfl, h1, h3, h4⟩
  · cases h
theorem fSlc_inv (h : fSlc e k1 k2 k3 = true) : ∃ x y z p p2, e = .Subscript x (.Slice (some y) (some z) none p2) p ∧ k1 x = true ∧ k2 y = true ∧ k3 z = true := by
  unfold fSlc at h
  split at h
  · rw [Bool.and_eq_true, Bool.and_eq_true] at h; exact ⟨_, _, _, _, _, rfl, h.1.1, h.1.2, h.2⟩
  · cases h
theorem fNt_inv (h : fNt e k1 = true) : ∃ x p, e = .UnaryOp .Not x p ∧ k1 x = true := by
  unfold fNt at h; split at h <;> first | exact ⟨_, _, rfl, h⟩ | cases h
theorem fAnd_inv (h : fAnd e k1 k2 = true) : (∃ x y p, e = .BoolOp .And [x, y] p ∧ k1 x = true ∧ k2 y = true) ∨ (∃ x y z r p, e = .BoolOp .And (x :: y :: z :: r) p ∧ k1 x = true ∧ k2 (.BoolOp .And (y :: z :: r) p) = true) := by
  unfold fAnd at h
  split at h
  · rw [Bool.and_eq_true] at h; exact .inl ⟨_, _, _, rfl, h.1, h.2⟩
  · rw [Bool.and_eq_true] at h; exact .inr ⟨_, _, _, _, _, rfl, h.1, h.2⟩
  · cases h
theorem fOr_inv (h : fOr e k1 k2 = true) : (∃ x y p, e = .BoolOp .Or [x, y] p ∧ k1 x = true ∧ k2 y = true) ∨ (∃ x y z r p, e = .BoolOp .Or (x :: y :: z :: r) p ∧ k1 x = true ∧ k2 (.BoolOp .Or (y :: z :: r) p) = true) := by
  unfold fOr at h
  split at h
  · rw [Bool.and_eq_true] at h; exact .inl ⟨_, _, _, rfl, h.1, h.2⟩
  · rw [Bool.and_eq_true] at h; exact .inr ⟨_, _, _, _, _, rfl, h.1, h.2⟩
  · cases h
theorem fChn_inv {o p : Cop} (h : fChn o p e k1 k2 k3 = true) : ∃ l op oq m r ps, e = .Compare l [op, oq] [m, r] ps ∧ opC o op = true ∧ opC p oq = true ∧ behindInMarks oq r = false ∧ k1 l = true ∧ k2 m = true ∧ k3 r = true := by
  unfold fChn at h
  split at h
  · simp only [Bool.and_eq_true, Bool.not_eq_true'] at h
    exact ⟨_, _, _, _, _, _, rfl, h.1.1.1.1.1, h.1.1.1.1.2, h.1.1.1.2, h.1.1.2, h.1.2, h.2⟩
  · cases h
theorem fIte_inv (h : fIte e k1 k2 k3 = true) : ∃ t x y p, e = .IfExp t x y p ∧ k1 t = true ∧ k2 x = true ∧ k3 y = true := by
  unfold fIte at h
  split at h
  · simp only [Bool.and_eq_true] at h
    exact ⟨_, _, _, _, rfl, h.1.1, h.1.2, h.2⟩
  · cases h
theorem fCall_inv {f : Nat} (h : fCall B S f e k = true) : ∃ x q as p, e = .Call (.Name x q) as [] p ∧ B.ft[f]? = some (x, as.length) ∧ S.glb x = true ∧ k as = true := by
  unfold fCall at h
  split at h
  · simp only [Bool.and_eq_true, beq_iff_eq] at h
    exact ⟨_, _, _, _, rfl, h.1.1, h.1.2, h.2⟩
  · cases h
theorem fMk_inv {c : Nat} (h : fMk B S c e k = true) : ∃ x y p pos, e = .Call (.Name x p) [y] [] pos ∧ B.gs[c]? = some x ∧ c ∈ B.pl ∧ S.glb x = true ∧ notStar y = true ∧ k [y] = true := by
  unfold fMk at h
  split at h
  · simp only [Bool.and_eq_true, beq_iff_eq, List.contains_eq_mem, decide_eq_true_eq] at h
    exact ⟨_, _, _, _, rfl, h.1.1.1.1, h.1.1.1.2, h.1.1.2, h.1.2, h.2⟩
  · cases h
theorem fMx_inv {c : Nat} (h : fMx B S c e k = true) : ∃ x y p pos f, e = .Call (.Name x p) [y] [] pos ∧ B.gs[c]? = some x ∧ (c, f) ∈ B.xi ∧ S.glb x = true ∧ notStar y = true ∧ k [y] = true := by
  unfold fMx at h
  split at h
  · simp only [Bool.and_eq_true, beq_iff_eq, List.any_eq_true] at h
    obtain ⟨⟨⟨⟨h1, ⟨p, hp, h2⟩⟩, h3⟩, h4⟩, h5⟩ := h
    subst h2
    exact ⟨_, _, _, _, p.2, rfl, h1, hp, h3, h4, h5⟩
  · cases h
theorem fMkk_inv {c : Nat} (h : fMkk B S c e k1 = true) : ∃ x y p pos f kp, e = .Call (.Name x p) [] [⟨some ((f : String) : Str), y, kp⟩] pos ∧ B.gs[c]? = some x ∧ (c, f) ∈ B.xi ∧ S.glb x = true ∧ k1 y = true := by
  unfold fMkk at h
  split at h
  · simp only [Bool.and_eq_true, beq_iff_eq, List.any_eq_true, decide_eq_true_eq] at h
    obtain ⟨⟨⟨h1, ⟨p, hp, h2, h2b⟩⟩, h3⟩, h4⟩ := h
    subst h2
    subst h2b
    exact ⟨_, _, _, _, p.2, _, rfl, h1, hp, h3, h4⟩
  · cases h
theorem fAttr_inv {n : String} (h : fAttr n e k = true) : ∃ o p, e = .Attribute o (n : Str) p ∧ notCall0 o = true ∧ k [o] = true := by
  unfold fAttr at h
  split at h
  · simp only [Bool.and_eq_true, decide_eq_true_eq] at h
    obtain ⟨⟨rfl, h2⟩, h3⟩ := h
    exact ⟨_, _, rfl, h2, h3⟩
  · cases h
theorem fVals_inv (h : fVals S e k = true) : ∃ o p1 ap cp p2, e = .Call (.Name "list" p1) [.Call (.Attribute o "values" ap) [] [] cp] [] p2 ∧ S.gl "list" = true ∧ notCall0 o = true ∧ (ap.endLine == cp.line) = true ∧ k [o] = true := by
  unfold fVals at h
  split at h
  · simp only [Bool.and_eq_true, decide_eq_true_eq] at h
    obtain ⟨⟨⟨⟨⟨rfl, h1⟩, rfl⟩, h2⟩, h3⟩, h4⟩ := h
    exact ⟨_, _, _, _, _, rfl, h1, h2, h3, h4⟩
  · cases h
theorem parNil_inv {ps : Arguments} (h : parNil ps = true) : ps = ⟨[], [], none, [], [], none, []⟩ := by
  unfold parNil at h
  split at h
  · rfl
  · cases h
theorem fCau_inv {q : Nat} {kk : SC → Expr → Bool} (h : fCau B S q e kk = true) : ∃ x p ps body scope lp pos, e = .Call (.Name x p) [.Lambda ps body scope lp] [] pos ∧ (x, q) ∈ B.ct ∧ S.glb x = true ∧ S.lm.isSome = true ∧ ps = ⟨[], [], none, [], [], none, []⟩ ∧ LamX.lamSB S.sc scope = true ∧ kk (S.lam scope) body = true := by
  unfold fCau at h
  split at h
  · simp only [Bool.and_eq_true, decide_eq_true_eq] at h
    obtain ⟨⟨⟨⟨⟨h1, h2⟩, h3⟩, h4⟩, h5⟩, h6⟩ := h
    exact ⟨_, _, _, _, _, _, _, rfl, h1, h2, h3, parNil_inv h4, h5, h6⟩
  · cases h
theorem fSrt_inv {f : Nat} {kk : Expr → Bool} (h : fSrt B S f e kk = true) : ∃ p y nm fx fp kp pos, e = .Call (.Name "sorted" p) [y] [⟨some nm, .Name fx fp, kp⟩] pos ∧ S.gl "sorted" = true ∧ nm = "key" ∧ B.ft[f]? = some (fx, 1) ∧ S.glb fx = true ∧ notStar y = true ∧ kk y = true := by
  unfold fSrt at h
  split at h
  · simp only [Bool.and_eq_true, decide_eq_true_eq, beq_iff_eq] at h
    obtain ⟨⟨⟨⟨⟨⟨rfl, h1⟩, h2⟩, h3⟩, h4⟩, h5⟩, h6⟩ := h
    exact ⟨_, _, _, _, _, _, _, rfl, h1, h2, h3, h4, h5, h6⟩
  · cases h
theorem fCallk_inv {f n : Nat} {pm : List Nat} (h : fCallk B S f n pm e k = true) : ∃ x p kws pos ks, e = .Call (.Name x p) [] kws pos ∧ B.ft[f]? = some (x, n) ∧ kwNm kws = some ks ∧ kws.length = n ∧ pm.length = n ∧ (f, ks, pm) ∈ B.kw ∧ S.glb x = true ∧ k (kws.map (·.value)) = true := by
  unfold fCallk at h
  split at h
  · split at h
    · rename_i e1 e2
      simp only [Bool.and_eq_true, decide_eq_true_eq] at h
      obtain ⟨⟨⟨⟨⟨⟨rfl, rfl⟩, h1⟩, h5⟩, h2⟩, h3⟩, h4⟩ := h
      exact ⟨_, _, _, _, _, rfl, e1, e2, h1, h5, h2, h3, h4⟩
    · cases h
  · cases h
theorem fMt1_inv {nm : Str} (h : fMt1 nm e k1 k2 = true) : ∃ o apos y cpos, e = .Call (.Attribute o nm apos) [y] [] cpos ∧ notCall0 o = true ∧ (apos.endLine == cpos.line) = true ∧ notStar y = true ∧ k1 o = true ∧ k2 y = true := by
  unfold fMt1 at h
  split at h
  · simp only [Bool.and_eq_true, decide_eq_true_eq] at h
    obtain ⟨⟨⟨⟨⟨rfl, h2⟩, h3⟩, h4⟩, h5⟩, h6⟩ := h
    exact ⟨_, _, _, _, rfl, h2, h3, h4, h5, h6⟩
  · cases h
theorem fMt0_inv {nm : Str} (h : fMt0 nm e k1 = true) : ∃ o apos cpos, e = .Call (.Attribute o nm apos) [] [] cpos ∧ notCall0 o = true ∧ (apos.endLine == cpos.line) = true ∧ k1 o = true := by
  unfold fMt0 at h
  split at h
  · simp only [Bool.and_eq_true, decide_eq_true_eq] at h
    obtain ⟨⟨⟨rfl, h2⟩, h3⟩, h4⟩ := h
    exact ⟨_, _, _, rfl, h2, h3, h4⟩
  · cases h
end
section
variable {S : SC} {e : Expr}
theorem fLc_inv {vs : List Nat} {ik : Ik} {pt : Pt} {kI : List Expr → Bool} {kG : SC → Expr → List Expr → Bool} (h : fLc S vs ik pt e kI kG = true) : ∃ elt tg iter ifs scope pos, e = .ListComp elt [⟨tg, iter, ifs, 0⟩] scope pos ∧ okBlk S scope vs = true ∧ okP (S.blk scope) pt tg = true ∧
    (∀ i ∈ pt.vars, i ∈ vs) ∧ fIt S ik tg iter kI = true ∧ ifs.length ≤ 1 ∧ kG (S.blk scope) elt ifs = true := by
  unfold fLc at h
  split at h
  · simp only [Bool.and_eq_true, decide_eq_true_eq, List.all_eq_true, List.contains_eq_mem] at h
    obtain ⟨⟨⟨⟨⟨⟨rfl, h2⟩, h3⟩, h4⟩, h5⟩, h6⟩, h7⟩ := h
    exact ⟨_, _, _, _, _, _, rfl, h2, h3, h4, h5, h6, h7⟩
  · cases h
theorem fDcc_inv {vs : List Nat} {ik : Ik} {pt : Pt} {kI : List Expr → Bool} {kG : SC → Expr → Expr → List Expr → Bool} (h : fDcc S vs ik pt e kI kG = true) : ∃ kx vx tg iter ifs scope pos, e = .DictComp kx vx [⟨tg, iter, ifs, 0⟩] scope pos ∧ okBlk S scope vs = true ∧ okP (S.blk scope) pt tg = true ∧
    (∀ i ∈ pt.vars, i ∈ vs) ∧ fIt S ik tg iter kI = true ∧ kG (S.blk scope) kx vx ifs = true := by
  unfold fDcc at h
  split at h
  · simp only [Bool.and_eq_true, decide_eq_true_eq, List.all_eq_true, List.contains_eq_mem] at h
    obtain ⟨⟨⟨⟨⟨rfl, h2⟩, h3⟩, h4⟩, h5⟩, h7⟩ := h
    exact ⟨_, _, _, _, _, _, _, rfl, h2, h3, h4, h5, h7⟩
  · cases h
theorem fLcn_inv {vs : List Nat} {ik : Ik} {pt : Pt} {kI : List Expr → Bool} {kR : SC → List Nat → List Expr → List Comprehension → List Expr → Bool} (h : fLcn S vs ik pt e kI kR = true) : ∃ elt tg iter ifs gs scope pos, e = .ListComp elt (⟨tg, iter, ifs, 0⟩ :: gs) scope pos ∧ okBlk S scope vs = true ∧ okP (S.blk scope) pt tg = true ∧
    (∀ i ∈ pt.vars, i ∈ vs) ∧ fIt S ik tg iter kI = true ∧ kR (S.blk scope) vs ifs gs [elt] = true := by
  unfold fLcn at h
  split at h
  · simp only [Bool.and_eq_true, decide_eq_true_eq, List.all_eq_true, List.contains_eq_mem] at h
    obtain ⟨⟨⟨⟨⟨rfl, h2⟩, h3⟩, h4⟩, h5⟩, h7⟩ := h
    exact ⟨_, _, _, _, _, _, _, rfl, h2, h3, h4, h5, h7⟩
  · cases h
theorem fDcn_inv {vs : List Nat} {ik : Ik} {pt : Pt} {kI : List Expr → Bool} {kR : SC → List Nat → List Expr → List Comprehension → List Expr → Bool} (h : fDcn S vs ik pt e kI kR = true) : ∃ kx vx tg iter ifs gs scope pos, e = .DictComp kx vx (⟨tg, iter, ifs, 0⟩ :: gs) scope pos ∧ okBlk S scope vs = true ∧ okP (S.blk scope) pt tg = true ∧
    (∀ i ∈ pt.vars, i ∈ vs) ∧ fIt S ik tg iter kI = true ∧ kR (S.blk scope) vs ifs gs [kx, vx] = true := by
  unfold fDcn at h
  split at h
  · simp only [Bool.and_eq_true, decide_eq_true_eq, List.all_eq_true, List.contains_eq_mem] at h
    obtain ⟨⟨⟨⟨⟨rfl, h2⟩, h3⟩, h4⟩, h5⟩, h7⟩ := h
    exact ⟨_, _, _, _, _, _, _, _, rfl, h2, h3, h4, h5, h7⟩
  · cases h
end
end Ip

set_option Elab.async false
set_option linter.all false
set_option maxRecDepth 100000
set_option maxHeartbeats 1000000
/-! IpXi: an own exception class over ValueError whose __init__ says super().__init__('..'); self.f = f. -/
namespace Ip
open PySem PySem.Spec PyProof.Rows L2

/-- the function, its captured cell, its code object -/
structure XiF (prog : Program) (K : PySem.W.Frag) (C fI : Addr) (f : Str) (fd : FuncData) : Prop where
  ex : ∃ (oc : Value) (od : Option Addr) (qual : Str) (params : Arguments) (body : List Stmt) (scope : Scope) (doc pm : Value) (an : Option Addr) (cda : Addr) (ct : Value) (osl : Array (Option Value)) (cc : Addr),
    fd = PySem.W.fnX "__init__" qual params body scope [("__class__", cc)] .none .none doc pm an (.ref cda) ct ∧ K.lookup fI = some ⟨oc, od, .func fd, osl⟩ ∧ PySem.W.codeIn K (.ref cda) qual = true ∧ xiPar params f = true ∧ xiBody body f = true ∧ xiScope scope f = true ∧
    (∃ (ol : Value) (ld : Option Addr) (lsl : Array (Option Value)), K.lookup cc = some ⟨ol, ld, .cell (some (.ref C)), lsl⟩) ∧
    ∃ (ol : Value) (ld : Option Addr) (lsl : Array (Option Value)) (vs : Array Value) (file : Str) (tf : Tok), K.lookup cda = some ⟨ol, ld, .fields vs, lsl⟩ ∧ vs[2]? = some (.str file tf) ∧ ((prog.main.file : Str) == file) = true
structure XiC (K : PySem.W.Frag) (C : Addr) (f : Str) : Prop where
  o : OexC K C
  no : PySem.W.findIn K (.ref C) f = some none
  sup : PySem.W.ks_superIn K C C "__init__" = some (some (.builtin "ValueError.__init__"))
  sub : PySem.W.subIn K (.ref C) (.type "ValueError") = some true
  mro : PySem.W.mroIn K C (.ref C) = some true
  st : PySem.W.nsIn K cStatics "thirdparty.any" = some none
  mem : f ∈ xiL
theorem xi_ne {f : Str} (h : f ∈ xiL) : f ≠ "self" ∧ f ≠ "__class__" ∧ f ≠ "super" := by
  simp only [xiL, List.mem_cons, List.not_mem_nil, or_false] at h
  rcases h with rfl | rfl | rfl | rfl | rfl | rfl <;> decide
theorem xi_bind {qual : Str} {params : Arguments} {body : List Stmt} {scope : Scope} {cc cda : Addr} {doc pm ct : Value} {an : Option Addr} {f : Str} (hm : f ∈ xiL) (h : xiPar params f = true) (us : List Value) (hl : us.length = 2) :
    bindArgs (PySem.W.fnX "__init__" qual params body scope [("__class__", cc)] .none .none doc pm an (.ref cda) ct) ⟨us, []⟩ = pure ((["self", f] : List Str).zip us) := by
  rcases us with _ | ⟨u, _ | ⟨v, _ | ⟨z, us⟩⟩⟩ <;> first | (simp at hl; done) | skip
  unfold xiPar at h
  split at h
  · rename_i a b
    simp only [Bool.and_eq_true, decide_eq_true_eq] at h
    obtain ⟨a1, a2, a3⟩ := a
    obtain ⟨b1, b2, b3⟩ := b
    obtain ⟨rfl, rfl⟩ := h
    simp only [xiL, List.mem_cons, List.not_mem_nil, or_false] at hm
    rcases hm with rfl | rfl | rfl | rfl | rfl | rfl <;> rfl
  · cases h
/-- a method's call on one line, its base's tree told -/
theorem mc_eq {o : Expr} {i : Str} {ap p3 : Pos} {c : Expr} {env : PySem.Env} (hc : notStar0 c = true) (hline : (ap.endLine == p3.line) = true) : eval (.Call (.Attribute o i ap) [c] [] p3) env = (do
      let ov ← attributeBase o i env (eval o env)
      standAt ap.atName
      let (f, first) ← holding [ov] (getMethod ov i (L2.plainOf o env))
      callWith p3 f first (backTo p3 (starEach [c] env)) []) := by
  rw [arm_eval_Call]
  have e : ∀ ov, methodCall o i ap p3 env ov (([c] : List Expr).length + ([] : List Keyword).length) (backTo p3 (starEach [c] env)) (backToKw p3 (keywordEach [] env)) = _ := fun ov => L2.mcall_line (by cases c <;> first | (cases hc; done) | rfl) hline
  simp only [e]
  rfl
/-- its promise: the attribute is kept, in a dict of its own -/
def spXi (C : Addr) (f : Str) : Sp := fun vs H Q _ => ∃ (a : Addr) (v : V), vs = [.ref a, v] ∧ H a = some (exo a C none) ∧ ∀ dx, H dx = none → dx ≠ a → Q .non (upd (upd H dx (exd dx [(f, v)])) a (exo a C (some dx)))
section
variable {P : Program} {w : World} {K : PySem.W.Frag} {mg : Str → Option Value} {base : Heap} {CX : CXT} {C fI : Addr} {f : Str} {fd : FuncData}
theorem xi_scope {sc : Scope} (h : xiScope sc f = true) (hm : f ∈ xiL) : NdefX.NScope ["self", f, "__class__"] ["self", f] ["__class__"] sc := by
  obtain ⟨n1, n2, n3⟩ := xi_ne hm
  simp only [xiScope, Bool.and_eq_true, decide_eq_true_eq, Bool.not_eq_true', List.all_eq_true, bne_iff_ne, Bool.or_eq_true, beq_eq_false_iff_ne] at h
  obtain ⟨⟨⟨⟨⟨⟨⟨⟨h1, h2⟩, h3⟩, h4⟩, h5⟩, h6⟩, h7⟩, h8⟩, h9⟩ := h
  refine ⟨h1, h2, h3, ?_, rfl, fun x hx => ?_, h4, fun y hy e => ?_, fun x hx => ?_⟩
  · simp only [List.nodup_cons, List.mem_cons, List.not_mem_nil, or_false, not_or]
    exact ⟨⟨Ne.symm n1, by decide⟩, n2, fun h => h, List.nodup_nil⟩
  · simp only [List.mem_cons, List.not_mem_nil, or_false] at hx
    rcases hx with rfl | rfl
    · exact h6
    · exact h7
  · rcases h5 y hy with z | z
    · exact absurd e z
    · rw [z]; simp
  · simp only [List.mem_cons, List.not_mem_nil, or_false] at hx
    rw [hx]; exact h8
theorem xi_fn (F : XiF P K C fI f fd) (hm : f ∈ xiL) (hsup : mg "super" = none) (htop : (P.main.scope.names.lookup ("super" : Str)).isSome = false) (hC : XiC K C f) (k : Nat) : FnOk P w K mg base CX (k + 2) fI fd ["self", f] (spXi C f) := by
  obtain ⟨oc, od, qual, params, body, scope, doc, pm, an, cda, ct, osl, cc, rfl, lk, hcd, hp, hb, hs, ⟨ol, ld, lsl, lcc⟩, ol2, ld2, lsl2, vs2, file, tf, lcd, hvs, hfile⟩ := F.ex
  have NS := xi_scope hs hm
  refine ⟨fun vs H Q E q => by obtain ⟨a, v, rfl, _⟩ := q; rfl, fun A outer s H args us vs Q E hr e0 hbi rv hq => ?_⟩
  have KX : K.In s.heap := e0.mod.kin.keeps fun b o e => (e0.bs b o e).1
  have lim : s.heap.NoLimit := e0.mod.nolimit.keeps fun b o e => (e0.bs b o e).1
  have hul : us.length = 2 := by
    obtain ⟨a, v, rfl, _⟩ := hq
    exact rv.length.symm
  let F0 : NdefX.NF := ⟨"__init__", qual, params, body, scope, [("__class__", cc)], cda⟩
  have hcc : H cc = none := (e0.bs cc _ (e0.mod.kin _ _ lcc)).2
  have lk1 : ∀ {y : Str} {c : Addr}, F0.cl.lookup y = some c → y = "__class__" ∧ cc = c := fun {y c} e => by
    have e : List.lookup y [(("__class__" : Str), cc)] = some c := e
    by_cases q : y = "__class__"
    · subst q
      refine ⟨rfl, ?_⟩
      simpa [List.lookup] using e
    · have q2 : (y == ("__class__" : Str)) = false := beq_eq_false_iff_ne.mpr q
      simp [List.lookup, q2] at e
  have cell : s.heap.IsCell cc (some (.ref C)) := ⟨_, KX _ _ lcc, rfl⟩
  have CA : NdefX.CellsAt F0.cl ["__class__"] [some (.ref C)] s.heap H := by
    refine ⟨rfl, fun y c e => ?_, fun x y c e1 e2 => ?_, fun i y e => ?_⟩
    · obtain ⟨_, rfl⟩ := lk1 e
      exact ⟨hcc, _, cell⟩
    · rw [(lk1 e1).1, (lk1 e2).1]
    · cases i with
      | zero =>
        cases e
        refine ⟨cc, by simp [F0, List.lookup], fun v ev => ?_⟩
        cases ev
        exact ⟨_, rfl, cell⟩
      | succ i => simp at e
  have hbody : ∃ p0 p1 ap m j p2 p3 p4 p5 p6 p7 p8, (ap.endLine == p3.line) = true ∧ body = [.Expr (.Call (.Attribute (.Call (.Name "super" p0) [] [] p1) "__init__" ap) [.Constant (.str m) j p2] [] p3) p4, .Assign [.Attribute (.Name "self" p5) f p6] (.Name f p7) p8] := by
    unfold xiBody at hb
    split at hb
    · simp only [Bool.and_eq_true, decide_eq_true_eq] at hb
      obtain ⟨⟨⟨⟨⟨rfl, rfl⟩, rfl⟩, rfl⟩, rfl⟩, hl⟩ := hb
      exact ⟨_, _, _, _, _, _, _, _, _, _, _, _, beq_iff_eq.mpr hl, rfl⟩
    · cases hb
  obtain ⟨p0, p1, ap, m, j, p2, p3, p4, p5, p6, p7, p8, hline, rfl⟩ := hbody
  obtain ⟨a, v, rfl, ha, hq⟩ := hq
  refine PySem.ks_codeAny_call_defAt (hco := NS.co) (hgen := NS.gen) (hk := NS.kind) hr.depth (KX _ _ lk) rfl lim (PySem.W.codeRec_of KX hcd) rfl hbi NS.nocell (fun ⟨n, _⟩ hy => NS.par n (List.of_mem_zip hy).1) (fun h₀ hns hk => ?_)
  have I : Inv (NdefX.ncx CX P w K mg base ["self", f, "__class__"] F0 fI A outer s H E) [] (NdefX.startF ["self", f, "__class__"] [.ref a, v] [some (.ref C)]) H { s with heap := h₀, toks := s.toks + ((["self", f] : List Str).zip us).length } :=
    NdefX.inv_startN NS hr.hd e0 rfl rv CA hns hk
  have KX0 : K.In h₀ := I.kIn
  obtain ⟨nm, qn, Nn, bs, bm, sn, sub, ab, col, dd, k0, k1, k2, k3, k5, hCl, hbm⟩ := hC.o.cls
  obtain ⟨t1, hoa⟩ := exo_at I.hok ha
  have hoa : h₀.get? a = some ({ cls := .ref C, dict := none, data := .fields #[.ref t1, .none, .none, .none, .bool false, .none] } : Obj) := hoa
  have IA : PySem.W.InstAt h₀ a ({ cls := .ref C, dict := none, data := .fields #[.ref t1, .none, .none, .none, .bool false, .none] } : Obj) C none := ⟨hoa, rfl, rfl, trivial⟩
  have hs' := hs
  simp only [xiScope, Bool.and_eq_true, decide_eq_true_eq] at hs'
  obtain ⟨⟨⟨⟨_, hsf⟩, hsg⟩, hsc⟩, hss⟩ := hs'
  have hp' := hp
  have hhead : ∃ ar : Arg, (params.posonlyargs ++ params.args).head? = some ar ∧ ar.arg = "self" := by
    unfold xiPar at hp
    split at hp
    · simp only [Bool.and_eq_true, decide_eq_true_eq] at hp
      exact ⟨_, rfl, hp.1⟩
    · cases hp
  obtain ⟨ar, hh, har⟩ := hhead
  have hint : interactive (NdefX.envF F0 fI s.heap.objs.size) = false := by
    unfold interactive
    show (scope.kind == .module && _) = false
    rw [NS.kind]
    rfl
  refine PySem.ks_wpAt_execs_cons (PySem.ks_wpAt_Expr_any (hi := hint) (PySem.ks_wpAt_MethodCall (he := mc_eq rfl hline) (PySem.ks_wpAt_super_base (env := NdefX.envF F0 fI s.heap.objs.size) hss hsc (by decide) rfl (KX0 _ _ lk) rfl hh rfl (KX0 _ _ lcd) rfl hvs hfile htop ?_)))
  obtain ⟨mb, hmb, hbt⟩ := e0.mod.blt
  have bk : ∀ b o, base.get? b = some o → h₀.get? b = some o := fun b o e => hk b o (e0.bs b o e).1
  refine PySem.W.ks_loadName_global (env := NdefX.envF F0 fI s.heap.objs.size) NS.kind hss (PySem.Calls.loadGlobal_builtin (env := NdefX.envF F0 fI s.heap.objs.size) (e0.mod.glob.keeps bk) hsup (hmb.keeps bk) ((hbt _ (by decide)).trans (by decide +kernel)) ⟨rfl, ?_⟩)
  refine wpAny_loadName_free (env := NdefX.envF F0 fI s.heap.objs.size) NS.kind hsc rfl ⟨_, KX0 _ _ lcc, rfl⟩ ?_
  rw [har]
  have hself : ((["self", f] : List Str).zip us).reverse.lookup ("self" : Str) = some (Value.ref a) := by
    rcases us with _ | ⟨u, _ | ⟨u2, _ | ⟨z, us⟩⟩⟩ <;> first | (simp at hul; done) | skip
    have e : u = Value.ref a := by
      cases rv with
      | cons r1 _ => exact r1
    have q : (("self" : Str) == f) = false := beq_eq_false_iff_ne.mpr (Ne.symm (xi_ne hm).1)
    simp [List.lookup, q, e]
  refine wpAny_loadName_local (env := NdefX.envF F0 fI s.heap.objs.size) NS.kind hsf hns hself ?_
  refine PySem.ks_wpAny_isType_cls (KX0 _ _ hCl) rfl ⟨rfl, ?_⟩
  refine PySem.ks_wpAny_call_super (KX0 _ _ hCl) rfl hoa rfl (fun c e => by cases e) (PySem.W.looks_mroIn KX0 hC.mro) (fun h1 es1 ks1 => ?_)
  have I1 := I.kept (h' := h1) (t' := s.toks + ((["self", f] : List Str).zip us).length) ks1
  have KX1 : K.In h1 := I1.kIn
  have hcl : PySem.W.clsIn K C = some { name := nm, bases := bs, mro := .ref C :: bm, ns := Nn, qualname := qn, hasDict := true, slotNames := sn, subclasses := sub, abstract := ab, collection := col, hasDel := false } := by unfold PySem.W.clsIn; rw [hCl] <;> rfl
  have IA1 : PySem.W.InstAt h1 a ({ cls := .ref C, dict := none, data := .fields #[.ref t1, .none, .none, .none, .bool false, .none] } : Obj) C none := ⟨ks1 _ _ hoa, rfl, rfl, trivial⟩
  have hsupp := hC.sup
  unfold PySem.W.ks_superIn at hsupp
  rw [hcl] at hsupp
  refine PySem.W.kxs_getMethod PySem.W.kxs_ValueError es1 (PySem.W.looks_opaque KX1 hC.st) ((PySem.W.looks_clsIn KX1 hcl).andThen .now) rfl KX1 hsupp (IA1.type.andThen (PySem.W.looks_subIn KX1 hC.sub)) (PySem.W.ks_ne KX1 IA1 hcl) (by decide) ?_
  have pu : ∀ b o, h1.get? b = some o → (h1.push (PySem.W.kxs_mw "ValueError.__init__" a)).get? b = some o := fun b o e => Heap.get?_push_of_some _ e
  have I2 := I1.kept (h' := h1.push (PySem.W.kxs_mw "ValueError.__init__" a)) (t' := s.toks + ((["self", f] : List Str).zip us).length + 1) pu
  have hmw : (h1.push (PySem.W.kxs_mw "ValueError.__init__" a)).get? h1.objs.size = some (PySem.W.kxs_mw "ValueError.__init__" a) := Heap.get?_push_size _ rfl
  refine PySem.W.kxs_callWith (i := "ValueError.__init__") (x := a) rfl ?_
  show wpAny _ _ (evalArgs (.ref h1.objs.size) true ((false, eval (.Constant (.str m) j p2) (NdefX.envF F0 fI s.heap.objs.size)) :: backTo p3 (starEach [] (NdefX.envF F0 fI s.heap.objs.size))) []) _ _ _
  refine PySem.Calls.evalArgs_plain ?_
  refine PySem.Calls.spliced_cons ?_
  refine PySem.Calls.Constant_str ?_
  refine PySem.Calls.spliced_nil ⟨hmw, ?_⟩
  -- the bound __init__ is called: the args are laid anew
  have hoa2 : (h1.push (PySem.W.kxs_mw "ValueError.__init__" a)).get? a = some ({ cls := .ref C, dict := none, data := .fields #[.ref t1, .none, .none, .none, .bool false, .none] } : Obj) := pu _ _ (ks1 _ _ hoa)
  refine wpAny_call (codeAny_of_tree ?_)
  show wpAny _ (Around.in1 _) (callAny (.ref h1.objs.size) ⟨_, []⟩) _ _ _
  simp only [callAny]
  refine wpAny_bind (wpAny_load hmw ?_)
  simp only [PySem.W.kxs_mw, show (Value.type "method-wrapper" == Value.type "method" || Value.type "method-wrapper" == Value.type "builtin_function_or_method" || Value.type "method-wrapper" == Value.type "method-wrapper") = true by decide, if_true]
  refine PySem.W.KFB.if_so (by decide) ?_
  refine wpAny_bind (PySem.W.check_bound_init PySem.F.excBase_ValueError.toExcCallFacts (I2.kIn _ _ hCl) hoa2 rfl ?_)
  refine wpAny_bind (wpAny_pure (wpAny_pure ?_))
  refine ⟨PySem.plainId_quiet PySem.F.excBase_ValueError.init.plain _, codeAny_builtin PySem.F.excBase_ValueError.initEntry ?_⟩
  refine PySem.W.exc_init_tree (cls := .ref C) (t0 := t1) (dv := none) (c2 := .none) (c3 := .none) (b4 := .bool false) hoa2 (by show 1 ≤ sizeLine; rw [sizeLine_eq]; omega) (fun h2 k2 e2 _ => ?_)
  have I3 := I2.write (t' := s.toks + ((["self", f] : List Str).zip us).length + 1 + 1) (x := a) (e := a) (o := exo a C none) (by rw [ha]; exact True.intro) (.inl rfl) k2 ⟨_, e2⟩ (exo_ok e2)
  have eu : upd H a (exo a C none) = H := by
    funext b
    by_cases hb2 : b = a
    · rw [hb2, upd_same, ha]
    · rw [upd_ne hb2]
  rw [eu] at I3
  have NX : (NdefX.ncx CX P w K mg base ["self", f, "__class__"] F0 fI A outer s H E).N = (["self", f, "__class__"] : List Str) := rfl
  have hfd : (f == ("__debug__" : Str)) = false ∧ (f == ("__classdict__" : Str)) = false := by
    have hm2 := hm
    simp only [xiL, List.mem_cons, List.not_mem_nil, or_false] at hm2
    rcases hm2 with rfl | rfl | rfl | rfl | rfl | rfl <;> decide
  have PP : PSs (NdefX.ncx CX P w K mg base ["self", f, "__class__"] F0 fI A outer s H E) [.Assign [.Attribute (.Name "self" p5) f p6] (.Name f p7) p8] _ :=
    pss_one (ps_ost (pe_var (i := 0) rfl (.inl hsf) (by decide) (by decide)) (pe_var (i := 1) rfl (.inl hsg) hfd.1 hfd.2))
  have RD := PP.run [] _ _ _ { nx := fun _ H' => Q .non H', rt := Q, bk := fun _ _ => False, ct := fun _ _ => False } I3 ?_
  · refine wpAt_of_wpAny (wpAny_mono RD (fun fl s' hs => ?_) fun e s' hs => hs)
    have fin : ∀ {σ' : L2.St} {H' : Hp} {v : V} {u : Value}, Inv (NdefX.ncx CX P w K mg base ["self", f, "__class__"] F0 fI A outer s H E) [] σ' H' s' → L2.RelV v u → Q v H' → CE outer P w H s Q u s' :=
      fun {σ' H' v u} J rv q => ⟨v, H', J.os, J.bare, J.base, J.hok, rv, q⟩
    cases fl with
    | ret u =>
      obtain ⟨v, σ', H', J, rv, q⟩ := hs
      exact fin J rv q
    | next =>
      obtain ⟨σ', H', J, q⟩ := hs
      exact fin (v := V.non) (u := Value.none) J rfl q
    | brk =>
      obtain ⟨_, _, _, q⟩ := hs
      exact False.elim q
    | cont =>
      obtain ⟨_, _, _, q⟩ := hs
      exact False.elim q
  · exact ⟨v, rfl, .ref a, rfl, a, C, rfl, hC.o, hC.no, .inl ⟨ha, fun dx hn hne => hq dx hn hne⟩⟩
end
end Ip

set_option Elab.async false
set_option linter.all false
set_option maxRecDepth 100000
set_option maxHeartbeats 1000000
/-! IpXi2: such an exception as a value, its attribute read. -/
namespace Ip
open PySem PySem.Spec PyProof.Rows L2
section
variable {X : Cx} {C fI : Addr} {f : Str} {fd : FuncData}
theorem ex_ne_tbl {cls : Value} {d : Option Addr} {a : Addr} (ps : Array Value) : EX cls d a ≠ .tbl ps := fun z => by
  unfold EX at z
  cases z
/-- the end of C(e): the exception stands, its dict as an exception's dict -/
theorem xi_end {pins : List (Addr × Obj)} {σ : L2.St} {H1 : Hp} {hp hp2 h2 : Heap} {g1 g2 : Array GenState} {d1 d2 : Drawn} {t1 t2 : Nat} {os1 os2 : OsState} {a d : Addr} {v : V} (I1 : Inv X pins σ H1 ⟨hp, g1, d1, t1, os1⟩)
    (ha : hp.objs.size ≤ a) (k : ∀ b o, hp.get? b = some o → hp2.get? b = some o) (un : Un (frs X.stack) [] (upd H1 a (exo a C none)) (upd (upd (upd H1 a (exo a C none)) d (exd d [(f, v)])) a (exo a C (some d))) hp2 h2)
    (hok : HOk X.prog X.w (upd (upd (upd H1 a (exo a C none)) d (exd d [(f, v)])) a (exo a C (some d))) h2) (ho : os2 = os1) (hb : AllBare g2) (hd1 : H1 d = none) (hda : d ≠ a) :
    Inv X pins σ (upd (upd H1 d (.xd [(f, v)])) a (EX (.ref C) (some d) a)) ⟨h2, g2, d2, t2, os2⟩ := by
  have hn : H1 a = none := I1.hok.fresh ha
  obtain ⟨t0, hoe⟩ := exo_at hok (show upd (upd (upd H1 a (exo a C none)) d (exd d [(f, v)])) a (exo a C (some d)) a = some (exo a C (some d)) from upd_same)
  obtain ⟨mA, hns, rel⟩ := exd_at (dx := d) (fs := [(f, v)]) hok (by rw [upd_ne hda, upd_same])
  have nha : ∀ {b : Addr} {o : Obj}, hp.get? b = some o → b ≠ a := fun {b o} z => Nat.ne_of_lt (Nat.lt_of_lt_of_le (Heap.lt_size z) ha)
  have up : ∀ {b : Addr}, b ≠ a → H1 b = none → upd H1 a (exo a C none) b = none := fun {b} hb n => by rw [upd_ne hb]; exact n
  have nd : ∀ {b : Addr} {o : Obj}, hp.get? b = some o → H1 b = none → b ≠ d := fun {b o} z n e => by
    have y := un.free b o (k b o z) (up (nha z) n) (by simp)
    rw [upd_ne (nha z), e, upd_same] at y
    cases y
  have old : ∀ {b : Addr} {o : HO}, H1 b = some o → upd (upd H1 d (.xd [(f, v)])) a (EX (.ref C) (some d) a) b = some o := fun {b o} e => by
    rw [upd_ne (ne_of_none e hn), upd_ne (ne_of_none e hd1)]; exact e
  have U : Un (frs X.stack) [] H1 (upd (upd H1 d (.xd [(f, v)])) a (EX (.ref C) (some d) a)) hp h2 := {
    keep := fun b o z n hf hx => un.keep b o (k b o z) (up (nha z) n) hf hx
    slot := fun b o z n hf hx => un.slot b o (k b o z) (up (nha z) n) hf hx
    free := fun b o z n hx => by rw [upd_ne (nha z), upd_ne (nd z n)]; exact n
    there := fun b o z hx => un.there b o (k b o z) hx
    tups := fun b xs z => old z
    frzs := fun b o v z => old z
    tbls := fun b ps z => ⟨#[], by rw [old z]; simp⟩ }
  refine I1.call' (ch := []) ho U (fun b o z => ?_) hb (fun b z => absurd z (by simp))
  by_cases hba : b = a
  · subst hba
    rw [upd_same] at z
    cases z
    exact ex_ok hoe ⟨rfl, rfl⟩ rfl
  · rw [upd_ne hba] at z
    by_cases hbd : b = d
    · subst hbd
      rw [upd_same] at z
      cases z
      exact ⟨mA, hns, rel⟩
    · rw [upd_ne hbd] at z
      refine (hok b o (by rw [upd_ne hba, upd_ne hbd, upd_ne hba]; exact z)).stay (fun c w _ q => q) (fun c q => ?_) fun c xs q => ?_
      · by_cases c1 : c = a
        · rw [c1, upd_same] at q
          exact absurd (Option.some.inj q) exo_own
        · rw [upd_ne c1] at q
          by_cases c2 : c = d
          · rw [c2, upd_same] at q
            exact absurd (Option.some.inj q) exd_own
          · rw [upd_ne c2, upd_ne c1] at q
            exact old q
      · by_cases c1 : c = a
        · rw [c1, upd_same] at q
          exact absurd (Option.some.inj q) exo_tup
        · rw [upd_ne c1] at q
          by_cases c2 : c = d
          · rw [c2, upd_same] at q
            exact absurd (Option.some.inj q) exd_tup
          · rw [upd_ne c2, upd_ne c1] at q
            exact old q
/-- C(e) as a value -/
theorem pe_xi {x : Str} {e : Expr} {ta : TE} {k : Nat} {p pos : Pos} (F : XiF X.prog X.K C fI f fd) (T : XiC X.K C f) (iC : PySem.W.findIn X.K (.ref C) "__init__" = some (some (.ref fI))) (tI : PySem.W.typeIn X.K (.ref fI) = some (.type "function"))
    (hsup : X.mg "super" = none) (htop : (X.prog.main.scope.names.lookup ("super" : Str)).isSome = false) (hr : Room (k + 3) X.A) (hg : Gl X x) (hm : X.mg x = some (.ref C)) (he : PE X e ta) (hs : starEach [e] X.env = (false, eval e X.env) :: starEach [] X.env) (hdb : (x == ("__debug__" : Str)) = false) :
    PE X (.Call (.Name x p) [e] [] pos) (fun σ H Q => ta σ H fun v H1 => ∀ d a, H1 d = none → H1 a = none → d ≠ a → Q (.ref a) (upd (upd H1 d (.xd [(f, v)])) a (EX (.ref C) (some d) a))) := by
  refine ⟨fun pins s σ H Q I h => ?_⟩
  obtain ⟨nm, q, N, bs, bm, sn, sub, ab, col, dd, k0, k1, k2, k3, k5, hC, hbm⟩ := T.o.cls
  refine wpAny_Call_Name_kw (ld_glob I hg hm ?_ hdb)
  refine PySem.W.callWith_K (h₀ := X.base) I.ok.mod.kin T.o.kC ?_ hs (by rfl)
  rw [hs]
  show wpAny _ _ (spliced ((false, eval e X.env) :: backTo pos (starEach [] X.env))) _ _ s
  refine Calls.spliced_cons (thn (he.run pins s σ H _ I h) fun u s1 ⟨v, H1, I1, r1, q1⟩ => ?_)
  refine Calls.spliced_nil ⟨I1.kIn, ?_⟩
  show wpAny _ _ (call (.ref C) [u]) _ _ _
  obtain ⟨hp, g, dr, tk, os⟩ := s1
  have hsz : hp.objs.size ≤ hp.objs.size + 1 := Nat.le_succ _
  have kk : ∀ b o, hp.get? b = some o → ((hp.push (PySem.W.kdv_tup [u])).push (PySem.HandSPX.excO C hp.objs.size)).get? b = some o := fun b o e => Heap.get?_push_of_some _ (Heap.get?_push_of_some _ e)
  have hget : ((hp.push (PySem.W.kdv_tup [u])).push (PySem.HandSPX.excO C hp.objs.size)).get? (hp.objs.size + 1) = some (PySem.HandSPX.excO C hp.objs.size) := by heap_get
  have I2 : Inv X pins σ (upd H1 (hp.objs.size + 1) (exo (hp.objs.size + 1) C none)) ⟨(hp.push (PySem.W.kdv_tup [u])).push (PySem.HandSPX.excO C hp.objs.size), g, dr, tk, os⟩ :=
    I1.laid (t' := tk) (a := hp.objs.size + 1) (o := exo (hp.objs.size + 1) C none) (h' := (hp.push (PySem.W.kdv_tup [u])).push (PySem.HandSPX.excO C hp.objs.size)) kk hsz (exo_ok hget)
  have F1 : FnOk X.prog X.w X.K X.mg X.base CX0 (k + 2) fI fd ["self", f] (spXi C f) := xi_fn F T.mem hsup htop T k
  have r2 : Vals [V.ref (hp.objs.size + 1), v] [Value.ref (hp.objs.size + 1), u] := .cons rfl (.cons r1 .nil)
  have hb : BindsTo ⟨(hp.push (PySem.W.kdv_tup [u])).push (PySem.HandSPX.excO C hp.objs.size), g, dr, tk, os⟩ fd ⟨[Value.ref (hp.objs.size + 1), u], []⟩ ((["self", f] : List Str).zip [Value.ref (hp.objs.size + 1), u]) := by
    obtain ⟨oc, od, qual, params, body, scope, doc, pm, an, cda, ct, osl, cc, rfl, _, _, hpar, _⟩ := F.ex
    exact .of_eq (xi_bind T.mem hpar _ rfl)
  refine wpAny_call (PySem.HandSPX.call_own PySem.F.excBase_ValueError (fun Y => PySem.HandSPX.refsVE_contains Y bm hbm) (I1.kIn _ _ hC) (PySem.W.looks_findIn I1.kIn iC) (fun self => PySem.W.bind_fn I1.kIn self tI) (by show 1 ≤ sizeLine; rw [sizeLine_eq]; omega)
    (codeAny_mono (F1.run _ X.stack _ _ ⟨[Value.ref (hp.objs.size + 1), u], []⟩ [Value.ref (hp.objs.size + 1), u] _ (fun w H2 => w = .non ∧ ∃ d, H1 d = none ∧ d ≠ hp.objs.size + 1 ∧ H2 = upd (upd (upd H1 (hp.objs.size + 1) (exo (hp.objs.size + 1) C none)) d (exd d [(f, v)])) (hp.objs.size + 1) (exo (hp.objs.size + 1) C (some d))) (fun _ _ _ => False)
      (hr.make C [u] []) (I2.env0.make C [u] []) hb r2 ⟨_, v, rfl, upd_same, fun dx hn hne => ⟨rfl, dx, by rw [upd_ne hne] at hn; exact hn, hne, rfl⟩⟩) fun r s' hq' => ?_))
  cases r with
  | error er => exact (pass0 (X := X) pins σ _ _ er s' I2 hq')
  | ok fl =>
    cases fl with
    | ret u2 =>
      obtain ⟨v2, H2, os2, bare2, un2, hok2, rv, ev, d, hd1, hda, eH⟩ := hq'
      subst ev
      subst eH
      obtain ⟨h2, g2, d2, t2, os'⟩ := s'
      exact ⟨rv, V.ref (hp.objs.size + 1), _, xi_end I1 hsz kk un2 hok2 os2 bare2 hd1 hda, rfl, q1 d (hp.objs.size + 1) hd1 (I1.hok.fresh hsz) hda⟩
    | next => exact False.elim hq'
    | brk => exact False.elim hq'
    | cont => exact False.elim hq'
/-- e.f, e such an exception -/
theorem pe_xattr {e : Expr} {te : TE} {pos : Pos} {n : Str} (he : PE X e te) (hb : attributeBase e n X.env (eval e X.env) = eval e X.env) :
    PE X (.Attribute e n pos) (fun σ H Q => te σ H fun x H1 => ∃ (a C d : Addr) (fs : List (Str × V)) (v : V), x = .ref a ∧ XfC X.K C ∧ PySem.W.findIn X.K (.ref C) n = some none ∧ H1 a = some (EX (.ref C) (some d) a) ∧ H1 d = some (.xd fs) ∧ fs.lookup n = some v ∧ Q v H1) := by
  refine ⟨fun pins s σ H Q I h => ?_⟩
  refine attr_of hb (thn (he.run pins s σ H _ I h) fun u s1 hh => ?_)
  obtain ⟨x, H1, I1, rx, a, C, d, fs, v, rfl, T, hno, ha, ed, l, q⟩ := hh
  obtain rfl : u = Value.ref a := rx
  obtain ⟨⟨oe, vs, hoe, hz, hd⟩, _, _⟩ := I1.hok a _ ha
  have hx : ObjOk X.prog X.w H1 s1.heap d (.xd fs) := I1.hok d _ ed
  obtain ⟨mA, hns, hr⟩ := hx
  obtain ⟨od, ho, hl⟩ := lookIn_ns hns
  obtain ⟨u, hu, ru⟩ := RelO.some_of (v := v) (o := mA n) (by rw [← l]; exact hr n)
  have J : PySem.W.InstAt s1.heap a oe C (some od) := ⟨hoe, hz.1, by unfold PySem.W.notCls; rw [hd] <;> rfl, by rw [hz.2]; exact ho⟩
  exact HandSPX.exc_get I1.kIn J T.ga T.gg T.exC (PySem.W.findObj_own T.hdC hno rfl (by rw [hl, hu])) (handed_of ru) ⟨v, H1, I1.tok _, ru, q⟩
end
end Ip
namespace PySem.W
open PySem PySem.Spec PySem.Calls PyProof.Rows
section
variable {prog : Program} {w : World} {A : Around} {E : Value → Shared → Prop} {s : Shared} {K : Frag} {x D : Addr} {ox : Obj} {od : Option Obj}
/-- a data descriptor is found ahead of the object's own dict -/
theorem xi_findObj {C : Addr} {name : Str} {a g : Value} (hc : (clsIn K C).isSome = true) (ha : findIn K (.ref C) name = some (some a)) (hg : specialIn K a "__get__" = some (some g)) (ht : takesIn K a = some true) : findObj K C od name = some (.bind g a) := by
  obtain ⟨cd, hc⟩ := Option.isSome_iff_exists.mp hc
  unfold findObj
  rw [hc, Option.bind_some, ha, Option.bind_some]
  simp [hg, ht]
theorem xi_class {Q : Option Value → Shared → Prop} (hc : L2.ExcC K D) (X : K.In s.heap) (I : InstAt s.heap x ox D od) (h : Q (some (.ref D)) { s with toks := s.toks + 1 }) : wpAny (model prog w) A (getAttr? (.ref x) "__class__") Q E s := by
  have ff : findObj K D od "__class__" = some (.bind (.builtin "getset_descriptor.__get__") (.builtin "object.__class__")) := xi_findObj (by obtain ⟨cd, hcd, _⟩ := any_some hc.hd; rw [hcd]; rfl) hc.ha hc.hn hc.ht
  obtain ⟨hp, gs, dr, tk, os⟩ := s
  have T0 := I.type (M := model prog w)
  have T1 := looks_findIn (M := model prog w) X hc.hg
  have T2 := looks_findIn (M := model prog w) X hc.hk
  have T3 := looks_find (M := model prog w) X I ff
  have sub : Looks (model prog w) hp (isInstance (.ref x) (.type "BaseException")) true := T0.andThen (looks_subIn X hc.hs)
  have n2 : (Value.builtin "BaseException.__getattribute__" == Value.builtin "object.__getattribute__") = false := by decide +kernel
  have n1 : (onTheHeap (Value.ref D) && Value.builtin "BaseException.__getattribute__" == Value.builtin "object.__getattribute__") = false := by rw [n2]; rfl
  unfold getAttr? getAttrBy? getAttrBy
  refine wpAny_bind (wpAny_mkText (wpAny_bind (wpAny_attempt (wpAny_holding (wpAny_bind (T0.at (wpAny_bind (T1.at ?_))))))))
  show wpAny _ _ (if (onTheHeap (Value.ref D) && Value.builtin "BaseException.__getattribute__" == Value.builtin "object.__getattribute__") = true then _ else _) _ _ _
  rw [n1, if_neg Bool.false_ne_true]
  unfold getAttrByItsOwn hookBefore
  refine wpAny_bind ?_
  rw [if_pos (show onTheHeap (Value.ref D) = true from rfl)]
  refine T2.at ?_
  refine wpAny_bind (wpAny_attempt (wpAny_holding ?_))
  unfold callGetattribute
  rw [show (false && onTheHeap (Value.builtin "BaseException.__getattribute__")) = false from rfl, if_neg Bool.false_ne_true]
  unfold boundAndCalled
  rw [PySem.F.excAttr_ValueError.ga.bind (.ref x)]
  refine wpAny_bind (wpAny_pure ?_)
  show wpAny _ _ (call (.builtin "BaseException.__getattribute__") [.ref x, .str "__class__" tk]) _ _ _
  refine wpAny_call (codeAny_call_builtin PySem.F.excAttr_ValueError.ga.plain PySem.F.entry_bexc_ga ?_)
  refine @check_slot (model prog w) _ _ ⟨hp, gs, dr, tk + 1, os⟩ "BaseException.__getattribute__" "BaseException" "__getattribute__" (.ref x) [.str "__class__" tk] [] _ (by decide +kernel) (by decide +kernel) sub (PySem.F.args_bexc_ga (.ref x) (.str "__class__" tk)) ?_
  unfold Builtin.«object.__getattribute__»
  refine wpAny_bind (wpAny_of_eq (a := ((Value.ref x : Value), [Value.str "__class__" tk])) (by first | rfl | (simp only [slotArgs]; rfl)) ?_)
  refine wpAny_bind (wpAny_pure (wpAny_bind (T0.at (wpAny_bind (T3.at ?_)))))
  show wpAny _ _ (holding [Value.builtin "object.__class__"] (call (.builtin "getset_descriptor.__get__") [.builtin "object.__class__", .ref x, .ref D]) >>= ret) _ _ _
  refine wpAny_bind (wpAny_holding (wpAny_call (class_get (s := ⟨hp, gs, dr, tk + 1, os⟩) (ox := ox) (od := od) X I hc.hm ?_)))
  refine wpAny_pure ?_
  show wpAny _ _ (handedOut (.ref D)) _ _ _
  rw [handedOut_of (v := .ref D) rfl]
  first
    | exact wpAny_pure (wpAny_pure h)
    | exact wpAny_pure h
    | exact wpAny_pure (wpAny_bind (wpAny_pure (wpAny_pure h)))
theorem xi_kitx (hc : L2.ExcC K D) : KitX K (.ref x) (.ref D) (fun h => InstAt h x ox D od) where
  ty := fun _ _ _ I => I.type
  it := fun _ _ X _ => by
    obtain ⟨cdD, hcD, _⟩ := any_some hc.hd
    unfold clsIn at hcD
    split at hcD
    · rename_i c' d' cd' sl' ho
      intro A' Q' E' s' k q
      unfold isType loadHead
      exact wpAny_bind (wpAny_loadPart (k _ _ (X _ _ ho)) (wpAny_pure q))
    · cases hcD
  ne := fun h tp dd its n sl X htp => by
    obtain ⟨cdD, hcD, _⟩ := any_some hc.hd
    refine Bool.eq_false_iff.mpr fun q => ?_
    have e : D = tp := Value.ref.inj (beq_iff_eq.mp q)
    subst e
    unfold clsIn at hcD
    split at hcD
    · rename_i c' d' cd' sl' ho
      have z := (X _ _ ho).symm.trans htp
      cases z
    · cases hcD
  ca := fun X I k => xi_class hc X I k
end
end PySem.W
namespace Ip
open PySem PySem.Spec PyProof.Rows L2
/-- isinstance of an exception's object with a dict -/
def rIsX2 (K : PySem.W.Frag) : List V → Hp → VK → Prop := fun xs H Q => ∃ (a D d : Addr) (c : V) (cv : Value) (fs : List (Str × V)) (b : Bool), xs = [.ref a, c] ∧ (∀ u, L2.RelV c u → u = cv) ∧ H a = some (EX (.ref D) (some d) a) ∧ H d = some (.xd fs) ∧ ExcC K D ∧ PySem.W.kitOne K (.ref D) cv = some b ∧ Q (.bl b) H
theorem call_isX2 {X : Cx} : CallR X (.builtin "isinstance") (rIsX2 X.K) := by
  intro pins s σ H xs us Q I r h
  obtain ⟨a, D, d, c, cv, fs, b, rfl, hcv, ha, hd0, hc, e, q⟩ := h
  obtain ⟨u1, u2, rfl, r1, r2⟩ := vals2 r
  cases (show u1 = Value.ref a from r1)
  cases hcv _ r2
  obtain ⟨⟨oe, vs, ho, hz, hd⟩, _, _⟩ := I.hok a _ ha
  obtain ⟨mA, ⟨od, es, ep, hod, _⟩, _⟩ : ObjOk X.prog X.w H s.heap d (.xd fs) := I.hok d _ hd0
  have N : PySem.W.InstAt s.heap a oe D (some od) := ⟨ho, hz.1, by unfold PySem.W.notCls; rw [hd] <;> rfl, by rw [hz.2]; exact hod⟩
  exact PySem.W.kia_one (PySem.W.xi_kitx hc) I.kIn N e (fun z => by cases z <;> cases r2) fun tk => ⟨.bl b, H, I.tok tk, rfl, q⟩
/-- the same, without a dict -/
def rIsX1 (K : PySem.W.Frag) : List V → Hp → VK → Prop := fun xs H Q => ∃ (a D : Addr) (c : V) (cv : Value) (b : Bool), xs = [.ref a, c] ∧ (∀ u, L2.RelV c u → u = cv) ∧ ExAt H (.ref D) a ∧ ExcC K D ∧ PySem.W.kitOne K (.ref D) cv = some b ∧ Q (.bl b) H
theorem call_isX1 {X : Cx} : CallR X (.builtin "isinstance") (rIsX1 X.K) := by
  intro pins s σ H xs us Q I r h
  obtain ⟨a, D, c, cv, b, rfl, hcv, ha, hc, e, q⟩ := h
  obtain ⟨u1, u2, rfl, r1, r2⟩ := vals2 r
  cases (show u1 = Value.ref a from r1)
  cases hcv _ r2
  obtain ⟨oe, vs, ho, hz, hd⟩ : ∃ (oe : Obj) (vs : Array Value), s.heap.get? a = some oe ∧ Zc (.ref D) none oe ∧ oe.data = .fields vs := by
    rcases ha with ha | ha
    · obtain ⟨⟨oe, vs, ho, hz, hd⟩, _, _⟩ := I.hok a _ ha
      exact ⟨oe, vs, ho, hz, hd⟩
    · obtain ⟨⟨oe, vs, ho, hz, hd, _⟩, _, _⟩ := I.hok a _ ha
      exact ⟨oe, vs, ho, hz, hd⟩
  have N : PySem.W.InstAt s.heap a oe D none := ⟨ho, hz.1, by unfold PySem.W.notCls; rw [hd] <;> rfl, by rw [hz.2]; trivial⟩
  exact PySem.W.kia_one (PySem.W.xi_kitx hc) I.kIn N e (fun z => nomatch z) fun tk => ⟨.bl b, H, I.tok tk, rfl, q⟩
end Ip

set_option Elab.async false
set_option linter.all false
set_option maxRecDepth 100000
set_option maxHeartbeats 2000000
/-! IpXk: such an exception made by keyword. -/
namespace PySem
namespace HandSPX
section
variable {M : Model} {A : Around} {E : Value → Shared → Prop} {h : Heap} {g : Array GenState} {d : Drawn} {t : Nat} {os : OsState}
variable {nm q : Str} {C N : Addr} {bs bm bmB : List Value} {hdct : Bool} {sn : List Str} {sub : List Value} {ab : Bool} {col : Option Bool} {dd : Option Addr} {k0 k1 k2 k3 k5 : Option Value} {B newId initId : String}
theorem xk_check_type {M : Model} {rest : List Value} {kw : List (Str × Value)} {Q : Unit → Shared → Prop} (hC : h.get? C = some (excClassObj nm q C N bs bm hdct sn sub ab col dd k0 k1 k2 k3 k5 newId))
    (hq : Q () ⟨h, g, d, t, os⟩) : wpAny M A (checkBuiltinCall "type.__call__" ⟨.ref C :: rest, kw⟩) Q E ⟨h, g, d, t, os⟩ := by
  have f3 := tc_sub
  have hT : (⟨h, g, d, t, os⟩ : Shared).TypeIs (.ref C) "type" := ⟨_, hC, rfl⟩
  simp only [checkBuiltinCall, tc_kind, tc_split]
  repeat (any_goals (first | assumption | with_reducible refine wpAny_loadPart_at hC ?_ | with_reducible refine wpAny_onRaise ?_ | with_reducible refine wpAny_map ?_ | wp_step))
theorem xk_check_new (F : ExcBaseFacts B newId initId bmB) (hT : ∀ X : String, bm.contains (.type X) = bmB.contains (.type X)) {rest : List Value} {kw : List (Str × Value)} {Q : Unit → Shared → Prop}
    (hC : h.get? C = some (excClassObj nm q C N bs bm hdct sn sub ab col dd k0 k1 k2 k3 k5 newId)) (hq : Q () ⟨h, g, d, t, os⟩) : wpAny M A (checkBuiltinCall newId ⟨.ref C :: rest, kw⟩) Q E ⟨h, g, d, t, os⟩ := by
  have hcont : (Value.ref C :: bm).contains (.type B) = true := by rw [List.contains_cons, hT, F.hasB, Bool.or_true]
  have hstar := F.noStar
  simp only [checkBuiltinCall, F.newKind, F.newSplit, F.newRow]
  repeat (first | refine wpAny_loadPart_at hC ?_ | (refine wpAny_isSubtype_exc hC ?_; rw [hcont]) | refine wpAny_staticBase_exc hC ?_ | refine wpAny_madeBy_exc hC ?_ | simp only [bne_self_eq_false, Bool.false_eq_true, if_false] | wp_step)
  exact hq
end
section
variable {prog : Program} {w : World} {A : Around} {E : Value → Shared → Prop} {R : Result → Shared → Prop} {h : Heap} {g : Array GenState} {d : Drawn} {t : Nat} {os : OsState}
variable {nm q : Str} {C N : Addr} {bs bm bmB : List Value} {hdct : Bool} {sn : List Str} {sub : List Value} {ab : Bool} {col : Option Bool} {dd : Option Addr} {k0 k1 k2 k3 k5 : Option Value} {B newId initId : String}
theorem xk_new (F : ExcBaseFacts B newId initId bmB) (hT : ∀ X : String, bm.contains (.type X) = bmB.contains (.type X)) {rest : List Value} {kw : List (Str × Value)}
    (hC : h.get? C = some (excClassObj nm q C N bs bm hdct sn sub ab col dd k0 k1 k2 k3 k5 newId))
    (hq : R (.ok (.ret (.ref (h.objs.size + 1)))) ⟨(h.push { cls := .type "tuple", data := .seq rest.toArray }).push
      { cls := .ref C, data := .fields #[.ref h.objs.size, .none, .none, .none, .bool false, .none] }, g, d, t, os⟩) (hrest : rest.length ≤ sizeLine) :
    codeAny (model prog w) A (.builtin newId ⟨.ref C :: rest, kw⟩) R ⟨h, g, d, t, os⟩ := by
  have hends := F.ends
  have hcB : (Value.ref C :: bm).contains (.type B) = true := by rw [List.contains_cons, hT, F.hasB, Bool.or_true]
  have hcA : (Value.ref C :: bm).contains (.type "AttributeError") = false := by rw [List.contains_cons, hT, F.noAttr]; rfl
  have hcN : (Value.ref C :: bm).contains (.type "NameError") = false := by rw [List.contains_cons, hT, F.noName]; rfl
  refine codeAny_builtinAt F.entry ?_
  unfold Builtin.«BaseException.__new__»
  refine wpAt_bind ?_
  show wpAt _ _ _ (stack >>= _) _ _ _
  refine wpAt_bind (wpAt_stack fun p below => wpAt_of_wpAny ?_)
  wp_walk
  refine wpAt_of_wpAny ?_
  rw [F.owner]
  repeat (first | with_reducible refine wpAny_madeHere_exc F.canon hC ?_ | with_reducible refine wpAny_loadPart_at hC ?_ | (with_reducible refine wpAny_isSubtype_exc hC ?_; first | rw [hcB] | rw [hcA] | rw [hcN]) | wp_step)
  show R _ _
  rw [Heap.size_push]
  exact hq

theorem xk_type (F : ExcBaseFacts B newId initId bmB) (hT : ∀ X : String, bm.contains (.type X) = bmB.contains (.type X)) {rest : List Value} {kw : List (Str × Value)} {fI : Addr} {Q : Fin → Shared → Prop}
    (hC : h.get? C = some (excClassObj nm q C N bs bm hdct sn sub ab col dd k0 k1 k2 k3 k5 newId))
    (hi : W.Looks (model prog w) h (typeLookup (.ref C) "__init__") (some (.ref fI))) (hb : ∀ self, W.Looks (model prog w) h (bindSpecial (.ref fI) self) (.ref fI, [self])) (hrest : rest.length ≤ sizeLine)
    (hq : codeAny (model prog w) A (.call (.ref fI) ⟨.ref (h.objs.size + 1) :: rest, kw⟩)
      (fun r s' => match r with | .ok (.ret v) => v = .none ∧ Q (.done (.ret (.ref (h.objs.size + 1)))) s' | .ok _ => False | .error e => E e s')
      ⟨(h.push (W.kdv_tup rest)).push (excO C h.objs.size), g, d, t, os⟩) :
    wpAny (model prog w) A (Builtin.«type.__call__» ⟨.ref C :: rest, kw⟩) Q E ⟨h, g, d, t, os⟩ := by
  repeat (first | with_reducible refine wpAny_loadPart_at hC ?_ | with_reducible refine wpAny_madeBy_exc hC ?_ | wp_step)
  refine codeAny_call_builtin_code (Code.quiet_builtin _ F.quiet) (xk_check_new F hT hC ?_)
  refine xk_new F hT hC ?_ hrest
  show wpAny _ _ _ _ _ _
  have k : ∀ b o, h.get? b = some o → ((h.push (W.kdv_tup rest)).push (excO C h.objs.size)).get? b = some o := fun b o e => Heap.get?_push_of_some _ (Heap.get?_push_of_some _ e)
  have hC₁ := k _ _ hC
  have hget : ((h.push (W.kdv_tup rest)).push (excO C h.objs.size)).get? (h.objs.size + 1) = some (excO C h.objs.size) := by heap_get
  have hcC : (Value.ref C :: bm).contains (.ref C) = true := by simp
  have i1 := hi.keeps k
  have b1 := (hb (.ref (h.objs.size + 1))).keeps k
  unfold isInstance
  repeat (first | with_reducible refine wpAny_loadPart_at hget ?_ | (with_reducible refine wpAny_isSubtype_exc hC₁ ?_; rw [hcC]) | wp_step)
  show wpAny _ _ (typeLookup (.ref C) _) _ _ _
  refine i1.at ?_
  refine wpAny_holding (wpAny_bind (b1.at ?_))
  refine wpAny_bind (wpAny_call (codeAny_mono hq fun r s' z => ?_))
  rcases r with e | (v | _ | _ | _) <;> first | exact z | exact z.elim | skip
  obtain ⟨rfl, z⟩ := z
  first
    | exact wpAny_pure (wpAny_pure z)
    | (wp_walk; exact z)

theorem xk_call (F : ExcBaseFacts B newId initId bmB) (hT : ∀ X : String, bm.contains (.type X) = bmB.contains (.type X)) {rest : List Value} {kw : List (Str × Value)} {fI : Addr}
    (hC : h.get? C = some (excClassObj nm q C N bs bm hdct sn sub ab col dd k0 k1 k2 k3 k5 newId))
    (hi : W.Looks (model prog w) h (typeLookup (.ref C) "__init__") (some (.ref fI))) (hb : ∀ self, W.Looks (model prog w) h (bindSpecial (.ref fI) self) (.ref fI, [self])) (hrest : rest.length ≤ sizeLine)
    (hq : codeAny (model prog w) (A.under (.builtin "type.__call__" ⟨.ref C :: rest, kw⟩)) (.call (.ref fI) ⟨.ref (h.objs.size + 1) :: rest, kw⟩) (W.InitBack (h.objs.size + 1) R)
      ⟨(h.push (W.kdv_tup rest)).push (excO C h.objs.size), g, d, t, os⟩) :
    codeAny (model prog w) A (.call (.ref C) ⟨rest, kw⟩) R ⟨h, g, d, t, os⟩ := by
  have f1 := tc_lookup
  have f2 := tc_bind (.ref C)
  have hTy : (⟨h, g, d, t, os⟩ : Shared).TypeIs (.ref C) "type" := ⟨_, hC, rfl⟩
  refine codeAny_of_tree ?_
  show wpAny _ _ (callAny (.ref C) _) _ _ _
  repeat (any_goals (first | assumption | with_reducible refine wpAny_loadPart_at hC ?_ | wp_step))
  refine ⟨rfl, ?_⟩
  refine codeAny_call_builtin_at (Code.quiet_builtin _ (by decide +kernel)) entry_typeCall (xk_check_type hC (xk_type F hT hC hi hb hrest ?_))
  refine codeAny_mono hq fun r s' z => ?_
  rcases r with e | (v | _ | _ | _) <;> exact z

end
end HandSPX
end PySem
namespace Ip
open PySem PySem.Spec PyProof.Rows L2
theorem xik_bind {qual : Str} {params : Arguments} {body : List Stmt} {scope : Scope} {cc cda : Addr} {doc pm ct : Value} {an : Option Addr} {f : Str} (hm : f ∈ xiL) (h : xiPar params f = true) (a u : Value) :
    bindArgs (PySem.W.fnX "__init__" qual params body scope [("__class__", cc)] .none .none doc pm an (.ref cda) ct) ⟨[a], [(f, u)]⟩ = pure ((["self", f] : List Str).zip [a, u]) := by
  unfold xiPar at h
  split at h
  · rename_i a b
    simp only [Bool.and_eq_true, decide_eq_true_eq] at h
    obtain ⟨a1, a2, a3⟩ := a
    obtain ⟨b1, b2, b3⟩ := b
    obtain ⟨rfl, rfl⟩ := h
    simp only [xiL, List.mem_cons, List.not_mem_nil, or_false] at hm
    rcases hm with rfl | rfl | rfl | rfl | rfl | rfl <;> rfl
  · cases h
section
variable {X : Cx} {C fI : Addr} {f : Str} {fd : FuncData}
theorem xik_vals {v : V} {ws : List Value} (r : Vals [v] ws) : ∃ u, ws = [u] ∧ L2.RelV v u := by
  cases r with
  | cons r1 r2 =>
    cases r2
    exact ⟨_, rfl, r1⟩
def xikP (P : V → Hp → Prop) : List V → Hp → Prop
  | [v], H => P v H
  | _, _ => False
theorem xikP_ok {P : V → Hp → Prop} {zs : List V} {H : Hp} (h : xikP P zs H) : ∃ v, zs = [v] ∧ P v H := by
  rcases zs with _ | ⟨v, _ | ⟨w, zs⟩⟩
  · exact h.elim
  · exact ⟨v, rfl, h⟩
  · exact h.elim
/-- C(f=e) as a value -/
theorem pe_xik {x : Str} {e : Expr} {ta : TE} {k : Nat} {p pos kp : Pos} (F : XiF X.prog X.K C fI f fd) (T : XiC X.K C f) (iC : PySem.W.findIn X.K (.ref C) "__init__" = some (some (.ref fI))) (tI : PySem.W.typeIn X.K (.ref fI) = some (.type "function"))
    (hsup : X.mg "super" = none) (htop : (X.prog.main.scope.names.lookup ("super" : Str)).isSome = false) (hr : Room (k + 3) X.A) (hg : Gl X x) (hm : X.mg x = some (.ref C)) (he : PE X e ta) (hdb : (x == ("__debug__" : Str)) = false) :
    PE X (.Call (.Name x p) [] [⟨some f, e, kp⟩] pos) (fun σ H Q => ta σ H fun v H1 => ∀ d a, H1 d = none → H1 a = none → d ≠ a → Q (.ref a) (upd (upd H1 d (.xd [(f, v)])) a (EX (.ref C) (some d) a))) := by
  refine ⟨fun pins s σ H Q I h => ?_⟩
  obtain ⟨nm, q, N, bs, bm, sn, sub, ab, col, dd, k0, k1, k2, k3, k5, hC, hbm⟩ := T.o.cls
  refine wpAny_Call_Name_kw (ld_glob I hg hm ?_ hdb)
  refine PySem.W.callWith_KW0 (h₀ := X.base) I.ok.mod.kin T.o.kC rfl (thn ((pk_cons (nm := some f) (kpos := kp) he pk_nil).run pos pins s σ H (xikP fun v H1 => ∀ d a, H1 d = none → H1 a = none → d ≠ a → Q (.ref a) (upd (upd H1 d (.xd [(f, v)])) a (EX (.ref C) (some d) a))) I h) fun ws s1 ⟨zs, H1, I1, rz, z⟩ => ⟨I1.kIn, ?_⟩)
  obtain ⟨v, ez, q1⟩ := xikP_ok z
  subst ez
  obtain ⟨u, rfl, r1⟩ := xik_vals rz
  show wpAny _ _ (call (.ref C) [] [(f, u)]) _ _ _
  obtain ⟨hp, g, dr, tk, os⟩ := s1
  have hsz : hp.objs.size ≤ hp.objs.size + 1 := Nat.le_succ _
  have kk : ∀ b o, hp.get? b = some o → ((hp.push (PySem.W.kdv_tup [])).push (PySem.HandSPX.excO C hp.objs.size)).get? b = some o := fun b o e => Heap.get?_push_of_some _ (Heap.get?_push_of_some _ e)
  have hget : ((hp.push (PySem.W.kdv_tup [])).push (PySem.HandSPX.excO C hp.objs.size)).get? (hp.objs.size + 1) = some (PySem.HandSPX.excO C hp.objs.size) := by heap_get
  have I2 : Inv X pins σ (upd H1 (hp.objs.size + 1) (exo (hp.objs.size + 1) C none)) ⟨(hp.push (PySem.W.kdv_tup [])).push (PySem.HandSPX.excO C hp.objs.size), g, dr, tk, os⟩ :=
    I1.laid (t' := tk) (a := hp.objs.size + 1) (o := exo (hp.objs.size + 1) C none) (h' := (hp.push (PySem.W.kdv_tup [])).push (PySem.HandSPX.excO C hp.objs.size)) kk hsz (exo_ok hget)
  have F1 : FnOk X.prog X.w X.K X.mg X.base CX0 (k + 2) fI fd ["self", f] (spXi C f) := xi_fn F T.mem hsup htop T k
  have r2 : Vals [V.ref (hp.objs.size + 1), v] [Value.ref (hp.objs.size + 1), u] := .cons rfl (.cons r1 .nil)
  have hb : BindsTo ⟨(hp.push (PySem.W.kdv_tup [])).push (PySem.HandSPX.excO C hp.objs.size), g, dr, tk, os⟩ fd ⟨[Value.ref (hp.objs.size + 1)], [(f, u)]⟩ ((["self", f] : List Str).zip [Value.ref (hp.objs.size + 1), u]) := by
    obtain ⟨oc, od, qual, params, body, scope, doc, pm, an, cda, ct, osl, cc, rfl, _, _, hpar, _⟩ := F.ex
    exact .of_eq (xik_bind T.mem hpar _ _)
  refine wpAny_call (PySem.HandSPX.xk_call PySem.F.excBase_ValueError (fun Y => PySem.HandSPX.refsVE_contains Y bm hbm) (I1.kIn _ _ hC) (PySem.W.looks_findIn I1.kIn iC) (fun self => PySem.W.bind_fn I1.kIn self tI) (by show 0 ≤ sizeLine; omega)
    (codeAny_mono (F1.run _ X.stack _ _ ⟨[Value.ref (hp.objs.size + 1)], [(f, u)]⟩ [Value.ref (hp.objs.size + 1), u] _ (fun w H2 => w = .non ∧ ∃ d, H1 d = none ∧ d ≠ hp.objs.size + 1 ∧ H2 = upd (upd (upd H1 (hp.objs.size + 1) (exo (hp.objs.size + 1) C none)) d (exd d [(f, v)])) (hp.objs.size + 1) (exo (hp.objs.size + 1) C (some d))) (fun _ _ _ => False)
      (hr.make C [] [(f, u)]) (I2.env0.make C [] [(f, u)]) hb r2 ⟨_, v, rfl, upd_same, fun dx hn hne => ⟨rfl, dx, by rw [upd_ne hne] at hn; exact hn, hne, rfl⟩⟩) fun r s' hq' => ?_))
  cases r with
  | error er => exact (pass0 (X := X) pins σ _ _ er s' I2 hq')
  | ok fl =>
    cases fl with
    | ret u2 =>
      obtain ⟨v2, H2, os2, bare2, un2, hok2, rv, ev, d, hd1, hda, eH⟩ := hq'
      subst ev
      subst eH
      obtain ⟨h2, g2, d2, t2, os'⟩ := s'
      exact ⟨rv, V.ref (hp.objs.size + 1), _, xi_end I1 hsz kk un2 hok2 os2 bare2 hd1 hda, rfl, q1 d (hp.objs.size + 1) hd1 (I1.hok.fresh hsz) hda⟩
    | next => exact False.elim hq'
    | brk => exact False.elim hq'
    | cont => exact False.elim hq'
end
end Ip

set_option Elab.async false
set_option linter.all false
set_option maxRecDepth 100000
set_option maxHeartbeats 4000000
/-! IpSnd: what a small term comes to, the layer says of the expression. -/
namespace Ip
open PySem PySem.Spec PyProof.Rows L2

/-- a def's promise, by the evaluator -/
def spF (Γ : Env) (n : Nat) (g : List W → M W) : Sp := fun vs H Q E => vs.length = n ∧ ∃ ws η ρ G, Sim Γ ρ G η H ∧ RepWs Γ G ρ ws vs ∧ Fin Γ (fun cls d _ H' => E cls d H') (pW Γ Q) [] ρ G η H (g ws η)
/-- what the program's written part says of names and classes -/
def isX (Γ : Env) (j : Nat) : Prop := j ∈ Γ.pl ∨ ∃ f, (j, f) ∈ Γ.xi
/-- a def that catches: its text -/
def catB (gs : List Str) (q : Nat) (wn cn : Str) (st : Stmt) : Bool := match st with
  | .FunctionDef _ _ [.Assign [.Name c0 _] (.Constant .none _ _) _, .Try [.Expr (.Call (.Name w0 _) [] [] _) _] [.ExceptHandler (some (.Name x _)) (some n) [.Assign [.Name c1 _] (.Name n1 _) _] _] [] [] _, .Return (some (.Name c2 _)) _] _ _ _ sc _ _ _ =>
      decide (c0 = cn) && decide (w0 = wn) && decide (n = "error") && decide (n1 = "error") && decide (c1 = cn) && decide (c2 = cn) && decide (([wn, cn, "error"] : List Str).Nodup) && nodbg wn && nodbg cn && (gs[q]? == some x) && decide (sc.names.lookup x = some .globalImplicit) && nodbg x &&
      decide (sc.kind = .function) && !sc.isCoroutine && !sc.isGenerator && decide (sc.names.lookup wn = some .local) && decide (sc.names.lookup cn = some .local) && decide (sc.names.lookup ("error" : Str) = some .local) && sc.names.all (fun y => y.2 != .free)
  | _ => false
structure Facts (Γ : Env) (sub : Nat → Nat → Bool) (xi : Nat → Option String) : Prop where
  kst : ∀ (x : Str) (d : D), (x, d) ∈ Γ.ks → ∃ (v : V) (u : Value), Γ.mg x = some u ∧ RelV v u ∧ ∀ G, Rep Γ G d v
  cls : ∀ (j : Nat) (x : Str), j ∈ Γ.pl → Γ.gs[j]? = some x → ∃ (C : Addr) (bmB : List Value) (bs newId initId : String), Γ.mg x = some (.ref C) ∧ ExcBaseFacts bs newId initId bmB ∧ PySem.W.excIn Γ.K C bmB newId = true ∧ PySem.W.keepIn Γ.K (.ref C) = true ∧
    PySem.W.subIn Γ.K (.ref C) (.type "BaseException") = some true ∧ PySem.W.typeIn Γ.K (.ref C) = some (.type "type") ∧ ExcC Γ.K C
  exm : ∀ (i j : Nat) (x y : Str) (C D : Addr), isX Γ i → isX Γ j → Γ.gs[i]? = some x → Γ.gs[j]? = some y → Γ.mg x = some (.ref C) → Γ.mg y = some (.ref D) → PySem.W.exmOne Γ.K (.ref C) (.ref D) = some (sub i j)
  kit : ∀ (i j : Nat) (x y : Str) (C D : Addr), isX Γ i → Γ.gs[i]? = some x → Γ.gs[j]? = some y → Γ.mg x = some (.ref C) → Γ.mg y = some (.ref D) → PySem.W.kitOne Γ.K (.ref C) (.ref D) = some (sub i j)
  kitV : ∀ (i : Nat) (x : Str) (C : Addr), isX Γ i → Γ.gs[i]? = some x → Γ.mg x = some (.ref C) → PySem.W.kitOne Γ.K (.ref C) (.type "ValueError") = some true
  xcl : ∀ (j : Nat) (f : String) (x : Str), (j, f) ∈ Γ.xi → Γ.gs[j]? = some x → ∃ (C fI : Addr) (fd : FuncData), Γ.mg x = some (.ref C) ∧ XiF Γ.P Γ.K C fI f fd ∧ XiC Γ.K C f ∧ PySem.W.findIn Γ.K (.ref C) "__init__" = some (some (.ref fI)) ∧ PySem.W.typeIn Γ.K (.ref fI) = some (.type "function") ∧ XfC Γ.K C ∧ ExcC Γ.K C
  xip : ∀ j, j ∈ Γ.pl → xi j = none
  xif : ∀ (j : Nat) (f : String), (j, f) ∈ Γ.xi → xi j = some f
  sys : SysD Γ.K
  top : Γ.xi ≠ [] → (Γ.P.main.scope.names.lookup ("super" : Str)).isSome = false
  cat : ∀ (x : Str) (q : Nat), (x, q) ∈ Γ.ct → isX Γ q ∧ ∃ (g : Addr) (fd : FuncData) (st : Stmt) (wn cn : Str), Γ.mg x = some (.ref g) ∧ FunD Γ.K x x (defArgs st) (defBody st) (defScope st) [] [] g fd ∧ Binds Γ.K fd [wn] [] ∧ catB Γ.gs q wn cn st = true
/-- a def's promise, where no object's repr is under way -/
structure FnG (P : Program) (w : World) (K : PySem.W.Frag) (mg : Str → Option Value) (base : Heap) (CX : CXT) (k : Nat) (f : Addr) (fd : FuncData) (ps : List Str) (sp : Sp) : Prop where
  len : ∀ vs H Q E, sp vs H Q E → vs.length = ps.length
  go : ∀ (A : Around) (outer : List PySem.Env) (s : Shared) (H : Hp) (args : Args) (us : List Value) (vs : List V) (Q : VK) (E : XK), Room k A → A.guards = some [] → Env0 P w K mg base A outer s H → BindsTo s fd args (ps.zip us) → Vals vs us → sp vs H Q E → codeAny (model P w) A (.call (.ref f) args) (CR CX outer P w H s Q E) s
theorem FnG.imp {P : Program} {w : World} {K : PySem.W.Frag} {mg : Str → Option Value} {base : Heap} {CX : CXT} {k : Nat} {f : Addr} {fd : FuncData} {ps : List Str} {sp sp' : Sp} (F : FnG P w K mg base CX k f fd ps sp)
    (h : ∀ vs H Q E, sp' vs H Q E → sp vs H Q E) : FnG P w K mg base CX k f fd ps sp' :=
  ⟨fun vs H Q E q => F.len vs H Q E (h _ _ _ _ q), fun A outer s H args us vs Q E hr hg he hb hv hs => F.go A outer s H args us vs Q E hr hg he hb hv (h _ _ _ _ hs)⟩
theorem run_fnA {X : Cx} {CX : CXT} {k : Nat} {f : Addr} {fd : FuncData} {ps : List Str} {sp : Sp} {E : L2.St → XK} {pins : List (Addr × Obj)} {σ : L2.St} {H : Hp} {s : Shared} {Q : VK} {args : Args} {us : List Value} {vs : List V} (F : FnG X.prog X.w X.K X.mg X.base CX k f fd ps sp) (hr : Room k X.A) (hg : X.A.guards = some []) (b : BindsTo s fd args (ps.zip us)) (hx : PassesAt CX X σ (E σ))
    (I : Inv X pins σ H s) (r : Vals vs us) (h : sp vs H Q (E σ)) : codeAny (model X.prog X.w) X.A (.call (.ref f) args) (fun r s' => match r with
      | .ok (.ret u) => EP X pins σ Q u s'
      | .ok _ => False
      | .error e => X.xe e s') s := by
  refine codeAny_mono (F.go X.A X.stack s H args us vs Q (E σ) hr hg I.env0 b r h) fun r s' hq => ?_
  cases r with
  | error e => exact hx pins H s e s' I hq
  | ok fl =>
    cases fl with
    | ret u => exact I.after hq
    | next => exact False.elim hq
    | brk => exact False.elim hq
    | cont => exact False.elim hq
theorem run_fnG {X : Cx} {CX : CXT} {k : Nat} {f : Addr} {fd : FuncData} {ps : List Str} {sp : Sp} {E : L2.St → XK} {pins : List (Addr × Obj)} {σ : L2.St} {H : Hp} {s : Shared} {Q : VK} {us : List Value} {vs : List V} (F : FnG X.prog X.w X.K X.mg X.base CX k f fd ps sp) (hr : Room k X.A) (hg : X.A.guards = some []) (hb : Binds X.K fd ps []) (hx : PassesAt CX X σ (E σ))
    (I : Inv X pins σ H s) (r : Vals vs us) (h : sp vs H Q (E σ)) : wpAny (model X.prog X.w) X.A (call (.ref f) us) (EP X pins σ Q) X.xe s := by
  have hl : us.length = ps.length := by rw [← r.length]; exact F.len _ _ _ _ h
  have b := hb s us I.kIn (by rw [List.append_nil]; exact hl)
  rw [List.append_nil] at b
  refine wpAny_call (codeAny_mono (run_fnA (E := E) F hr hg b hx I r h) fun r s' hq => ?_)
  rcases r with e | (u | _ | _ | _) <;> exact hq
def permL {α : Type} (pm : List Nat) (ws : List α) : Option (List α) := match pm with
  | [] => some []
  | i :: r => match ws[i]? with
    | some w => (permL r ws).map (w :: ·)
    | none => none
structure Fns (Γ : Env) (c : Cfg) (k : Nat) : Prop where
  run : ∀ (i : Nat) (x : Str) (n : Nat), Γ.ft[i]? = some (x, n) → ∃ (f : Addr) (fd : FuncData) (ps : List Str), ps.length = n ∧ Γ.mg x = some (.ref f) ∧ PySem.W.keepIn Γ.K (.ref f) = true ∧ Binds Γ.K fd ps [] ∧
    (∀ (ks : List Str) (pm : List Nat), (i, ks, pm) ∈ Γ.kw → ∀ (s : Shared) (us ws : List Value), Γ.K.In s.heap → us.length = n → permL pm us = some ws → BindsTo s fd ⟨[], ks.zip us⟩ (ps.zip ws)) ∧
    ∀ md, FnG Γ.P Γ.w Γ.K Γ.mg Γ.base (L2.CX Γ.P Γ.w) k f fd ps (spF Γ n (c.call md i))
  blt : ∀ x ∈ bltL, Γ.mg x = none
  gl : ∀ (j : Nat) (x : Str), Γ.gs[j]? = some x → ∃ a, Γ.mg x = some (.ref a)
  fx : Facts Γ c.sub c.xi
structure Gd (Γ : Env) (c : Cfg) (S : SC) (k : Nat) (Z : WX) (X : Cx) : Prop where
  P : X.prog = Γ.P
  w : X.w = Γ.w
  K : X.K = Γ.K
  mg : X.mg = Γ.mg
  base : X.base = Γ.base
  N : X.N = S.N
  nd : S.N.Nodup
  sc : X.env.scope = S.sc
  fn : ∀ x, X.fn x = S.own x
  calm : X.calm = true
  rm : Room (k + S.up) X.A
  tk : Takes X Z
  fns : Fns Γ c k
  gd : X.A.guards = some []
  lam : ∀ q, S.lm = some q → ∃ c P, X.env.code = .ref c ∧ LamX.TabB X.base X.mg c P ∧ X.env.qual ++ "<lambda>" = q ∧ (P, q) ∈ Γ.T ∧ ∀ p ∈ Γ.T, p.1 = P → p.2 = q

theorem Gd.room {Γ : Env} {c : Cfg} {S : SC} {k : Nat} {Z : WX} {X : Cx} (g : Gd Γ c S k Z X) : Room k X.A := g.rm.mono (by omega)
theorem Gd.room4 {Γ : Env} {c : Cfg} {S : SC} {k : Nat} {Z : WX} {X : Cx} (g : Gd Γ c S k Z X) : Room (k + 4) X.A := g.rm.mono (by unfold SC.up; split <;> omega)
section
variable {Γ : Env} {c : Cfg} {S : SC} {k : Nat} {Z : WX} {X : Cx}
theorem Gd.gl (g : Gd Γ c S k Z X) {x : Str} (h : S.gl x = true) : Gl X x := by
  show X.env.scope.names.lookup x = some .globalImplicit
  rw [g.sc]
  simpa [SC.gl, SC.knd] using h
theorem Gd.vis (g : Gd Γ c S k Z X) {x : Str} (h : S.vis x = true) : Vis X.env.scope x := by
  unfold Vis
  rw [g.sc]
  unfold SC.vis SC.knd at h
  split at h <;> rename_i e <;> first | exact .inl e | exact .inr (.inl e) | exact .inr (.inr e) | cases h
theorem Gd.loc (g : Gd Γ c S k Z X) {x : Str} (h : S.loc x = true) : L2.Loc X.env.scope x ∧ (X.fn x = true ∨ X.env.scope.names.lookup x = some .local) := by
  unfold L2.Loc
  rw [g.sc, g.fn]
  unfold SC.loc SC.knd at h
  split at h <;> rename_i e
  · exact ⟨.inl e, .inr e⟩
  · exact ⟨.inr e, .inl h⟩
  · cases h
theorem nodbg_ok {x : Str} (h : nodbg x = true) : (x == ("__debug__" : Str)) = false ∧ (x == ("__classdict__" : Str)) = false := by
  unfold nodbg at h
  simpa using h
theorem Gd.ix (g : Gd Γ c S k Z X) {i : Nat} {x : Str} (h : (S.N[i]? == some x) = true) : X.N[i]? = some x := by
  rw [g.N]
  exact beq_iff_eq.mp h
theorem Gd.blt (g : Gd Γ c S k Z X) {x : Str} (h : x ∈ bltL) : X.mg x = none := by rw [g.mg]; exact g.fns.blt x h

theorem tI_pure {f : List (Option W) → M W} {d : D} (hf : ∀ ν, f ν = Pure.pure (.d d)) {v : V} (hv : ∀ G, Rep Γ G d v) {σ : L2.St} {H : Hp} {Q : VK} (h : tI Γ Z f σ H Q) : tC v σ H Q := by
  obtain ⟨ν, η, ρ, G, S, T, h⟩ := h
  rw [hf] at h
  exact h ρ G H S (Ext.refl _ _ _ _) v (hv G)
theorem tT_B {f : List (Option W) → M W} {σ : L2.St} {H : Hp} {Q : Bool → Hp → Prop} (h : tT Γ Z f σ H Q) : tI Γ Z f σ H fun x H1 => ∃ c, x = .bl c ∧ Q c H1 := by
  obtain ⟨ν, η, ρ, G, S, T, h⟩ := h
  refine ⟨ν, η, ρ, G, S, T, h.imp fun G' ρ' w H' hb v rv => ?_⟩
  obtain ⟨b, rfl, q⟩ := hb
  cases rv
  exact ⟨b, rfl, q⟩
theorem tI_var {i : Nat} {σ : L2.St} {H : Hp} {Q : VK} (h : tI Γ Z (ev c (.var i)) σ H Q) : tVar i σ H Q := by
  obtain ⟨ν, η, ρ, G, S, T, h⟩ := h
  simp only [ev] at h
  cases e : ν[i]? with
  | none => rw [e] at h; exact h.elim
  | some o =>
    rw [e] at h
    cases o with
    | none => exact h.elim
    | some w =>
      obtain ⟨v, hv, rv⟩ := T.2 i w e
      exact ⟨v, hv, h ρ G H S (Ext.refl _ _ _ _) v rv⟩

/-! ### rules by their names -/
theorem opRule (g : Gd Γ c S k Z X) {o : Bop} {op : Operator} (h : opB o op = true) : OpR X (binaryOp op) (pr2 Γ (dbin o)) := by
  cases o <;> cases op <;> first | (simp [opB] at h; done) | skip
  · exact or_add g.K
  · exact or_sub
  · exact or_mul
  · exact or_fdiv
  · exact or_mod
  · exact or_pow
theorem copRule (g : Gd Γ c S k Z X) {o : Cop} {op : CmpOp} (h : opC o op = true) : OpR X (compareOp op) (pr2 Γ fun x y => (dcmp o x y).map .bl) := by
  have hu := g.room.units
  have hu5 : X.A.units + 65 < cLine := by have := g.room.un; omega
  cases o <;> cases op <;> first | (simp [opC] at h; done) | skip
  · exact or_eq g.K hu
  · exact or_ne g.K hu
  · exact or_lt g.K hu
  · exact or_le g.K hu
  · exact or_gt g.K hu
  · exact or_ge g.K hu
  · exact or_in g.K hu5
  · exact or_notin g.K hu5
  · exact or_is
  · exact or_isnot
theorem prL_ext {g g' : List D → Option D} {f : Value} (h : CallR X f (prL Γ g)) (e : ∀ ds, g' ds = g ds) : CallR X f (prL Γ g') := by
  have : g' = g := funext e
  rw [this]; exact h
theorem fnRule (g : Gd Γ c S k Z X) {f : Fn} (h : okFn f = true) : CallR X (fnVal f) (prL Γ (dfn c.sub f)) := by
  have hu : X.A.units + 66 < cLine := by have := g.room.un; omega
  cases f <;> first | (simp [okFn] at h; done) | skip
  · exact prL_ext (cr_lenD g.K) fun ds => by rcases ds with _ | ⟨d, _ | ⟨d2, _ | ⟨d3, ds⟩⟩⟩ <;> simp [dfn]
  · exact prL_ext cr_absD fun ds => by rcases ds with _ | ⟨d, _ | ⟨d2, _ | ⟨d3, ds⟩⟩⟩ <;> first | rfl | (cases d <;> rfl)
  · exact prL_ext cr_intD fun ds => by rcases ds with _ | ⟨d, _ | ⟨d2, _ | ⟨d3, ds⟩⟩⟩ <;> first | rfl | (cases d <;> rfl)
  · exact prL_ext (cr_minD g.calm) fun ds => by rcases ds with _ | ⟨d, _ | ⟨d2, _ | ⟨d3, ds⟩⟩⟩ <;> first | rfl | (cases d <;> rfl) | (cases d <;> cases d2 <;> rfl)
  · exact prL_ext (cr_maxD g.calm) fun ds => by rcases ds with _ | ⟨d, _ | ⟨d2, _ | ⟨d3, ds⟩⟩⟩ <;> first | rfl | (cases d <;> rfl) | (cases d <;> cases d2 <;> rfl)
  · exact prL_ext (cr_sortedD g.K hu) fun ds => by rcases ds with _ | ⟨d, _ | ⟨d2, _ | ⟨d3, ds⟩⟩⟩ <;> first | rfl | (cases d <;> rfl)
  · exact prL_ext (cr_listD g.K) fun ds => by rcases ds with _ | ⟨d, _ | ⟨d2, _ | ⟨d3, ds⟩⟩⟩ <;> first | rfl | (cases d <;> rfl)
  · exact prL_ext (cr_tupleD g.K) fun ds => by rcases ds with _ | ⟨d, _ | ⟨d2, _ | ⟨d3, ds⟩⟩⟩ <;> first | rfl | (cases d <;> rfl)
  · exact prL_ext (cr_dictD g.K g.calm) fun ds => by rcases ds with _ | ⟨d, _ | ⟨d2, _ | ⟨d3, ds⟩⟩⟩ <;> first | rfl | (cases d <;> rfl)
  · exact prL_ext (cr_sumD g.calm) fun ds => by rcases ds with _ | ⟨d, _ | ⟨d2, _ | ⟨d3, ds⟩⟩⟩ <;> first | rfl | (cases d <;> rfl)
  · exact prL_ext (cr_anyD g.calm) fun ds => by rcases ds with _ | ⟨d, _ | ⟨d2, _ | ⟨d3, ds⟩⟩⟩ <;> first | rfl | (cases d <;> rfl)
  · exact prL_ext (cr_allD g.calm) fun ds => by rcases ds with _ | ⟨d, _ | ⟨d2, _ | ⟨d3, ds⟩⟩⟩ <;> first | rfl | (cases d <;> rfl)
  · exact prL_ext (cr_reprD g.K (by rw [g.K]; exact g.fns.fx.sys) g.gd hu) fun ds => by rcases ds with _ | ⟨d, _ | ⟨d2, _ | ⟨d3, ds⟩⟩⟩ <;> rfl
  · exact prL_ext cr_rangeD fun ds => by rcases ds with _ | ⟨d, _ | ⟨d2, _ | ⟨d3, ds⟩⟩⟩ <;> first | rfl | (cases d <;> rfl) | (cases d <;> cases d2 <;> rfl)
  · refine CallR.imp ((cr_isiD (Γ := Γ) g.K).or (call_isX1.or call_isX2)) fun xs H Q h => ?_
    obtain ⟨G, ds, z, hS, as, e, q⟩ := h
    rcases ds with _ | ⟨d, _ | ⟨d2, _ | ⟨d3, ds⟩⟩⟩
    · simp [dfn] at e
    · simp [dfn] at e
    · obtain ⟨v, u, rfl, a1, a2⟩ := as.two
      -- the class that is asked for
      have key : ∀ (ex : isExc d = true) (b : Bool) (cv : Value), z = .bl b → (∀ w, L2.RelV u w → w = cv) → (∀ (cc : Nat) (fs : List (String × D)) (x : Str) (C : Addr), d = .exc cc fs → isX Γ cc → Γ.gs[cc]? = some x → Γ.mg x = some (.ref C) → PySem.W.kitOne Γ.K (.ref C) cv = some b) →
          rIsX1 X.K [v, u] H Q ∨ rIsX2 X.K [v, u] H Q := fun ex b cv ez hcv hkit => by
        subst ez
        cases d <;> first | (cases ex; done) | skip
        cases a1 with
        | fix r =>
          cases r with
          | exc hp hx hm hG =>
            obtain ⟨C, bmB, bs, n1, n2, f1, f2, f3, f4, f5, f6, f7⟩ := g.fns.fx.cls _ _ hp hx
            rw [hm] at f1
            cases f1
            exact .inl ⟨_, _, u, cv, b, rfl, hcv, ExAt.mono hS hG, by rw [g.K]; exact f7, by rw [g.K]; exact hkit _ _ _ _ rfl (.inl hp) hx hm, give0 hS q (.bl b)⟩
          | excF hp hx hm h1 h2 hy =>
            obtain ⟨C, fI, fd, f1, f2, f3, f4, f5, f6, f7⟩ := g.fns.fx.xcl _ _ _ hp hx
            rw [hm] at f1
            cases f1
            exact .inr ⟨_, _, _, u, cv, _, b, rfl, hcv, hS _ _ h1, hS _ _ h2, by rw [g.K]; exact f7, by rw [g.K]; exact hkit _ _ _ _ rfl (.inr ⟨_, hp⟩) hx hm, give0 hS q (.bl b)⟩
      cases d2 with
      | ty n =>
        simp only [dfn, disi] at e
        split at e
        · rename_i hn
          refine .inl ⟨G, [d, .ty n], z, hS, as, ?_, q⟩
          simp only [hn, if_true]
          cases e3 : tyName d with
          | none => rw [e3] at e; cases e
          | some m => rw [e3] at e; exact e
        · split at e
          · rename_i hx
            simp only [Bool.and_eq_true, decide_eq_true_eq] at hx
            obtain ⟨hx, rfl⟩ := hx
            have hu2 := a2.ty
            subst hu2
            exact .inr (key hx true (.type "ValueError") (by cases e; rfl) (fun w hw => hw) fun cc fs x C _ hX hx2 hm2 => g.fns.fx.kitV _ _ _ hX hx2 hm2)
          · cases e
      | glo j =>
        simp only [dfn, disi] at e
        cases hd : d <;> first | (rw [hd] at e; simp at e; done) | skip
        rename_i cc fs
        rw [hd] at e
        cases e
        cases a2 with
        | fix r2 =>
          cases r2 with
          | glo hy hm2 =>
            refine .inr (key (by rw [hd]; rfl) _ _ rfl (fun w hw => hw) fun cc2 fs2 x C e2 hX hx2 hm3 => ?_)
            rw [hd] at e2
            cases e2
            exact g.fns.fx.kit _ _ _ _ _ _ hX hx2 hy hm3 hm2
      | _ => simp [dfn, disi] at e
    · simp [dfn] at e
  · exact prL_ext (cr_dlistD g.K g.calm) fun ds => by rcases ds with _ | ⟨d, _ | ⟨d2, _ | ⟨d3, ds⟩⟩⟩ <;> first | rfl | (cases d <;> rfl)
  · exact prL_ext (cr_dsortD g.calm) fun ds => by rcases ds with _ | ⟨d, _ | ⟨d2, _ | ⟨d3, ds⟩⟩⟩ <;> first | rfl | (cases d <;> rfl)

/-! ### argument lists -/
def AllE (Γ : Env) (c : Cfg) (Z : WX) (X : Cx) : Ex → List Expr → Prop
  | .nil, [] => True
  | .cons a r, e :: es => notStar e = true ∧ PE X e (tI Γ Z (ev c a)) ∧ AllE Γ c Z X r es
  | _, _ => False
theorem AllE.pa : ∀ {x : Ex} {es : List Expr}, AllE Γ c Z X x es → PA X es (tA Γ Z (evl c x))
  | .nil, [], _ => PA.imp pa_nil fun _ _ _ h => tA_nil (by simpa [evl] using h)
  | .cons a r, e :: es, h => by
    obtain ⟨h1, h2, h3⟩ := h
    refine PA.imp (pa_cons h2 (AllE.pa h3) (star_of h1 _ _)) fun σ H Q t => tA_cons ?_
    have e2 : evl c (.cons a r) = fun ν => (do let x ← ev c a ν; let r ← evl c r ν; Pure.pure (x :: r)) := by
      funext ν; simp [evl]
    rw [e2] at t
    exact t
theorem AllE.len : ∀ {x : Ex} {es : List Expr}, AllE Γ c Z X x es → ∀ (ν : List (Option W)) (η η' : Hv) (ws : List W), evl c x ν η = .ok ws η' → ws.length = es.length
  | .nil, [], _ => fun ν η η' ws e => by
    simp only [evl] at e
    cases e
    rfl
  | .cons a r, _ :: es, h => fun ν η η' ws e => by
    simp only [evl] at e
    rw [M.bind_ap] at e
    cases e1 : ev c a ν η with
    | ok w η1 =>
      rw [e1] at e
      simp only at e
      rw [M.bind_ap] at e
      cases e2 : evl c r ν η1 with
      | ok us η2 =>
        rw [e2] at e
        cases e
        simp [AllE.len h.2.2 _ _ _ _ e2]
      | exc _ _ => rw [e2] at e; cases e
      | bad => rw [e2] at e; cases e
    | exc _ _ => rw [e1] at e; cases e
    | bad => rw [e1] at e; cases e
theorem AllE.two {x : Ex} {e1 e2 : Expr} (h : AllE Γ c Z X x [e1, e2]) : ∃ a b, x = .cons a (.cons b .nil) ∧ PE X e1 (tI Γ Z (ev c a)) ∧ PE X e2 (tI Γ Z (ev c b)) := by
  cases x <;> first | exact h.elim | skip
  rename_i a r
  obtain ⟨_, h2, h3⟩ := h
  cases r <;> first | exact h3.elim | skip
  rename_i b r
  obtain ⟨_, h4, h5⟩ := h3
  cases r <;> first | exact h5.elim | skip
  exact ⟨a, b, rfl, h2, h4⟩
theorem AllE.one {x : Ex} {e1 : Expr} (h : AllE Γ c Z X x [e1]) : ∃ a, x = .cons a .nil ∧ PE X e1 (tI Γ Z (ev c a)) := by
  cases x <;> first | exact h.elim | skip
  rename_i a r
  obtain ⟨_, h2, h3⟩ := h
  cases r <;> first | exact h3.elim | skip
  exact ⟨a, rfl, h2⟩
theorem AllE.three {x : Ex} {e1 e2 e3 : Expr} (h : AllE Γ c Z X x [e1, e2, e3]) : ∃ a b d, x = .cons a (.cons b (.cons d .nil)) ∧ PE X e1 (tI Γ Z (ev c a)) ∧ PE X e2 (tI Γ Z (ev c b)) ∧ PE X e3 (tI Γ Z (ev c d)) := by
  cases x <;> first | exact h.elim | skip
  rename_i a r
  obtain ⟨_, h2, h3⟩ := h
  obtain ⟨b, d, rfl, h4, h5⟩ := h3.two
  exact ⟨a, b, d, rfl, h2, h4, h5⟩
theorem AllE.stars : ∀ {x : Ex} {es : List Expr}, AllE Γ c Z X x es → es.all notStar = true
  | .nil, [], _ => rfl
  | .cons a r, e :: es, h => by
    obtain ⟨h1, _, h3⟩ := h
    simp [h1, AllE.stars h3]
theorem AllE.nilOf {x : Ex} (h : AllE Γ c Z X x []) : x = .nil := by
  cases x <;> first | exact h.elim | rfl
theorem ev_pr {p : Pr} {es : Ex} (hp : strictP p = false) : ev c (.pr p es) = fun ν => (do let ws ← evl c es ν; prM (dprim c.sub p) ws) := by
  funext ν; simp [ev, prM, rdP, hp]
theorem ev_prS {p : Pr} {es : Ex} (hp : strictP p = true) : ev c (.pr p es) = fun ν => (do
    let ws ← evl c es ν
    match dats ws with
    | some ds => (match dprim c.sub p ds with
      | some z => Pure.pure (W.d z)
      | none => M.bad)
    | none => M.bad) := by
  funext ν
  simp only [ev, rdP, hp, if_true]
  congr 1
  funext ws
  cases dats ws with
  | none => rfl
  | some ds =>
    show (ofO (dprim c.sub p ds) >>= fun z => Pure.pure (W.d z)) = (match dprim c.sub p ds with | some z => Pure.pure (W.d z) | none => M.bad)
    cases dprim c.sub p ds <;> rfl
theorem ev_pr2 {p : Pr} {a b : Ex} (hp : strictP p = false) : ev c (.pr p (.cons a (.cons b .nil))) = fun ν => (do let x ← ev c a ν; let y ← ev c b ν; prM (dprim c.sub p) [x, y]) := by
  funext ν; simp [ev_pr hp, evl]
theorem ev_pr1 {p : Pr} {a : Ex} (hp : strictP p = false) : ev c (.pr p (.cons a .nil)) = fun ν => (do let x ← ev c a ν; prM (dprim c.sub p) [x]) := by
  funext ν; simp [ev_pr hp, evl]
theorem ev_pr3 {p : Pr} {a b d : Ex} (hp : strictP p = false) : ev c (.pr p (.cons a (.cons b (.cons d .nil)))) = fun ν => (do let x ← ev c a ν; let y ← ev c b ν; let z ← ev c d ν; prM (dprim c.sub p) [x, y, z]) := by
  funext ν; simp [ev_pr hp, evl]
/-- a display -/
theorem disp_ok {g : List D → Option D} {fs : List (Option W) → M (List W)} {mk : List D → D} {ho : List V → HO} (hg : ∀ ds, g ds = if ds.length ≤ lim then some (mk ds) else none) (hnt : ∀ vs ps, ho vs ≠ .tbl ps)
    (hr : ∀ (G : Hp) (ds : List D) (vs : List V) (p : Addr), G p = some (ho vs) → RepL Γ G ds vs → Rep Γ G (mk ds) (.ref p)) {σ : L2.St} {H : Hp} {Q : VK} (h : tI Γ Z (fun ν => do
      let ws ← fs ν
      match dats ws with
      | some ds => (match g ds with
        | some z => Pure.pure (W.d z)
        | none => M.bad)
      | none => M.bad) σ H Q) : tA Γ Z fs σ H fun xs H1 => xs.length ≤ sizeLine ∧ ∀ p, H1 p = none → Q (.ref p) (upd H1 p (ho xs)) := by
  obtain ⟨ν, η, ρ, G, S, T, h⟩ := h
  refine ⟨ν, η, ρ, G, S, T, Fin.bind h _ fun ws ρ1 G1 η1 H1 S1 E1 h1 vs rs => ?_⟩
  cases e : dats ws with
  | none => rw [e] at h1; exact h1.elim
  | some ds =>
    rw [e] at h1
    simp only at h1
    rw [hg] at h1
    have rl := RepL.of_ws rs e
    by_cases hz : ds.length ≤ lim
    · rw [if_pos hz] at h1
      refine ⟨by rw [rl.length, hsz]; exact hz, fun p hp => ?_⟩
      exact h1 ρ1 (grow G1 H1 (upd H1 p (ho vs))) (upd H1 p (ho vs)) (S1.grow (same_upd hp)) (Ext.grow S1 (same_upd hp)) _ (hr _ ds vs p (grow_up hp (hnt vs)) (RepL.mono (grow_same S1.same) rl))
    · rw [if_neg hz] at h1
      exact h1.elim
end
end Ip

set_option Elab.async false
set_option linter.all false
set_option maxRecDepth 100000
set_option maxHeartbeats 400000
/-! IpVal: list(d.values()). -/
namespace Ip
open PySem PySem.Spec PyProof.Rows L2
/-- the view d.values() at p -/
def valsO (p d : Addr) : HO := .ext fun h => h.IsValuesView p d
theorem valsO_ne {p d : Addr} (ps : Array Value) : valsO p d ≠ .tbl ps := fun z => by
  unfold valsO at z
  cases z
theorem valsO_ok {P : Program} {w : World} {H : Hp} {h : Heap} {p d : Addr} (e : h.get? p = some { cls := .type "dict_values", data := .fields #[.ref d] }) : ObjOk P w H h p (valsO p d) :=
  ⟨⟨_, e, rfl, rfl⟩, ⟨_, e⟩, fun h1 h2 x k => let ⟨o, ho, r⟩ := x; ⟨o, k o ho, r⟩⟩
section
variable {X : Cx}
def rValsD : V → List V → Hp → VK → Prop := fun x xs H Q => ∃ (a : Addr) (kvs : List (Key × V)), x = .ref a ∧ xs = [] ∧ Rd H a (.dK kvs) ∧ ∀ p, H p = none → Q (.ref p) (upd H p (valsO p a))
theorem mt_valsD : MtR X "dict.values" rValsD := by
  intro pins s σ H x xs v us Q I rx rxs h
  obtain ⟨a, kvs, rfl, rfl, ha, q⟩ := h
  cases rx
  cases rxs
  obtain ⟨z, lo, vs, rel, dd⟩ := dk_rd I.hok ha
  have hf : H s.heap.objs.size = none := I.hok.fresh (Nat.le_refl _)
  exact PySem.call_meetsIn PySem.F.slot_dict_values dd.typeIs PySem.F.entry_dict_values (PySem.F.args_dict_values_1 _) (meets_dict_values (mixKind X.prog X.w) a lo)
    ⟨⟨vs, dd⟩, .ref s.heap.objs.size, upd H s.heap.objs.size (valsO s.heap.objs.size a), I.laid (t' := s.toks) (fun b u e => Heap.get?_push_of_some _ e) (Nat.le_refl _) (valsO_ok (Heap.get?_push_size _ rfl)), rfl, q _ hf⟩
theorem vals_at : ∀ {us : List Value} {kvs : List (Key × V)} {vs : List (Key × Value)}, KV kvs vs → us.length = vs.length → (∀ (j : Nat) (v : Value), us[j]? = some v → ∃ k, vs[j]? = some (k, v)) → Vals (kvs.map (·.2)) us
  | [], _, _, .nil, _, _ => .nil
  | u :: us, _, _, .nil, hl, _ => by simp at hl
  | [], _, _, .cons _ _, hl, _ => by simp at hl
  | u :: us, kv :: kvs, q :: vs, .cons r rs, hl, h => by
    obtain ⟨k, e1⟩ := h 0 u rfl
    have e1' : q = (k, u) := Option.some.inj e1
    subst e1'
    rw [List.map_cons]
    exact .cons r.2 (vals_at rs (by simpa using hl) fun j v e => by simpa using h (j + 1) v (by simpa using e))
theorem call_listVals (hcalm : X.calm = true) : CallR X (.type "list") (fun xs H Q => ∃ (p a : Addr) (kvs : List (Key × V)), xs = [.ref p] ∧ H p = some (valsO p a) ∧ Rd H a (.dK kvs) ∧ ∀ q, H q = none → Q (.ref q) (upd H q (.lst (kvs.map (·.2))))) := by
  intro pins s σ H xs us Q I r q
  obtain ⟨p, a, kvs, ex, hp, hd, q⟩ := q
  subst ex
  obtain ⟨u, eu, rx⟩ := vals1 r
  subst eu
  cases rx
  obtain ⟨z, lo, vs, rel, dd⟩ := dk_rd I.hok hd
  obtain ⟨ep, hat⟩ := dd.dictAt
  have hv : s.heap.IsValuesView p a := (show ObjOk X.prog X.w H s.heap p (valsO p a) from I.hok p _ hp).1
  have hl : kvs.length = vs.length := rel.length
  refine PySem.W.kdl_call (PySem.W.kdl_values (knd := mixKind X.prog X.w) (kvs := vs) (ep := ep)) (I.ok.hd hcalm) ⟨hv, hat⟩ (by rw [← hl]; exact z) fun h' tk acc c' hk hD hacc => ?_
  have hvs : Vals (kvs.map (·.2)) acc.toList := vals_at rel (by rw [Array.length_toList]; exact hacc.1) fun j v e => hacc.2 j v (by rw [← Array.getElem?_toList]; exact e)
  refine ⟨.ref s.heap.objs.size, upd H s.heap.objs.size (.lst (kvs.map (·.2))), I.laid (t' := tk) hk (Nat.le_refl _)
    (show ObjOk X.prog X.w _ _ _ (.lst (kvs.map (·.2))) from ⟨by rw [List.length_map]; exact z, acc.toList, c', hvs, by rw [Array.toArray_toList]; exact hD⟩), rfl, q _ (I.hok.fresh (Nat.le_refl _))⟩
theorem pe_valsD {e : Expr} {td : TE} {apos cpos : Pos} (he : PE X e td) (hbase : attributeBase e "values" X.env (eval e X.env) = eval e X.env) (hline : (apos.endLine == cpos.line) = true) :
    PE X (.Call (.Attribute e "values" apos) [] [] cpos) (fun σ H Q => td σ H fun x H1 => ∃ (a : Addr) (kvs : List (Key × V)), x = .ref a ∧ Rd H1 a (.dK kvs) ∧ ∀ p, H1 p = none → Q (.ref p) (upd H1 p (valsO p a))) := by
  refine ⟨fun pins s σ H Q I h => ?_⟩
  refine wpAny_Call_method (T := "dict") (id := "dict.values") hbase rfl hline PySem.F.plainAttrs_dict PySem.F.slot_dict_values PySem.F.type_dict_values (thn (he.run pins s σ H _ I h) fun u s1 ⟨x, H1, I1, rx, a, kvs, ex, hd, q⟩ => ?_)
  subst ex
  obtain rfl : u = Value.ref a := rx
  obtain ⟨z, lo, vs, rel, dd⟩ := dk_rd I1.hok hd
  have hf : H1 s1.heap.objs.size = none := I1.hok.fresh (Nat.le_refl _)
  refine ⟨dd.typeIs, dd.mapOf.noDict, ?_⟩
  show wpAny _ _ (callWith cpos (.builtin "dict.values") [.ref a] [] []) _ X.xe s1
  exact method_meetsIn PySem.F.slot_dict_values PySem.F.entry_dict_values rfl (PySem.evalArgs_none ⟨rfl, dd.typeIs, PySem.F.args_dict_values_1 _, _, meets_dict_values (mixKind X.prog X.w) a lo, ⟨vs, dd⟩,
    .ref s1.heap.objs.size, upd H1 s1.heap.objs.size (valsO s1.heap.objs.size a), I1.laid (t' := s1.toks) (fun b u e => Heap.get?_push_of_some _ e) (Nat.le_refl _) (valsO_ok (Heap.get?_push_size _ rfl)), rfl, q _ hf⟩)
end
end Ip

set_option Elab.async false
set_option linter.all false
set_option maxRecDepth 100000
set_option maxHeartbeats 4000000
/-! IpHeap: the run's own objects: laid, written, frozen. -/
namespace Ip
open PySem PySem.Spec PyProof.Rows L2

def updR (ρ : Rho) (n : Nat) (p : Addr) : Rho := fun m => if m = n then some p else ρ m
section
variable {Γ : Env} {ρ : Rho} {G H : Hp} {η : Hv}
theorem updR_le {n : Nat} {p : Addr} (h : ρ n = none) : ∀ m a, ρ m = some a → updR ρ n p m = some a := fun m a q => by
  unfold updR
  by_cases e : m = n
  · subst e; rw [h] at q; cases q
  · rw [if_neg e]; exact q
theorem RepO.at {n : Nat} {o : VO} (h : RepO Γ G ρ H n o) (hd : o ≠ .dead) : ∃ a, ρ n = some a ∧ G a = none ∧ H a ≠ none := by
  cases o with
  | dead => exact absurd rfl hd
  | lst xs => obtain ⟨a, vs, h1, h2, h3, _⟩ := h; exact ⟨a, h1, h2, by rw [h3]; simp⟩
  | dct _ => obtain ⟨a, vs, h1, h2, h3, _⟩ := h; exact ⟨a, h1, h2, by rw [h3]; simp⟩
  | cel _ => exact h.elim
theorem RepO.kind {n : Nat} {o : VO} (h : RepO Γ G ρ H n o) (hd : o ≠ .dead) : ∃ a u, ρ n = some a ∧ H a = some u ∧ Cont u := by
  cases o with
  | dead => exact absurd rfl hd
  | lst xs => obtain ⟨a, vs, h1, h2, h3, _⟩ := h; exact ⟨a, _, h1, h3, trivial⟩
  | dct _ => obtain ⟨a, vs, h1, h2, h3, _⟩ := h; exact ⟨a, _, h1, h3, trivial⟩
  | cel _ => exact h.elim
/-- an own object is no table and no code object -/
theorem Sim.tabPut (S : Sim Γ ρ G η H) {n : Nat} {p : Addr} (hl : live η n) (hp : ρ n = some p) (ho : HO) : LamX.Tabs Γ.T (upd H p ho) ∧ ∀ a ps, H a = some (.tbl ps) → a ≠ p := by
  obtain ⟨on, hon, hdn⟩ := hl
  obtain ⟨b, u, h1, h2, h3⟩ := (S.obj n on hon).kind hdn
  rw [hp] at h1; cases h1
  refine ⟨tab_move S.tab fun c o e n1 => ?_, fun a ps e z => ?_⟩
  · have : c ≠ p := fun z => by
      subst z
      rw [h2] at e; cases e
      exact n1 h3
    rw [upd_ne this]; exact e
  · subst z
    rw [h2] at e; cases e
    exact h3
theorem RepO.move {ρ' : Rho} {G' H' : Hp} {n : Nat} {o : VO} (h : RepO Γ G ρ H n o) (er : ∀ m a, ρ m = some a → ρ' m = some a) (eg : Same G G') (hg : ∀ a, ρ n = some a → G' a = none) (hh : ∀ a u, ρ n = some a → H a = some u → H' a = some u) : RepO Γ G' ρ' H' n o := by
  cases o with
  | dead => trivial
  | lst xs =>
    obtain ⟨a, vs, h1, h2, h3, h4⟩ := h
    exact ⟨a, vs, er _ _ h1, hg a h1, hh a _ h1 h3, h4.mono eg er⟩
  | dct _ =>
    obtain ⟨a, vs, h1, h2, h3, h4⟩ := h
    exact ⟨a, vs, er _ _ h1, hg a h1, hh a _ h1 h3, h4.mono eg er⟩
  | cel _ => exact h.elim
/-- an own object's content -/
inductive RepC (Γ : Env) (G : Hp) (ρ : Rho) : VO → HO → Prop
  | lst {ws : List W} {vs : List V} : RepWs Γ G ρ ws vs → RepC Γ G ρ (.lst ws) (.lst vs)
  | dct {kvs : List (D × W)} {ks : List (Key × V)} : RepKs Γ G ρ kvs ks → RepC Γ G ρ (.dct kvs) (.dK ks)
theorem RepC.rep {H : Hp} {n : Nat} {p : Addr} {o : VO} {u : HO} (r : RepC Γ G ρ o u) (h1 : ρ n = some p) (h2 : G p = none) (h3 : H p = some u) : RepO Γ G ρ H n o := by
  cases r with
  | lst r => exact ⟨p, _, h1, h2, h3, r⟩
  | dct r => exact ⟨p, _, h1, h2, h3, r⟩
theorem RepC.mono {G' : Hp} {ρ' : Rho} {o : VO} {u : HO} (r : RepC Γ G ρ o u) (e : Same G G') (er : ∀ n a, ρ n = some a → ρ' n = some a) : RepC Γ G' ρ' o u := by
  cases r with
  | lst r => exact .lst (r.mono e er)
  | dct r => exact .dct (r.mono e er)
/-- a new own object -/
theorem Sim.layO (S : Sim Γ ρ G η H) {p : Addr} (hp : H p = none) {vo : VO} {ho : HO} (r : RepC Γ G ρ vo ho) :
    Sim Γ (updR ρ η.length p) G (η ++ [vo]) (upd H p ho) ∧ Ext ρ G η H (updR ρ η.length p) G (η ++ [vo]) (upd H p ho) := by
  have hn : ρ η.length = none := S.new _ (Nat.le_refl _)
  have gp : G p = none := by
    cases e : G p with
    | none => rfl
    | some o => rw [S.same p o e] at hp; cases hp
  have er := updR_le (p := p) hn
  have self : updR ρ η.length p η.length = some p := by unfold updR; rw [if_pos rfl]
  have cases_ : ∀ n o, (η ++ [vo])[n]? = some o → η[n]? = some o ∨ (n = η.length ∧ o = vo) := fun n o e => by
    by_cases h : n < η.length
    · rw [List.getElem?_append_left h] at e; exact .inl e
    · rw [List.getElem?_append_right (by omega)] at e
      have : n - η.length = 0 := by
        cases q : n - η.length with
        | zero => rfl
        | succ k => rw [q] at e; simp at e
      rw [this] at e
      simp at e
      exact .inr ⟨by omega, e.symm⟩
  have old : ∀ n a, live η n → ρ n = some a → a ≠ p := fun n a ⟨o, h1, h2⟩ h3 => by
    obtain ⟨b, h4, _, h5⟩ := (S.obj n o h1).at h2
    rw [h3] at h4
    cases h4
    intro e
    subst e
    exact h5 hp
  have lv : ∀ n, live (η ++ [vo]) n → live η n ∨ n = η.length := fun n ⟨o, h1, h2⟩ => by
    rcases cases_ n o h1 with h | ⟨h, _⟩
    · exact .inl ⟨o, h, h2⟩
    · exact .inr h
  have rold : ∀ n a, live η n → updR ρ η.length p n = some a → ρ n = some a := fun n a ⟨o, h1, _⟩ h => by
    unfold updR at h
    have : n < η.length := by
      obtain ⟨h2, _⟩ := List.getElem?_eq_some_iff.mp h1
      exact h2
    rw [if_neg (by omega)] at h
    exact h
  refine ⟨⟨fun a o h => by rw [upd_ne (ne_of_none (S.same a o h) hp)]; exact S.same a o h, fun n o e => ?_, fun n m a l1 l2 h1 h2 => ?_, fun n hn' => ?_, tab_same S.tab (same_upd hp), S.ntb⟩, ⟨er, Same.refl G, fun a o h _ _ => by rw [upd_ne (ne_of_none h hp)]; exact h, fun a ps h => ⟨ps, by rw [upd_ne (ne_of_none h hp)]; exact h⟩, fun a h => .inl h, fun a h => ?_⟩⟩
  · rcases cases_ n o e with h | ⟨rfl, rfl⟩
    · by_cases hd : o = .dead
      · subst hd; trivial
      · refine (S.obj n o h).move er (Same.refl G) (fun a ha => ?_) fun a u ha hu => by rw [upd_ne (old n a ⟨o, h, hd⟩ ha)]; exact hu
        obtain ⟨b, h4, h6, _⟩ := (S.obj n o h).at hd
        rw [ha] at h4; cases h4
        exact h6
    · exact (r.mono (Same.refl G) er).rep self gp upd_same
  · rcases lv n l1 with l1 | rfl <;> rcases lv m l2 with l2 | rfl
    · exact S.inj n m a l1 l2 (rold n a l1 h1) (rold m a l2 h2)
    · rw [self] at h2; cases h2
      exact absurd rfl (old n _ l1 (rold n _ l1 h1))
    · rw [self] at h1; cases h1
      exact absurd rfl (old m _ l2 (rold m _ l2 h2))
    · rfl
  · rw [List.length_append] at hn'
    unfold updR
    simp only [List.length_singleton] at hn'
    rw [if_neg (by omega)]
    exact S.new n (by omega)
  · obtain ⟨n, l, h⟩ := h
    rcases lv n l with l | rfl
    · exact .inl ⟨n, l, rold n a l h⟩
    · rw [self] at h; cases h; exact .inr hp
theorem Sim.lay (S : Sim Γ ρ G η H) {p : Addr} (hp : H p = none) {ws : List W} {vs : List V} (r : RepWs Γ G ρ ws vs) :
    Sim Γ (updR ρ η.length p) G (η ++ [.lst ws]) (upd H p (.lst vs)) ∧ Ext ρ G η H (updR ρ η.length p) G (η ++ [.lst ws]) (upd H p (.lst vs)) := S.layO hp (.lst r)
/-- an own object is rewritten -/
theorem Sim.putO (S : Sim Γ ρ G η H) {n : Nat} {p : Addr} (hl : live η n) (hp : ρ n = some p) {vo : VO} {ho : HO} (r : RepC Γ G ρ vo ho) :
    Sim Γ ρ G (η.set n vo) (upd H p ho) ∧ Ext ρ G η H ρ G (η.set n vo) (upd H p ho) := by
  obtain ⟨on, hon, hdn⟩ := hl
  obtain ⟨b, h4, gp, hh⟩ := (S.obj n on hon).at hdn
  rw [hp] at h4; cases h4
  have hlt : n < η.length := (List.getElem?_eq_some_iff.mp hon).1
  have cases_ : ∀ m o, (η.set n vo)[m]? = some o → (m ≠ n ∧ η[m]? = some o) ∨ (m = n ∧ o = vo) := fun m o e => by
    by_cases h : m = n
    · subst h
      rw [List.getElem?_set_self hlt] at e
      cases e
      exact .inr ⟨rfl, rfl⟩
    · rw [List.getElem?_set_ne (Ne.symm h)] at e
      exact .inl ⟨h, e⟩
  have lv : ∀ m, live (η.set n vo) m → live η m := fun m ⟨o, h1, h2⟩ => by
    rcases cases_ m o h1 with ⟨_, h⟩ | ⟨rfl, _⟩
    · exact ⟨o, h, h2⟩
    · exact ⟨on, hon, hdn⟩
  obtain ⟨tq, tn⟩ := S.tabPut ⟨on, hon, hdn⟩ hp ho
  refine ⟨⟨fun a o h => ?_, fun m o e => ?_, fun m k a l1 l2 h1 h2 => S.inj m k a (lv m l1) (lv k l2) h1 h2, fun m hm => S.new m (by simpa using hm), tq, S.ntb⟩, ⟨fun _ _ h => h, Same.refl G, fun a o h no _ => ?_, fun a ps h => ⟨ps, by rw [upd_ne (tn a ps h)]; exact h⟩, fun a h => .inl h, fun a ⟨m, l, h⟩ => .inl ⟨m, lv m l, h⟩⟩⟩
  · have : a ≠ p := fun e => by subst e; rw [gp] at h; cases h
    rw [upd_ne this]
    exact S.same a o h
  · rcases cases_ m o e with ⟨hm, h⟩ | ⟨rfl, rfl⟩
    · by_cases hd : o = .dead
      · subst hd; trivial
      · refine (S.obj m o h).move (fun _ _ q => q) (Same.refl G) (fun a ha => ?_) fun a u ha hu => ?_
        · obtain ⟨b, h4, h6, _⟩ := (S.obj m o h).at hd
          rw [ha] at h4; cases h4
          exact h6
        · have : a ≠ p := fun e => by
            subst e
            exact hm (S.inj m n a ⟨o, h, hd⟩ ⟨on, hon, hdn⟩ ha hp)
          rw [upd_ne this]
          exact hu
    · exact r.rep hp gp upd_same
  · have : a ≠ p := fun e => by
      subst e
      exact no ⟨n, ⟨on, hon, hdn⟩, hp⟩
    rw [upd_ne this]
    exact h
theorem Sim.put (S : Sim Γ ρ G η H) {n : Nat} {p : Addr} (hl : live η n) (hp : ρ n = some p) {ws : List W} {vs : List V} (r : RepWs Γ G ρ ws vs) :
    Sim Γ ρ G (η.set n (.lst ws)) (upd H p (.lst vs)) ∧ Ext ρ G η H ρ G (η.set n (.lst ws)) (upd H p (.lst vs)) := S.putO hl hp (.lst r)
/-- an own object is frozen -/
theorem Sim.frz (S : Sim Γ ρ G η H) {n : Nat} {p : Addr} {o : HO} (hl : live η n) (hp : ρ n = some p) (ho : H p = some o) :
    Sim Γ ρ (upd G p o) (η.set n .dead) H ∧ Ext ρ G η H ρ (upd G p o) (η.set n .dead) H ∧ Same G (upd G p o) := by
  obtain ⟨on, hon, hdn⟩ := hl
  obtain ⟨b, h4, gp, hh⟩ := (S.obj n on hon).at hdn
  rw [hp] at h4; cases h4
  have hlt : n < η.length := (List.getElem?_eq_some_iff.mp hon).1
  have sg : Same G (upd G p o) := same_upd gp
  have cases_ : ∀ m o', (η.set n VO.dead)[m]? = some o' → (m ≠ n ∧ η[m]? = some o') ∨ (m = n ∧ o' = .dead) := fun m o' e => by
    by_cases h : m = n
    · subst h
      rw [List.getElem?_set_self hlt] at e
      cases e
      exact .inr ⟨rfl, rfl⟩
    · rw [List.getElem?_set_ne (Ne.symm h)] at e
      exact .inl ⟨h, e⟩
  have lv : ∀ m, live (η.set n VO.dead) m → m ≠ n ∧ live η m := fun m ⟨o', h1, h2⟩ => by
    rcases cases_ m o' h1 with ⟨h0, h⟩ | ⟨_, h⟩
    · exact ⟨h0, o', h, h2⟩
    · exact absurd h h2
  obtain ⟨tq, tn⟩ := S.tabPut ⟨on, hon, hdn⟩ hp o
  refine ⟨⟨fun a u h => ?_, fun m o' e => ?_, fun m k a l1 l2 h1 h2 => S.inj m k a (lv m l1).2 (lv k l2).2 h1 h2, fun m hm => S.new m (by simpa using hm), S.tab, fun a ps z => by
      by_cases e : a = p
      · subst e
        rw [upd_same] at z; cases z
        exact tn _ ps ho rfl
      · rw [upd_ne e] at z; exact S.ntb a ps z⟩, ⟨fun _ _ h => h, sg, fun a u h _ _ => h, fun a ps h => ⟨ps, h⟩, fun a h => ?_, fun a ⟨m, l, h⟩ => .inl ⟨m, (lv m l).2, h⟩⟩, sg⟩
  · by_cases e : a = p
    · subst e; rw [upd_same] at h; cases h; exact ho
    · rw [upd_ne e] at h; exact S.same a u h
  · rcases cases_ m o' e with ⟨hm, h⟩ | ⟨_, rfl⟩
    · by_cases hd : o' = .dead
      · subst hd; trivial
      · refine (S.obj m o' h).move (fun _ _ q => q) sg (fun a ha => ?_) fun a u _ hu => hu
        obtain ⟨b, h4, h6, _⟩ := (S.obj m o' h).at hd
        rw [ha] at h4; cases h4
        have : a ≠ p := fun e => by
          subst e
          exact hm (S.inj m n a ⟨o', h, hd⟩ ⟨on, hon, hdn⟩ ha hp)
        rw [upd_ne this]
        exact h6
    · trivial
  · by_cases e : a = p
    · subst e; exact .inr (.inr (.inl ⟨n, ⟨on, hon, hdn⟩, hp⟩))
    · rw [upd_ne e] at h; exact .inl h
/-- an own list, by its reference -/
theorem own_lst (S : Sim Γ ρ G η H) {n : Nat} {ws : List W} {v : V} (e : η[n]? = some (.lst ws)) (rv : RepW Γ G ρ (.ref n) v) : ∃ p vs, v = .ref p ∧ ρ n = some p ∧ live η n ∧ H p = some (.lst vs) ∧ RepWs Γ G ρ ws vs := by
  obtain ⟨a, h1, rfl⟩ := rv
  obtain ⟨b, vs, h2, _, h3, h4⟩ := S.obj n _ e
  rw [h1] at h2; cases h2
  exact ⟨a, vs, rfl, h1, ⟨_, e, by simp⟩, h3, h4⟩
/-- an own dict, by its reference -/
theorem own_dct (S : Sim Γ ρ G η H) {n : Nat} {kvs : List (D × W)} {v : V} (e : η[n]? = some (.dct kvs)) (rv : RepW Γ G ρ (.ref n) v) : ∃ p ks, v = .ref p ∧ ρ n = some p ∧ live η n ∧ H p = some (.dK ks) ∧ RepKs Γ G ρ kvs ks := by
  obtain ⟨a, h1, rfl⟩ := rv
  obtain ⟨b, vs, h2, _, h3, h4⟩ := S.obj n _ e
  rw [h1] at h2; cases h2
  exact ⟨a, vs, rfl, h1, ⟨_, e, by simp⟩, h3, h4⟩
end
end Ip

set_option Elab.async false
set_option linter.all false
set_option maxRecDepth 100000
set_option maxHeartbeats 400000
/-! IpSnd2: expressions. -/
namespace Ip
open PySem PySem.Spec PyProof.Rows L2

/-- a comprehension's turn: its tests, its item -/
def GenO (Γ : Env) (c : Cfg) (Z : WX) (X : Cx) : Ex → Expr → List Expr → Prop
  | .yld x, elt, [] => PE X elt (tI Γ Z (ev c x))
  | .gif t r, elt, cd :: ifs => PT X cd (tT Γ Z (ev c t)) ∧ GenO Γ c Z X r elt ifs
  | _, _, _ => False
def SndE (Γ : Env) (B : Tb) (c : Cfg) (x : Ex) : Prop := ∀ (S : SC) (k : Nat) (Z : WX) (X : Cx), Gd Γ c S k Z X →
  (∀ e, okE B x S e = true → PE X e (tI Γ Z (ev c x)) ∧ PT X e (tT Γ Z (ev c x))) ∧ (∀ es, okL B x S es = true → AllE Γ c Z X x es) ∧ (∀ elt ifs, okG B x S elt ifs = true → GenO Γ c Z X x elt ifs)

section
variable {Γ : Env} {B : Tb} {c : Cfg} {S : SC} {k : Nat} {Z : WX} {X : Cx}
/-- a value's reading gives the test's -/
theorem pt_of {e : Expr} {f : List (Option W) → M W} (hp : plainT e = true) (h : PE X e (tI Γ Z f)) : PT X e (tT Γ Z f) :=
  PT.imp (pt_val h fun w => isTrue_plain hp _ w) fun σ H Q t => tT_B t
theorem both {e : Expr} {f : List (Option W) → M W} (hp : plainT e = true) (h : PE X e (tI Γ Z f)) : PE X e (tI Γ Z f) ∧ PT X e (tT Γ Z f) := ⟨h, pt_of hp h⟩

/-- behind a truth value -/
theorem asB_ok {α : Type} {w : W} {kk : Bool → M α} {Rp : Hp → Rho → α → Hp → Prop} {σ : L2.St} {ρ : Rho} {G : Hp} {η : Hv} {H : Hp} (h : Fin Γ Z Rp σ ρ G η H ((asB w >>= kk) η)) : ∃ b, w = .d (.bl b) ∧ Fin Γ Z Rp σ ρ G η H (kk b η) := by
  cases w with
  | d x => cases x <;> first | exact h.elim | exact ⟨_, rfl, h⟩
  | ref n => exact h.elim
  | clo l cs => exact h.elim
/-- test a, then the rest -/
theorem tst {fa : List (Option W) → M W} {kk : Bool → List (Option W) → M W} {Rp : VK} {σ : L2.St} {H : Hp} (h : tI Γ Z (fun ν => do let x ← fa ν; let b ← asB x; kk b ν) σ H Rp) : tT Γ Z fa σ H fun b H1 => tI Γ Z (fun ν => kk b ν) σ H1 Rp := by
  obtain ⟨ν, η, ρ, G, S, T, h⟩ := h
  refine ⟨ν, η, ρ, G, S, T, Fin.bind h _ fun w ρ1 G1 η1 H1 S1 E1 h1 => ?_⟩
  obtain ⟨b, rfl, h2⟩ := asB_ok h1
  exact ⟨b, rfl, ν, η1, ρ1, G1, S1, T.mono E1.same E1.rho, h2⟩
theorem tstT {fa : List (Option W) → M W} {kk : Bool → List (Option W) → M W} {Rp : Bool → Hp → Prop} {σ : L2.St} {H : Hp} (h : tT Γ Z (fun ν => do let x ← fa ν; let b ← asB x; kk b ν) σ H Rp) : tT Γ Z fa σ H fun b H1 => tT Γ Z (fun ν => kk b ν) σ H1 Rp := by
  obtain ⟨ν, η, ρ, G, S, T, h⟩ := h
  refine ⟨ν, η, ρ, G, S, T, Fin.bind h _ fun w ρ1 G1 η1 H1 S1 E1 h1 => ?_⟩
  obtain ⟨b, rfl, h2⟩ := asB_ok h1
  exact ⟨b, rfl, ν, η1, ρ1, G1, S1, T.mono E1.same E1.rho, h2⟩
theorem tT_pure {f : List (Option W) → M W} {b : Bool} (hf : ∀ ν, f ν = Pure.pure (.d (.bl b))) {σ : L2.St} {H : Hp} {Q : Bool → Hp → Prop} (h : tT Γ Z f σ H Q) : Q b H := by
  obtain ⟨ν, η, ρ, G, S, T, h⟩ := h
  rw [hf] at h
  obtain ⟨b', e, q⟩ := h ρ G H S (Ext.refl _ _ _ _)
  cases e
  exact q
theorem tI_bl {f : List (Option W) → M W} {b : Bool} (hf : ∀ ν, f ν = Pure.pure (.d (.bl b))) {σ : L2.St} {H : Hp} {Q : VK} (h : tI Γ Z f σ H Q) : Q (.bl b) H :=
  tI_pure (v := .bl b) hf (fun _ => .bl b) h
/-- a test's reading as a value's -/
theorem tI_T {f : List (Option W) → M W} {σ : L2.St} {H : Hp} {Q : VK} (hb : ∀ ν η w η', f ν η = .ok w η' → ∃ b, w = .d (.bl b)) (h : tI Γ Z f σ H Q) : tI Γ Z f σ H fun x H1 => ∃ c, x = .bl c ∧ Q (.bl c) H1 := by
  obtain ⟨ν, η, ρ, G, S, T, h⟩ := h
  refine ⟨ν, η, ρ, G, S, T, ?_⟩
  cases e : f ν η with
  | ok w η' =>
    rw [e] at h
    obtain ⟨b, rfl⟩ := hb ν η w η' e
    exact fun ρ' G' H' S' E' v rv => by
      cases rv
      exact ⟨b, rfl, h ρ' G' H' S' E' _ (.bl b)⟩
  | exc x η' => rw [e] at h; exact h
  | bad => rw [e] at h; exact h

/-- a call of a def of one's own -/
theorem call_ok (g : Gd Γ c S k Z X) {i : Nat} {x : Str} {es : List Expr} {xs : Ex} {md : Nat} {p pos : Pos} (hf : Γ.ft[i]? = some (x, es.length)) (hx : S.glb x = true) (h : AllE Γ c Z X xs es) : PE X (.Call (.Name x p) es [] pos) (tI Γ Z (ev c (.call md i xs))) := by
  obtain ⟨f, fd, ps, hl, hm, hk, hb, _, hF⟩ := g.fns.run i x _ hf
  simp only [SC.glb, Bool.and_eq_true] at hx
  have hgl := g.gl hx.1
  have hdb := (nodbg_ok hx.2).1
  have F := hF md
  rw [← g.P, ← g.w, ← g.K, ← g.mg, ← g.base] at F
  rw [← g.mg] at hm
  rw [← g.K] at hk hb
  have core : ∀ σ H Q, tI Γ Z (ev c (.call md i xs)) σ H Q → tA Γ Z (evl c xs) σ H fun vs H1 => spF Γ es.length (c.call md i) vs H1 Q (WE Z σ) := by
    intro σ H Q t
    have e2 : ev c (.call md i xs) = fun ν => (do let ws ← evl c xs ν; c.call md i ws) := by funext ν; simp [ev]
    rw [e2] at t
    obtain ⟨ν, η, ρ, G, S', T, t⟩ := t
    refine ⟨ν, η, ρ, G, S', T, Fin.bindE t _ fun ws ρ1 G1 η1 H1 ee S1 E1 h1 vs rs => ⟨by rw [rs.length, h.len _ _ _ _ ee], ws, η1, ρ1, G1, S1, rs, ?_⟩⟩
    cases e : c.call md i ws η1 with
    | ok w η' => rw [e] at h1; exact h1
    | exc d η' => rw [e] at h1; exact h1
    | bad => rw [e] at h1; exact h1
  cases es with
  | nil =>
    have hxs := h.nilOf
    subst hxs
    refine ⟨fun pins s σ H Q I t => ?_⟩
    have t2 := core σ H Q t
    obtain ⟨ν, η, ρ, G, S', T, t3⟩ := t2
    have t4 := t3 ρ G H S' (Ext.refl _ _ _ _) [] .nil
    refine wpAny_Call_Name_kw (ld_glob I hgl hm ?_ hdb)
    exact PySem.W.callWith_K0 I.kIn hk (run_fnG (us := []) (vs := []) (E := WE Z) F g.room g.gd hb (passAt g.tk σ) I .nil t4)
  | cons e es =>
    have hpa := AllE.pa h
    have st := h.stars
    simp only [List.all_cons, Bool.and_eq_true] at st
    refine ⟨fun pins s σ H Q I t => ?_⟩
    have t2 := core σ H Q t
    refine wpAny_Call_Name_kw (ld_glob I hgl hm ?_ hdb)
    refine PySem.W.callWith_K (h₀ := X.base) I.ok.mod.kin hk (thn (hpa.run pos pins s σ H _ I t2) fun us s1 ⟨vs, H1, I1, r, q⟩ => ⟨I1.kIn, ?_⟩) (star_of st.1 _ _) (noSplat st.2 _ _)
    exact run_fnG (E := WE Z) F g.room g.gd hb (passAt g.tk σ) I1 r q
theorem pw_bool {op : PySem.BoolOp} {vs : List Expr} {pos : Pos} {t : TT} (h : PT X (.BoolOp op vs pos) t) : PW X (.BoolOp op vs pos) t := ⟨fun w pins s σ H Q I q => h.run pins s σ H Q I q⟩
theorem pt_ifExp {ce a b : Expr} {pos : Pos} {tA ta tb : TT} (hc : PT X ce tA) (ha : PT X a ta) (hb : PT X b tb) : PT X (.IfExp ce a b pos) (fun σ H Q => tA σ H fun k H1 => if k = true then ta σ H1 Q else tb σ H1 Q) := by
  refine ⟨fun pins s σ H Q I h => ?_⟩
  show wpAny _ _ (do if ← isTrue ce X.env (eval ce X.env) then isTrue a X.env (eval a X.env) else isTrue b X.env (eval b X.env)) _ _ _
  refine wpAny_bind (thn (hc.run pins s σ H _ I h) fun d s1 ⟨H1, I1, q1⟩ => ?_)
  cases d with
  | true => exact ha.run pins s1 σ H1 Q I1 q1
  | false => exact hb.run pins s1 σ H1 Q I1 q1
theorem prM_noexc {g : List D → Option D} {ws : List W} {η η' : Hv} {e : D} : prM g ws η = .exc e η' → False := by
  intro h
  unfold prM at h
  rw [M.bind_ap] at h
  unfold asR at h
  cases e1 : rdWs η ws with
  | none => rw [e1] at h; cases h
  | some ds =>
    rw [e1] at h
    simp only at h
    rw [M.bind_ap] at h
    cases e2 : g ds with
    | none => rw [e2] at h; cases h
    | some z => rw [e2] at h; cases h
theorem prM_val {g : List D → Option D} {ws : List W} {η η' : Hv} {w : W} (h : prM g ws η = .ok w η') : ∃ ds z, rdWs η ws = some ds ∧ g ds = some z ∧ w = .d z ∧ η' = η := by
  unfold prM at h
  rw [M.bind_ap] at h
  unfold asR at h
  cases e1 : rdWs η ws with
  | none => rw [e1] at h; cases h
  | some ds =>
    rw [e1] at h
    simp only at h
    rw [M.bind_ap] at h
    cases e2 : g ds with
    | none => rw [e2] at h; cases h
    | some z => rw [e2] at h; cases h; exact ⟨ds, z, rfl, e2, rfl, rfl⟩
theorem chkL_ok {α : Type} {w : W} {m : M α} {Rp : Hp → Rho → α → Hp → Prop} {σ : L2.St} {ρ : Rho} {G : Hp} {η : Hv} {H : Hp} (h : Fin Γ Z Rp σ ρ G η H ((do let _ ← chkL w; m) η)) : ∃ n ws, w = .ref n ∧ η[n]? = some (.lst ws) ∧ Fin Γ Z Rp σ ρ G η H (m η) := by
  rw [M.bind_ap] at h
  unfold chkL at h
  cases w with
  | d x => exact h.elim
  | clo l cs => exact h.elim
  | ref n =>
    simp only at h
    cases e : η[n]? with
    | none => rw [e] at h; exact h.elim
    | some o =>
      rw [e] at h
      cases o with
      | lst ws => exact ⟨n, ws, rfl, e, h⟩
      | dead => exact h.elim
      | dct _ => exact h.elim
      | cel _ => exact h.elim
theorem few1 {y : Expr} (h : notStar y = true) {cpos : Pos} {env : PySem.Env} : ((backTo cpos (starEach [y] env)).all (fun x => !x.1) && (backToKw cpos (keywordEach [] env)).all (fun x => x.1.isSome)
      && decide (([y] : List Expr).length + ([] : List Keyword).length + (if ([] : List Keyword).isEmpty then 0 else 1) < 30)) = true := by
  rw [star_of h]
  rfl
theorem Fin.badE {α : Type} {Rp : Hp → Rho → α → Hp → Prop} {σ : L2.St} {ρ : Rho} {G : Hp} {η : Hv} {H : Hp} {C : Prop} (h : Fin Γ Z Rp σ ρ G η H .bad) : C := False.elim h
theorem frzW_val {w : W} {η : Hv} : (∃ x, w = .d x ∧ frzW w η = .ok (.d x) η) ∨ (∃ n ws ds, w = .ref n ∧ η[n]? = some (.lst ws) ∧ dats ws = some ds ∧ frzW w η = .ok (.d (.lst ds)) (η.set n .dead)) ∨ (∃ n kvs ps, w = .ref n ∧ η[n]? = some (.dct kvs) ∧ datP kvs = some ps ∧ frzW w η = .ok (.d (.dct ps)) (η.set n .dead)) ∨ frzW w η = .bad := by
  cases w with
  | d x => exact .inl ⟨x, rfl, rfl⟩
  | clo l cs => exact .inr (.inr (.inr rfl))
  | ref n =>
    unfold frzW
    simp only
    cases e : η[n]? with
    | none => exact .inr (.inr (.inr rfl))
    | some o =>
      cases o with
      | lst ws =>
        simp only
        cases e2 : dats ws with
        | none => exact .inr (.inr (.inr rfl))
        | some ds => exact .inr (.inl ⟨n, ws, ds, rfl, e, e2, rfl⟩)
      | dead => exact .inr (.inr (.inr rfl))
      | dct kvs =>
        simp only
        cases e2 : datP kvs with
        | none => exact .inr (.inr (.inr rfl))
        | some ds => exact .inr (.inr (.inl ⟨n, kvs, ds, rfl, e, e2, rfl⟩))
      | cel _ => exact .inr (.inr (.inr rfl))
theorem RepP.of_ks {G : Hp} {ρ : Rho} : ∀ {kvs : List (D × W)} {ks : List (Key × V)} {ps : List (D × D)}, RepKs Γ G ρ kvs ks → datP kvs = some ps → RepP Γ G ps ks
  | _, _, _, .nil, e => by cases e; exact .nil
  | (k, .d x) :: r, _, ps, .cons hk h t, e => by
    have e : (datP r).map ((k, x) :: ·) = some ps := e
    cases q : datP r with
    | none => rw [q] at e; cases e
    | some qs =>
      rw [q] at e
      cases e
      exact .cons hk h (RepP.of_ks t q)
  | (_, .ref _) :: _, _, _, .cons _ _ _, e => by cases e
  | (_, .clo _ _) :: _, _, _, .cons _ _ _, e => by cases e
theorem frzW_ok {w : W} {Rp : Hp → Rho → W → Hp → Prop} {σ : L2.St} {ρ : Rho} {G : Hp} {η : Hv} {H : Hp} (h : Fin Γ Z Rp σ ρ G η H (frzW w η)) : (∃ x, w = .d x ∧ Fin Γ Z Rp σ ρ G η H (.ok (.d x) η)) ∨ (∃ n ws ds, w = .ref n ∧ η[n]? = some (.lst ws) ∧ dats ws = some ds ∧ Fin Γ Z Rp σ ρ G η H (.ok (.d (.lst ds)) (η.set n .dead))) ∨ (∃ n kvs ps, w = .ref n ∧ η[n]? = some (.dct kvs) ∧ datP kvs = some ps ∧ Fin Γ Z Rp σ ρ G η H (.ok (.d (.dct ps)) (η.set n .dead))) := by
  rcases frzW_val (w := w) (η := η) with ⟨x, h1, e⟩ | ⟨n, ws, ds, h1, h2, h3, e⟩ | ⟨n, ws, ds, h1, h2, h3, e⟩ | e
  · rw [e] at h; exact .inl ⟨x, h1, h⟩
  · rw [e] at h; exact .inr (.inl ⟨n, ws, ds, h1, h2, h3, h⟩)
  · rw [e] at h; exact .inr (.inr ⟨n, ws, ds, h1, h2, h3, h⟩)
  · rw [e] at h; exact Fin.badE h
theorem asI_ok {α : Type} {w : W} {m : M α} {Rp : Hp → Rho → α → Hp → Prop} {σ : L2.St} {ρ : Rho} {G : Hp} {η : Hv} {H : Hp} (h : Fin Γ Z Rp σ ρ G η H ((do let _ ← asI w; m) η)) : ∃ i, w = .d (.int i) ∧ Fin Γ Z Rp σ ρ G η H (m η) := by
  cases w with
  | d x => cases x <;> first | exact h.elim | exact ⟨_, rfl, h⟩
  | ref n => exact h.elim
  | clo l cs => exact h.elim
theorem slice00 {sub : Nat → Nat → Bool} {x z : D} (h : dprim sub (.slice false false) [x] = some z) : dsl x none none = some z := by
  cases x <;> first | (simp [dprim] at h; done) | exact h
theorem slice01 {sub : Nat → Nat → Bool} {x y z : D} (h : dprim sub (.slice false true) [x, y] = some z) : ∃ j, y = .int j ∧ dsl x none (some j) = some z := by
  cases x <;> cases y <;> first | (simp [dprim] at h; done) | exact ⟨_, rfl, h⟩
theorem slice10 {sub : Nat → Nat → Bool} {x y z : D} (h : dprim sub (.slice true false) [x, y] = some z) : ∃ j, y = .int j ∧ dsl x (some j) none = some z := by
  cases x <;> cases y <;> first | (simp [dprim] at h; done) | exact ⟨_, rfl, h⟩
theorem slice11 {sub : Nat → Nat → Bool} {x y u z : D} (h : dprim sub (.slice true true) [x, y, u] = some z) : ∃ i j, y = .int i ∧ u = .int j ∧ dsl x (some i) (some j) = some z := by
  cases x <;> cases y <;> cases u <;> first | (simp [dprim] at h; done) | exact ⟨_, _, rfl, rfl, h⟩
theorem rd_three {η : Hv} {a b d : W} {ds : List D} (h : rdWs η [a, b, d] = some ds) : ∃ x y z, ds = [x, y, z] ∧ rdW η a = some x ∧ rdW η b = some y ∧ rdW η d = some z := by
  simp only [rdWs] at h
  cases e1 : rdW η a with
  | none => rw [e1] at h; cases h
  | some x =>
    rw [e1] at h
    simp only at h
    cases e2 : rdW η b with
    | none => rw [e2] at h; cases h
    | some y =>
      rw [e2] at h
      simp only at h
      cases e3 : rdW η d with
      | none => rw [e3] at h; cases h
      | some z => rw [e3] at h; cases h; exact ⟨x, y, z, rfl, rfl, rfl, rfl⟩
theorem get?L {α : Type} [BEq α] [LawfulBEq α] {o : Option α} {x : α} (h : (o == some x) = true) : o = some x := beq_iff_eq.mp h
theorem snd_nil : SndE Γ B c .nil := by
  intro S k Z X g
  refine ⟨fun e h => by (cases h), fun es h => ?_, fun _ _ h => (by cases h)⟩
  cases es with
  | nil => trivial
  | cons _ _ => cases h
theorem snd_cons {a r : Ex} (iha : SndE Γ B c a) (ihr : SndE Γ B c r) : SndE Γ B c (.cons a r) := by
  intro S k Z X g
  refine ⟨fun e h => by (cases h), fun es h => ?_, fun _ _ h => (by cases h)⟩
  cases es with
  | nil => cases h
  | cons e es =>
    have h : (notStar e && okE B a S e && okL B r S es) = true := h
    simp only [Bool.and_eq_true] at h
    exact ⟨h.1.1, ((iha S k Z X g).1 e h.1.2).1, (ihr S k Z X g).2.1 es h.2⟩
theorem snd_cst (hB1 : Γ.gs = B.gs) (hB3 : Γ.ks = B.ks) {d : D} : SndE Γ B c (.cst d) := by
  intro S k Z X g
  refine ⟨fun e h => ?_, fun es h => (by cases h), fun _ _ h => (by cases h)⟩
  have hev : ∀ ν, ev c (.cst d) ν = Pure.pure (.d d) := fun ν => by simp [ev]
  rcases fCst_inv (show fCst B S d e = true from h) with ⟨kk, j, pos, rfl, h⟩ | ⟨y, pos, rfl, hg, h3⟩
  · refine both rfl ?_
    cases kk <;> cases d <;> first | (cases h; done) | skip
    · exact PE.imp pe_non fun σ H Q t => tI_pure hev (fun _ => .non) t
    · have h := beq_iff_eq.mp (show (_ == _) = true from h)
      subst h
      exact PE.imp pe_bl fun σ H Q t => tI_pure hev (fun _ => .bl _) t
    · have h := of_decide_eq_true (show decide _ = true from h)
      subst h
      exact PE.imp pe_int fun σ H Q t => tI_pure hev (fun _ => .int _) t
    · have h := of_decide_eq_true (show decide _ = true from h)
      subst h
      exact PE.imp pe_str fun σ H Q t => tI_pure hev (fun _ => .str _) t
  · simp only [Bool.and_eq_true, SC.glb] at hg
    obtain ⟨h1, h2⟩ := hg
    refine both rfl ?_
    rcases h3 with ⟨j, rfl, hj⟩ | ⟨n, rfl, h3⟩ | h3
    · rw [← hB1] at hj
      obtain ⟨a, ha⟩ := g.fns.gl j y hj
      exact PE.imp (pe_glob (v := .ref a) (g.gl h1) (by rw [g.mg]; exact ha) rfl (nodbg_ok h2).1) fun σ H Q t => tI_pure hev (fun _ => .glo hj ha) t
    · simp only [tyL, List.contains_cons, Bool.or_eq_true] at h3
      simp only [List.contains_nil, Bool.false_eq_true, or_false, Prod.mk.injEq, beq_iff_eq] at h3
      rcases h3 with ⟨rfl, rfl⟩ | ⟨rfl, rfl⟩ | ⟨rfl, rfl⟩ | ⟨rfl, rfl⟩ | ⟨rfl, rfl⟩ | ⟨rfl, rfl⟩ | ⟨rfl, rfl⟩
      · exact PE.imp (pe_bltn (v := .ty "int") (g.gl h1) (g.blt (by decide +kernel)) boot_int rfl (by decide +kernel) (by decide +kernel)) fun σ H Q t => tI_pure hev (fun _ => .ty _) t
      · exact PE.imp (pe_bltn (v := .ty "bool") (g.gl h1) (g.blt (by decide +kernel)) boot_bool rfl (by decide +kernel) (by decide +kernel)) fun σ H Q t => tI_pure hev (fun _ => .ty _) t
      · exact PE.imp (pe_bltn (v := .ty "str") (g.gl h1) (g.blt (by decide +kernel)) boot_str rfl (by decide +kernel) (by decide +kernel)) fun σ H Q t => tI_pure hev (fun _ => .ty _) t
      · exact PE.imp (pe_bltn (v := .ty "tuple") (g.gl h1) (g.blt (by decide +kernel)) boot_tuple rfl (by decide +kernel) (by decide +kernel)) fun σ H Q t => tI_pure hev (fun _ => .ty _) t
      · exact PE.imp (pe_bltn (v := .ty "list") (g.gl h1) (g.blt (by decide +kernel)) boot_list rfl (by decide +kernel) (by decide +kernel)) fun σ H Q t => tI_pure hev (fun _ => .ty _) t
      · exact PE.imp (pe_bltn (v := .ty "dict") (g.gl h1) (g.blt (by decide +kernel)) boot_dict rfl (by decide +kernel) (by decide +kernel)) fun σ H Q t => tI_pure hev (fun _ => .ty _) t
      · exact PE.imp (pe_bltn (v := .ty "ValueError") (g.gl h1) (g.blt (by decide +kernel)) PyProof.Rows.Boot.«ValueError» rfl (by decide +kernel) (by decide +kernel)) fun σ H Q t => tI_pure hev (fun _ => .ty _) t
    · rw [← hB3] at h3
      obtain ⟨v, u, k1, k2, k3⟩ := g.fns.fx.kst y d h3
      exact PE.imp (pe_glob (v := v) (g.gl h1) (by rw [g.mg]; exact k1) k2 (nodbg_ok h2).1) fun σ H Q t => tI_pure hev k3 t
theorem snd_var {i : Nat} : SndE Γ B c (.var i) := by
  intro S k Z X g
  refine ⟨fun e h => ?_, fun es h => (by cases h), fun _ _ h => (by cases h)⟩
  obtain ⟨y, pos, rfl, hv⟩ := fVar_inv (show fVar S i e = true from h)
  simp only [SC.var, Bool.and_eq_true] at hv
  exact both rfl (PE.imp (pe_var (g.ix hv.1.1) (g.vis hv.1.2) (nodbg_ok hv.2).1 (nodbg_ok hv.2).2) fun σ H Q t => tI_var t)
theorem snd_bin {o : Bop} {es : Ex} (ih : SndE Γ B c es) : SndE Γ B c (.pr (.bin o) es) := by
  intro S k Z X g
  refine ⟨fun e h => ?_, fun es h => (by cases h), fun _ _ h => (by cases h)⟩
  obtain ⟨l, op, r, pos, rfl, h1, h2⟩ := fBin_inv (show fBin o e (okL B es S) = true from h)
  obtain ⟨a, b, rfl, p1, p2⟩ := ((ih S k Z X g).2.1 _ h2).two
  refine both rfl (PE.imp (pe_op (opRule g h1) p1 p2) fun σ H Q t => ?_)
  rw [ev_pr2 rfl] at t
  exact prim_op (fun _ _ => rfl) t
theorem snd_cmp {o : Cop} {es : Ex} (ih : SndE Γ B c es) : SndE Γ B c (.pr (.cmp o) es) := by
  intro S k Z X g
  refine ⟨fun e h => ?_, fun es h => (by cases h), fun _ _ h => (by cases h)⟩
  obtain ⟨l, op, r, pos, rfl, h1, h2, h3⟩ := fCmp_inv (show fCmp o e (okL B es S) = true from h)
  obtain ⟨a, b, rfl, p1, p2⟩ := ((ih S k Z X g).2.1 _ h3).two
  have go : ∀ σ H Q, tI Γ Z (ev c (.pr (.cmp o) (.cons a (.cons b .nil)))) σ H Q → tOp (pr2 Γ fun x y => (dcmp o x y).map .bl) (tI Γ Z (ev c a)) (tI Γ Z (ev c b)) σ H Q := fun σ H Q t => by
    rw [ev_pr2 rfl] at t
    exact prim_op (fun _ _ => rfl) t
  exact ⟨PE.imp (pe_cmpR (copRule g h1) p1 p2 h2) go, PT.imp (pt_cmpR (copRule g h1) p1 p2 h2) fun σ H Q t => go σ H _ (tT_B t)⟩
theorem snd_neg {es : Ex} (ih : SndE Γ B c es) : SndE Γ B c (.pr .neg es) := by
  intro S k Z X g
  refine ⟨fun e h => ?_, fun es h => (by cases h), fun _ _ h => (by cases h)⟩
  obtain ⟨r, pos, rfl, hv⟩ := fNeg_inv (show fNeg e (okL B es S) = true from h)
  obtain ⟨a, rfl, p1⟩ := ((ih S k Z X g).2.1 _ hv).one
  refine both rfl (PE.imp (pe_un (un_negD (Γ := Γ)) p1) fun σ H Q t => ?_)
  rw [ev_pr1 rfl] at t
  exact prim_un (fun d => by cases d <;> rfl) t
theorem snd_item {es : Ex} (ih : SndE Γ B c es) : SndE Γ B c (.pr .item es) := by
  intro S k Z X g
  refine ⟨fun e h => ?_, fun es h => (by cases h), fun _ _ h => (by cases h)⟩
  obtain ⟨l, r, pos, rfl, h1, h2⟩ := fItem_inv (show fItem e (okL B es S) = true from h)
  obtain ⟨a, b, rfl, p1, p2⟩ := ((ih S k Z X g).2.1 _ h2).two
  refine both rfl (PE.imp (pe_ix (ix_D g.K (by have := g.room.un; omega)) p1 p2 (plainIx_of h1)) fun σ H Q t => ?_)
  rw [ev_pr2 rfl] at t
  exact prim_op (fun _ _ => rfl) t
theorem snd_tup {es : Ex} (ih : SndE Γ B c es) : SndE Γ B c (.pr .tup es) := by
  intro S k Z X g
  refine ⟨fun e h => ?_, fun es h => (by cases h), fun _ _ h => (by cases h)⟩
  obtain ⟨as, j, pos, rfl, hv⟩ := fTup_inv (show fTup e (okL B es S) = true from h)
  refine both rfl (PE.imp (pe_tup ((ih S k Z X g).2.1 _ hv).pa) fun σ H Q t => ?_)
  rw [ev_prS rfl] at t
  exact disp_ok (mk := .tup) (ho := .tup) (fun _ => rfl) (fun _ _ z => by cases z) (fun G ds vs p hp r => .tup (SqT.of hp) r) t
theorem snd_lst {es : Ex} (ih : SndE Γ B c es) : SndE Γ B c (.pr .lst es) := by
  intro S k Z X g
  refine ⟨fun e h => ?_, fun es h => (by cases h), fun _ _ h => (by cases h)⟩
  obtain ⟨as, pos, rfl, hv⟩ := fLst_inv (show fLst e (okL B es S) = true from h)
  refine both rfl (PE.imp (pe_lst ((ih S k Z X g).2.1 _ hv).pa) fun σ H Q t => ?_)
  rw [ev_prS rfl] at t
  exact disp_ok (mk := .lst) (ho := .lst) (fun _ => rfl) (fun _ _ z => by cases z) (fun G ds vs p hp r => .lst (.inl hp) r) t
theorem snd_fn {f : Fn} {es : Ex} (ih : SndE Γ B c es) : SndE Γ B c (.pr (.fn f) es) := by
  intro S k Z X g
  refine ⟨fun e h => ?_, fun es h => (by cases h), fun _ _ h => (by cases h)⟩
  obtain ⟨q, a, as, pos, rfl, h1, h3, h5⟩ := fFn_inv (show fFn S f e (okL B es S) = true from h)
  have al := (ih S k Z X g).2.1 _ h5
  have st := al.stars
  simp only [List.all_cons, Bool.and_eq_true] at st
  have go : ∀ σ H Q, tI Γ Z (ev c (.pr (.fn f) es)) σ H Q → tCB (prL Γ (dfn c.sub f)) (tA Γ Z (evl c es)) σ H Q := fun σ H Q t => by
    rw [ev_pr rfl] at t
    exact prim_call t
  refine both rfl (PE.imp ?_ go)
  have hr := fnRule g h1
  have hb := fn_boot f
  have hm := g.blt (fn_blt f)
  have hn := fn_name f
  have hd := fn_dbg f
  cases f <;> first
    | exact pe_callB hr (g.gl h3) hm hb al.pa hn hd (star_of st.1 _ _) (noSplat st.2 _ _)
    | exact pe_callTy hr (g.gl h3) hm hb al.pa hn hd (star_of st.1 _ _) (noSplat st.2 _ _)
theorem snd_slice {lo hi : Bool} {es : Ex} (ih : SndE Γ B c es) : SndE Γ B c (.pr (.slice lo hi) es) := by
  intro S k Z X g
  refine ⟨fun e h => ?_, fun es h => (by cases h), fun _ _ h => (by cases h)⟩
  obtain ⟨l, le, he, pos, p2, rfl, h0, h1, h2, h3⟩ := fSlice_inv (show fSlice lo hi e (okL B es S) = true from h)
  have al := (ih S k Z X g).2.1 _ h3
  refine both rfl ?_
  cases le with
  | none =>
    cases he with
    | none =>
      obtain ⟨a, rfl, p1⟩ := al.one
      refine PE.imp (pe_slice (sl_D (Γ := Γ) g.K) p1 po_none po_none) fun σ H Q t => ?_
      rw [ev_pr1 rfl] at t
      obtain ⟨ν, η, ρ, G, S', T, t⟩ := t
      refine ⟨ν, η, ρ, G, S', T, Fin.bind t _ fun w ρ1 G1 η1 H1 S1 E1 t1 x rx => ?_⟩
      obtain ⟨ds, z, e1, e2, t2⟩ := prM_ok t1
      obtain ⟨d, rfl, r1⟩ := rd_one e1
      subst h1 h2
      exact ⟨G1, d, z, S1.same, rx.read S1 r1, slice00 e2, fun v H' hs r => t2 ρ1 (grow G1 H1 H') H' (S1.grow hs) (Ext.grow S1 hs) v r⟩
    | some hx =>
      obtain ⟨a, b, rfl, p1, p2⟩ := al.two
      refine PE.imp (pe_slice (sl_D (Γ := Γ) g.K) p1 po_none (po_some p2)) fun σ H Q t => ?_
      rw [ev_pr2 rfl] at t
      obtain ⟨ν, η, ρ, G, S', T, t⟩ := t
      refine ⟨ν, η, ρ, G, S', T, Fin.bind t _ fun w ρ1 G1 η1 H1 S1 E1 t1 x rx => ?_⟩
      refine ⟨ν, η1, ρ1, G1, S1, T.mono E1.same E1.rho, Fin.bind t1 _ fun w2 ρ2 G2 η2 H2 S2 E2 t2 y ry => ?_⟩
      obtain ⟨ds, z, e1, e2, t3⟩ := prM_ok t2
      obtain ⟨d, d2, rfl, r1, r2⟩ := rd_two e1
      subst h1 h2
      obtain ⟨j, rfl, e3⟩ := slice01 e2
      refine ⟨j, (ry.read S2 r2).int, G2, d, z, S2.same, (rx.mono E2.same E2.rho).read S2 r1, e3, fun v H' hs r => t3 ρ2 (grow G2 H2 H') H' (S2.grow hs) (Ext.grow S2 hs) v r⟩
  | some lx =>
    cases he with
    | none =>
      obtain ⟨a, b, rfl, p1, p2⟩ := al.two
      refine PE.imp (pe_slice (sl_D (Γ := Γ) g.K) p1 (po_some p2) po_none) fun σ H Q t => ?_
      rw [ev_pr2 rfl] at t
      obtain ⟨ν, η, ρ, G, S', T, t⟩ := t
      refine ⟨ν, η, ρ, G, S', T, Fin.bind t _ fun w ρ1 G1 η1 H1 S1 E1 t1 x rx => ?_⟩
      refine ⟨ν, η1, ρ1, G1, S1, T.mono E1.same E1.rho, Fin.bind t1 _ fun w2 ρ2 G2 η2 H2 S2 E2 t2 y ry => ?_⟩
      obtain ⟨ds, z, e1, e2, t3⟩ := prM_ok t2
      obtain ⟨d, d2, rfl, r1, r2⟩ := rd_two e1
      subst h1 h2
      obtain ⟨j, rfl, e3⟩ := slice10 e2
      refine ⟨j, (ry.read S2 r2).int, G2, d, z, S2.same, (rx.mono E2.same E2.rho).read S2 r1, e3, fun v H' hs r => t3 ρ2 (grow G2 H2 H') H' (S2.grow hs) (Ext.grow S2 hs) v r⟩
    | some hx =>
      subst h1 h2
      cases h0
theorem snd_attr {n : String} {es : Ex} (ih : SndE Γ B c es) : SndE Γ B c (.pr (.attr n) es) := by
  intro S k Z X g
  refine ⟨fun e h => ?_, fun es h => (by cases h), fun _ _ h => (by cases h)⟩
  obtain ⟨o, p, rfl, h1, h2⟩ := fAttr_inv (show fAttr n e (okL B es S) = true from h)
  obtain ⟨a, rfl, p1⟩ := ((ih S k Z X g).2.1 _ h2).one
  refine both rfl (PE.imp (pe_xattr p1 (base_of h1 _ _)) fun σ H Q t => ?_)
  rw [ev_pr1 rfl] at t
  obtain ⟨ν, η, ρ, G, S', T, t⟩ := t
  refine ⟨ν, η, ρ, G, S', T, Fin.bind t _ fun w ρ1 G1 η1 H1 S1 E1 t1 v rv => ?_⟩
  obtain ⟨ds, z, e1, e2, t2⟩ := prM_ok t1
  obtain ⟨d, rfl, r1⟩ := rd_one e1
  have ra := rv.read S1 r1
  cases d <;> first | (simp [dprim] at e2; done) | skip
  rename_i cc fs
  have e2 : fs.lookup n = some z := e2
  cases ra with
  | fix r =>
    cases r with
    | exc _ _ _ _ => cases e2
    | excF hp hx hm q1 q2 hy =>
      rename_i x C ad dd f v0 y _e
      obtain ⟨C2, fI, fd, f1, f2, f3, f4, f5, f6, f7⟩ := g.fns.fx.xcl _ _ _ hp hx
      rw [hm] at f1
      cases f1
      by_cases hn : n = f
      · subst hn
        have ez : z = y := by simpa [List.lookup] using e2.symm
        subst ez
        exact ⟨ad, C, dd, _, v0, rfl, by rw [g.K]; exact f6, by rw [g.K]; exact f3.no, S1.same _ _ q1, S1.same _ _ q2, by simp [List.lookup], t2 ρ1 G1 H1 S1 (Ext.refl _ _ _ _) _ hy⟩
      · have : (n == f) = false := beq_eq_false_iff_ne.mpr hn
        simp [List.lookup, this] at e2
theorem snd_vals {es : Ex} (ih : SndE Γ B c es) : SndE Γ B c (.pr (.meth 0) es) := by
  intro S k Z X g
  refine ⟨fun e h => ?_, fun es h => (by cases h), fun _ _ h => (by cases h)⟩
  obtain ⟨o, p1, ap, cp, p2, rfl, h1, h2, h3, h4⟩ := fVals_inv (show fVals S e (okL B es S) = true from h)
  obtain ⟨a, rfl, pa⟩ := ((ih S k Z X g).2.1 _ h4).one
  have pv := pe_valsD pa (base_of h2 _ _) h3
  refine both rfl (PE.imp (pe_callTy (call_listVals g.calm) (g.gl h1) (g.blt (by decide +kernel)) (by decide +kernel) (pa_cons pv pa_nil (by rfl)) (by decide) (by decide) (by rfl) (by rfl)) fun σ H Q t => ?_)
  rw [ev_pr1 rfl] at t
  obtain ⟨ν, η, ρ, G, S', T, t⟩ := t
  refine ⟨ν, η, ρ, G, S', T, Fin.bind t _ fun w ρ1 G1 η1 H1 S1 E1 t1 v rv => ?_⟩
  obtain ⟨ds, z, e1, e2, t2⟩ := prM_ok t1
  obtain ⟨d, rfl, r1⟩ := rd_one e1
  have ra := rv.read S1 r1
  cases d <;> first | (simp [dprim, dvals] at e2; done) | skip
  rename_i kvs
  have e2 : some (D.lst (kvs.map (·.2))) = some z := e2
  cases e2
  obtain ⟨b, ks, rfl, hb, rk⟩ := ra.isDct S1.same
  refine ⟨b, ks, rfl, hb, fun p hp => ?_⟩
  have sm := same_upd (o := valsO p b) hp
  refine ⟨p, b, ks, rfl, upd_same, Same.rd sm hb, fun q hq => ?_⟩
  have S2 := S1.grow sm
  have sm2 := same_upd (o := HO.lst (ks.map (·.2))) hq
  exact t2 ρ1 _ _ (S2.grow sm2) ((Ext.grow S1 sm).trans (Ext.grow S2 sm2)) _ (.lst (.inl (grow_up hq)) (RepL.mono ((grow_same S1.same).trans (grow_same S2.same)) (RepL.vals rk)))
theorem snd_pr {p : Pr} {es : Ex} (ih : SndE Γ B c es) : SndE Γ B c (.pr p es) := by
  cases p with
  | bin o => exact snd_bin ih
  | cmp o => exact snd_cmp ih
  | neg => exact snd_neg ih
  | item => exact snd_item ih
  | slice lo hi => exact snd_slice ih
  | tup => exact snd_tup ih
  | lst => exact snd_lst ih
  | fn f => exact snd_fn ih
  | attr n => exact snd_attr ih
  | meth n =>
    cases n with
    | zero => exact snd_vals ih
    | succ n => exact fun S k Z X g => ⟨fun e h => (by cases h), fun es h => (by cases h), fun _ _ h => (by cases h)⟩
  | _ => exact fun S k Z X g => ⟨fun e h => by (cases h), fun es h => (by cases h), fun _ _ h => (by cases h)⟩
theorem snd_slc {a b d : Ex} (iha : SndE Γ B c a) (ihb : SndE Γ B c b) (ihd : SndE Γ B c d) : SndE Γ B c (.slc a b d) := by
  intro S k Z X g
  refine ⟨fun e h => ?_, fun es h => (by cases h), fun _ _ h => (by cases h)⟩
  obtain ⟨x, y, z, pos, p2, rfl, h1, h2, h3⟩ := fSlc_inv (show fSlc e (okE B a S) (okE B b S) (okE B d S) = true from h)
  have p1 := ((iha S k Z X g).1 _ h1).1
  have p2 := ((ihb S k Z X g).1 _ h2).1
  have p3 := ((ihd S k Z X g).1 _ h3).1
  have e2 : ev c (.slc a b d) = fun ν => (do let x ← ev c a ν; let y ← ev c b ν; let _ ← asI y; let z ← ev c d ν; prM (dprim c.sub (.slice true true)) [x, y, z]) := by funext ν; simp [ev, prM]
  refine both rfl (PE.imp (pe_slice (sl_D (Γ := Γ) g.K) p1 (po_some p2) (po_some p3)) fun σ H Q t => ?_)
  rw [e2] at t
  obtain ⟨ν, η, ρ, G, S', T, t⟩ := t
  refine ⟨ν, η, ρ, G, S', T, Fin.bind t _ fun w ρ1 G1 η1 H1 S1 E1 t1 x rx => ?_⟩
  refine ⟨ν, η1, ρ1, G1, S1, T.mono E1.same E1.rho, Fin.bind t1 _ fun w2 ρ2 G2 η2 H2 S2 E2 t2 y ry => ?_⟩
  obtain ⟨i, rfl, t2⟩ := asI_ok t2
  cases ry
  refine ⟨i, rfl, ν, η2, ρ2, G2, S2, (T.mono E1.same E1.rho).mono E2.same E2.rho, Fin.bind t2 _ fun w3 ρ3 G3 η3 H3 S3 E3 t3 u ru => ?_⟩
  obtain ⟨ds, z, e1, e4, t4⟩ := prM_ok t3
  obtain ⟨d, d2, d3, rfl, r1, r2, r3⟩ := rd_three e1
  cases r2
  obtain ⟨i', j, e5, rfl, e3⟩ := slice11 e4
  cases e5
  have E13 := E2.trans E3
  exact ⟨j, (ru.read S3 r3).int, G3, d, z, S3.same, (rx.mono E13.same E13.rho).read S3 r1, e3, fun v H' hs r => t4 ρ3 (grow G3 H3 H') H' (S3.grow hs) (Ext.grow S3 hs) v r⟩
theorem snd_nt {a : Ex} (ih : SndE Γ B c a) : SndE Γ B c (.nt a) := by
  intro S k Z X g
  refine ⟨fun e h => ?_, fun es h => (by cases h), fun _ _ h => (by cases h)⟩
  obtain ⟨y, pos, rfl, hv⟩ := fNt_inv (show fNt e (okE B a S) = true from h)
  obtain ⟨h1, h2⟩ := (ih S k Z X g).1 _ hv
  have e2 : ev c (.nt a) = fun ν => (do let x ← ev c a ν; let b ← asB x; Pure.pure (W.d (.bl (!b)))) := by funext ν; simp [ev]
  refine ⟨PE.imp (pe_not h1) fun σ H Q t => ?_, PT.imp (pt_not h2) fun σ H Q t => ?_⟩
  · rw [e2] at t
    obtain ⟨ν, η, ρ, G, S', T, t⟩ := t
    refine ⟨ν, η, ρ, G, S', T, Fin.bind t _ fun w ρ1 G1 η1 H1 S1 E1 t1 v rv => ?_⟩
    obtain ⟨b, rfl, t2⟩ := asB_ok t1
    cases rv
    exact ⟨b, rfl, t2 ρ1 G1 H1 S1 (Ext.refl _ _ _ _) _ (.bl _)⟩
  · rw [e2] at t
    obtain ⟨ν, η, ρ, G, S', T, t⟩ := t
    refine ⟨ν, η, ρ, G, S', T, Fin.bind t _ fun w ρ1 G1 η1 H1 S1 E1 t1 => ?_⟩
    obtain ⟨b, rfl, t2⟩ := asB_ok t1
    obtain ⟨b', e, q⟩ := t2 ρ1 G1 H1 S1 (Ext.refl _ _ _ _)
    cases e
    exact ⟨b, rfl, q⟩
theorem snd_and {a b : Ex} (iha : SndE Γ B c a) (ihb : SndE Γ B c b) : SndE Γ B c (.and a b) := by
  intro S k Z X g
  refine ⟨fun e h => ?_, fun es h => (by cases h), fun _ _ h => (by cases h)⟩
  have e2 : ev c (.and a b) = fun ν => (do let x ← ev c a ν; let k ← asB x; if k then ev c b ν else Pure.pure (W.d (.bl false))) := by funext ν; simp [ev]
  have main : ∀ {vs : List Expr} {pos : Pos} {x y : Expr} {r : List Expr}, vs = x :: y :: r → PE X x (tI Γ Z (ev c a)) ∧ PT X x (tT Γ Z (ev c a)) → PE X (.BoolOp .And (y :: r) pos) (tI Γ Z (ev c b)) → PW X (.BoolOp .And (y :: r) pos) (tT Γ Z (ev c b)) →
      PE X (.BoolOp .And vs pos) (tI Γ Z (ev c (.and a b))) ∧ PT X (.BoolOp .And vs pos) (tT Γ Z (ev c (.and a b))) := by
    rintro vs pos x y r rfl ⟨q1, q2⟩ q3 q4
    refine ⟨PE.imp (pe_and q1 q3) fun σ H Q t => ?_, PT.imp (pw_and q2 q4).pt fun σ H Q t => ?_⟩
    · rw [e2] at t
      obtain ⟨ν, η, ρ, G, S', T, t⟩ := t
      refine ⟨ν, η, ρ, G, S', T, Fin.bind t _ fun w ρ1 G1 η1 H1 S1 E1 t1 v rv => ?_⟩
      obtain ⟨kk, rfl, t2⟩ := asB_ok t1
      cases rv
      refine ⟨kk, rfl, ?_⟩
      cases kk with
      | true => exact ⟨ν, η1, ρ1, G1, S1, T.mono E1.same E1.rho, t2⟩
      | false => exact t2 ρ1 G1 H1 S1 (Ext.refl _ _ _ _) _ (.bl _)
    · rw [e2] at t
      have t2 := tstT (kk := fun k ν => if k then ev c b ν else Pure.pure (W.d (.bl false))) t
      obtain ⟨ν, η, ρ, G, S', T, t3⟩ := t2
      refine ⟨ν, η, ρ, G, S', T, t3.imp fun G' ρ' w H' q => ?_⟩
      obtain ⟨kk, rfl, q⟩ := q
      refine ⟨kk, rfl, ?_⟩
      cases kk with
      | true => exact q
      | false => exact tT_pure (fun _ => rfl) q
  rcases fAnd_inv (show fAnd e (okE B a S) (okE B b S) = true from h) with ⟨x, y, pos, rfl, h1, h2⟩ | ⟨x, y, z, r, pos, rfl, h1, h2⟩
  · have hb := (ihb S k Z X g).1 _ h2
    exact main rfl ((iha S k Z X g).1 _ h1) (pe_one hb.1) (pw_and1 hb.2)
  · have hb := (ihb S k Z X g).1 _ h2
    exact main rfl ((iha S k Z X g).1 _ h1) hb.1 (pw_bool hb.2)
theorem snd_or {a b : Ex} (iha : SndE Γ B c a) (ihb : SndE Γ B c b) : SndE Γ B c (.or a b) := by
  intro S k Z X g
  refine ⟨fun e h => ?_, fun es h => (by cases h), fun _ _ h => (by cases h)⟩
  have e2 : ev c (.or a b) = fun ν => (do let x ← ev c a ν; let k ← asB x; if k then Pure.pure (W.d (.bl true)) else ev c b ν) := by funext ν; simp [ev]
  have main : ∀ {vs : List Expr} {pos : Pos} {x y : Expr} {r : List Expr}, vs = x :: y :: r → PE X x (tI Γ Z (ev c a)) ∧ PT X x (tT Γ Z (ev c a)) → PE X (.BoolOp .Or (y :: r) pos) (tI Γ Z (ev c b)) → PW X (.BoolOp .Or (y :: r) pos) (tT Γ Z (ev c b)) →
      PE X (.BoolOp .Or vs pos) (tI Γ Z (ev c (.or a b))) ∧ PT X (.BoolOp .Or vs pos) (tT Γ Z (ev c (.or a b))) := by
    rintro vs pos x y r rfl ⟨q1, q2⟩ q3 q4
    refine ⟨PE.imp (pe_or q1 q3) fun σ H Q t => ?_, PT.imp (pw_or q2 q4).pt fun σ H Q t => ?_⟩
    · rw [e2] at t
      obtain ⟨ν, η, ρ, G, S', T, t⟩ := t
      refine ⟨ν, η, ρ, G, S', T, Fin.bind t _ fun w ρ1 G1 η1 H1 S1 E1 t1 v rv => ?_⟩
      obtain ⟨kk, rfl, t2⟩ := asB_ok t1
      cases rv
      refine ⟨kk, rfl, ?_⟩
      cases kk with
      | false => exact ⟨ν, η1, ρ1, G1, S1, T.mono E1.same E1.rho, t2⟩
      | true => exact t2 ρ1 G1 H1 S1 (Ext.refl _ _ _ _) _ (.bl _)
    · rw [e2] at t
      have t2 := tstT (kk := fun k ν => if k then Pure.pure (W.d (.bl true)) else ev c b ν) t
      obtain ⟨ν, η, ρ, G, S', T, t3⟩ := t2
      refine ⟨ν, η, ρ, G, S', T, t3.imp fun G' ρ' w H' q => ?_⟩
      obtain ⟨kk, rfl, q⟩ := q
      refine ⟨kk, rfl, ?_⟩
      cases kk with
      | false => exact q
      | true => exact tT_pure (fun _ => rfl) q
  rcases fOr_inv (show fOr e (okE B a S) (okE B b S) = true from h) with ⟨x, y, pos, rfl, h1, h2⟩ | ⟨x, y, z, r, pos, rfl, h1, h2⟩
  · have hb := (ihb S k Z X g).1 _ h2
    exact main rfl ((iha S k Z X g).1 _ h1) (pe_one hb.1) (pw_or1 hb.2)
  · have hb := (ihb S k Z X g).1 _ h2
    exact main rfl ((iha S k Z X g).1 _ h1) hb.1 (pw_bool hb.2)
theorem snd_ite {t a b : Ex} (iht : SndE Γ B c t) (iha : SndE Γ B c a) (ihb : SndE Γ B c b) : SndE Γ B c (.ite t a b) := by
  intro S k Z X g
  refine ⟨fun e h => ?_, fun es h => (by cases h), fun _ _ h => (by cases h)⟩
  obtain ⟨ct, x, y, pos, rfl, h1, h2, h3⟩ := fIte_inv (show fIte e (okE B t S) (okE B a S) (okE B b S) = true from h)
  obtain ⟨t1, t2⟩ := (iht S k Z X g).1 _ h1
  obtain ⟨a1, a2⟩ := (iha S k Z X g).1 _ h2
  obtain ⟨b1, b2⟩ := (ihb S k Z X g).1 _ h3
  have e2 : ev c (.ite t a b) = fun ν => (do let x ← ev c t ν; let k ← asB x; if k then ev c a ν else ev c b ν) := by funext ν; simp [ev]
  refine ⟨PE.imp (pe_ifExp t2 a1 b1) fun σ H Q q => ?_, PT.imp (pt_ifExp t2 a2 b2) fun σ H Q q => ?_⟩
  · rw [e2] at q
    have q2 := tst (kk := fun k ν => if k then ev c a ν else ev c b ν) q
    obtain ⟨ν, η, ρ, G, S', T, q3⟩ := q2
    refine ⟨ν, η, ρ, G, S', T, q3.imp fun G' ρ' w H' q => ?_⟩
    obtain ⟨kk, rfl, q⟩ := q
    refine ⟨kk, rfl, ?_⟩
    cases kk <;> exact q
  · rw [e2] at q
    have q2 := tstT (kk := fun k ν => if k then ev c a ν else ev c b ν) q
    obtain ⟨ν, η, ρ, G, S', T, q3⟩ := q2
    refine ⟨ν, η, ρ, G, S', T, q3.imp fun G' ρ' w H' q => ?_⟩
    obtain ⟨kk, rfl, q⟩ := q
    refine ⟨kk, rfl, ?_⟩
    cases kk <;> exact q
theorem snd_call (hB2 : Γ.ft = B.ft) {md i : Nat} {es : Ex} (ih : SndE Γ B c es) : SndE Γ B c (.call md i es) := by
  intro S k Z X g
  refine ⟨fun e h => ?_, fun es h => (by cases h), fun _ _ h => (by cases h)⟩
  obtain ⟨y, yp, as, pos, rfl, h1, h2, h3⟩ := fCall_inv (show fCall B S i e (okL B es S) = true from h)
  rw [← hB2] at h1
  exact both rfl (call_ok g h1 h2 ((ih S k Z X g).2.1 _ h3))
theorem snd_chn {o p : Cop} {a b d : Ex} (iha : SndE Γ B c a) (ihb : SndE Γ B c b) (ihd : SndE Γ B c d) : SndE Γ B c (.chn o p a b d) := by
  intro S k Z X g
  refine ⟨fun e h => ?_, fun es h => (by cases h), fun _ _ h => (by cases h)⟩
  obtain ⟨l, op, oq, m, r, pos, rfl, h1, h2, h3, h4, h5, h6⟩ := fChn_inv (show fChn o p e (okE B a S) (okE B b S) (okE B d S) = true from h)
  have p1 := ((iha S k Z X g).1 _ h4).1
  have p2 := ((ihb S k Z X g).1 _ h5).1
  have p3 := ((ihd S k Z X g).1 _ h6).1
  have e2 : ev c (.chn o p a b d) = fun ν => (do
      let x ← ev c a ν
      let y ← ev c b ν
      let w ← prM (dprim c.sub (.cmp o)) [x, y]
      let k ← asB w
      if k then (do
        let z ← ev c d ν
        prM (dprim c.sub (.cmp p)) [y, z])
      else Pure.pure (W.d (.bl false))) := by funext ν; simp [ev, prM]
  have go : ∀ σ H Q, tI Γ Z (ev c (.chn o p a b d)) σ H Q → tChain (pr2 Γ fun x y => (dcmp o x y).map .bl) (pr2 Γ fun x y => (dcmp p x y).map .bl) (tI Γ Z (ev c a)) (tI Γ Z (ev c b)) (tI Γ Z (ev c d)) σ H Q := by
    intro σ H Q t
    rw [e2] at t
    obtain ⟨ν, η, ρ, G, S', T, t⟩ := t
    refine ⟨ν, η, ρ, G, S', T, Fin.bind t _ fun w1 ρ1 G1 η1 H1 S1 E1 t1 x rx => ?_⟩
    refine ⟨ν, η1, ρ1, G1, S1, T.mono E1.same E1.rho, Fin.bind t1 _ fun w2 ρ2 G2 η2 H2 S2 E2 t2 y ry => ?_⟩
    have T2 := (T.mono E1.same E1.rho).mono E2.same E2.rho
    rw [M.bind_ap] at t2
    cases e3 : prM (dprim c.sub (.cmp o)) [w1, w2] η2 with
    | bad => rw [e3] at t2; exact t2.elim
    | exc _ _ => exact (prM_noexc e3).elim
    | ok w3 η3 =>
      rw [e3] at t2
      obtain ⟨ds, z, q1, q2, rfl, eη⟩ := prM_val e3
      subst eη
      obtain ⟨d1, d2, rfl, r1, r2⟩ := rd_two q1
      have t2 : Fin Γ Z (pW Γ Q) σ ρ2 G2 η3 H2 ((do
          let k ← asB (W.d z)
          if k then (do
            let z ← ev c d ν
            prM (dprim c.sub (.cmp p)) [w2, z])
          else Pure.pure (W.d (.bl false)) : M W) η3) := t2
      obtain ⟨kk, ez, t3⟩ := asB_ok t2
      cases ez
      refine ⟨G2, d1, d2, _, S2.same, (rx.mono E2.same E2.rho).read S2 r1, ry.read S2 r2, q2, fun v H' hs r => ?_⟩
      cases r
      refine ⟨kk, rfl, ?_⟩
      have Sg := S2.grow hs
      have Eg := Ext.grow S2 hs
      cases kk with
      | false => exact t3 ρ2 _ H' Sg Eg _ (.bl false)
      | true =>
        have t4 := Fin.step Eg t3
        refine ⟨ν, η3, ρ2, _, Sg, T2.mono Eg.same Eg.rho, Fin.bind t4 _ fun w4 ρ4 G4 η4 H4 S4 E4 t5 u ru => ?_⟩
        obtain ⟨ds, z, e5, e6, t6⟩ := prM_ok t5
        obtain ⟨d3, d4, rfl, r3, r4⟩ := rd_two e5
        have E24 := Eg.trans E4
        exact ⟨G4, d3, d4, z, S4.same, (ry.mono E24.same E24.rho).read S4 r3, ru.read S4 r4, e6, fun v H'' hs r => t6 ρ4 (grow G4 H4 H'') H'' (S4.grow hs) (Ext.grow S4 hs) v r⟩
  have hm : lastMarks [op, oq] [m, r] = false := h3
  refine ⟨PE.imp (pe_chain (copRule g h1) (copRule g h2) p1 p2 p3 hm) go, PT.imp (pt_chain (copRule g h1) (copRule g h2) p1 p2 p3 hm) fun σ H Q t => go σ H _ (tT_B t)⟩
theorem snd_nlst {es : Ex} (ih : SndE Γ B c es) : SndE Γ B c (.nlst es) := by
  intro S k Z X g
  refine ⟨fun e h => ?_, fun es h => (by cases h), fun _ _ h => (by cases h)⟩
  obtain ⟨as, pos, rfl, hv⟩ := fLst_inv (show fLst e (okL B es S) = true from h)
  have al := (ih S k Z X g).2.1 _ hv
  have e2 : ev c (.nlst es) = fun ν => (do let ws ← evl c es ν; mkW ws) := by funext ν; simp [ev]
  refine both rfl (PE.imp (pe_lst al.pa) fun σ H Q t => ?_)
  rw [e2] at t
  obtain ⟨ν, η, ρ, G, S', T, t⟩ := t
  refine ⟨ν, η, ρ, G, S', T, Fin.bind t _ fun ws ρ1 G1 η1 H1 S1 E1 t1 vs rs => ?_⟩
  unfold mkW at t1
  split at t1
  · rename_i hz
    refine ⟨by rw [rs.length, hsz]; exact hz, fun p hp => ?_⟩
    obtain ⟨S2, E2⟩ := S1.lay hp rs
    exact t1 _ _ _ S2 E2 _ ⟨p, by unfold updR; rw [if_pos rfl], rfl⟩
  · exact t1.elim
theorem snd_frz {a : Ex} (ih : SndE Γ B c a) : SndE Γ B c (.frz a) := by
  intro S k Z X g
  refine ⟨fun e h => ?_, fun es h => (by cases h), fun _ _ h => (by cases h)⟩
  have h : (plainT e && okE B a S e) = true := h
  rw [Bool.and_eq_true] at h
  have e2 : ev c (.frz a) = fun ν => (do let w ← ev c a ν; frzW w) := by funext ν; simp [ev]
  refine both h.1 (PE.imp ((ih S k Z X g).1 _ h.2).1 fun σ H Q t => ?_)
  rw [e2] at t
  obtain ⟨ν, η, ρ, G, S', T, t⟩ := t
  refine ⟨ν, η, ρ, G, S', T, Fin.bind t _ fun w ρ1 G1 η1 H1 S1 E1 t1 v rv => ?_⟩
  rcases frzW_ok t1 with ⟨x, rfl, t2⟩ | ⟨n, ws, ds, rfl, e3, e4, t2⟩ | ⟨n, kvs, ps, rfl, e3, e4, t2⟩
  · exact t2 ρ1 G1 H1 S1 (Ext.refl _ _ _ _) v rv
  · obtain ⟨p, vs, rfl, hp, hl, hH, rs⟩ := own_lst S1 e3 rv
    obtain ⟨S2, E2, sg⟩ := S1.frz hl hp hH
    exact t2 ρ1 _ H1 S2 E2 _ (.lst (.inl upd_same) (RepL.mono sg (RepL.of_ws rs e4)))
  · obtain ⟨p, ks, rfl, hp, hl, hH, rk⟩ := own_dct S1 e3 rv
    obtain ⟨S2, E2, sg⟩ := S1.frz hl hp hH
    exact t2 ρ1 _ H1 S2 E2 _ (.dctK (.inl upd_same) (RepP.mono sg (RepP.of_ks rk e4)))
theorem snd_app {a x : Ex} (iha : SndE Γ B c a) (ihx : SndE Γ B c x) : SndE Γ B c (.app a x) := by
  intro S k Z X g
  refine ⟨fun e h => ?_, fun es h => (by cases h), fun _ _ h => (by cases h)⟩
  obtain ⟨o, apos, y, cpos, rfl, h2, h3, h4, h5, h6⟩ := fMt1_inv (show fMt1 "append" e (okE B a S) (okE B x S) = true from h)
  have p1 := ((iha S k Z X g).1 _ h5).1
  have p2 := ((ihx S k Z X g).1 _ h6).1
  have pa : PA X [y] (tCons (tI Γ Z (ev c x)) tNil) := pa_cons p2 pa_nil (star_of h4 _ _)
  have e2 : ev c (.app a x) = fun ν => (do let w ← ev c a ν; let _ ← chkL w; let x ← ev c x ν; appW w x) := by funext ν; simp [ev]
  refine both rfl (PE.imp (pe_bm PySem.F.plainAttrs_list PySem.F.slot_list_append PySem.F.type_list_append mt_append p1 pa (base_of h2 _ _) (few1 h4) h3 (star_of h4 _ _) rfl) fun σ H Q t => ?_)
  rw [e2] at t
  obtain ⟨ν, η, ρ, G, S', T, t⟩ := t
  refine ⟨ν, η, ρ, G, S', T, Fin.bind t _ fun w ρ1 G1 η1 H1 S1 E1 t1 v rv => ?_⟩
  obtain ⟨n, ws, rfl, e3, t2⟩ := chkL_ok t1
  obtain ⟨p, vs, rfl, hp, hl, hH, rs⟩ := own_lst S1 e3 rv
  refine ⟨.inl ⟨rfl, vs, .inl (.inl hH)⟩, ν, η1, ρ1, G1, S1, T.mono E1.same E1.rho, Fin.bind t2 _ fun w2 ρ2 G2 η2 H2 S2 E2 t3 u ru => ?_⟩
  simp only [appW] at t3
  split at t3
  · rename_i ws2 e4
    split at t3
    · rename_i hz
      obtain ⟨p2, vs2, e5, hp2, hl2, hH2, rs2⟩ := own_lst S2 e4 (v := .ref p) ⟨p, E2.rho _ _ hp, rfl⟩
      cases e5
      obtain ⟨S3, E3⟩ := S2.put hl2 hp2 (rs2.append (.cons ru .nil))
      exact ⟨p, vs2, u, rfl, rfl, hH2, by rw [rs2.length, hsz]; exact hz, t3 _ _ _ S3 E3 _ .non⟩
    · exact t3.elim
  · exact t3.elim
end
end Ip

set_option Elab.async false
set_option linter.all false
set_option maxRecDepth 100000
set_option maxHeartbeats 400000
/-! IpMk: an exception is made. -/
namespace Ip
open PySem PySem.Spec PyProof.Rows L2
section
variable {Γ : Env} {B : Tb} {c : Cfg} {S : SC} {k : Nat} {Z : WX} {X : Cx}
theorem exO_nt {cls : Value} {a : Addr} (ps : Array Value) : ExO cls a ≠ .tbl ps := fun z => by
  unfold ExO at z
  cases z
theorem mkX_ok {q : Nat} {w : W} {Rp : Hp → Rho → W → Hp → Prop} {σ : L2.St} {ρ : Rho} {G : Hp} {η : Hv} {H : Hp} (h : Fin Γ Z Rp σ ρ G η H (mkX c q [w] η)) :
    (c.xi q = none ∧ Fin Γ Z Rp σ ρ G η H (.ok (.d (.exc q [])) η)) ∨ ∃ f x, c.xi q = some f ∧ w = .d x ∧ Fin Γ Z Rp σ ρ G η H (.ok (.d (.exc q [(f, x)])) η) := by
  unfold mkX at h
  simp only at h
  cases e : c.xi q with
  | none => rw [e] at h; exact .inl ⟨rfl, h⟩
  | some f =>
    rw [e] at h
    cases w with
    | d x => exact .inr ⟨f, x, rfl, rfl, h⟩
    | ref n => exact Fin.badE h
    | clo l cs => exact Fin.badE h
/-- the end of a making of an exception with an attribute -/
theorem mkF_end {q : Nat} {f : String} {x : Str} {C : Addr} {ρ1 : Rho} {G1 H1 : Hp} {η1 : Hv} {y : D} {v : V} {σ : L2.St} {Q : VK} (hp : (q, f) ∈ Γ.xi) (hx : Γ.gs[q]? = some x) (hm : Γ.mg x = some (.ref C)) (S1 : Sim Γ ρ1 G1 η1 H1) (rv : Rep Γ G1 y v)
    (t : Fin Γ Z (pW Γ Q) σ ρ1 G1 η1 H1 (.ok (.d (.exc q [(f, y)])) η1)) {d a : Addr} (hd : H1 d = none) (ha : H1 a = none) (hda : d ≠ a) : Q (.ref a) (upd (upd H1 d (.xd [((f : Str), v)])) a (EX (.ref C) (some d) a)) := by
  have sm : Same H1 (upd (upd H1 d (.xd [((f : Str), v)])) a (EX (.ref C) (some d) a)) := fun b o e => by
    rw [upd_ne (ne_of_none e ha), upd_ne (ne_of_none e hd)]; exact e
  refine t ρ1 _ _ (S1.grow sm) (Ext.grow S1 sm) _ (Rep.excF hp hx hm (a := a) (d := d) ?_ ?_ (Rep.mono (grow_same S1.same) rv))
  · rw [grow_new ha, upd_same]
    exact flt_some (ex_ne_tbl)
  · rw [grow_new hd, upd_ne hda, upd_same]
    exact flt_some (fun _ z => by cases z)
theorem snd_mk (hB1 : Γ.gs = B.gs) (hB4 : Γ.pl = B.pl) (hB5 : Γ.xi = B.xi) {q : Nat} {es : Ex} (ih : SndE Γ B c es) : SndE Γ B c (.mk q es) := by
  intro S k Z X g
  refine ⟨fun e h => ?_, fun es h => (by cases h), fun _ _ h => (by cases h)⟩
  have h : (fMk B S q e (okL B es S) || fMx B S q e (okL B es S)) = true := h
  rw [Bool.or_eq_true] at h
  have e2 : ∀ (a : Ex) ν, ev c (.mk q (.cons a .nil)) ν = (do let x ← ev c a ν; mkX c q [x]) := fun a ν => by simp [ev, evl]
  rcases h with h | h
  · obtain ⟨x, y, p, pos, rfl, h1, h2, h3, h4, h5⟩ := fMk_inv h
    simp only [SC.glb, Bool.and_eq_true] at h3
    rw [← hB1] at h1
    rw [← hB4] at h2
    obtain ⟨a, rfl, pa⟩ := ((ih S k Z X g).2.1 _ h5).one
    obtain ⟨C, bmB, bs, n1, n2, f1, f2, f3, f4, f5, f6, f7⟩ := g.fns.fx.cls _ _ h2 h1
    refine both rfl (PE.imp (pe_exc1 f2 (by rw [g.K]; exact f3) (by rw [g.mg]; exact f1) (by rw [g.K]; exact f4) (g.gl h3.1) pa (star_of h4 _ _) (nodbg_ok h3.2).1) fun σ H Q t => ?_)
    obtain ⟨ν, η, ρ, G, Sm, T, t⟩ := t
    rw [e2] at t
    refine ⟨ν, η, ρ, G, Sm, T, Fin.bind t _ fun w ρ1 G1 η1 H1 S1 E1 t1 v rv ad hn => ?_⟩
    rcases mkX_ok t1 with ⟨hq, t1⟩ | ⟨f, z, hq, rfl, t1⟩
    · exact t1 ρ1 _ _ (S1.grow (same_upd hn)) (Ext.grow S1 (same_upd hn)) _ (Rep.exc h2 h1 f1 (.inr (grow_up hn exO_nt)))
    · rw [g.fns.fx.xip q h2] at hq; cases hq
  · obtain ⟨x, y, p, pos, f, rfl, h1, h2, h3, h4, h5⟩ := fMx_inv h
    simp only [SC.glb, Bool.and_eq_true] at h3
    rw [← hB1] at h1
    rw [← hB5] at h2
    obtain ⟨a, rfl, pa⟩ := ((ih S k Z X g).2.1 _ h5).one
    obtain ⟨C, fI, fd, f1, f2, f3, f4, f5, f6, f7⟩ := g.fns.fx.xcl _ _ _ h2 h1
    refine both rfl (PE.imp (pe_xi (k := k + 1) (by rw [g.K, g.P]; exact f2) (by rw [g.K]; exact f3) (by rw [g.K]; exact f4) (by rw [g.K]; exact f5) (g.blt (by decide +kernel)) (by rw [g.P]; exact g.fns.fx.top (fun z => by rw [z] at h2; cases h2)) g.room4 (g.gl h3.1) (by rw [g.mg]; exact f1) pa (star_of h4 _ _) (nodbg_ok h3.2).1) fun σ H Q t => ?_)
    obtain ⟨ν, η, ρ, G, Sm, T, t⟩ := t
    rw [e2] at t
    refine ⟨ν, η, ρ, G, Sm, T, Fin.bind t _ fun w ρ1 G1 η1 H1 S1 E1 t1 v rv d ad hd hn hda => ?_⟩
    rcases mkX_ok t1 with ⟨hq, t1⟩ | ⟨f', z, hq, rfl, t1⟩
    · rw [g.fns.fx.xif q f h2] at hq; cases hq
    · rw [g.fns.fx.xif q f h2] at hq
      cases hq
      exact mkF_end h2 h1 f1 S1 rv t1 hd hn hda
theorem snd_mkk (hB1 : Γ.gs = B.gs) (hB5 : Γ.xi = B.xi) {q : Nat} {a : Ex} (ih : SndE Γ B c a) : SndE Γ B c (.mkk q a) := by
  intro S k Z X g
  refine ⟨fun e h => ?_, fun es h => (by cases h), fun _ _ h => (by cases h)⟩
  obtain ⟨x, y, p, pos, f, kp, rfl, h1, h2, h3, h5⟩ := fMkk_inv (show fMkk B S q e (okE B a S) = true from h)
  simp only [SC.glb, Bool.and_eq_true] at h3
  rw [← hB1] at h1
  rw [← hB5] at h2
  obtain ⟨C, fI, fd, f1, f2, f3, f4, f5, f6, f7⟩ := g.fns.fx.xcl _ _ _ h2 h1
  refine both rfl (PE.imp (pe_xik (k := k + 1) (by rw [g.K, g.P]; exact f2) (by rw [g.K]; exact f3) (by rw [g.K]; exact f4) (by rw [g.K]; exact f5) (g.blt (by decide +kernel)) (by rw [g.P]; exact g.fns.fx.top (fun z => by rw [z] at h2; cases h2)) g.room4 (g.gl h3.1) (by rw [g.mg]; exact f1) ((ih S k Z X g).1 _ h5).1 (nodbg_ok h3.2).1) fun σ H Q t => ?_)
  obtain ⟨ν, η, ρ, G, Sm, T, t⟩ := t
  have e2 : ev c (.mkk q a) ν = (do let x ← ev c a ν; mkX c q [x]) := by simp [ev]
  rw [e2] at t
  refine ⟨ν, η, ρ, G, Sm, T, Fin.bind t _ fun w ρ1 G1 η1 H1 S1 E1 t1 v rv d ad hd hn hda => ?_⟩
  rcases mkX_ok t1 with ⟨hq, t1⟩ | ⟨f', z, hq, rfl, t1⟩
  · rw [g.fns.fx.xif q f h2] at hq; cases hq
  · rw [g.fns.fx.xif q f h2] at hq
    cases hq
    exact mkF_end h2 h1 f1 S1 rv t1 hd hn hda
end
end Ip

set_option Elab.async false
set_option linter.all false
set_option maxRecDepth 100000
set_option maxHeartbeats 400000
/-! IpIt: what is walked. -/
namespace Ip
open PySem PySem.Spec PyProof.Rows L2

/-- a walk that gives the items its while C stands -/
structure Wlk (Γ : Env) (C : Hp → Rho → Hp → Prop) (its : List W) (J : It) : Prop where
  goes : ∀ i G ρ H, i < its.length → Same G H → C G ρ H → J.go i H
  stops : ∀ G ρ H, Same G H → C G ρ H → J.stop its.length H
  yields : ∀ i G ρ H x H', i < its.length → Same G H → C G ρ H → J.yld i H x H' → ∃ w, its[i]? = some w ∧ Same H H' ∧ RepW Γ (grow G H H') ρ w x
/-- the arguments read as they did -/
def CS (Γ : Env) (vs : List V) : Snap → Hp → Rho → Hp → Prop
  | .ds ds => fun G _ H => RepAs Γ G H ds vs
  | .ws ws => fun G ρ H => ∃ a us, vs = [.ref a] ∧ H a = some (.lst us) ∧ RepWs Γ G ρ ws us
section
variable {Γ : Env} {c : Cfg} {S : SC} {k : Nat} {Z : WX} {X : Cx} {ρ : Rho} {G H : Hp} {η : Hv}
theorem snap_ok {ik : Ik} {ws : List W} {vs : List V} {sn : Snap} (Sm : Sim Γ ρ G η H) (r : RepWs Γ G ρ ws vs) (e : snap ik ws η = some sn) : CS Γ vs sn G ρ H := by
  have data : (rdWs η ws).map Snap.ds = some sn → CS Γ vs sn G ρ H := fun e => by
    cases q : rdWs η ws with
    | none => rw [q] at e; cases e
    | some ds => rw [q] at e; cases e; exact RepWs.read Sm r q
  by_cases hk : ik = .raw
  · subst hk
    unfold snap at e
    simp only at e
    split at e
    · rename_i n
      cases q : η[n]? with
      | none => rw [q] at e; cases e
      | some o =>
        rw [q] at e
        cases o with
        | lst us =>
          cases e
          cases r with
          | cons r1 r2 =>
            cases r2
            obtain ⟨p, xs, rfl, hp, hl, hH, rs⟩ := own_lst Sm q r1
            exact ⟨p, xs, rfl, hH, rs⟩
        | dead => cases e
        | dct _ => cases e
        | cel _ => cases e
    · cases e
  · refine data ?_
    cases ik <;> first | exact absurd rfl hk | exact e
/-- an iterable's reading -/
def itM (ik : Ik) (fs : List (Option W) → M (List W)) (ν : List (Option W)) : M (List W × Snap × List W) := do
  let ws ← fs ν
  let sn ← snapM ik ws
  let its ← ofO (itS ik sn)
  Pure.pure (ws, sn, its)
def tIt (Γ : Env) (Z : WX) (ik : Ik) (fs : List (Option W) → M (List W)) : TI := fun σ H R => ∃ ν η ρ G, Sim Γ ρ G η H ∧ Slots Γ G ρ ν σ ∧
  Fin Γ Z (fun G1 ρ1 q H1 => ∀ vs, RepWs Γ G1 ρ1 q.1 vs → CS Γ vs q.2.1 G1 ρ1 H1 → ∀ J, Wlk Γ (CS Γ vs q.2.1) q.2.2 J → R J H1) σ ρ G η H (itM ik fs ν η)
/-- behind the arguments -/
theorem itM_ok {ik : Ik} {fs : List (Option W) → M (List W)} {ν : List (Option W)} {σ : L2.St} {R : List W × Snap × List W → Hp → Rho → Hp → Prop} (h : Fin Γ Z (fun G1 ρ1 q H1 => R q G1 ρ1 H1) σ ρ G η H (itM ik fs ν η)) :
    Fin Γ Z (fun G1 ρ1 ws H1 => ∃ η1 sn its, Sim Γ ρ1 G1 η1 H1 ∧ snap ik ws η1 = some sn ∧ itS ik sn = some its ∧ R (ws, sn, its) G1 ρ1 H1) σ ρ G η H (fs ν η) := by
  unfold itM at h
  refine Fin.bind h _ fun ws ρ1 G1 η1 H1 S1 E1 h1 => ?_
  rw [M.bind_ap] at h1
  cases e : snap ik ws η1 with
  | none =>
    have e' : snapM ik ws η1 = .bad := by unfold snapM; rw [e]
    rw [e'] at h1
    exact Fin.badE h1
  | some sn =>
    have e' : snapM ik ws η1 = .ok sn η1 := by unfold snapM; rw [e]
    rw [e'] at h1
    simp only at h1
    rw [M.bind_ap] at h1
    cases e2 : itS ik sn with
    | none => rw [e2] at h1; exact Fin.badE h1
    | some its =>
      rw [e2] at h1
      exact ⟨η1, sn, its, S1, e, e2, h1 ρ1 G1 H1 S1 (Ext.refl _ _ _ _)⟩

/-! ### the walks -/
theorem wlk_lst {K : PySem.W.Frag} {a : Addr} {xs : List D} (hK : K = Γ.K) : Wlk Γ (CS Γ [.ref a] (.ds [.lst xs])) (xs.map W.d) (Itl K a) := by
  have get : ∀ {G H : Hp}, Same G H → RepAs Γ G H [.lst xs] [.ref a] → ∃ vs, SqL K H a vs ∧ RepL Γ G xs vs := fun {G H} hs r => by
    obtain ⟨v, e, r1⟩ := r.one
    cases e
    obtain ⟨b, vs, e2, h1, h2⟩ := r1.isLst hs
    cases e2
    exact ⟨vs, .inl h1, h2⟩
  refine ⟨fun i G ρ H hi hs r => ?_, fun G ρ H hs r => ?_, fun i G ρ H x H' hi hs r y => ?_⟩
  · obtain ⟨vs, h1, h2⟩ := get hs r
    have hl := h2.length
    rw [List.length_map] at hi
    exact ⟨vs, vs[i]'(by omega), h1, by simp [show i < vs.length by omega]⟩
  · obtain ⟨vs, h1, h2⟩ := get hs r
    exact ⟨vs, h1, by rw [List.length_map, h2.length]; exact Nat.le_refl _⟩
  · obtain ⟨vs, h1, h2⟩ := get hs r
    obtain ⟨rfl, y2⟩ := y
    have y3 := y2 vs h1
    rw [List.length_map] at hi
    obtain ⟨v, h3, h4⟩ := h2.get (i := i) (x := xs[i]) (by simp [hi])
    rw [y3] at h3
    cases h3
    refine ⟨.d xs[i], by simp [hi], Same.refl _, ?_⟩
    exact RepW.mono (grow_same hs) (fun _ _ q => q) h4
theorem wlk_tup {K : PySem.W.Frag} {a : Addr} {xs : List D} (hK : K = Γ.K) : Wlk Γ (CS Γ [.ref a] (.ds [.tup xs])) (xs.map W.d) (Itt K a) := by
  have get : ∀ {G H : Hp}, Same G H → RepAs Γ G H [.tup xs] [.ref a] → ∃ vs, SqT K H a vs ∧ RepL Γ G xs vs := fun {G H} hs r => by
    obtain ⟨v, e, r1⟩ := r.one
    cases e
    obtain ⟨b, vs, e2, h1, h2⟩ := r1.tup
    cases e2
    exact ⟨vs, by rw [hK]; exact Same.sqT hs h1, h2⟩
  refine ⟨fun i G ρ H hi hs r => ?_, fun G ρ H hs r => ?_, fun i G ρ H x H' hi hs r y => ?_⟩
  · obtain ⟨vs, h1, h2⟩ := get hs r
    have hl := h2.length
    rw [List.length_map] at hi
    exact ⟨vs, vs[i]'(by omega), h1, by simp [show i < vs.length by omega]⟩
  · obtain ⟨vs, h1, h2⟩ := get hs r
    exact ⟨vs, h1, by rw [List.length_map, h2.length]; exact Nat.le_refl _⟩
  · obtain ⟨vs, h1, h2⟩ := get hs r
    obtain ⟨rfl, y2⟩ := y
    have y3 := y2 vs h1
    rw [List.length_map] at hi
    obtain ⟨v, h3, h4⟩ := h2.get (i := i) (x := xs[i]) (by simp [hi])
    rw [y3] at h3
    cases h3
    refine ⟨.d xs[i], by simp [hi], Same.refl _, ?_⟩
    exact RepW.mono (grow_same hs) (fun _ _ q => q) h4
theorem RepWs.get {G : Hp} {ρ : Rho} : ∀ {xs : List W} {vs : List V} {i : Nat} {x : W}, RepWs Γ G ρ xs vs → xs[i]? = some x → ∃ v, vs[i]? = some v ∧ RepW Γ G ρ x v
  | _, _, _, _, .nil, e => by simp at e
  | _, _, 0, _, .cons h _, e => by simp at e; subst e; exact ⟨_, rfl, h⟩
  | _, _, i + 1, _, .cons _ r, e => by
    obtain ⟨v, h1, h2⟩ := RepWs.get (i := i) r (by simpa using e)
    exact ⟨v, by simpa using h1, h2⟩
theorem wlk_raw {K : PySem.W.Frag} {a : Addr} {ws : List W} : Wlk Γ (CS Γ [.ref a] (.ws ws)) ws (Itl K a) := by
  have get : ∀ {G H : Hp} {ρ : Rho}, CS Γ [.ref a] (.ws ws) G ρ H → ∃ vs, SqL K H a vs ∧ RepWs Γ G ρ ws vs := fun {G H ρ} ⟨b, us, e, h1, h2⟩ => by
    cases e
    exact ⟨us, .of h1, h2⟩
  refine ⟨fun i G ρ H hi hs r => ?_, fun G ρ H hs r => ?_, fun i G ρ H x H' hi hs r y => ?_⟩
  · obtain ⟨vs, h1, h2⟩ := get r
    have hl := h2.length
    exact ⟨vs, vs[i]'(by omega), h1, by simp [show i < vs.length by omega]⟩
  · obtain ⟨vs, h1, h2⟩ := get r
    exact ⟨vs, h1, by rw [h2.length]; exact Nat.le_refl _⟩
  · obtain ⟨vs, h1, h2⟩ := get r
    obtain ⟨rfl, y2⟩ := y
    have y3 := y2 vs h1
    obtain ⟨v, h3, h4⟩ := RepWs.get (i := i) (x := ws[i]) h2 (by simp [hi])
    rw [y3] at h3
    cases h3
    refine ⟨ws[i], by simp [hi], Same.refl _, ?_⟩
    exact RepW.mono (grow_same hs) (fun _ _ q => q) h4
theorem wlk_rng {C : Hp → Rho → Hp → Prop} {lo hi : Int} : Wlk Γ C ((rngD lo hi).map W.d) (Itr lo (hi - lo).toNat) := by
  have hl : ((rngD lo hi).map W.d).length = (hi - lo).toNat := by simp [rngD]
  refine ⟨fun i G ρ H h _ _ => by rw [hl] at h; exact h, fun G ρ H _ _ => by rw [hl]; exact Nat.le_refl _, fun i G ρ H x H' h hs _ y => ?_⟩
  obtain ⟨rfl, rfl⟩ := y
  rw [hl] at h
  refine ⟨.d (.int (lo + (i : Int))), by simp [rngD, h], Same.refl _, .int _⟩

/-! ### iterables -/
theorem itl_pi {pins : List (Addr × Obj)} {σ : L2.St} {s1 : Shared} {tg : Expr} {R : It → Hp → Prop} {H1 : Hp} {a : Addr} {xs : List V} {E : Value → Shared → Prop} (I1 : Inv X pins σ H1 s1) (hq : SqL X.K H1 a xs) (q : R (Itl X.K a) H1) :
    wpAny (model X.prog X.w) X.A (pyIter (.ref a)) (PIE X pins σ tg R) E s1 := by
  obtain ⟨its, rv, p, hz⟩ := I1.list hq
  refine wpAny_pyIter_list p.isList ?_
  refine ⟨s1.heap.objs.size, [s1.heap.objs.size], _, _, H1, rfl, I1.kept (t' := s1.toks) fun b o e => Heap.get?_push_of_some _ e, turn_list a _, ⟨_, Heap.get?_push_size _ rfl, rfl, rfl⟩, fun b hb => ?_, q⟩
  have e : b = s1.heap.objs.size := by simpa using hb
  subst e
  exact I1.fpOk (Nat.le_refl _) (I1.hok.fresh (Nat.le_refl _))
theorem itt_pi {pins : List (Addr × Obj)} {σ : L2.St} {s1 : Shared} {tg : Expr} {R : It → Hp → Prop} {H1 : Hp} {a : Addr} {xs : List V} {E : Value → Shared → Prop} (I1 : Inv X pins σ H1 s1) (hq : SqT X.K H1 a xs) (q : R (Itt X.K a) H1) :
    wpAny (model X.prog X.w) X.A (pyIter (.ref a)) (PIE X pins σ tg R) E s1 := by
  obtain ⟨its, rv, p, hz⟩ := I1.tuple hq
  refine wpAny_pyIter_tuple (show s1.heap.IsTuple a its.toArray from p) ?_
  refine ⟨s1.heap.objs.size, [s1.heap.objs.size], _, _, H1, rfl, I1.kept (t' := s1.toks) fun b o e => Heap.get?_push_of_some _ e, turn_tuple a _, ⟨_, Heap.get?_push_size _ rfl, rfl, rfl⟩, fun b hb => ?_, q⟩
  have e : b = s1.heap.objs.size := by simpa using hb
  subst e
  exact I1.fpOk (Nat.le_refl _) (I1.hok.fresh (Nat.le_refl _))
theorem rng_pi {pins : List (Addr × Obj)} {σ : L2.St} {s1 : Shared} {tg : Expr} {R : It → Hp → Prop} {H1 : Hp} {a : Addr} {lo hi : Int} {E : Value → Shared → Prop} (I1 : Inv X pins σ H1 s1) (hq : H1 a = some (.rng lo hi)) (h1 : -(2 ^ 62) ≤ lo) (h2 : lo < 2 ^ 62) (h3 : -(2 ^ 62) ≤ hi) (h4 : hi < 2 ^ 62) (q : R (Itr lo (hi - lo).toNat) H1) :
    wpAny (model X.prog X.w) X.A (pyIter (.ref a)) (PIE X pins σ tg R) E s1 := by
  obtain ⟨t, u, v, e⟩ := I1.hok a _ hq
  refine wpAny_pyIter_range (show IsRange s1.heap a lo hi 1 t u v from e) (small_one h1 h2 h3 h4) ?_
  refine ⟨s1.heap.objs.size, [s1.heap.objs.size], _, _, H1, rfl, I1.kept (t' := s1.toks) fun b o e => Heap.get?_push_of_some _ e, turn_range _ lo (hi - lo).toNat, ?_, fun b hb => ?_, q⟩
  · have e1 : lo + ((0 : Nat) : Int) * 1 = lo := by simp
    have e2 : (((hi - lo).toNat : Nat) : Int) - ((0 : Nat) : Int) = Builtin.Range.rangeSize lo hi 1 := by rw [rangeSize_one]; split <;> omega
    show IsRangeIter _ _ (lo + ((0 : Nat) : Int) * 1) ((((hi - lo).toNat : Nat) : Int) - ((0 : Nat) : Int)) 1
    rw [e1, e2]
    exact Heap.get?_push_size _ rfl
  · have e : b = s1.heap.objs.size := by simpa using hb
    subst e
    exact I1.fpOk (Nat.le_refl _) (I1.hok.fresh (Nat.le_refl _))
theorem PI.imp {tg e : Expr} {t t' : TI} (h : PI X tg e t) (kk : ∀ σ H R, t' σ H R → t σ H R) : PI X tg e t' := ⟨fun pins s σ H R I q => h.run pins s σ H R I (kk σ H R q)⟩
theorem evl_one {a : Ex} : evl c (.cons a .nil) = fun ν => (do let x ← ev c a ν; Pure.pure [x]) := by funext ν; simp [evl]
theorem small_ok {i : Int} (h : small62 i = true) : -(2 ^ 62) ≤ i ∧ i < 2 ^ 62 := by
  simpa [small62] using h
theorem pi_plain {tg e : Expr} {a : Ex} (g : Gd Γ c S k Z X) (h : PE X e (tI Γ Z (ev c a))) : PI X tg e (tIt Γ Z .plain (evl c (.cons a .nil))) := by
  refine ⟨fun pins s σ H R I t => ?_⟩
  obtain ⟨ν, η, ρ, G, S', T, t⟩ := t
  have t2 := itM_ok t
  rw [evl_one] at t2
  have t3 : tI Γ Z (ev c a) σ H fun x H1 => ∃ p, x = .ref p ∧ ((∃ xs, SqL X.K H1 p xs ∧ R (Itl X.K p) H1) ∨ (∃ xs, SqT X.K H1 p xs ∧ R (Itt X.K p) H1) ∨ (∃ lo hi, H1 p = some (.rng lo hi) ∧ (-(2 ^ 62) ≤ lo ∧ lo < 2 ^ 62 ∧ -(2 ^ 62) ≤ hi ∧ hi < 2 ^ 62) ∧ R (Itr lo (hi - lo).toNat) H1)) := by
    refine ⟨ν, η, ρ, G, S', T, Fin.bind t2 _ fun w ρ1 G1 η1 H1 S1 E1 t4 v rv => ?_⟩
    obtain ⟨η2, sn, its, S2, e1, e2, q⟩ := t4 ρ1 G1 H1 S1 (Ext.refl _ _ _ _)
    have r1 : RepWs Γ G1 ρ1 [w] [v] := .cons rv .nil
    have cs := snap_ok S2 r1 e1
    have e1' : (rdWs η2 [w]).map Snap.ds = some sn := e1
    cases e3 : rdWs η2 [w] with
    | none => rw [e3] at e1'; cases e1'
    | some ds =>
      rw [e3] at e1'
      cases e1'
      obtain ⟨d, rfl, r2⟩ := rd_one e3
      have ra := rv.read S2 r2
      simp only [itS] at e2
      cases d <;> first | (simp [itD] at e2; done) | skip
      · rename_i xs
        cases e2
        obtain ⟨p, vs, rfl, h1, h2⟩ := ra.tup
        exact ⟨p, rfl, .inr (.inl ⟨vs, by rw [g.K]; exact Same.sqT S1.same h1, q [.ref p] r1 cs _ (wlk_tup g.K)⟩)⟩
      · rename_i xs
        cases e2
        obtain ⟨p, vs, rfl, h1, h2⟩ := ra.isLst S1.same
        exact ⟨p, rfl, .inl ⟨vs, .inl h1, q [.ref p] r1 cs _ (wlk_lst g.K)⟩⟩
      · rename_i lo hi
        simp only [itD] at e2
        split at e2
        · rename_i hj
          cases e2
          rw [Bool.and_eq_true] at hj
          obtain ⟨b1, b2⟩ := small_ok hj.1
          obtain ⟨b3, b4⟩ := small_ok hj.2
          obtain ⟨p, rfl, h1⟩ := ra.isRng
          exact ⟨p, rfl, .inr (.inr ⟨lo, hi, S1.same p _ h1, ⟨b1, b2, b3, b4⟩, q [.ref p] r1 cs _ wlk_rng⟩)⟩
        · cases e2
  refine thn (h.run pins s σ H _ I t3) fun v s1 ⟨x, H1, I1, r1, q1⟩ => ?_
  obtain ⟨p, rfl, q1⟩ := q1
  cases r1
  rcases q1 with ⟨xs, h1, h2⟩ | ⟨xs, h1, h2⟩ | ⟨lo, hi, h1, ⟨b1, b2, b3, b4⟩, h2⟩
  · exact itl_pi I1 h1 h2
  · exact itt_pi I1 h1 h2
  · exact rng_pi I1 h1 b1 b2 b3 b4 h2
theorem pi_raw {tg e : Expr} {a : Ex} (g : Gd Γ c S k Z X) (h : PE X e (tI Γ Z (ev c a))) : PI X tg e (tIt Γ Z .raw (evl c (.cons a .nil))) := by
  refine ⟨fun pins s σ H R I t => ?_⟩
  obtain ⟨ν, η, ρ, G, S', T, t⟩ := t
  have t2 := itM_ok t
  rw [evl_one] at t2
  have t3 : tI Γ Z (ev c a) σ H fun x H1 => ∃ p xs, x = .ref p ∧ SqL X.K H1 p xs ∧ R (Itl X.K p) H1 := by
    refine ⟨ν, η, ρ, G, S', T, Fin.bind t2 _ fun w ρ1 G1 η1 H1 S1 E1 t4 v rv => ?_⟩
    obtain ⟨η2, sn, its, S2, e1, e2, q⟩ := t4 ρ1 G1 H1 S1 (Ext.refl _ _ _ _)
    have r1 : RepWs Γ G1 ρ1 [w] [v] := .cons rv .nil
    have cs := snap_ok S2 r1 e1
    cases sn with
    | ds ds =>
      exfalso
      unfold snap at e1
      simp only at e1
      split at e1
      · split at e1 <;> cases e1
      · cases e1
    | ws us =>
      cases e2
      obtain ⟨p, xs, e3, hp, rs⟩ := id cs
      cases e3
      exact ⟨p, xs, rfl, .of hp, q [.ref p] r1 cs _ wlk_raw⟩
  refine thn (h.run pins s σ H _ I t3) fun v s1 ⟨x, H1, I1, r1, q1⟩ => ?_
  obtain ⟨p, xs, rfl, h1, h2⟩ := q1
  cases r1
  exact itl_pi I1 h1 h2
theorem pi_rng {tg : Expr} {as : List Expr} {x : Ex} {p pos : Pos} (g : Gd Γ c S k Z X) (hg : S.gl "range" = true) (h : AllE Γ c Z X x as) (hl : as.length = 1 ∨ as.length = 2) : PI X tg (.Call (.Name "range" p) as [] pos) (tIt Γ Z .range (evl c x)) := by
  have core : ∀ σ H R, tIt Γ Z .range (evl c x) σ H R → tA Γ Z (evl c x) σ H fun vs H1 => (∃ j, vs = [.int j] ∧ -(2 ^ 62) ≤ j ∧ j < 2 ^ 62 ∧ R (Itr 0 j.toNat) H1) ∨ (∃ i j, vs = [.int i, .int j] ∧ (-(2 ^ 62) ≤ i ∧ i < 2 ^ 62 ∧ -(2 ^ 62) ≤ j ∧ j < 2 ^ 62) ∧ R (Itr i (j - i).toNat) H1) := by
    intro σ H R t
    obtain ⟨ν, η, ρ, G, S', T, t⟩ := t
    refine ⟨ν, η, ρ, G, S', T, (itM_ok t).imp fun G1 ρ1 ws H1 q vs rs => ?_⟩
    obtain ⟨η2, sn, its, S2, e1, e2, q⟩ := q
    have cs := snap_ok S2 rs e1
    have e1' : (rdWs η2 ws).map Snap.ds = some sn := e1
    cases e3 : rdWs η2 ws with
    | none => rw [e3] at e1'; cases e1'
    | some ds =>
      rw [e3] at e1'
      cases e1'
      have ra := RepWs.read S2 rs e3
      simp only [itS] at e2
      rcases ds with _ | ⟨d, _ | ⟨d2, _ | ⟨d3, ds⟩⟩⟩
      · simp [itD] at e2
      · cases d <;> first | (simp [itD] at e2; done) | skip
        rename_i j
        simp only [itD] at e2
        split at e2
        · rename_i hj
          cases e2
          obtain ⟨v, rfl, r1⟩ := ra.one
          rw [r1.int] at rs cs ⊢
          obtain ⟨b1, b2⟩ := small_ok hj
          refine .inl ⟨j, rfl, b1, b2, ?_⟩
          have := q _ rs cs (Itr 0 (j - 0).toNat) wlk_rng
          rwa [Int.sub_zero] at this
        · cases e2
      · cases d <;> cases d2 <;> first | (simp [itD] at e2; done) | skip
        rename_i i j
        simp only [itD] at e2
        split at e2
        · rename_i hj
          cases e2
          rw [Bool.and_eq_true] at hj
          obtain ⟨v, u, rfl, r1, r2⟩ := ra.two
          rw [r1.int, r2.int] at rs cs ⊢
          obtain ⟨b1, b2⟩ := small_ok hj.1
          obtain ⟨b3, b4⟩ := small_ok hj.2
          exact .inr ⟨i, j, rfl, ⟨b1, b2, b3, b4⟩, q _ rs cs _ wlk_rng⟩
        · cases e2
      · simp [itD] at e2
  have st := h.stars
  have hpa := AllE.pa h
  rcases as with _ | ⟨a, _ | ⟨b, _ | ⟨d, as⟩⟩⟩
  · simp at hl
  · simp only [List.all_cons, Bool.and_eq_true] at st
    refine PI.imp (pi_range1 (g.gl hg) (g.blt (by decide +kernel)) hpa (star_of st.1 _ _)) fun σ H R t => ?_
    obtain ⟨ν, η, ρ, G, S', T, t⟩ := core σ H R t
    refine ⟨ν, η, ρ, G, S', T, Fin.imp' t fun w η1 e G1 ρ1 H1 q vs rs => ?_⟩
    rcases q vs rs with q | ⟨i, j, e2, _⟩
    · exact q
    · exfalso
      have := rs.length
      rw [h.len _ _ _ _ e, e2] at this
      simp at this
  · simp only [List.all_cons, Bool.and_eq_true] at st
    refine PI.imp (pi_range2 (g.gl hg) (g.blt (by decide +kernel)) hpa (by rw [star_of st.1, star_of st.2.1]; rfl) (by rw [star_of st.2.1]; rfl)) fun σ H R t => ?_
    obtain ⟨ν, η, ρ, G, S', T, t⟩ := core σ H R t
    refine ⟨ν, η, ρ, G, S', T, Fin.imp' t fun w η1 e G1 ρ1 H1 q vs rs => ?_⟩
    rcases q vs rs with ⟨j, e2, _⟩ | q
    · exfalso
      have := rs.length
      rw [h.len _ _ _ _ e, e2] at this
      simp at this
    · exact q
  · simp at hl
end
end Ip

set_option Elab.async false
set_option linter.all false
set_option maxRecDepth 100000
set_option maxHeartbeats 400000
/-! IpCk: a def called by names. -/
namespace Ip
open PySem PySem.Spec PyProof.Rows L2
section
variable {Γ : Env} {B : Tb} {c : Cfg} {S : SC} {k : Nat} {Z : WX} {X : Cx}
theorem kw_all {env : PySem.Env} {pos : Pos} : ∀ {kws : List Keyword} {ks : List Str}, kwNm kws = some ks → (backToKw pos (keywordEach kws env)).all (·.1.isSome) = true ∧ (backToKw pos (keywordEach kws env)).filterMap (·.1) = ks ∧ (backToKw pos (keywordEach kws env)).any (·.1.isNone) = false
  | [], ks, h => by
    cases h
    exact ⟨rfl, rfl, rfl⟩
  | ⟨none, v, p⟩ :: r, ks, h => by cases h
  | ⟨some n, v, p⟩ :: r, ks, h => by
    unfold kwNm at h
    cases e : kwNm r with
    | none => rw [e] at h; cases h
    | some ks' =>
      rw [e] at h
      cases h
      obtain ⟨h1, h2, h3⟩ := kw_all (env := env) (pos := pos) e
      unfold backToKw at h1 h2 h3 ⊢
      unfold keywordEach
      simp only [List.map_cons, List.all_cons, List.any_cons, List.filterMap_cons, Option.isSome_some, Option.isNone_some, Bool.true_and, Bool.false_or]
      exact ⟨h1, by rw [h2], h3⟩
theorem AllE.pk : ∀ {xs : Ex} {kws : List Keyword}, AllE Γ c Z X xs (kws.map (·.value)) → PK X kws (tA Γ Z (evl c xs))
  | .nil, [], _ => ⟨fun pos pins s σ H Q I h => pk_nil.run pos pins s σ H Q I (tA_nil (by simpa only [evl] using h))⟩
  | .cons a r, ⟨nm, v, p⟩ :: kws, h => by
    obtain ⟨h1, h2, h3⟩ := h
    refine ⟨fun pos pins s σ H Q I t => (pk_cons (nm := nm) (kpos := p) h2 (AllE.pk h3)).run pos pins s σ H Q I (tA_cons (by simpa only [evl] using t))⟩
theorem perm_rep {G : Hp} {ρ : Rho} {ws : List W} {vs : List V} (r : RepWs Γ G ρ ws vs) : ∀ {pm : List Nat} {us : List W}, permW pm ws = some us → ∃ vs', permL pm vs = some vs' ∧ RepWs Γ G ρ us vs'
  | [], us, h => by
    cases h
    exact ⟨[], rfl, .nil⟩
  | i :: pm, us, h => by
    unfold permW at h
    cases e : ws[i]? with
    | none => rw [e] at h; cases h
    | some w =>
      rw [e] at h
      simp only at h
      cases e2 : permW pm ws with
      | none => rw [e2] at h; cases h
      | some us' =>
        rw [e2] at h
        cases h
        obtain ⟨v, h1, h2⟩ := RepWs.get r e
        obtain ⟨vs', h3, h4⟩ := perm_rep r e2
        refine ⟨v :: vs', ?_, .cons h2 h4⟩
        unfold permL
        rw [h1]
        simp only [h3]
        rfl
theorem perm_vals {vs : List V} {us : List Value} (r : Vals vs us) : ∀ {pm : List Nat} {vs' : List V}, permL pm vs = some vs' → ∃ us', permL pm us = some us' ∧ Vals vs' us'
  | [], vs', h => by
    cases h
    exact ⟨[], rfl, .nil⟩
  | i :: pm, vs', h => by
    unfold permL at h
    cases e : vs[i]? with
    | none => rw [e] at h; cases h
    | some w =>
      rw [e] at h
      simp only at h
      cases e2 : permL pm vs with
      | none => rw [e2] at h; cases h
      | some vs2 =>
        rw [e2] at h
        cases h
        obtain ⟨u, h1, h2⟩ := r.get e
        obtain ⟨us', h3, h4⟩ := perm_vals r e2
        refine ⟨u :: us', ?_, .cons h2 h4⟩
        unfold permL
        rw [h1]
        simp only [h3]
        rfl
theorem permW_len {ws : List W} : ∀ {pm : List Nat} {us : List W}, permW pm ws = some us → us.length = pm.length
  | [], us, h => by cases h; rfl
  | i :: pm, us, h => by
    unfold permW at h
    cases e : ws[i]? with
    | none => rw [e] at h; cases h
    | some w =>
      rw [e] at h
      simp only at h
      cases e2 : permW pm ws with
      | none => rw [e2] at h; cases h
      | some us' =>
        rw [e2] at h
        cases h
        simp [permW_len e2]
theorem snd_callk (hB1 : Γ.ft = B.ft) (hB6 : Γ.kw = B.kw) {md f n : Nat} {pm : List Nat} {es : Ex} (ih : SndE Γ B c es) : SndE Γ B c (.callk md f n pm es) := by
  intro S k Z X g
  refine ⟨fun e h => ?_, fun es h => (by cases h), fun _ _ h => (by cases h)⟩
  obtain ⟨x, p, kws, pos, ks, rfl, h1, h2, h3, h3b, h4, h5, h6⟩ := fCallk_inv (show fCallk B S f n pm e (okL B es S) = true from h)
  rw [← hB1] at h1
  rw [← hB6] at h4
  have A := (ih S k Z X g).2.1 _ h6
  obtain ⟨fa, fd, ps, hl, hm, hk, hb, hkw, hF⟩ := g.fns.run f x _ h1
  simp only [SC.glb, Bool.and_eq_true] at h5
  have F := hF md
  rw [← g.P, ← g.w, ← g.K, ← g.mg, ← g.base] at F
  rw [← g.mg] at hm
  rw [← g.K] at hk hkw
  obtain ⟨k1, k2, k3⟩ := kw_all (env := X.env) (pos := pos) h2
  refine both rfl ⟨fun pins s σ H Q I t => ?_⟩
  have e2 : ev c (.callk md f n pm es) = fun ν => (do let ws ← evl c es ν; let us ← ofO (permW pm ws); c.call md f us) := by funext ν; simp [ev]
  rw [e2] at t
  obtain ⟨ν, η, ρ, G, S', T, t⟩ := t
  refine wpAny_Call_Name_kw (ld_glob I (g.gl h5.1) hm ?_ (nodbg_ok h5.2).1)
  refine PySem.W.callWith_KW0 (h₀ := X.base) I.ok.mod.kin hk k1 (thn ((AllE.pk A).run pos pins s σ H (fun vs H1 => ∃ vs', permL pm vs = some vs' ∧ vs.length = n ∧ spF Γ n (c.call md f) vs' H1 Q (WE Z σ)) I ?_) fun us s1 ⟨vs, H1, I1, r, vs', hp, hn, q⟩ => ⟨I1.kIn, ?_⟩) (by rw [k3]; rfl)
  · refine ⟨ν, η, ρ, G, S', T, Fin.bindE t _ fun ws ρ1 G1 η1 H1 ee S1 E1 h1 vs rs => ?_⟩
    cases e : permW pm ws with
    | none => rw [M.bind_ap, e] at h1; exact h1.elim
    | some us =>
      rw [M.bind_ap, e] at h1
      obtain ⟨vs', hp, rs'⟩ := perm_rep rs e
      refine ⟨vs', hp, by rw [rs.length, A.len _ _ _ _ ee, List.length_map, h3], by rw [rs'.length, permW_len e, h3b], us, η1, ρ1, G1, S1, rs', ?_⟩
      have h1 : Fin Γ Z (pW Γ Q) σ ρ1 G1 η1 H1 (c.call md f us η1) := h1
      cases e : c.call md f us η1 with
      | ok w η' => rw [e] at h1; exact h1
      | exc d η' => rw [e] at h1; exact h1
      | bad => rw [e] at h1; exact h1
  · rw [k2]
    obtain ⟨us', hpu, rv⟩ := perm_vals r hp
    have b := hkw ks pm h4 s1 us us' I1.kIn (by rw [← r.length]; exact hn) hpu
    refine wpAny_call (codeAny_mono (run_fnA (E := WE Z) F g.room g.gd b (passAt g.tk σ) I1 rv q) fun r s' hq => ?_)
    rcases r with e | (u | _ | _ | _) <;> exact hq
end
end Ip

set_option Elab.async false
set_option linter.all false
set_option maxRecDepth 100000
set_option maxHeartbeats 2000000
/-! IpCau: a def that catches, called with a lambda. -/
namespace Ip
open PySem PySem.Spec PyProof.Rows L2 LamX
def ExtT (H H' : Hp) : Prop := ExtN H H' ∧ ∀ b ps, H b = some (.tbl ps) → ∃ qs, H' b = some (.tbl qs)
def tLamG (T : List (Addr × Str)) (TT : (XK → Hp → VK → Prop) → Hp → VK → Prop) (t : XK → TE) : TE := fun σ H Q => Tabs T H ∧ ∀ H1, ExtT H H1 → Tabs T H1 → TT (fun E H' Q' => t E σ H' Q') H1 Q
section
variable {X : Cx} {pins : List (Addr × Obj)} {σ : L2.St} {H HZ : Hp} {s s1 : Shared}
theorem lam_make3 {T : List (Addr × Str)} {c P : Addr} {params : Arguments} {body : Expr} {scope : Scope} {pos : Pos} {E : Value → Shared → Prop} {Q : Value → Shared → Prop} (I : Inv X pins σ H s) (TB : TabB X.base X.mg c P) (hcode : X.env.code = .ref c)
    (hm : (P, X.env.qual ++ "<lambda>") ∈ T) (hu : ∀ p ∈ T, p.1 = P → p.2 = X.env.qual ++ "<lambda>") (hT : Tabs T H) (hdef : defaultsOf params X.env = ([], [])) (hfree : ∀ y ∈ scope.names, y.2 = .free → ∃ c, X.env.cells.lookup y.1 = some c)
    (h : ∀ (f c' : Addr) (pm ctv : Value) (H1 : Hp) (s' : Shared), Inv X pins σ H1 s' → ExtT H H1 → Tabs T H1 →
      s'.heap.get? f = some (PySem.W.kla_obj "<lambda>" (X.env.qual ++ "<lambda>") params body scope (cloFrom X.env.cells scope.names []) pm c' ctv) → H1 f = none → f ∉ frs X.stack → H1 c' = some (CodeO c' (X.env.qual ++ "<lambda>")) → s.heap.objs.size ≤ f → Q (.ref f) s') :
    wpAny (model X.prog X.w) X.A (eval (.Lambda params body scope pos) X.env) Q E s := by
  obtain ⟨ps, hP, ht, ha⟩ := hT _ hm
  refine PySem.W.kla_eval hdef ?_
  have bP : s.heap.BuiltinsAt X.mg P := TB.bm.keeps I.bk
  have hP' : s.heap.get? P = some { cls := .none, data := .fields ps } := I.hok P _ hP
  have nofr : ∀ f, s.heap.objs.size ≤ f → f ∉ frs X.stack := fun f hf z => by
    rcases List.mem_cons.mp (I.stkSub _ z) with e | e
    · have h1 := I.lt
      rw [← e] at h1
      exact Nat.lt_irrefl _ (Nat.lt_of_lt_of_le h1 hf)
    · exact I.nofs hf e
  cases hc : codeAmong pos ps.toList with
  | none =>
    refine PySem.W.kla_makeFunction (mg := X.mg) (c := c) (P := P) (ps := ps) (closure_ok hfree) I.ok.glob (I.mod.glob.keeps I.bk) hcode (TB.code.keeps I.bk) hP' ht hc TB.gP bP fun c' ctv h' tk hx hge hlt hrec htb => ?_
    obtain ⟨c2, oc, vs, t, e2, hoc, hd, hv⟩ := hrec
    cases e2
    have hsz : s.heap.objs.size ≤ h'.objs.size := Nat.le_trans hge (Nat.le_of_lt hlt)
    have nC : H c' = none := I.hok.fresh hge
    have I1 := inv_table (t' := tk) (more := #[rawInt pos.line, rawInt pos.col, .ref c']) (h' := h'.push (PySem.W.kla_obj "<lambda>" (X.env.qual ++ "<lambda>") params body scope (cloFrom X.env.cells scope.names []) ((X.mg "__name__").getD .none) c' ctv)) I hP
      (fun b o hb e => Heap.get?_push_of_some _ (hx b o hb e)) (Heap.get?_push_of_some _ htb) hge ⟨oc, vs, t, Heap.get?_push_of_some _ hoc, hd, hv⟩
    have hE : ExtN H (upd (upd H P (.tbl (ps ++ #[rawInt pos.line, rawInt pos.col, .ref c']))) c' (CodeO c' (X.env.qual ++ "<lambda>"))) := fun b o e n => by
      rw [upd_ne (ne_of_none e nC), upd_ne (fun z => n ps (Option.some.inj (e.symm.trans (by rw [z]; exact hP))))]
      exact e
    have eL : (ps ++ #[rawInt pos.line, rawInt pos.col, .ref c']).toList = ps.toList ++ [rawInt pos.line, rawInt pos.col, .ref c'] := by simp
    refine h h'.objs.size c' ((X.mg "__name__").getD .none) ctv _ _ I1 ⟨hE, fun b qs e => ?_⟩ (fun p hp => ?_) (Heap.get?_push_size _ rfl) ?_ (nofr _ hsz) upd_same hsz
    · by_cases hb : b = P
      · rw [hb]
        exact ⟨_, by rw [upd_ne (ne_of_none hP nC), upd_same]⟩
      · exact ⟨qs, by rw [upd_ne (ne_of_none e nC), upd_ne hb]; exact e⟩
    · by_cases hb : p.1 = P
      · rw [hu p hp hb, hb]
        refine ⟨_, by rw [upd_ne (ne_of_none hP nC), upd_same], by rw [eL]; exact PySem.TriplesOk_snoc _ _ _ _ ht, fun p' cv hcv => ?_⟩
        rw [eL] at hcv
        rcases among_app _ ht hcv with z | z
        · obtain ⟨c0, e1, e2⟩ := ha p' cv z
          exact ⟨c0, e1, hE _ _ e2 codeO_ne⟩
        · exact ⟨c', z, upd_same⟩
      · obtain ⟨ps', a1, a2, a3⟩ := hT p hp
        refine ⟨ps', by rw [upd_ne (ne_of_none a1 nC), upd_ne hb]; exact a1, a2, fun p' cv hcv => ?_⟩
        obtain ⟨c0, e1, e2⟩ := a3 p' cv hcv
        exact ⟨c0, e1, hE _ _ e2 codeO_ne⟩
    · have n1 : h'.objs.size ≠ c' := Nat.ne_of_gt hlt
      have n2 : h'.objs.size ≠ P := Nat.ne_of_gt (Nat.lt_of_lt_of_le (Heap.lt_size hP') hsz)
      rw [upd_ne n1, upd_ne n2]
      exact I.hok.fresh hsz
  | some cv =>
    obtain ⟨c', e, hco⟩ := ha pos cv hc
    subst e
    refine PySem.W.kla_makeFunctionHit (mg := X.mg) (c := c) (P := P) (ps := ps) (closure_ok hfree) I.ok.glob (I.mod.glob.keeps I.bk) hcode (TB.code.keeps I.bk) hP' ht hc bP fun ctv h' tk hx hsz => ?_
    have I1 : Inv X pins σ H { s with heap := h'.push (PySem.W.kla_obj "<lambda>" (X.env.qual ++ "<lambda>") params body scope (cloFrom X.env.cells scope.names []) ((X.mg "__name__").getD .none) c' ctv), toks := tk } := I.kept fun b o e => Heap.get?_push_of_some _ (hx b o e)
    exact h h'.objs.size c' ((X.mg "__name__").getD .none) ctv H _ I1 ⟨ExtN.refl H, fun b qs e => ⟨qs, e⟩⟩ hT (Heap.get?_push_size _ rfl) (I.hok.fresh hsz) (nofr _ hsz) hco hsz
theorem pe_actG {CXg : CXT} {Eg : XK} {Ng : List Str} {qg : Str} {sg : Scope} {g f c' : Addr} {cdg pm ctv : Value} {params : Arguments} {body : Expr} {scope : Scope} {k i : Nat} {a : Str} {pn : List (Addr × Obj)} {xe : Value → Shared → Prop} {W : WX} {tb : XK → TE} {p1 p2 : Pos}
    (I : Inv X pins σ H s) (L : LamS X.env.scope scope) (hf : s.heap.get? f = some (PySem.W.kla_obj "<lambda>" (X.env.qual ++ "<lambda>") params body scope (cloFrom X.env.cells scope.names []) pm c' ctv)) (hfn : H f = none) (hfr : f ∉ frs X.stack)
    (hbind : bindArgs (PySem.W.kla_fn "<lambda>" (X.env.qual ++ "<lambda>") params body scope (cloFrom X.env.cells scope.names []) pm (.ref c') ctv) ⟨[], []⟩ = pure [])
    (tk : Takes ((cxOf CXg X.prog X.w X.K X.mg X.base Ng qg sg g cdg X.A X.stack s H Eg).tr pn xe) W) (hr : Room (k + 1) (X.A.deeper (envOfC qg sg s.heap.objs.size g cdg)))
    (hgd : X.A.guards = some []) (hbody : ∀ (A : Around) (outer : List PySem.Env) (s : Shared) (H : Hp) (E : XK), A.guards = some [] → Room k (A.deeper (lamEnv X scope s.heap.objs.size f c')) → PE (lamCx X A outer s H E scope f c') body (tb E))
    (hN : Ng[i]? = some a) (hv : Vis sg a) (hd : (a == ("__debug__" : Str)) = false := by decide) (hcd : (a == ("__classdict__" : Str)) = false := by decide) :
    PE ((cxOf CXg X.prog X.w X.K X.mg X.base Ng qg sg g cdg X.A X.stack s H Eg).tr pn xe) (.Call (.Name a p1) [] [] p2)
      (fun σZ HZ Q => σZ[i]? = some (some (.ref f)) ∧ HZ c' = some (CodeO c' (X.env.qual ++ "<lambda>")) ∧ tb (WE W σZ) σ HZ Q) := by
  refine ⟨fun pinsZ sZ σZ HZ Q IZ h => ?_⟩
  obtain ⟨hs, hc, ht⟩ := h
  refine wpAny_Call_Name_kw (thn ((pe_var (pos := p1) (i := i) hN hv hd hcd).run pinsZ sZ σZ HZ (fun v H1 => v = .ref f ∧ H1 = HZ) IZ ⟨.ref f, hs, rfl, rfl⟩) fun u s1 ⟨v, H1, I1, r1, q1⟩ => ?_)
  obtain ⟨ev, eH⟩ := q1
  subst ev
  rw [eH] at I1
  obtain rfl : u = Value.ref f := r1
  have of1 : s1.heap.get? f = some (PySem.W.kla_obj "<lambda>" (X.env.qual ++ "<lambda>") params body scope (cloFrom X.env.cells scope.names []) pm c' ctv) := I1.base.keep f _ hf hfn hfr (fun z => nomatch (show f ∈ ([] : List Addr) from z))
  refine PySem.W.callWith_F0 ⟨_, _, _, _, of1⟩ ?_
  have un : Un (frs X.stack) [] H HZ s.heap s1.heap := I1.base
  obtain ⟨⟨oc, vs, t, hoc, hdc, hvc⟩, _, _⟩ := I1.hok c' _ hc
  have rc : codeAny (model X.prog X.w) (X.A.deeper (envOfC qg sg s.heap.objs.size g cdg)) (.call (.ref f) ⟨[], []⟩) (CR (L2.CX X.prog X.w) (envOfC qg sg s.heap.objs.size g cdg :: X.stack) X.prog X.w HZ s1 Q (WE W σZ)) s1 := by
    refine PySem.W.kla_callFunE hr.depth of1 rfl L.co L.gen rfl ⟨c', oc, vs, t, rfl, hoc, hdc, hvc⟩ ?_
    rw [hbind]
    refine wpAny_pure (wpAny_newFunctionEnv (fun y hy => (L.own y hy).2) (fun y hy => absurd hy (by simp)) (fun h₁ hns hsb => ⟨I1.nolimit.fresh _ hsb, ?_⟩) L.kind)
    show codeAny _ _ (.expr body (lamEnv X scope s1.heap.objs.size f c')) _ _
    have kp : ∀ b o, s1.heap.get? b = some o → h₁.get? b = some o := fun b o e => hsb.extBut b o (Nat.ne_of_lt (Heap.lt_size e)) (Heap.get?_push_of_some _ e)
    have J : Inv (lamCx X (X.A.deeper (envOfC qg sg s.heap.objs.size g cdg)) (envOfC qg sg s.heap.objs.size g cdg :: X.stack) s1 HZ (WE W σZ) scope f c') [] σ HZ { s1 with heap := h₁, toks := s1.toks + ([] : List (Str × Value)).length } :=
      lam_start2 I L I1.env0 hr.hd un hns kp
    refine PySem.W.kla_codeExpr (wpAny_mono ((hbody (X.A.deeper (envOfC qg sg s.heap.objs.size g cdg)) _ s1 HZ (WE W σZ) hgd (hr.deeper _)).run [] _ _ HZ Q J ht) (fun v s' hq => ?_) fun e s' hq => hq)
    obtain ⟨w', H', J', rv, q⟩ := hq
    exact ⟨w', H', J'.os, J'.bare, J'.base, J'.hok, rv, q⟩
  have hx : PassesAt (L2.CX X.prog X.w) ((cxOf CXg X.prog X.w X.K X.mg X.base Ng qg sg g cdg X.A X.stack s H Eg).tr pn xe) σZ (WE W σZ) := passAt tk σZ
  refine wpAny_call (codeAny_mono rc fun r s' hq => ?_)
  cases r with
  | error e => exact hx pinsZ HZ s1 e s' I1 hq
  | ok fl =>
    cases fl with
    | ret u => exact I1.after hq
    | next => exact False.elim hq
    | brk => exact False.elim hq
    | cont => exact False.elim hq
/-- the def that calls what it got, once; TT: what it makes of the lambda's reading -/
def GivesG (X : Cx) (Ng : List Str) (x : Str) (sg : Scope) (g : Addr) (cdg : Value) (bg : List Stmt) (a : Str) (q : Str) (TT : (XK → Hp → VK → Prop) → Hp → VK → Prop) : Prop :=
  ∀ (f c' : Addr) (s : Shared) (H : Hp) (Q : VK) (tl : XK → Hp → VK → Prop),
    (∀ (W : WX) (pn : List (Addr × Obj)) (xe : Value → Shared → Prop) (p1 p2 : Pos), Takes ((cxOf C8.CX0 X.prog X.w X.K X.mg X.base Ng x sg g cdg X.A X.stack s H C8.E0).tr pn xe) W →
      PE ((cxOf C8.CX0 X.prog X.w X.K X.mg X.base Ng x sg g cdg X.A X.stack s H C8.E0).tr pn xe) (.Call (.Name a p1) [] [] p2) (fun σZ HZ Q => σZ[0]? = some (some (.ref f)) ∧ HZ c' = some (CodeO c' q) ∧ tl (WE W σZ) HZ Q)) →
    H c' = some (CodeO c' q) → TT tl H Q →
    ∃ t, PSs (cxOf C8.CX0 X.prog X.w X.K X.mg X.base Ng x sg g cdg X.A X.stack s H C8.E0).nox bg t ∧ t { nx := fun _ H' => Q .non H', rt := Q } (L2.start Ng [.ref f]) H
theorem pe_lamcallG {T : List (Addr × Str)} {TT : (XK → Hp → VK → Prop) → Hp → VK → Prop} {x a : Str} {g c P : Addr} {k : Nat} {pg : Arguments} {bg : List Stmt} {sg : Scope} {dV kV doc pm cdv ct oc : Value} {an od : Option Addr} {osl : Array (Option Value)} {Ng : List Str}
    {params : Arguments} {body : Expr} {scope : Scope} {t : XK → TE} {p lpos pos : Pos} (hg : Gl X x) (hm : X.mg x = some (.ref g)) (hk : PySem.W.keepIn X.K (.ref g) = true)
    (lk : X.K.lookup g = some ⟨oc, od, .func (PySem.W.fnOf x x pg bg sg dV kV doc pm an cdv ct), osl⟩) (hcg : PySem.W.codeIn X.K cdv x = true) (hb : L2.Binds X.K (PySem.W.fnOf x x pg bg sg dV kV doc pm an cdv ct) [a] []) (Sg : FnScope Ng [a] sg) (hNg : Ng[0]? = some a) (hva : Vis sg a)
    (hG : GivesG X Ng x sg g cdv bg a (X.env.qual ++ "<lambda>") TT)
    (TB : TabB X.base X.mg c P) (hcode : X.env.code = .ref c) (hmT : (P, X.env.qual ++ "<lambda>") ∈ T) (hu : ∀ p ∈ T, p.1 = P → p.2 = X.env.qual ++ "<lambda>") (hr : Room (k + 2) X.A) (L : LamS X.env.scope scope) (hdef : defaultsOf params X.env = ([], []))
    (hbind : ∀ (q : Str) (cl : List (Str × Addr)) (pm cv ctv : Value), bindArgs (PySem.W.kla_fn "<lambda>" q params body scope cl pm cv ctv) ⟨[], []⟩ = pure [])
    (hgd : X.A.guards = some []) (hbody : ∀ (A : Around) (outer : List PySem.Env) (s : Shared) (H : Hp) (E : XK) (f c' : Addr), A.guards = some [] → Room k (A.deeper (lamEnv X scope s.heap.objs.size f c')) → PE (lamCx X A outer s H E scope f c') body (t E))
    (hdb : (x == ("__debug__" : Str)) = false := by decide) (hd : (a == ("__debug__" : Str)) = false := by decide) (hcd : (a == ("__classdict__" : Str)) = false := by decide) :
    PE X (.Call (.Name x p) [.Lambda params body scope lpos] [] pos) (tLamG T TT t) := by
  refine ⟨fun pins s σ H Q I h => ?_⟩
  obtain ⟨hT, h⟩ := h
  refine wpAny_Call_Name_kw (ld_glob I hg hm ?_ hdb)
  refine PySem.W.callWith_K (h₀ := X.base) I.ok.mod.kin hk ?_ (by rfl) (by rfl)
  show wpAny _ _ (spliced ((false, eval (.Lambda params body scope lpos) X.env) :: backTo pos (starEach [] X.env))) _ _ s
  refine Calls.spliced_cons (lam_make3 I TB hcode hmT hu hT hdef (L.has I.ok) fun f c' pm' ctv H1 s' I1 eN T1 hf hfn hfr hco _ => ?_)
  refine Calls.spliced_nil ⟨I1.kIn, ?_⟩
  have rc : codeAny (model X.prog X.w) X.A (.call (.ref g) ⟨[.ref f], []⟩) (CR C8.CX0 X.stack X.prog X.w H1 s' Q C8.E0) s' := by
    refine run_ofS (N := Ng) (ps := [a]) (us := [.ref f]) (vs := [.ref f]) lk hcg Sg hr I1.env0 (hb s' [.ref f] I1.kIn rfl) (.cons rfl .nil) rfl fun hr' => ?_
    obtain ⟨t', ht', hq'⟩ := hG f c' s' H1 Q (fun E H' Q' => t E σ H' Q') (fun W pn xe p1 p2 tk => pe_actG (i := 0) (tb := t) I1 L hf hfn hfr (hbind _ _ _ _ _) tk hr' hgd (fun A outer s H E hg2 hr2 => hbody A outer s H E f c' hg2 hr2) hNg hva hd hcd) hco (h H1 eN T1)
    exact ⟨t', ht'.nox, hq'⟩
  refine wpAny_call (codeAny_mono rc fun r s2 hq => ?_)
  cases r with
  | error e => exact (show False from hq).elim
  | ok fl =>
    cases fl with
    | ret u => exact I1.after hq
    | next => exact False.elim hq
    | brk => exact False.elim hq
    | cont => exact False.elim hq
/-- caught: c = None; try: a() / except x as error: c = error; return c -/
def Ech (K : PySem.W.Frag) (CS : Addr) (Q : VK) : XK := fun cls d H' => ∃ b, PySem.W.exmOne K cls (.ref CS) = some b ∧ (b = true → ∀ a, H' a = none → Q (.ref a) (upd H' a (EX cls d a))) ∧ (b = false → False)
def TTc (K : PySem.W.Frag) (CS : Addr) : (XK → Hp → VK → Prop) → Hp → VK → Prop := fun tl H Q => ∀ (E : XK) (Q' : VK), (∀ cls d H', Ech K CS Q cls d H' → E cls d H') → (∀ v H', Q .non H' → Q' v H') → tl E H Q'
theorem cat_gives {x e q wn cn : Str} {sg : Scope} {g CS : Addr} {cdg : Value} {j : Nat} {p1 p2 p3 p4 p5 p6 p7 p8 p9 p10 p11 p12 p13 p14 p15 : Pos} (hnd : ([wn, cn, "error"] : List Str).Nodup) (hcl : sg.names.lookup cn = some .local) (her : sg.names.lookup ("error" : Str) = some .local)
    (hge : sg.names.lookup e = some .globalImplicit) (hme : X.mg e = some (.ref CS)) (hde : (e == ("__debug__" : Str)) = false) (hdc : (cn == ("__debug__" : Str)) = false ∧ (cn == ("__classdict__" : Str)) = false) :
    GivesG X [wn, cn, "error"] x sg g cdg [.Assign [.Name cn p1] (.Constant .none j p2) p3, .Try [.Expr (.Call (.Name wn p4) [] [] p5) p6] [.ExceptHandler (some (.Name e p7)) (some ("error" : Str)) [.Assign [.Name cn p8] (.Name ("error" : Str) p9) p10] p11] [] [] p12, .Return (some (.Name cn p13)) p14] wn q (TTc X.K CS) := by
  intro f c' s H Q tl act hc h
  let Xn : Cx := (cxOf C8.CX0 X.prog X.w X.K X.mg X.base [wn, cn, "error"] x sg g cdg X.A X.stack s H C8.E0).nox
  have hgl : Gl Xn e := hge
  have vc : Vis Xn.env.scope cn := .inl hcl
  have ve : Vis Xn.env.scope "error" := .inl her
  have P1 : PS Xn (.Assign [.Name cn p1] (.Constant .none j p2) p3) (tAsg (tC .non) (gName 1)) := ps_set (X := Xn) hnd rfl (.inl hcl) pe_non rfl (.inr hcl)
  have P2 := ps_try_own (X := Xn) (i := 2) (np := p7) (pos := p12) (pos' := p11) (n := "error") (c := .ref CS) (x := e) (tb := fun W D σ H => σ[0]? = some (some (.ref f)) ∧ H c' = some (CodeO c' q) ∧ tl (WE W σ) H (fun _ H' => D.nx σ H')) (ts := tAsg (tVar 2) (gName 1)) (Wout := fun _ _ _ _ => False) (body := [.Expr (.Call (.Name wn p4) [] [] p5) p6]) (b₀ := .Assign [.Name cn p8] (.Name ("error" : Str) p9) p10) (suite := [])
    rfl rfl hnd rfl her ⟨hgl, hde, .inl hme⟩ L2.takes0
    (fun W pn xe tk po => by
      refine ⟨fun pins s' σ H' D I h' => ?_⟩
      exact (pss_one (ps_expr (pos := p6) (act W pn xe p4 p5 tk))).run pins s' σ H' D I h')
    (fun a pn => pss_one (ps_set (X := suiteX Xn a pn) hnd rfl (.inl hcl) (pe_var (i := 2) rfl ve (by decide) (by decide)) rfl (.inr hcl)))
  have P3 : PS Xn (.Return (some (.Name cn p13)) p14) (tRet (tVar 1)) := ps_ret (pe_var (i := 1) rfl vc hdc.1 hdc.2)
  refine ⟨_, pss_cons P1 (pss_cons P2 (pss_one P3)), ?_⟩
  refine ⟨rfl, hc, h _ _ (fun cls d H' z => ?_) fun v H' z => ?_⟩
  · obtain ⟨b, e1, e2, e3⟩ := z
    refine ⟨b, e1, fun hb a ha => ?_, fun hb => (e3 hb).elim⟩
    exact ⟨.ref a, rfl, _, rfl, e2 hb a ha⟩
  · exact ⟨.non, rfl, z⟩
end
section
variable {Γ : Env} {B : Tb} {c : Cfg} {S : SC} {k : Nat} {Z : WX} {X : Cx}
/-- the context of a lambda's body is good -/
theorem Gd.lamGd (g : Gd Γ c S k Z X) {A : Around} {outer : List PySem.Env} {s : Shared} {H : Hp} {E : XK} {scope : Scope} {f c' : Addr} (hg : A.guards = some []) (hr : Room (k + 4) (A.deeper (lamEnv X scope s.heap.objs.size f c'))) :
    Gd Γ c (S.lam scope) k (fun cls d _ H' => E cls d H') (lamCx X A outer s H E scope f c') :=
  ⟨g.P, g.w, g.K, g.mg, g.base, g.N, g.nd, rfl, fun y => by show false = _; simp [SC.lam, SC.own], rfl, hr, takes_of rfl rfl rfl rfl, g.fns, hg, fun q h => by cases h⟩
theorem catB_inv {gs : List Str} {q : Nat} {wn cn : Str} {st : Stmt} (h : catB gs q wn cn st = true) : ∃ (e : Str) (j : Nat) (p1 p2 p3 p4 p5 p6 p7 p8 p9 p10 p11 p12 p13 p14 : Pos), gs[q]? = some e ∧
    defBody st = [.Assign [.Name cn p1] (.Constant .none j p2) p3, .Try [.Expr (.Call (.Name wn p4) [] [] p5) p6] [.ExceptHandler (some (.Name e p7)) (some ("error" : Str)) [.Assign [.Name cn p8] (.Name ("error" : Str) p9) p10] p11] [] [] p12, .Return (some (.Name cn p13)) p14] ∧
    ([wn, cn, "error"] : List Str).Nodup ∧ nodbg wn = true ∧ nodbg cn = true ∧ (defScope st).names.lookup e = some .globalImplicit ∧ nodbg e = true ∧ (defScope st).kind = .function ∧ (defScope st).isCoroutine = false ∧ (defScope st).isGenerator = false ∧
    (defScope st).names.lookup wn = some .local ∧ (defScope st).names.lookup cn = some .local ∧ (defScope st).names.lookup ("error" : Str) = some .local ∧ ∀ y ∈ (defScope st).names, y.2 ≠ .free := by
  unfold catB at h
  split at h
  · simp only [Bool.and_eq_true, decide_eq_true_eq, Bool.not_eq_true', beq_iff_eq, List.all_eq_true, bne_iff_ne] at h
    obtain ⟨⟨⟨⟨⟨⟨⟨⟨⟨⟨⟨⟨⟨⟨⟨⟨⟨⟨rfl, rfl⟩, rfl⟩, rfl⟩, rfl⟩, rfl⟩, h1⟩, h2⟩, h3⟩, h4⟩, h5⟩, h6⟩, h7⟩, h8⟩, h9⟩, h10⟩, h11⟩, h12⟩, h13⟩ := h
    exact ⟨_, _, _, _, _, _, _, _, _, _, _, _, _, _, _, _, h4, rfl, h1, h2, h3, h5, h6, h7, h8, h9, h10, h11, h12, h13⟩
  · cases h
/-- tables grow -/
theorem Sim.extT {ρ : Rho} {G H H1 : Hp} {η : Hv} (Sm : Sim Γ ρ G η H) (e : ExtT H H1) (t : Tabs Γ.T H1) : Sim Γ ρ G η H1 ∧ Ext ρ G η H ρ G η H1 := by
  have sm : Same G H1 := fun b o h => e.1 b o (Sm.same b o h) fun ps z => Sm.ntb b ps (by rw [h, z])
  refine ⟨⟨sm, fun n o h1 => ?_, Sm.inj, Sm.new, t, Sm.ntb⟩, ⟨fun _ _ h => h, Same.refl G, fun a o h _ nt => e.1 a o h nt, fun a ps h => e.2 a ps h, fun a h => .inl h, fun a h => .inl h⟩⟩
  by_cases hd : o = .dead
  · subst hd; trivial
  · obtain ⟨b, u', k1, k2, k3⟩ := (Sm.obj n o h1).kind hd
    refine (Sm.obj n o h1).move (fun _ _ q => q) (Same.refl G) (fun a ha => ?_) fun a u ha hu => e.1 a u hu fun ps z => ?_
    · obtain ⟨b2, h4, h5, h6⟩ := (Sm.obj n o h1).at hd
      rw [ha] at h4; cases h4
      exact h5
    · rw [ha] at k1; cases k1
      rw [hu] at k2; cases k2
      rw [z] at k3; exact k3
theorem snd_cau (hB1 : Γ.gs = B.gs) (hB7 : Γ.ct = B.ct) {q : Nat} {a : Ex} (ih : SndE Γ B c a) : SndE Γ B c (.cau q a) := by
  intro S k Z X g
  refine ⟨fun e h => ?_, fun es h => (by cases h), fun _ _ h => (by cases h)⟩
  obtain ⟨x, p, ps, body, scope, lp, pos, rfl, h1, h2, h3, rfl, h5, h6⟩ := fCau_inv (show fCau B S q e (okE B a) = true from h)
  rw [← hB7] at h1
  simp only [SC.glb, Bool.and_eq_true] at h2
  obtain ⟨hX, gA, fd, st, wn, cn, m1, FD, hb, hcat⟩ := g.fns.fx.cat x q h1
  obtain ⟨e, j, p1, p2, p3, p4, p5, p6, p7, p8, p9, p10, p11, p12, p13, p14, k1, k2, k3, k4, k5, k6, k7, k8, k9, k10, k11, k12, k13, k14⟩ := catB_inv hcat
  obtain ⟨CS, hCS⟩ := g.fns.gl q e k1
  obtain ⟨oc, od, dV, kV, doc, pm, an, cdv, ct, osl, rfl, lk, hcd, _, _⟩ := FD.ex
  obtain ⟨qn, hq⟩ := Option.isSome_iff_exists.mp h3
  obtain ⟨ca, P, l1, l2, l3, l4, l5⟩ := g.lam qn hq
  have Sg : FnScope [wn, cn, "error"] [wn] (defScope st) := ⟨k8, k9, k10, k3, rfl, fun y hy => .inl (by
    rcases List.mem_cons.mp hy with rfl | hy
    · exact k11
    · cases hy), k14⟩
  have hup : S.up = 6 := by unfold SC.up; rw [h3]; rfl
  have hr : Room (k + 4 + 2) X.A := by have := g.rm; rw [hup] at this; exact this
  have hG : GivesG X [wn, cn, "error"] x (defScope st) gA cdv (defBody st) wn (X.env.qual ++ "<lambda>") (TTc X.K CS) := by
    rw [k2]
    exact cat_gives (p15 := p1) k3 k12 k13 k6 (by rw [g.mg]; exact hCS) (nodbg_ok k7).1 (nodbg_ok k5)
  have PL := pe_lamcallG (X := X) (T := Γ.T) (TT := TTc X.K CS) (x := x) (a := wn) (g := gA) (c := ca) (P := P) (k := k + 4) (p := p) (lpos := lp) (pos := pos) (body := body) (scope := scope) (params := ⟨[], [], none, [], [], none, []⟩) (t := fun E => tI Γ (fun cls d _ H' => E cls d H') (ev c a))
    (g.gl h2.1) (by rw [g.mg]; exact m1) (by rw [g.K]; exact FD.kp) (by rw [g.K]; exact lk) (by rw [g.K]; exact hcd) (by rw [g.K]; exact hb) Sg rfl (.inl k11) hG l2 l1 (by rw [l3]; exact l4) (fun p hp he => (l5 p hp he).trans l3.symm) hr
    (lamS_by (by rw [g.sc]; exact h5)) rfl (fun _ _ _ _ _ => rfl) g.gd (fun A outer s H E f c' hg2 hr2 => ((ih _ k _ _ (g.lamGd hg2 hr2)).1 _ h6).1) (nodbg_ok h2.2).1 (nodbg_ok k4).1 (nodbg_ok k4).2
  refine both rfl (PE.imp PL fun σ H Q t => ?_)
  obtain ⟨ν, η, ρ, G, Sm, T, t⟩ := t
  refine ⟨Sm.tab, fun H1 hE hT E Q' hE2 hQ2 => ?_⟩
  obtain ⟨S1, E1⟩ := Sm.extT hE hT
  refine ⟨ν, η, ρ, G, S1, T, ?_⟩
  have e2 : ev c (.cau q a) ν = catM c.sub q (ev c a ν) := by simp only [ev]
  rw [e2] at t
  unfold catM at t
  cases ee : ev c a ν η with
  | ok w η' =>
    rw [ee] at t
    intro ρ' G' H' S' E' v rv
    exact hQ2 v H' (t ρ' G' H' S' (E1.trans E') .non .non)
  | bad => rw [ee] at t; exact t
  | exc d η' =>
    rw [ee] at t
    cases d <;> first | exact Fin.badE t | skip
    rename_i c0 fs
    simp only at t
    have main : ∀ (C0 : Addr) (x0 : Str) (d : Option Addr) (ρ' : Rho) (G' H' : Hp), isX Γ c0 → Γ.gs[c0]? = some x0 → Γ.mg x0 = some (.ref C0) → Sim Γ ρ' G' η' H' → Ext ρ G η H1 ρ' G' η' H' →
        (∀ ad, H' ad = none → RepW Γ (grow G' H' (upd H' ad (EX (.ref C0) d ad))) ρ' (.d (.exc c0 fs)) (.ref ad)) → E (.ref C0) d H' := fun C0 x0 d ρ' G' H' hx k1' k2' S' E' rr => by
      refine hE2 _ _ _ ⟨c.sub c0 q, by rw [g.K]; exact g.fns.fx.exm _ _ _ _ _ _ hx hX k1' k1 k2' hCS, fun hb ad hn => ?_, fun hb => ?_⟩
      · rw [hb] at t
        simp only [if_true] at t
        have sm := same_upd (o := EX (.ref C0) d ad) hn
        exact t ρ' _ _ (S'.grow sm) ((E1.trans E').trans (Ext.grow S' sm)) _ (rr ad hn)
      · rw [hb] at t
        simp only [Bool.false_eq_true, if_false] at t
        exact t
    intro cls d ρ' G' H' S' E' rx
    rcases fs with _ | ⟨⟨f, yv⟩, _ | ⟨fz, fs⟩⟩
    · obtain ⟨k0, x0, C0, q1, q2, rfl, rfl⟩ := rx
      exact main C0 x0 none ρ' G' H' (.inl k0) q1 q2 S' E' fun ad hn => Rep.exc k0 q1 q2 (.inl (grow_up hn ex_ne_tbl))
    · obtain ⟨k0, x0, C0, dd, v, q1, q2, rfl, rfl, q3, q4⟩ := rx
      exact main C0 x0 (some dd) ρ' G' H' (.inr ⟨f, k0⟩) q1 q2 S' E' fun ad hn => Rep.excF k0 q1 q2 (grow_up hn ex_ne_tbl) (grow_same S'.same _ _ q3) (Rep.mono (grow_same S'.same) q4)
    · exact False.elim rx
end
end Ip

set_option Elab.async false
set_option linter.all false
set_option maxRecDepth 100000
set_option maxHeartbeats 400000
/-! IpComp: targets, list comprehensions. -/
namespace Ip
open PySem PySem.Spec PyProof.Rows L2

section
variable {Γ : Env} {c : Cfg} {S : SC} {k : Nat} {Z : WX} {X : Cx}
/-- a target's reading -/
def gB (Γ : Env) (pt : Pt) : TG := fun v σ H Q => ∃ ν ρ G w ν', Slots Γ G ρ ν σ ∧ Same G H ∧ RepW Γ G ρ w v ∧ bindP pt w ν = some ν' ∧ ∀ σ', σ'.length = σ.length → (∀ i, i ∉ pt.vars → σ'[i]? = σ[i]?) → Slots Γ G ρ ν' σ' → Q σ' H
theorem Slots.set {G : Hp} {ρ : Rho} {ν : List (Option W)} {σ : L2.St} (T : Slots Γ G ρ ν σ) {i : Nat} {w : W} {v : V} (r : RepW Γ G ρ w v) : Slots Γ G ρ (ν.set i (some w)) (σ.set i (some v)) := by
  refine ⟨by simp [T.1], fun j u hj => ?_⟩
  by_cases e : i = j
  · subst e
    have hlt : i < ν.length := by
      obtain ⟨h, _⟩ := List.getElem?_eq_some_iff.mp hj
      simpa using h
    rw [List.getElem?_set_self hlt] at hj
    cases hj
    exact ⟨v, by rw [List.getElem?_set_self (by rw [← T.1]; exact hlt)], r⟩
  · rw [List.getElem?_set_ne e] at hj ⊢
    exact T.2 j u hj
theorem bindP_tup2 {a b : Pt} {w : W} {ν ν' : List (Option W)} (h : bindP (.pair a b) w ν = some ν') : ∃ x y ν1, w = .d (.tup [x, y]) ∧ bindP a (.d x) ν = some ν1 ∧ bindP b (.d y) ν1 = some ν' := by
  rcases w with d | n | ⟨l, cs⟩
  · cases d <;> first | (cases h; done) | skip
    rename_i xs
    rcases xs with _ | ⟨x, _ | ⟨y, _ | ⟨z, xs⟩⟩⟩ <;> first | (cases h; done) | skip
    have h : (bindP a (.d x) ν).bind (bindP b (.d y)) = some ν' := h
    cases e1 : bindP a (.d x) ν with
    | none => rw [e1] at h; cases h
    | some ν1 => rw [e1] at h; exact ⟨x, y, ν1, rfl, e1, h⟩
  · cases h
  · cases h
theorem bindP_tup3 {a b d : Pt} {w : W} {ν ν' : List (Option W)} (h : bindP (.tri a b d) w ν = some ν') : ∃ x y z ν1 ν2, w = .d (.tup [x, y, z]) ∧ bindP a (.d x) ν = some ν1 ∧ bindP b (.d y) ν1 = some ν2 ∧ bindP d (.d z) ν2 = some ν' := by
  rcases w with d0 | n | ⟨l, cs⟩
  · cases d0 <;> first | (cases h; done) | skip
    rename_i xs
    rcases xs with _ | ⟨x, _ | ⟨y, _ | ⟨z, _ | ⟨z2, xs⟩⟩⟩⟩ <;> first | (cases h; done) | skip
    have h : ((bindP a (.d x) ν).bind (bindP b (.d y))).bind (bindP d (.d z)) = some ν' := h
    cases e1 : bindP a (.d x) ν with
    | none => rw [e1] at h; cases h
    | some ν1 =>
      rw [e1] at h
      have h : (bindP b (.d y) ν1).bind (bindP d (.d z)) = some ν' := h
      cases e2 : bindP b (.d y) ν1 with
      | none => rw [e2] at h; cases h
      | some ν2 => rw [e2] at h; exact ⟨x, y, z, ν1, ν2, rfl, e1, e2, h⟩
  · cases h
  · cases h
theorem pg_ok (g : Gd Γ c S k Z X) : ∀ {pt : Pt} {tg : Expr}, okP S pt tg = true → PG X tg (gB Γ pt) := by
  intro pt
  induction pt with
  | var i =>
    intro tg h
    obtain ⟨x, p, rfl, h1, h2⟩ := fPv_inv (show fPv S i tg = true from h)
    obtain ⟨h3, h4⟩ := g.loc h2
    have P : PG X (.Name x p) (gName i) := pg_name (by rw [g.N]; exact g.nd) (g.ix h1) h3 h4
    refine ⟨fun pins s σ H v u Q I r q => P.run pins s σ H v u Q I r ?_⟩
    obtain ⟨ν, ρ, G, w, ν', T, hs, rv, hb, q⟩ := q
    cases hb
    exact q _ (by simp) (fun j hj => by
      simp [Pt.vars] at hj
      rw [List.getElem?_set_ne (Ne.symm hj)]) (T.set rv)
  | pair a b iha ihb =>
    intro tg h
    obtain ⟨x, y, j, p, rfl, n1, n2, h1, h2⟩ := fPp_inv (show fPp tg (okP S a) (okP S b) = true from h)
    have P : PG X (.Tuple [x, y] j p) (gTup X.K 2 (gCons (gB Γ a) (gCons (gB Γ b) gNil))) := pg_tup g.calm (pgs_cons (iha h1) (pgs_cons (ihb h2) pgs_nil (by rw [assign_of n2]; rfl)) (by rw [assign_of n1]; rfl)) (by rw [assign_of n1, assign_of n2]; rfl) (by rw [assign_of n1, assign_of n2]; rfl)
    refine ⟨fun pins s σ H v u Q I r q => P.run pins s σ H v u Q I r ?_⟩
    obtain ⟨ν, ρ, G, w, ν', T, hs, rv, hb, q⟩ := q
    obtain ⟨d1, d2, ν1, rfl, e1, e2⟩ := bindP_tup2 hb
    have rv' : Rep Γ G (.tup [d1, d2]) v := rv
    cases rv' with
    | tup ht rl =>
      cases rl with
      | cons r1 rl =>
        cases rl with
        | cons r2 rl =>
          cases rl
          refine ⟨_, _, rfl, by rw [g.K]; exact Same.sqT hs ht, rfl, _, _, rfl, ν, ρ, G, .d d1, ν1, T, hs, r1, e1, fun σ1 l1 o1 T1 => ?_⟩
          refine ⟨_, _, rfl, ν1, ρ, G, .d d2, ν', T1, hs, r2, e2, fun σ2 l2 o2 T2 => ⟨rfl, ?_⟩⟩
          exact q σ2 (l2.trans l1) (fun i hi => by
            simp only [Pt.vars, List.mem_append, not_or] at hi
            rw [o2 i hi.2, o1 i hi.1]) T2
  | tri a b d iha ihb ihd =>
    intro tg h
    obtain ⟨x, y, z, j, p, rfl, n1, n2, n3, h1, h2, h3⟩ := fPt_inv (show fPt tg (okP S a) (okP S b) (okP S d) = true from h)
    have P : PG X (.Tuple [x, y, z] j p) (gTup X.K 3 (gCons (gB Γ a) (gCons (gB Γ b) (gCons (gB Γ d) gNil)))) := pg_tup g.calm (pgs_cons (iha h1) (pgs_cons (ihb h2) (pgs_cons (ihd h3) pgs_nil (by rw [assign_of n3]; rfl)) (by rw [assign_of n2]; rfl)) (by rw [assign_of n1]; rfl)) (by rw [assign_of n1, assign_of n2, assign_of n3]; rfl) (by rw [assign_of n1, assign_of n2, assign_of n3]; rfl)
    refine ⟨fun pins s σ H v u Q I r q => P.run pins s σ H v u Q I r ?_⟩
    obtain ⟨ν, ρ, G, w, ν', T, hs, rv, hb, q⟩ := q
    obtain ⟨d1, d2, d3, ν1, ν2, rfl, e1, e2, e3⟩ := bindP_tup3 hb
    have rv' : Rep Γ G (.tup [d1, d2, d3]) v := rv
    cases rv' with
    | tup ht rl =>
      cases rl with
      | cons r1 rl =>
        cases rl with
        | cons r2 rl =>
          cases rl with
          | cons r3 rl =>
            cases rl
            refine ⟨_, _, rfl, by rw [g.K]; exact Same.sqT hs ht, rfl, _, _, rfl, ν, ρ, G, .d d1, ν1, T, hs, r1, e1, fun σ1 l1 o1 T1 => ?_⟩
            refine ⟨_, _, rfl, ν1, ρ, G, .d d2, ν2, T1, hs, r2, e2, fun σ2 l2 o2 T2 => ?_⟩
            refine ⟨_, _, rfl, ν2, ρ, G, .d d3, ν', T2, hs, r3, e3, fun σ3 l3 o3 T3 => ⟨rfl, ?_⟩⟩
            exact q σ3 (l3.trans (l2.trans l1)) (fun i hi => by
              simp only [Pt.vars, List.mem_append, not_or] at hi
              rw [o3 i hi.2.2, o2 i hi.2.1, o1 i hi.1]) T3

/-! ### slots forgotten -/
theorem wipeV_length (ν : List (Option W)) : ∀ vs : List Nat, (wipeV ν vs).length = ν.length
  | [] => rfl
  | v :: vs => by unfold wipeV; rw [List.length_set, wipeV_length ν vs]
theorem Slots.wipe {G : Hp} {ρ : Rho} {ν : List (Option W)} {σ : L2.St} (T : Slots Γ G ρ ν σ) : ∀ vs : List Nat, Slots Γ G ρ (wipeV ν vs) (wipe σ vs)
  | [] => T
  | v :: vs => by
    have ih := Slots.wipe T vs
    unfold wipeV L2.wipe
    refine ⟨by simp [ih.1], fun j u hj => ?_⟩
    by_cases e : v = j
    · subst e
      by_cases hlt : v < (wipeV ν vs).length
      · rw [List.getElem?_set_self hlt] at hj; cases hj
      · rw [List.getElem?_eq_none (by simpa using hlt)] at hj; cases hj
    · rw [List.getElem?_set_ne e] at hj ⊢
      exact ih.2 j u hj
theorem wipe_at {σ : L2.St} {j : Nat} : ∀ vs : List Nat, (wipe σ vs)[j]? = if j ∈ vs then (if j < σ.length then some none else none) else σ[j]?
  | [] => by simp [L2.wipe]
  | v :: vs => by
    unfold L2.wipe
    have hl : (wipe σ vs).length = σ.length := wipe_length σ vs
    by_cases e : v = j
    · subst e
      rw [if_pos (by simp)]
      by_cases hlt : v < σ.length
      · rw [if_pos hlt, List.getElem?_set_self (by rw [hl]; exact hlt)]
      · rw [if_neg hlt, List.getElem?_eq_none (by rw [List.length_set, hl]; omega)]
    · rw [List.getElem?_set_ne e, wipe_at vs]
      have : (j ∈ v :: vs) ↔ j ∈ vs := by simp [Ne.symm e]
      by_cases h : j ∈ vs
      · rw [if_pos h, if_pos (this.mpr h)]
      · rw [if_neg h, if_neg (fun q => h (this.mp q))]
theorem wipe_eq {σ σ' : L2.St} {vs : List Nat} (hl : σ'.length = (wipe σ vs).length) (h : ∀ i, i ∉ vs → σ'[i]? = (wipe σ vs)[i]?) : wipe σ' vs = wipe σ vs := by
  rw [wipe_length] at hl
  refine List.ext_getElem? fun j => ?_
  rw [wipe_at, wipe_at]
  by_cases hj : j ∈ vs
  · rw [if_pos hj, if_pos hj, hl]
  · rw [if_neg hj, if_neg hj, h j hj, wipe_at, if_neg hj]

/-! ### a comprehension's block -/
theorem Gd.blk (g : Gd Γ c S k Z X) (scope : Scope) (s : Shared) (H : Hp) (C : Addr) (cl : List (Str × Addr)) (fp : List Addr) : Gd Γ c (S.blk scope) k (fun _ _ _ _ => False) (X.blk s H scope (compEnvC scope cl C X.env) fp) :=
  ⟨g.P, g.w, g.K, g.mg, g.base, g.N, g.nd, by show relS scope X.env.scope = relS scope S.sc; rw [g.sc], fun _ => rfl, g.calm, g.room4, takes0, g.fns, g.gd, fun q h => by cases h⟩
def ownL (S : SC) (vs : List Nat) : List (Str × Nat) := vs.map fun i => (S.N.getD i ⟨#[]⟩, i)
theorem ownL_ix (S : SC) (vs : List Nat) : (ownL S vs).map (·.2) = vs := by
  unfold ownL
  rw [List.map_map]
  exact List.map_id _
theorem blk_ok (g : Gd Γ c S k Z X) {scope : Scope} {vs : List Nat} (h : okBlk S scope vs = true) : BlkOk X.N X.env.scope scope (ownL S vs) := by
  simp only [okBlk, Bool.and_eq_true, List.all_eq_true] at h
  obtain ⟨⟨⟨⟨h1, h2⟩, h3⟩, h4⟩, h5⟩ := h
  rw [g.N, g.sc]
  refine ⟨beq_iff_eq.mp h1, fun y hy => beq_iff_eq.mp (h2 y hy), fun p hp => ?_, fun y hy e => ?_, fun y hy e => ?_⟩
  · obtain ⟨i, hi, rfl⟩ := List.mem_map.mp hp
    have := of_decide_eq_true (h3 i hi)
    simp [List.getD, this]
  · have := h4 y hy
    rw [e] at this
    simp only [beq_self_eq_true, Bool.not_true, Bool.false_or, Bool.or_eq_true, beq_iff_eq] at this
    exact this
  · have := h5 y hy
    have e2 : (y.2 == NameKind.local || y.2 == .cell) = true := by
      rcases e with e | e <;> rw [e] <;> rfl
    rw [e2] at this
    simp only [Bool.not_true, Bool.false_or, Bool.or_eq_true, Bool.not_eq_true', List.contains_eq_mem, decide_eq_true_eq, decide_eq_false_iff_not] at this
    rcases this with h | h
    · left
      unfold ownL
      rw [List.map_map]
      exact h
    · exact .inr h
end
end Ip

set_option Elab.async false
set_option linter.all false
set_option maxRecDepth 100000
set_option maxHeartbeats 400000
/-! IpLc: list comprehensions of one clause. -/
namespace Ip
open PySem PySem.Spec PyProof.Rows L2
section
variable {Γ : Env} {c : Cfg} {S : SC} {k : Nat} {Z : WX} {X : Cx}
abbrev ZN : WX := fun _ _ _ _ => False
theorem noX_ok {α β : Type} {m : M α} {kk : α → M β} {Rp : Hp → Rho → β → Hp → Prop} {σ : L2.St} {ρ : Rho} {G : Hp} {η0 η : Hv} {H : Hp} (h : Fin Γ Z Rp σ ρ G η0 H ((noX m >>= kk) η)) : ∃ a η1, m η = .ok a η1 ∧ Fin Γ Z Rp σ ρ G η0 H (kk a η1) := by
  rw [M.bind_ap] at h
  cases e : m η with
  | ok a η1 =>
    have e' : noX m η = .ok a η1 := by unfold noX; rw [e]
    rw [e'] at h
    exact ⟨a, η1, rfl, h⟩
  | exc x η1 =>
    have e' : noX m η = .bad := by unfold noX; rw [e]
    rw [e'] at h
    exact Fin.badE h
  | bad =>
    have e' : noX m η = .bad := by unfold noX; rw [e]
    rw [e'] at h
    exact Fin.badE h
theorem noX_noexc {α : Type} {m : M α} {η η' : Hv} {e : D} : noX m η ≠ .exc e η' := by
  unfold noX
  intro h
  cases q : m η with
  | ok a η1 => rw [q] at h; cases h
  | exc x η1 => rw [q] at h; cases h
  | bad => rw [q] at h; cases h
theorem loop_nil {ik : Ik} {ws : List W} {sn : Snap} {α : Type} {f : W → M (List α)} {η : Hv} : loopM ik ws sn f [] η = if snap ik ws η = some sn then .ok [] η else .bad := rfl
theorem loop_cons {ik : Ik} {ws : List W} {sn : Snap} {α : Type} {f : W → M (List α)} {x : W} {xs : List W} {η : Hv} : loopM ik ws sn f (x :: xs) η = if snap ik ws η = some sn then (do
      let ys ← f x
      let zs ← loopM ik ws sn f xs
      Pure.pure (ys ++ zs) : M (List α)) η else .bad := rfl
theorem loop_noexc {ik : Ik} {ws : List W} {sn : Snap} {α : Type} {f : W → M (List α)} (hf : ∀ x η e η', f x η ≠ .exc e η') : ∀ (xs : List W) (η : Hv) (e : D) (η' : Hv), loopM ik ws sn f xs η ≠ .exc e η'
  | [], η, e, η', h => by
    rw [loop_nil] at h
    split at h <;> cases h
  | x :: xs, η, e, η', h => by
    rw [loop_cons] at h
    split at h
    · rw [M.bind_ap] at h
      cases q : f x η with
      | ok ys η1 =>
        rw [q] at h
        simp only at h
        rw [M.bind_ap] at h
        cases q2 : loopM ik ws sn f xs η1 with
        | ok zs η2 => rw [q2] at h; cases h
        | exc x2 η2 => exact loop_noexc hf xs η1 _ _ q2
        | bad => rw [q2] at h; cases h
      | exc x2 η2 => exact hf _ _ _ _ q
      | bad => rw [q] at h; cases h
    · cases h
/-- a turn of the loop -/
theorem loop_step {β : Type} {ik : Ik} {ws : List W} {sn : Snap} {α : Type} {f : W → M (List α)} {x : W} {xs : List W} {kk : List α → M β} {Rp : Hp → Rho → β → Hp → Prop} {σ : L2.St} {ρ : Rho} {G : Hp} {η0 η : Hv} {H : Hp}
    (h : Fin Γ Z Rp σ ρ G η0 H ((loopM ik ws sn f (x :: xs) >>= kk) η)) : snap ik ws η = some sn ∧ Fin Γ Z Rp σ ρ G η0 H ((f x >>= fun ys => loopM ik ws sn f xs >>= fun zs => kk (ys ++ zs)) η) := by
  by_cases hs : snap ik ws η = some sn
  · refine ⟨hs, ?_⟩
    have e : (loopM ik ws sn f (x :: xs) >>= kk) η = (f x >>= fun ys => loopM ik ws sn f xs >>= fun zs => kk (ys ++ zs)) η := by
      have e1 : loopM ik ws sn f (x :: xs) η = (do
        let ys ← f x
        let zs ← loopM ik ws sn f xs
        Pure.pure (ys ++ zs) : M (List α)) η := by rw [loop_cons, if_pos hs]
      rw [M.bind_ap, e1, ← M.bind_ap (f := kk)]
      simp only [M.bind_assoc, M.pure_bind]
    rw [e] at h
    exact h
  · exfalso
    rw [M.bind_ap, loop_cons, if_neg hs] at h
    exact h
theorem loop_end {β : Type} {ik : Ik} {ws : List W} {sn : Snap} {α : Type} {f : W → M (List α)} {kk : List α → M β} {Rp : Hp → Rho → β → Hp → Prop} {σ : L2.St} {ρ : Rho} {G : Hp} {η0 η : Hv} {H : Hp}
    (h : Fin Γ Z Rp σ ρ G η0 H ((loopM ik ws sn f [] >>= kk) η)) : snap ik ws η = some sn ∧ Fin Γ Z Rp σ ρ G η0 H (kk [] η) := by
  by_cases hs : snap ik ws η = some sn
  · refine ⟨hs, ?_⟩
    rw [M.bind_ap, loop_nil, if_pos hs] at h
    exact h
  · exfalso
    rw [M.bind_ap, loop_nil, if_neg hs] at h
    exact h
theorem mkL_len {al : Bool} {ys : List D} {η η' : Hv} {w : W} (h : mkL al ys η = .ok w η') : ys.length ≤ lim := by
  unfold mkL at h
  split at h
  · assumption
  · cases h
theorem loop_bound {ik : Ik} {ws : List W} {sn : Snap} {f : W → M (List D)} (hf : ∀ x η e η', f x η ≠ .exc e η') {al : Bool} {ys : List D} {xs : List W} {Rp : Hp → Rho → W → Hp → Prop} {σ : L2.St} {ρ : Rho} {G : Hp} {η0 η : Hv} {H : Hp}
    (h : Fin Γ Z Rp σ ρ G η0 H ((loopM ik ws sn f xs >>= fun zs => mkL al (ys ++ zs)) η)) : ys.length ≤ lim := by
  rw [M.bind_ap] at h
  cases q : loopM ik ws sn f xs η with
  | ok zs η1 =>
    rw [q] at h
    simp only at h
    by_cases hz : (ys ++ zs).length ≤ lim
    · rw [List.length_append] at hz; omega
    · unfold mkL at h
      rw [if_neg hz] at h
      exact Fin.badE h
  | exc x η1 => exact absurd q (loop_noexc hf xs η x η1)
  | bad => rw [q] at h; exact Fin.badE h

/-! ### an object that is not ours yet -/
/-- it is tracked, neither frozen nor the run's own -/
def Loose (G : Hp) (η : Hv) (ρ : Rho) (D : Addr) : Prop := G D = none ∧ ¬ Own η ρ D
theorem Loose.ext {ρ ρ' : Rho} {G G' H H' : Hp} {η η' : Hv} {D : Addr} {o : HO} (l : Loose G η ρ D) (hD : H D = some o) (E : Ext ρ G η H ρ' G' η' H') (nt : Cont o := by exact trivial) : Loose G' η' ρ' D ∧ H' D = some o := by
  refine ⟨⟨?_, fun ho => ?_⟩, E.kept D o hD l.2 fun ps z => by rw [z] at nt; exact nt⟩
  · cases q : G' D with
    | none => rfl
    | some u =>
      rcases E.fresh D (by rw [q]; simp) with h | h | h | ⟨xs, h⟩
      · exact absurd l.1 h
      · rw [hD] at h; cases h
      · exact absurd h l.2
      · rw [hD] at h; cases h
        exact absurd nt (fun z => z)
  · rcases E.own D ho with h | h
    · exact l.2 h
    · rw [hD] at h; cases h
theorem Sim.notOwn {ρ : Rho} {G H : Hp} {η : Hv} (Sm : Sim Γ ρ G η H) {D : Addr} (hD : H D = none) : ¬ Own η ρ D := fun ⟨n, ⟨o, h1, h2⟩, h3⟩ => by
  obtain ⟨a, h4, _, h5⟩ := (Sm.obj n o h1).at h2
  rw [h3] at h4; cases h4
  exact h5 hD
theorem Sim.gnone {ρ : Rho} {G H : Hp} {η : Hv} (Sm : Sim Γ ρ G η H) {D : Addr} (hD : H D = none) : G D = none := by
  cases e : G D with
  | none => rfl
  | some o => rw [Sm.same D o e] at hD; cases hD
/-- it is written -/
theorem Sim.loose {ρ : Rho} {G H : Hp} {η : Hv} (Sm : Sim Γ ρ G η H) {D : Addr} (l : Loose G η ρ D) (o : HO) (hq : ∀ u, H D = some u → Cont u) : Sim Γ ρ G η (upd H D o) := by
  refine ⟨fun a u h => ?_, fun n o' h => ?_, Sm.inj, Sm.new, tab_move Sm.tab fun b u e n1 => ?_, Sm.ntb⟩
  · have : a ≠ D := fun e => by subst e; rw [l.1] at h; cases h
    rw [upd_ne this]; exact Sm.same a u h
  · by_cases hd : o' = .dead
    · subst hd; trivial
    · refine (Sm.obj n o' h).move (fun _ _ q => q) (Same.refl G) (fun a ha => ?_) fun a u ha hu => ?_
      · obtain ⟨b, h4, h6, _⟩ := (Sm.obj n o' h).at hd
        rw [ha] at h4; cases h4
        exact h6
      · have : a ≠ D := fun e => by subst e; exact l.2 ⟨n, ⟨o', h, hd⟩, ha⟩
        rw [upd_ne this]; exact hu
  · have : b ≠ D := fun z => by
      subst z
      exact n1 (hq u e)
    rw [upd_ne this]; exact e
/-- from a base in which it was not -/
theorem Ext.loose {ρ ρ' : Rho} {G G' H H' : Hp} {η η' : Hv} {D : Addr} (E : Ext ρ G η H ρ' G' η' H') (hD : H D = none) (o : HO) : Ext ρ G η H ρ' G' η' (upd H' D o) :=
  ⟨E.rho, E.same, fun a u h no nt => by
    have : a ≠ D := ne_of_none h hD
    rw [upd_ne this]; exact E.kept a u h no nt, fun a ps h => by
    have : a ≠ D := ne_of_none h hD
    obtain ⟨qs, q⟩ := E.tbl a ps h
    exact ⟨qs, by rw [upd_ne this]; exact q⟩, E.fresh, E.own⟩
/-- the evaluator's turn -/
def turnF (c : Cfg) (vs : List Nat) (pt : Pt) (r : Ex) (ν : List (Option W)) : W → M (List D) := fun x => noX (match bindP pt x (wipeV ν vs) with
  | some ν' => evg c r ν'
  | none => M.bad)
theorem ev_lc {al : Bool} {vs : List Nat} {ik : Ik} {pt : Pt} {it r : Ex} : ev c (.lc al vs ik pt it r) = fun ν => (do let q ← itM ik (evl c it) ν; let ys ← loopM ik q.1 q.2.1 (turnF c vs pt r ν) q.2.2; mkL al ys) := by
  funext ν
  simp [ev, itM]
  rfl
/-- the turn's readings -/
inductive GenR (Γ : Env) (c : Cfg) : Ex → TT → TE → Prop
  | y (x : Ex) : GenR Γ c (.yld x) tYes (tI Γ ZN (ev c x))
  | f (t x : Ex) : GenR Γ c (.gif t (.yld x)) (tT Γ ZN (ev c t)) (tI Γ ZN (ev c x))
theorem yld_ok {x : Ex} {ν : List (Option W)} {η η' : Hv} {ys : List D} (h : evg c (.yld x) ν η = .ok ys η') : ∃ d, ev c x ν η = .ok (.d d) η' ∧ ys = [d] := by
  simp only [evg] at h
  rw [M.bind_ap] at h
  cases e : ev c x ν η with
  | ok w η1 =>
    rw [e] at h
    cases w with
    | d d => cases h; exact ⟨d, rfl, rfl⟩
    | ref n => cases h
    | clo l cs => cases h
  | exc x η1 => rw [e] at h; cases h
  | bad => rw [e] at h; cases h
theorem gif_ok {t r : Ex} {ν : List (Option W)} {η η' : Hv} {ys : List D} (h : evg c (.gif t r) ν η = .ok ys η') : ∃ b η1, ev c t ν η = .ok (.d (.bl b)) η1 ∧ (b = true → evg c r ν η1 = .ok ys η') ∧ (b = false → ys = [] ∧ η' = η1) := by
  simp only [evg] at h
  rw [M.bind_ap] at h
  cases e : ev c t ν η with
  | ok w η1 =>
    rw [e] at h
    cases w with
    | d d =>
      cases d <;> first | (cases h; done) | skip
      rename_i b
      refine ⟨b, η1, rfl, fun hb => ?_, fun hb => ?_⟩
      · subst hb; exact h
      · subst hb; cases h; exact ⟨rfl, rfl⟩
    | ref n => cases h
    | clo l cs => cases h
  | exc x η1 => rw [e] at h; cases h
  | bad => rw [e] at h; cases h
/-- a turn's reading from its evaluation -/
theorem gen_read {r : Ex} {tt : TT} {te : TE} (hr : GenR Γ c r tt te) {ν : List (Option W)} {ρ : Rho} {G H : Hp} {η η' : Hv} {σ : L2.St} {ys : List D} (Sm : Sim Γ ρ G η H) (T : Slots Γ G ρ ν σ) (e : evg c r ν η = .ok ys η')
    {K1 : V → Hp → Prop} {K0 : Hp → Prop} (h1 : ∀ d y ρ' G' H', ys = [d] → Sim Γ ρ' G' η' H' → Ext ρ G η H ρ' G' η' H' → Rep Γ G' d y → K1 y H') (h0 : ∀ ρ' G' H', ys = [] → Sim Γ ρ' G' η' H' → Ext ρ G η H ρ' G' η' H' → K0 H') :
    tt σ H fun b H3 => if b = true then te σ H3 fun y H4 => K1 y H4 else K0 H3 := by
  cases hr with
  | y x =>
    obtain ⟨d, e1, rfl⟩ := yld_ok e
    show (if true = true then tI Γ ZN (ev c x) σ H (fun y H4 => K1 y H4) else K0 H)
    rw [if_pos rfl]
    refine ⟨ν, η, ρ, G, Sm, T, ?_⟩
    rw [e1]
    exact fun ρ' G' H' S' E' v rv => h1 d v ρ' G' H' rfl S' E' rv
  | f t x =>
    obtain ⟨b, η1, e1, et, ef⟩ := gif_ok e
    refine ⟨ν, η, ρ, G, Sm, T, ?_⟩
    rw [e1]
    intro ρ1 G1 H1 S1 E1
    refine ⟨b, rfl, ?_⟩
    cases b with
    | true =>
      rw [if_pos rfl]
      obtain ⟨d, e2, rfl⟩ := yld_ok (et rfl)
      refine ⟨ν, η1, ρ1, G1, S1, T.mono E1.same E1.rho, ?_⟩
      rw [e2]
      exact fun ρ' G' H' S' E' v rv => h1 d v ρ' G' H' rfl S' (E1.trans E') rv
    | false =>
      rw [if_neg Bool.false_ne_true]
      obtain ⟨rfl, rfl⟩ := ef rfl
      exact h0 ρ1 G1 H1 rfl S1 E1
theorem RepL.ofData {G : Hp} {ρ : Rho} : ∀ {xs : List D} {vs : List V}, RepL Γ G xs vs → RepWs Γ G ρ (xs.map W.d) vs
  | _, _, .nil => .nil
  | _, _, .cons h r => .cons h (RepL.ofData r)
/-- the comprehension's reading -/
theorem lc_read {al : Bool} {vs : List Nat} {ik : Ik} {pt : Pt} {it r : Ex} {tt : TT} {te : TE} (hr : GenR Γ c r tt te) (hv : ∀ i ∈ pt.vars, i ∈ vs) {σ : L2.St} {H : Hp} {Q : VK} (t : tI Γ Z (ev c (.lc al vs ik pt it r)) σ H Q) :
    tLc (tIt Γ Z ik (evl c it)) (gB Γ pt) tt te vs σ H Q := by
  rw [ev_lc] at t
  obtain ⟨ν, η, ρ, G, S0, T0, t⟩ := t
  refine ⟨ν, η, ρ, G, S0, T0, Fin.bind t _ fun q ρ1 G1 η1 H1 S1 E1 t1 us ru cs J hJ => ?_⟩
  obtain ⟨ws, sn, its⟩ := q
  simp only at t1 ru cs hJ
  have T1 := T0.mono E1.same E1.rho
  intro D hD
  have hf : ∀ x η e η', turnF c vs pt r ν x η ≠ .exc e η' := fun x η e η' => noX_noexc
  have l1 : Loose G1 η1 ρ1 D := ⟨S1.gnone hD, S1.notOwn hD⟩
  refine ⟨fun i m H => m = its.length - i ∧ i ≤ its.length ∧ ∃ η' ρ' G' ys acc, Sim Γ ρ' G' η' H ∧ Ext ρ1 G1 η1 H1 ρ' G' η' H ∧ Loose G' η' ρ' D ∧ H D = some (.lst acc) ∧ RepL Γ G' ys acc ∧
    Fin Γ Z (pW Γ Q) σ ρ1 G1 η1 H1 ((loopM ik ws sn (turnF c vs pt r ν) (its.drop i) >>= fun zs => mkL al (ys ++ zs)) η'), ⟨its.length, by simp, Nat.zero_le _, η1, ρ1, G1, [], [], S1.loose l1 _ (fun u z => by rw [hD] at z; cases z), (Ext.refl _ _ _ _).loose hD _, l1, upd_same, .nil, ?_⟩, ?_⟩
  · rw [List.drop_zero]
    simpa using t1
  · rintro i m H' ⟨rfl, hi, η', ρ', G', ys, acc, S', E', l', hD', ra, t'⟩
    have rus : RepWs Γ G' ρ' ws us := ru.mono E'.same E'.rho
    by_cases hlt : i < its.length
    · -- a turn
      rw [List.drop_eq_getElem_cons hlt] at t'
      obtain ⟨hsn, t2⟩ := loop_step t'
      have cs' := snap_ok S' rus hsn
      refine .inr ⟨hJ.goes i G' ρ' H' hlt S'.same cs', _, fun H'' w => ⟨its.length - (i + 1), by omega, w⟩, fun x H2 y => ?_⟩
      obtain ⟨w, hw, sm, rw_⟩ := hJ.yields i G' ρ' H' x H2 hlt S'.same cs' y
      have ew : w = its[i] := by simpa [hlt] using hw.symm
      subst ew
      have S2 := S'.grow sm
      have E2 := Ext.grow S' sm
      obtain ⟨l2, hD2⟩ := l'.ext hD' E2
      have E12 := E'.trans E2
      -- the turn's own value
      obtain ⟨zs, η3, ez, t3⟩ := noX_ok (m := (match bindP pt its[i] (wipeV ν vs) with
        | some ν' => evg c r ν'
        | none => M.bad)) t2
      cases eb : bindP pt its[i] (wipeV ν vs) with
      | none => rw [eb] at ez; cases ez
      | some ν' =>
        rw [eb] at ez
        have ez : evg c r ν' η' = .ok zs η3 := ez
        refine ⟨wipeV ν vs, ρ', _, its[i], ν', (T1.wipe vs).mono (E'.same.trans (grow_same S'.same)) E'.rho, S2.same, rw_, eb, fun σ2 hl ho T2 => ⟨wipe_eq hl fun j hj => ho j fun q => hj (hv j q), ?_⟩⟩
        refine gen_read hr S2 T2 ez (fun d yv ρ4 G4 H4 hz S4 E4 rd => ?_) fun ρ4 G4 H4 hz S4 E4 => ?_
        · subst hz
          obtain ⟨l4, hD4⟩ := l2.ext hD2 E4
          have E14 := E12.trans E4
          have ra4 := RepL.mono ((grow_same S'.same).trans E4.same) ra
          have t4 : Fin Γ Z (pW Γ Q) σ ρ1 G1 η1 H1 ((loopM ik ws sn (turnF c vs pt r ν) (its.drop (i + 1)) >>= fun zs => mkL al ((ys ++ [d]) ++ zs)) η3) := by
            simpa [List.append_assoc] using t3
          have hb := loop_bound hf t4
          refine ⟨acc, hD4, by rw [ra.length, hsz]; simp at hb; omega, rfl, hlt, η3, ρ4, G4, ys ++ [d], acc ++ [yv], S4.loose l4 _ (fun u z => by rw [hD4] at z; cases z; exact trivial), E14.loose hD _, l4, upd_same, ra4.append (.cons rd .nil), t4⟩
        · subst hz
          obtain ⟨l4, hD4⟩ := l2.ext hD2 E4
          have E14 := E12.trans E4
          have ra4 := RepL.mono ((grow_same S'.same).trans E4.same) ra
          exact ⟨rfl, hlt, η3, ρ4, G4, ys, acc, S4, E14, l4, hD4, ra4, by simpa using t3⟩
    · -- the end
      have ei : i = its.length := by omega
      subst ei
      rw [List.drop_length] at t'
      obtain ⟨hsn, t2⟩ := loop_end t'
      have cs' := snap_ok S' rus hsn
      refine .inl ⟨hJ.stops G' ρ' H' S'.same cs', ?_⟩
      rw [List.append_nil] at t2
      unfold mkL at t2
      by_cases hz : ys.length ≤ lim
      · rw [if_pos hz] at t2
        cases al with
        | false =>
          rw [if_neg Bool.false_ne_true] at t2
          have sg : Same G' (upd G' D (.lst acc)) := same_upd l'.1
          refine t2 ρ' (upd G' D (.lst acc)) H' ⟨fun a u h => ?_, fun n o h => ?_, S'.inj, S'.new, S'.tab, fun a ps z => by
            by_cases e : a = D
            · subst e; rw [upd_same] at z; cases z
            · rw [upd_ne e] at z; exact S'.ntb a ps z⟩ ⟨E'.rho, E'.same.trans sg, E'.kept, E'.tbl, fun a h => ?_, E'.own⟩ (.ref D) (.lst (.inl upd_same) (RepL.mono sg ra))
          · by_cases e : a = D
            · subst e; rw [upd_same] at h; cases h; exact hD'
            · rw [upd_ne e] at h; exact S'.same a u h
          · by_cases hd : o = .dead
            · subst hd; trivial
            · refine (S'.obj n o h).move (fun _ _ q => q) sg (fun a ha => ?_) fun a u _ hu => hu
              obtain ⟨b, h4, h6, _⟩ := (S'.obj n o h).at hd
              rw [ha] at h4; cases h4
              have : a ≠ D := fun e => by subst e; exact l'.2 ⟨n, ⟨o, h, hd⟩, ha⟩
              rw [upd_ne this]
              exact h6
          · by_cases e : a = D
            · subst e; exact .inr (.inl hD)
            · rw [upd_ne e] at h; exact E'.fresh a h
        | true =>
          rw [if_pos rfl] at t2
          have hn : ρ' η'.length = none := S'.new _ (Nat.le_refl _)
          have er := updR_le (p := D) hn
          have self : updR ρ' η'.length D η'.length = some D := by unfold updR; rw [if_pos rfl]
          have cases_ : ∀ n o, (η' ++ [VO.lst (ys.map W.d)])[n]? = some o → η'[n]? = some o ∨ (n = η'.length ∧ o = .lst (ys.map W.d)) := fun n o e => by
            by_cases h : n < η'.length
            · rw [List.getElem?_append_left h] at e; exact .inl e
            · rw [List.getElem?_append_right (by omega)] at e
              have : n - η'.length = 0 := by
                cases q : n - η'.length with
                | zero => rfl
                | succ k => rw [q] at e; simp at e
              rw [this] at e
              simp at e
              exact .inr ⟨by omega, e.symm⟩
          have lv : ∀ n, live (η' ++ [VO.lst (ys.map W.d)]) n → live η' n ∨ n = η'.length := fun n ⟨o, h1, h2⟩ => by
            rcases cases_ n o h1 with h | ⟨h, _⟩
            · exact .inl ⟨o, h, h2⟩
            · exact .inr h
          have rold : ∀ n a, live η' n → updR ρ' η'.length D n = some a → ρ' n = some a := fun n a ⟨o, h1, _⟩ h => by
            unfold updR at h
            have : n < η'.length := by
              obtain ⟨h2, _⟩ := List.getElem?_eq_some_iff.mp h1
              exact h2
            rw [if_neg (by omega)] at h
            exact h
          refine t2 (updR ρ' η'.length D) G' H' ⟨S'.same, fun n o h => ?_, fun n m a h1 h2 h3 h4 => ?_, fun n hn' => ?_, S'.tab, S'.ntb⟩ ⟨fun n a h => er n a (E'.rho n a h), E'.same, E'.kept, E'.tbl, E'.fresh, fun a h => ?_⟩ (.ref D) ⟨D, self, rfl⟩
          · rcases cases_ n o h with h | ⟨rfl, rfl⟩
            · by_cases hd : o = .dead
              · subst hd; trivial
              · refine (S'.obj n o h).move er (Same.refl G') (fun a ha => ?_) fun a u _ hu => hu
                obtain ⟨b, h4, h6, _⟩ := (S'.obj n o h).at hd
                rw [ha] at h4; cases h4
                exact h6
            · exact ⟨D, acc, self, l'.1, hD', RepL.ofData ra⟩
          · rcases lv n h1 with h1 | rfl <;> rcases lv m h2 with h2 | rfl
            · exact S'.inj n m a h1 h2 (rold n a h1 h3) (rold m a h2 h4)
            · rw [self] at h4; cases h4
              exact absurd ⟨n, h1, rold n _ h1 h3⟩ l'.2
            · rw [self] at h3; cases h3
              exact absurd ⟨m, h2, rold m _ h2 h4⟩ l'.2
            · rfl
          · rw [List.length_append] at hn'
            simp only [List.length_singleton] at hn'
            unfold updR
            rw [if_neg (by omega)]
            exact S'.new n (by omega)
          · obtain ⟨n, h1, h2⟩ := h
            rcases lv n h1 with h1 | rfl
            · exact E'.own a ⟨n, h1, rold n a h1 h2⟩
            · rw [self] at h2; cases h2; exact .inr hD
      · rw [if_neg hz] at t2
        exact Fin.badE t2
end
end Ip

set_option Elab.async false
set_option linter.all false
set_option maxRecDepth 100000
set_option maxHeartbeats 400000
/-! IpDc: dict comprehensions of one clause, keys ints or texts. -/
namespace Ip
open PySem PySem.Spec PyProof.Rows L2
section
variable {Γ : Env} {c : Cfg} {S : SC} {k : Nat} {Z : WX} {X : Cx}
def turnP (c : Cfg) (vs : List Nat) (pt : Pt) (r : Ex) (ν : List (Option W)) : W → M (List (D × D)) := fun x => noX (match bindP pt x (wipeV ν vs) with
  | some ν' => evp c r ν'
  | none => M.bad)
theorem ev_dc {vs : List Nat} {ik : Ik} {pt : Pt} {it r : Ex} : ev c (.dc vs ik pt it r) = fun ν => (do let q ← itM ik (evl c it) ν; let ys ← loopM ik q.1 q.2.1 (turnP c vs pt r ν) q.2.2; mkDC ys) := by
  funext ν
  simp [ev, itM]
  rfl
/-- the turn's readings -/
inductive GenP (Γ : Env) (c : Cfg) : Ex → TT → TE → TE → Prop
  | y (x y : Ex) : GenP Γ c (.yld2 x y) tYes (tI Γ ZN (ev c x)) (tI Γ ZN (ev c y))
  | f (t x y : Ex) : GenP Γ c (.gif t (.yld2 x y)) (tT Γ ZN (ev c t)) (tI Γ ZN (ev c x)) (tI Γ ZN (ev c y))
theorem yld2_ok {x y : Ex} {ν : List (Option W)} {η η' : Hv} {ys : List (D × D)} (h : evp c (.yld2 x y) ν η = .ok ys η') : ∃ d1 d2 η1, ev c x ν η = .ok (.d d1) η1 ∧ ev c y ν η1 = .ok (.d d2) η' ∧ ys = [(d1, d2)] := by
  simp only [evp] at h
  rw [M.bind_ap] at h
  cases e : ev c x ν η with
  | ok w η1 =>
    rw [e] at h
    simp only at h
    rw [M.bind_ap] at h
    cases e2 : ev c y ν η1 with
    | ok w2 η2 =>
      rw [e2] at h
      cases w <;> cases w2 <;> first | (cases h; done) | skip
      cases h
      exact ⟨_, _, η1, rfl, e2, rfl⟩
    | exc x η1 => rw [e2] at h; cases h
    | bad => rw [e2] at h; cases h
  | exc x η1 => rw [e] at h; cases h
  | bad => rw [e] at h; cases h
theorem gifp_ok {t r : Ex} {ν : List (Option W)} {η η' : Hv} {ys : List (D × D)} (h : evp c (.gif t r) ν η = .ok ys η') : ∃ b η1, ev c t ν η = .ok (.d (.bl b)) η1 ∧ (b = true → evp c r ν η1 = .ok ys η') ∧ (b = false → ys = [] ∧ η' = η1) := by
  simp only [evp] at h
  rw [M.bind_ap] at h
  cases e : ev c t ν η with
  | ok w η1 =>
    rw [e] at h
    cases w with
    | d d =>
      cases d <;> first | (cases h; done) | skip
      rename_i b
      refine ⟨b, η1, rfl, fun hb => ?_, fun hb => ?_⟩
      · subst hb; exact h
      · subst hb; cases h; exact ⟨rfl, rfl⟩
    | ref n => cases h
    | clo l cs => cases h
  | exc x η1 => rw [e] at h; cases h
  | bad => rw [e] at h; cases h
theorem genp_read {r : Ex} {tt : TT} {tk tv : TE} (hr : GenP Γ c r tt tk tv) {ν : List (Option W)} {ρ : Rho} {G H : Hp} {η η' : Hv} {σ : L2.St} {ys : List (D × D)} (Sm : Sim Γ ρ G η H) (T : Slots Γ G ρ ν σ) (e : evp c r ν η = .ok ys η')
    {K1 : V → V → Hp → Prop} {K0 : Hp → Prop} (h1 : ∀ d1 d2 y z ρ' G' H', ys = [(d1, d2)] → Sim Γ ρ' G' η' H' → Ext ρ G η H ρ' G' η' H' → Rep Γ G' d1 y → Rep Γ G' d2 z → K1 y z H') (h0 : ∀ ρ' G' H', ys = [] → Sim Γ ρ' G' η' H' → Ext ρ G η H ρ' G' η' H' → K0 H') :
    tt σ H fun b H3 => if b = true then tk σ H3 fun y H4 => tv σ H4 fun z H5 => K1 y z H5 else K0 H3 := by
  cases hr with
  | y x y =>
    obtain ⟨d1, d2, η1, e1, e2, rfl⟩ := yld2_ok e
    show (if true = true then tI Γ ZN (ev c x) σ H (fun y1 H4 => tI Γ ZN (ev c y) σ H4 fun z H5 => K1 y1 z H5) else K0 H)
    rw [if_pos rfl]
    refine ⟨ν, η, ρ, G, Sm, T, ?_⟩
    rw [e1]
    intro ρ1 G1 H1 S1 E1 v rv
    refine ⟨ν, η1, ρ1, G1, S1, T.mono E1.same E1.rho, ?_⟩
    rw [e2]
    exact fun ρ' G' H' S' E' v2 rv2 => h1 d1 d2 v v2 ρ' G' H' rfl S' (E1.trans E') (Rep.mono E'.same rv) rv2
  | f t x y =>
    obtain ⟨b, η0, e0, et, ef⟩ := gifp_ok e
    refine ⟨ν, η, ρ, G, Sm, T, ?_⟩
    rw [e0]
    intro ρ0 G0 H0 S0 E0
    refine ⟨b, rfl, ?_⟩
    cases b with
    | true =>
      rw [if_pos rfl]
      obtain ⟨d1, d2, η1, e1, e2, rfl⟩ := yld2_ok (et rfl)
      refine ⟨ν, η0, ρ0, G0, S0, T.mono E0.same E0.rho, ?_⟩
      rw [e1]
      intro ρ1 G1 H1 S1 E1 v rv
      refine ⟨ν, η1, ρ1, G1, S1, (T.mono E0.same E0.rho).mono E1.same E1.rho, ?_⟩
      rw [e2]
      exact fun ρ' G' H' S' E' v2 rv2 => h1 d1 d2 v v2 ρ' G' H' rfl S' (E0.trans (E1.trans E')) (Rep.mono E'.same rv) rv2
    | false =>
      rw [if_neg Bool.false_ne_true]
      obtain ⟨rfl, rfl⟩ := ef rfl
      exact h0 ρ0 G0 H0 rfl S0 E0
theorem mkDC_ok {ys : List (D × D)} {Rp : Hp → Rho → W → Hp → Prop} {σ : L2.St} {ρ : Rho} {G : Hp} {η0 η : Hv} {H : Hp} (h : Fin Γ Z Rp σ ρ G η0 H (mkDC ys η)) : allKK ys = true ∧ ys.length ≤ lim ∧ Fin Γ Z Rp σ ρ G η0 H (.ok (.d (.dct (mergeD [] ys))) η) := by
  unfold mkDC at h
  split at h
  · rename_i e
    rw [Bool.and_eq_true, decide_eq_true_eq] at e
    exact ⟨e.1, e.2, h⟩
  · exact Fin.badE h
theorem loop_boundP {ik : Ik} {ws : List W} {sn : Snap} {f : W → M (List (D × D))} (hf : ∀ x η e η', f x η ≠ .exc e η') {ys : List (D × D)} {xs : List W} {Rp : Hp → Rho → W → Hp → Prop} {σ : L2.St} {ρ : Rho} {G : Hp} {η0 η : Hv} {H : Hp}
    (h : Fin Γ Z Rp σ ρ G η0 H ((loopM ik ws sn f xs >>= fun zs => mkDC (ys ++ zs)) η)) : allKK ys = true ∧ ys.length ≤ lim := by
  rw [M.bind_ap] at h
  cases q : loopM ik ws sn f xs η with
  | ok zs η1 =>
    rw [q] at h
    obtain ⟨h1, h2, _⟩ := mkDC_ok h
    unfold allKK at h1 ⊢
    rw [List.all_append, Bool.and_eq_true] at h1
    rw [List.length_append] at h2
    exact ⟨h1.1, by omega⟩
  | exc x η1 => exact absurd q (loop_noexc hf xs η x η1)
  | bad => rw [q] at h; exact Fin.badE h
theorem merge_snoc (kvs : List (D × D)) (p : D × D) : ∀ ys : List (D × D), mergeD kvs (ys ++ [p]) = setK (mergeD kvs ys) p.1 p.2
  | [] => rfl
  | q :: ys => by
    show mergeD (setK kvs q.1 q.2) (ys ++ [p]) = _
    rw [merge_snoc _ p ys]
    rfl
theorem setK_len (kvs : List (D × D)) (k v : D) : (setK kvs k v).length ≤ kvs.length + 1 := by
  unfold setK
  split
  · simp
  · simp
theorem merge_len : ∀ (ys kvs : List (D × D)), (mergeD kvs ys).length ≤ kvs.length + ys.length
  | [], kvs => by simp [mergeD]
  | q :: ys, kvs => by
    have h1 := merge_len ys (setK kvs q.1 q.2)
    have h2 := setK_len kvs q.1 q.2
    show (mergeD (setK kvs q.1 q.2) ys).length ≤ _
    rw [List.length_cons]
    omega
/-- the comprehension's reading -/
theorem dc_read {vs : List Nat} {ik : Ik} {pt : Pt} {it r : Ex} {tt : TT} {tk tv : TE} (hr : GenP Γ c r tt tk tv) (hv : ∀ i ∈ pt.vars, i ∈ vs) {σ : L2.St} {H : Hp} {Q : VK} (t : tI Γ Z (ev c (.dc vs ik pt it r)) σ H Q) :
    tDc (tIt Γ Z ik (evl c it)) (gB Γ pt) tt tk tv vs σ H Q := by
  rw [ev_dc] at t
  obtain ⟨ν, η, ρ, G, S0, T0, t⟩ := t
  refine ⟨ν, η, ρ, G, S0, T0, Fin.bind t _ fun q ρ1 G1 η1 H1 S1 E1 t1 us ru cs J hJ => ?_⟩
  obtain ⟨ws, sn, its⟩ := q
  simp only at t1 ru cs hJ
  have T1 := T0.mono E1.same E1.rho
  intro D hD
  have hf : ∀ x η e η', turnP c vs pt r ν x η ≠ .exc e η' := fun x η e η' => noX_noexc
  have l1 : Loose G1 η1 ρ1 D := ⟨S1.gnone hD, S1.notOwn hD⟩
  refine ⟨fun i m H => m = its.length - i ∧ i ≤ its.length ∧ ∃ η' ρ' G' ys acc, Sim Γ ρ' G' η' H ∧ Ext ρ1 G1 η1 H1 ρ' G' η' H ∧ Loose G' η' ρ' D ∧ H D = some (.dK acc) ∧ RepP Γ G' (mergeD [] ys) acc ∧
    Fin Γ Z (pW Γ Q) σ ρ1 G1 η1 H1 ((loopM ik ws sn (turnP c vs pt r ν) (its.drop i) >>= fun zs => mkDC (ys ++ zs)) η'), ⟨its.length, by simp, Nat.zero_le _, η1, ρ1, G1, [], [], S1.loose l1 _ (fun u z => by rw [hD] at z; cases z), (Ext.refl _ _ _ _).loose hD _, l1, upd_same, .nil, ?_⟩, ?_⟩
  · rw [List.drop_zero]
    simpa using t1
  · rintro i m H' ⟨rfl, hi, η', ρ', G', ys, acc, S', E', l', hD', ra, t'⟩
    have rus : RepWs Γ G' ρ' ws us := ru.mono E'.same E'.rho
    by_cases hlt : i < its.length
    · -- a turn
      rw [List.drop_eq_getElem_cons hlt] at t'
      obtain ⟨hsn, t2⟩ := loop_step t'
      have cs' := snap_ok S' rus hsn
      refine .inr ⟨hJ.goes i G' ρ' H' hlt S'.same cs', _, fun H'' w => ⟨its.length - (i + 1), by omega, w⟩, fun x H2 y => ?_⟩
      obtain ⟨w, hw, sm, rw_⟩ := hJ.yields i G' ρ' H' x H2 hlt S'.same cs' y
      have ew : w = its[i] := by simpa [hlt] using hw.symm
      subst ew
      have S2 := S'.grow sm
      have E2 := Ext.grow S' sm
      obtain ⟨l2, hD2⟩ := l'.ext hD' E2
      have E12 := E'.trans E2
      obtain ⟨zs, η3, ez, t3⟩ := noX_ok (m := (match bindP pt its[i] (wipeV ν vs) with
        | some ν' => evp c r ν'
        | none => M.bad)) t2
      cases eb : bindP pt its[i] (wipeV ν vs) with
      | none => rw [eb] at ez; cases ez
      | some ν' =>
        rw [eb] at ez
        have ez : evp c r ν' η' = .ok zs η3 := ez
        refine ⟨wipeV ν vs, ρ', _, its[i], ν', (T1.wipe vs).mono (E'.same.trans (grow_same S'.same)) E'.rho, S2.same, rw_, eb, fun σ2 hl ho T2 => ⟨wipe_eq hl fun j hj => ho j fun q => hj (hv j q), ?_⟩⟩
        refine genp_read hr S2 T2 ez (fun d1 d2 yv zv ρ4 G4 H4 hz S4 E4 rd1 rd2 => ?_) fun ρ4 G4 H4 hz S4 E4 => ?_
        · subst hz
          obtain ⟨l4, hD4⟩ := l2.ext hD2 E4
          have E14 := E12.trans E4
          have ra4 := RepP.mono ((grow_same S'.same).trans E4.same) ra
          have t4 : Fin Γ Z (pW Γ Q) σ ρ1 G1 η1 H1 ((loopM ik ws sn (turnP c vs pt r ν) (its.drop (i + 1)) >>= fun zs => mkDC ((ys ++ [(d1, d2)]) ++ zs)) η3) := by
            simpa [List.append_assoc] using t3
          obtain ⟨hkk, hb⟩ := loop_boundP hf t4
          have hk1 : (keyK d1).isSome = true := by
            unfold allKK at hkk
            rw [List.all_append, Bool.and_eq_true] at hkk
            simpa using hkk.2
          obtain ⟨key, hkey⟩ := Option.isSome_iff_exists.mp hk1
          have eyv : yv = kV key := keyV' hkey rd1
          have hm := merge_len ys []
          refine ⟨acc, key, eyv, hD4, by rw [ra.length, hsz]; simp at hb hm; omega, rfl, hlt, η3, ρ4, G4, ys ++ [(d1, d2)], putK acc key zv, S4.loose l4 _ (fun u z => by rw [hD4] at z; cases z; exact trivial), E14.loose hD _, l4, upd_same, ?_, t4⟩
          rw [merge_snoc]
          exact RepP.set hkey rd2 ra4
        · subst hz
          obtain ⟨l4, hD4⟩ := l2.ext hD2 E4
          have E14 := E12.trans E4
          have ra4 := RepP.mono ((grow_same S'.same).trans E4.same) ra
          exact ⟨rfl, hlt, η3, ρ4, G4, ys, acc, S4, E14, l4, hD4, ra4, by simpa using t3⟩
    · -- the end
      have ei : i = its.length := by omega
      subst ei
      rw [List.drop_length] at t'
      obtain ⟨hsn, t2⟩ := loop_end t'
      have cs' := snap_ok S' rus hsn
      refine .inl ⟨hJ.stops G' ρ' H' S'.same cs', ?_⟩
      rw [List.append_nil] at t2
      obtain ⟨_, _, t2⟩ := mkDC_ok t2
      have sg : Same G' (upd G' D (.dK acc)) := same_upd l'.1
      refine t2 ρ' (upd G' D (.dK acc)) H' ⟨fun a u h => ?_, fun n o h => ?_, S'.inj, S'.new, S'.tab, fun a ps z => by
        by_cases e : a = D
        · subst e; rw [upd_same] at z; cases z
        · rw [upd_ne e] at z; exact S'.ntb a ps z⟩ ⟨E'.rho, E'.same.trans sg, E'.kept, E'.tbl, fun a h => ?_, E'.own⟩ (.ref D) (.dctK (.inl upd_same) (RepP.mono sg ra))
      · by_cases e : a = D
        · subst e; rw [upd_same] at h; cases h; exact hD'
        · rw [upd_ne e] at h; exact S'.same a u h
      · by_cases hd : o = .dead
        · subst hd; trivial
        · refine (S'.obj n o h).move (fun _ _ q => q) sg (fun a ha => ?_) fun a u _ hu => hu
          obtain ⟨b, h4, h6, _⟩ := (S'.obj n o h).at hd
          rw [ha] at h4; cases h4
          have : a ≠ D := fun e => by subst e; exact l'.2 ⟨n, ⟨o, h, hd⟩, ha⟩
          rw [upd_ne this]
          exact h6
      · by_cases e : a = D
        · subst e; exact .inr (.inl hD)
        · rw [upd_ne e] at h; exact E'.fresh a h
/-- name = {..} on one line, the name a local -/
theorem ps_setDc {i : Nat} {y : Str} {py : Pos} {kx vx tg iter : Expr} {ifs : List Expr} {scope : Scope} {own : List (Str × Nat)} {pos spos : Pos} {wi : TI} {g : TG} {tt : TT} {tk tv : TE} (hc : X.calm = true) (hN : X.N.Nodup) (hy : X.N[i]? = some y) (hyl : X.env.scope.names.lookup y = some .local)
    (hsw : swapsWith (.DictComp kx vx [⟨tg, iter, ifs, 0⟩] scope pos) (some (.Name y py)) spos.line X.env = pure true) (hi : PI X tg iter wi) (ok : BlkOk X.N X.env.scope scope own)
    (hg : ∀ (s : Shared) (H : Hp) (C : Addr) (cl : List (Str × Addr)) (fp : List Addr), PG (X.blk s H scope (compEnvC scope cl C X.env) fp) tg g) (ht : ∀ (s : Shared) (H : Hp) (C : Addr) (cl : List (Str × Addr)) (fp : List Addr), PTs (X.blk s H scope (compEnvC scope cl C X.env) fp) ifs tt)
    (hk : ∀ (s : Shared) (H : Hp) (C : Addr) (cl : List (Str × Addr)) (fp : List Addr), PE (X.blk s H scope (compEnvC scope cl C X.env) fp) kx tk) (he : ∀ (s : Shared) (H : Hp) (C : Addr) (cl : List (Str × Addr)) (fp : List Addr), PE (X.blk s H scope (compEnvC scope cl C X.env) fp) vx tv) (hs : ∀ x, foldedSetIterable iter X.env x = pure x) :
    PS X (.Assign [.Name y py] (.DictComp kx vx [⟨tg, iter, ifs, 0⟩] scope pos) spos) (tAsg (tDc wi g tt tk tv (own.map (·.2))) (gName i)) := by
  refine ⟨fun pins s σ H D I h => ?_⟩
  rw [exec_Assign_Name_used _ _ _ _ hsw]
  refine wpAny_bind (wpAny_standAt (wpAny_bind ?_))
  show wpAny _ X.A (do let _ ← comprehension (.DictComp kx vx [⟨tg, iter, ifs, 0⟩] scope pos) scope X.env (firstIterPos [⟨tg, iter, ifs, 0⟩] pos) newDict false (eval iter X.env) (some (assign (.Name y py) X.env))) _ _ s
  have h : tDc wi g tt tk tv (own.map (·.2)) σ H (fun x H1 => gName i x σ H1 D.nx) := h
  refine wpAny_bind (thn (dc_core (Qf := fun _ s' => SP X pins D .next s') hc hN I hi ok hg ht hk he hs h fun L C s' m H' I' q hn f => ?_) fun _ s' hq => wpAny_pure (wpAny_pure hq))
  show wpAny _ _ (assign (.Name y py) X.env (.ref L)) _ _ _
  refine wpAny_assign_Name (store_ok2 (v := V.ref L) I' hN hy (.inl hyl) rfl (fun s2 I2 ⟨a, sb, ha⟩ => ?_) (.inr hyl))
  obtain ⟨f0, f1, f2, f3, f4, f5⟩ := f
  have haC : C ≠ a := by
    rcases ha with z | z
    · rw [z]; exact f1
    · exact fun e => f4 y a z e.symm
  refine ⟨m, hn.sameBut sb haC, fun h3 sb3 => ?_⟩
  exact ⟨_, H', I2.turned (t' := s2.toks) (fun b o hb e => (sb3.2 b hb).trans e) f0 f1 f3 f4 f5, q⟩
end
end Ip

set_option Elab.async false
set_option linter.all false
set_option maxRecDepth 100000
set_option maxHeartbeats 400000
/-! IpDct: pop, own dicts. -/
namespace Ip
open PySem PySem.Spec PyProof.Rows L2
section
variable {Γ : Env} {B : Tb} {c : Cfg} {S : SC} {k : Nat} {Z : WX} {X : Cx} {ρ : Rho} {G H : Hp} {η : Hv}
theorem RepWs.dropLast {G : Hp} {ρ : Rho} : ∀ {ws : List W} {vs : List V}, RepWs Γ G ρ ws vs → RepWs Γ G ρ ws.dropLast vs.dropLast
  | _, _, .nil => .nil
  | _, _, .cons h .nil => .nil
  | _, _, .cons h (.cons h2 r) => .cons h (RepWs.dropLast (.cons h2 r))
theorem RepWs.eraseIdx {G : Hp} {ρ : Rho} : ∀ {ws : List W} {vs : List V} (i : Nat), RepWs Γ G ρ ws vs → RepWs Γ G ρ (ws.eraseIdx i) (vs.eraseIdx i)
  | _, _, _, .nil => .nil
  | _, _, 0, .cons _ r => r
  | _, _, i + 1, .cons h r => .cons h (RepWs.eraseIdx i r)
theorem popW_ok {w : W} {Rp : Hp → Rho → W → Hp → Prop} {σ : L2.St} {H0 : Hp} {ρ0 : Rho} {G0 : Hp} {η0 : Hv} (h : Fin Γ Z Rp σ ρ0 G0 η0 H0 (popW w η)) : ∃ n ws x, w = .ref n ∧ η[n]? = some (.lst ws) ∧ ws.getLast? = some x ∧ Fin Γ Z Rp σ ρ0 G0 η0 H0 (.ok x (η.set n (.lst ws.dropLast))) := by
  unfold popW at h
  cases w with
  | d x => exact Fin.badE h
  | clo l cs => exact Fin.badE h
  | ref n =>
    simp only at h
    cases e : η[n]? with
    | none => rw [e] at h; exact Fin.badE h
    | some o =>
      rw [e] at h
      cases o with
      | lst ws =>
        simp only at h
        cases e2 : ws.getLast? with
        | none => rw [e2] at h; exact Fin.badE h
        | some x => rw [e2] at h; exact ⟨n, ws, x, rfl, e, e2, h⟩
      | dead => exact Fin.badE h
      | dct _ => exact Fin.badE h
      | cel _ => exact Fin.badE h
theorem popiW_ok {w i : W} {Rp : Hp → Rho → W → Hp → Prop} {σ : L2.St} {H0 : Hp} {ρ0 : Rho} {G0 : Hp} {η0 : Hv} (h : Fin Γ Z Rp σ ρ0 G0 η0 H0 (popiW w i η)) : ∃ n ws j m x, w = .ref n ∧ i = .d (.int j) ∧ η[n]? = some (.lst ws) ∧ ixN ws.length j = some m ∧ ws[m]? = some x ∧ (-(2 ^ 63) ≤ j ∧ j < 2 ^ 63) ∧ Fin Γ Z Rp σ ρ0 G0 η0 H0 (.ok x (η.set n (.lst (ws.eraseIdx m)))) := by
  unfold popiW at h
  cases w with
  | d x => exact Fin.badE h
  | clo l cs => exact Fin.badE h
  | ref n =>
    cases i with
    | ref m => exact Fin.badE h
    | clo l cs => exact Fin.badE h
    | d di =>
      cases di <;> first | exact Fin.badE h | skip
      rename_i j
      simp only at h
      cases e : η[n]? with
      | none => rw [e] at h; exact Fin.badE h
      | some o =>
        rw [e] at h
        cases o with
        | lst ws =>
          simp only at h
          cases e2 : ixN ws.length j with
          | none => rw [e2] at h; exact Fin.badE h
          | some m =>
            rw [e2] at h
            simp only at h
            cases e3 : ws[m]? with
            | none => rw [e3] at h; exact Fin.badE h
            | some x =>
              rw [e3] at h
              simp only at h
              by_cases hb : -(2 ^ 63) ≤ j ∧ j < 2 ^ 63
              · rw [if_pos hb] at h; exact ⟨n, ws, j, m, x, rfl, rfl, e, e2, e3, hb, h⟩
              · rw [if_neg hb] at h; exact Fin.badE h
        | dead => exact Fin.badE h
        | dct _ => exact Fin.badE h
        | cel _ => exact Fin.badE h
theorem snd_pop {a : Ex} (iha : SndE Γ B c a) : SndE Γ B c (.pop a) := by
  intro S k Z X g
  refine ⟨fun e h => ?_, fun es h => (by cases h), fun _ _ h => (by cases h)⟩
  obtain ⟨o, apos, cpos, rfl, h2, h3, h5⟩ := fMt0_inv (show fMt0 "pop" e (okE B a S) = true from h)
  have p1 := ((iha S k Z X g).1 _ h5).1
  have e2 : ev c (.pop a) = fun ν => (do let w ← ev c a ν; popW w) := by funext ν; simp [ev]
  refine both rfl (PE.imp (pe_bm0 PySem.F.plainAttrs_list PySem.F.slot_list_pop PySem.F.type_list_pop mt_pop p1 (base_of h2 _ _) h3) fun σ H Q t => ?_)
  rw [e2] at t
  obtain ⟨ν, η, ρ, G, S', T, t⟩ := t
  refine ⟨ν, η, ρ, G, S', T, Fin.bind t _ fun w ρ1 G1 η1 H1 S1 E1 t1 v rv => ?_⟩
  obtain ⟨n, ws, x, rfl, e3, e4, t2⟩ := popW_ok t1
  obtain ⟨p, vs, rfl, hp, hl, hH, rs⟩ := own_lst S1 e3 rv
  obtain ⟨S3, E3⟩ := S1.put hl hp rs.dropLast
  have hx : ws[ws.length - 1]? = some x := by rw [← List.getLast?_eq_getElem?]; exact e4
  obtain ⟨y, hy, ry⟩ := RepWs.get rs hx
  exact ⟨.inl ⟨rfl, vs, .inl (.inl hH)⟩, p, vs, y, rfl, rfl, hH, by rw [rs.length]; exact hy, t2 _ _ _ S3 E3 _ ry⟩
theorem snd_popi {a x : Ex} (iha : SndE Γ B c a) (ihx : SndE Γ B c x) : SndE Γ B c (.popi a x) := by
  intro S k Z X g
  refine ⟨fun e h => ?_, fun es h => (by cases h), fun _ _ h => (by cases h)⟩
  obtain ⟨o, apos, y, cpos, rfl, h2, h3, h4, h5, h6⟩ := fMt1_inv (show fMt1 "pop" e (okE B a S) (okE B x S) = true from h)
  have p1 := ((iha S k Z X g).1 _ h5).1
  have p2 := ((ihx S k Z X g).1 _ h6).1
  have pa : PA X [y] (tCons (tI Γ Z (ev c x)) tNil) := pa_cons p2 pa_nil (star_of h4 _ _)
  have e2 : ev c (.popi a x) = fun ν => (do let w ← ev c a ν; let _ ← chkL w; let i ← ev c x ν; popiW w i) := by funext ν; simp [ev]
  refine both rfl (PE.imp (pe_bm PySem.F.plainAttrs_list PySem.F.slot_list_pop PySem.F.type_list_pop mt_popAt p1 pa (base_of h2 _ _) (few1 h4) h3 (star_of h4 _ _) rfl) fun σ H Q t => ?_)
  rw [e2] at t
  obtain ⟨ν, η, ρ, G, S', T, t⟩ := t
  refine ⟨ν, η, ρ, G, S', T, Fin.bind t _ fun w ρ1 G1 η1 H1 S1 E1 t1 v rv => ?_⟩
  obtain ⟨n, ws, rfl, e3, t2⟩ := chkL_ok t1
  obtain ⟨p, vs, rfl, hp, hl, hH, rs⟩ := own_lst S1 e3 rv
  refine ⟨.inl ⟨rfl, vs, .inl (.inl hH)⟩, ν, η1, ρ1, G1, S1, T.mono E1.same E1.rho, Fin.bind t2 _ fun w2 ρ2 G2 η2 H2 S2 E2 t3 u ru => ?_⟩
  obtain ⟨n2, ws2, j, m, x2, e0, rfl, e4, e5, e6, hb, t4⟩ := popiW_ok t3
  cases e0
  cases ru
  obtain ⟨p2, vs2, e7, hp2, hl2, hH2, rs2⟩ := own_lst S2 e4 (v := .ref p) ⟨p, E2.rho _ _ hp, rfl⟩
  cases e7
  obtain ⟨S3, E3⟩ := S2.put hl2 hp2 (rs2.eraseIdx m)
  obtain ⟨y2, hy, ry⟩ := RepWs.get rs2 e6
  have hs : seqIndex? j vs2.length = some m := by rw [rs2.length]; exact (ixN_seq e5).1
  exact ⟨p, vs2, j, m, y2, rfl, rfl, hH2, hb.1, hb.2, hs, hy, t4 _ _ _ S3 E3 _ ry⟩

/-! ### own dicts -/
theorem RepKs.get {G : Hp} {ρ : Rho} {k : D} {key : Key} (hk : keyK k = some key) : ∀ {kvs : List (D × W)} {ks : List (Key × V)}, RepKs Γ G ρ kvs ks → ∀ {x : W}, getK kvs k = some x → ∃ v, valV ks key = some v ∧ RepW Γ G ρ x v
  | _, _, .nil, x, e => by cases e
  | (k0, w) :: r, (key0, v) :: rs, .cons h0 hx t, x, e => by
    by_cases q : k0 = k
    · subst q
      rw [hk] at h0; cases h0
      have e2 : getK ((k0, w) :: r) k0 = some w := by simp [getK]
      rw [e2] at e; cases e
      exact ⟨v, valV_pos rfl, hx⟩
    · have e2 : ¬ key0 = key := fun z => q (keyK_inj h0 (z ▸ hk))
      have e3 : getK ((k0, w) :: r) k = getK r k := by simp [getK, List.find?_cons, q]
      rw [e3] at e
      rw [valV_neg e2]
      exact RepKs.get hk t e
theorem RepKs.any {G : Hp} {ρ : Rho} {k : D} {key : Key} (hk : keyK k = some key) : ∀ {kvs : List (D × W)} {ks : List (Key × V)}, RepKs Γ G ρ kvs ks → (ks.any fun kv => decide (kv.1 = key)) = kvs.any fun p => decide (p.1 = k)
  | _, _, .nil => rfl
  | (k0, w) :: r, (key0, v) :: rs, .cons h0 _ t => by
    rw [List.any_cons, List.any_cons, RepKs.any hk t]
    congr 1
    by_cases q : k0 = k
    · subst q; rw [hk] at h0; cases h0; simp
    · have e2 : ¬ key0 = key := fun z => q (keyK_inj h0 (z ▸ hk))
      simp [q, e2]
theorem RepKs.append {G : Hp} {ρ : Rho} : ∀ {a b : List (D × W)} {x y : List (Key × V)}, RepKs Γ G ρ a x → RepKs Γ G ρ b y → RepKs Γ G ρ (a ++ b) (x ++ y)
  | _, _, _, _, .nil, s => s
  | _, _, _, _, .cons h0 h t, s => .cons h0 h (RepKs.append t s)
theorem RepKs.length {G : Hp} {ρ : Rho} : ∀ {a : List (D × W)} {x : List (Key × V)}, RepKs Γ G ρ a x → x.length = a.length
  | _, _, .nil => rfl
  | _, _, .cons _ _ t => by simp [RepKs.length t]
theorem RepKs.repl {G : Hp} {ρ : Rho} {k : D} {key : Key} {w : W} {v : V} (hk : keyK k = some key) (rw_ : RepW Γ G ρ w v) : ∀ {kvs : List (D × W)} {ks : List (Key × V)}, RepKs Γ G ρ kvs ks →
    RepKs Γ G ρ (kvs.map fun p => if p.1 = k then (p.1, w) else p) (ks.map fun kv => if kv.1 = key then (kv.1, v) else kv)
  | _, _, .nil => .nil
  | (k0, w0) :: r, (key0, v0) :: rs, .cons h0 hx t => by
    rw [List.map_cons, List.map_cons]
    by_cases q : k0 = k
    · have e : key0 = key := by subst q; rw [hk] at h0; cases h0; rfl
      simp only [q, e, if_true]
      exact .cons hk rw_ (RepKs.repl hk rw_ t)
    · have e2 : ¬ key0 = key := fun z => q (keyK_inj h0 (z ▸ hk))
      simp only [q, e2, if_false]
      exact .cons h0 hx (RepKs.repl hk rw_ t)
theorem RepKs.set {G : Hp} {ρ : Rho} {k : D} {key : Key} {w : W} {v : V} (hk : keyK k = some key) (rw_ : RepW Γ G ρ w v) {kvs : List (D × W)} {ks : List (Key × V)} (r : RepKs Γ G ρ kvs ks) : RepKs Γ G ρ (setK kvs k w) (putK ks key v) := by
  unfold setK putK
  rw [r.any hk]
  split
  · exact r.repl hk rw_
  · exact r.append (.cons hk rw_ .nil)
theorem kvOf {G : Hp} {ρ : Rho} {k : D} {key : Key} {v : V} (hk : keyK k = some key) (r : RepW Γ G ρ (.d k) v) : v = kV key := by
  have r' : Rep Γ G k v := r
  cases k <;> first | (cases hk; done) | skip
  · cases hk; cases r'; rfl
  · cases hk; cases r'; rfl
theorem dgetW_ok {w kw : W} {Rp : Hp → Rho → W → Hp → Prop} {σ : L2.St} {H0 : Hp} {ρ0 : Rho} {G0 : Hp} {η0 : Hv} (h : Fin Γ Z Rp σ ρ0 G0 η0 H0 (dgetW w kw η)) : ∃ n kvs kd key x, w = .ref n ∧ kw = .d kd ∧ η[n]? = some (.dct kvs) ∧ keyK kd = some key ∧ getK kvs kd = some x ∧ Fin Γ Z Rp σ ρ0 G0 η0 H0 (.ok x η) := by
  unfold dgetW at h
  cases w with
  | d x => exact Fin.badE h
  | clo l cs => exact Fin.badE h
  | ref n =>
    cases kw with
    | ref m => exact Fin.badE h
    | clo l cs => exact Fin.badE h
    | d kd =>
      simp only at h
      cases e : η[n]? with
      | none => rw [e] at h; exact Fin.badE h
      | some o =>
        rw [e] at h
        cases o with
        | dct kvs =>
          simp only at h
          cases e2 : keyK kd with
          | none => rw [e2] at h; exact Fin.badE h
          | some key =>
            rw [e2] at h
            simp only [Option.isSome_some, if_true] at h
            cases e3 : getK kvs kd with
            | none => rw [e3] at h; exact Fin.badE h
            | some x => rw [e3] at h; exact ⟨n, kvs, kd, key, x, rfl, rfl, e, e2, e3, h⟩
        | dead => exact Fin.badE h
        | lst _ => exact Fin.badE h
        | cel _ => exact Fin.badE h
theorem snd_dget {a b : Ex} (iha : SndE Γ B c a) (ihb : SndE Γ B c b) : SndE Γ B c (.dget a b) := by
  intro S k Z X g
  refine ⟨fun e h => ?_, fun es h => (by cases h), fun _ _ h => (by cases h)⟩
  obtain ⟨o, i, pos, rfl, h1, h2, h3⟩ := fItem2_inv (show fItem2 e (okE B a S) (okE B b S) = true from h)
  have p1 := ((iha S k Z X g).1 _ h2).1
  have p2 := ((ihb S k Z X g).1 _ h3).1
  have e2 : ev c (.dget a b) = fun ν => (do let w ← ev c a ν; let k ← ev c b ν; dgetW w k) := by funext ν; simp [ev]
  refine both rfl (PE.imp (pe_dget (by have := g.room.un; omega) p1 p2 (plainIx_of h1)) fun σ H Q t => ?_)
  rw [e2] at t
  obtain ⟨ν, η, ρ, G, S', T, t⟩ := t
  refine ⟨ν, η, ρ, G, S', T, Fin.bind t _ fun w ρ1 G1 η1 H1 S1 E1 t1 v rv => ?_⟩
  refine ⟨ν, η1, ρ1, G1, S1, T.mono E1.same E1.rho, Fin.bind t1 _ fun w2 ρ2 G2 η2 H2 S2 E2 t2 u ru => ?_⟩
  obtain ⟨n, kvs, kd, key, x, rfl, rfl, e3, e4, e5, t3⟩ := dgetW_ok t2
  obtain ⟨p, ks, rfl, hp, hl, hH, rk⟩ := own_dct S2 e3 (rv.mono E2.same E2.rho)
  obtain ⟨y, h6, h7⟩ := rk.get e4 e5
  have ek := kvOf e4 ru
  subst ek
  exact ⟨p, y, rfl, .inl ⟨ks, key, .inl hH, rfl, h6.symm⟩, t3 ρ2 G2 H2 S2 (Ext.refl _ _ _ _) y h7⟩
end
end Ip

set_option Elab.async false
set_option linter.all false
set_option maxRecDepth 100000
set_option maxHeartbeats 400000
/-! IpDct2: displays of own dicts. -/
namespace Ip
open PySem PySem.Spec PyProof.Rows L2
section
variable {Γ : Env} {B : Tb} {c : Cfg} {S : SC} {k : Nat} {Z : WX} {X : Cx} {ρ : Rho} {G H : Hp} {η : Hv}
theorem Fin.bindB {α β : Type} {Rp : Hp → Rho → β → Hp → Prop} {σ : L2.St} {ρ0 : Rho} {G0 : Hp} {η0 : Hv} {H0 : Hp} {m : M α} {kk : α → M β} (E0 : Ext ρ0 G0 η0 H0 ρ G η H) (h : Fin Γ Z Rp σ ρ0 G0 η0 H0 ((m >>= kk) η)) :
    ∀ (Rq : Hp → Rho → α → Hp → Prop), (∀ w ρ1 G1 η1 H1, Sim Γ ρ1 G1 η1 H1 → Ext ρ G η H ρ1 G1 η1 H1 → Fin Γ Z Rp σ ρ0 G0 η0 H0 (kk w η1) → Rq G1 ρ1 w H1) → Fin Γ Z Rq σ ρ G η H (m η) := by
  intro Rq hq
  rw [M.bind_ap] at h
  cases e : m η with
  | ok w η1 =>
    rw [e] at h
    exact fun ρ1 G1 H1 S1 E1 => hq w ρ1 G1 η1 H1 S1 E1 h
  | exc x η1 =>
    rw [e] at h
    exact fun cls d ρ' G' H' S' E' r => h cls d ρ' G' H' S' (E0.trans E') r
  | bad =>
    rw [e] at h
    exact h
/-- a loose object becomes the run's own -/
theorem Sim.adopt {D : Addr} (Sm : Sim Γ ρ G η H) (l : Loose G η ρ D) (hq : ∀ u, H D = some u → Cont u) {vo : VO} {ho : HO} (r : RepC Γ G ρ vo ho) :
    Sim Γ (updR ρ η.length D) G (η ++ [vo]) (upd H D ho) ∧ ∀ {ρ0 : Rho} {G0 : Hp} {η0 : Hv} {H0 : Hp}, H0 D = none → Ext ρ0 G0 η0 H0 ρ G η H → Ext ρ0 G0 η0 H0 (updR ρ η.length D) G (η ++ [vo]) (upd H D ho) := by
  have hn : ρ η.length = none := Sm.new _ (Nat.le_refl _)
  have er := updR_le (p := D) hn
  have self : updR ρ η.length D η.length = some D := by unfold updR; rw [if_pos rfl]
  have cases_ : ∀ n o, (η ++ [vo])[n]? = some o → η[n]? = some o ∨ (n = η.length ∧ o = vo) := fun n o e => by
    by_cases h : n < η.length
    · rw [List.getElem?_append_left h] at e; exact .inl e
    · rw [List.getElem?_append_right (by omega)] at e
      have : n - η.length = 0 := by
        cases q : n - η.length with
        | zero => rfl
        | succ k => rw [q] at e; simp at e
      rw [this] at e
      simp at e
      exact .inr ⟨by omega, e.symm⟩
  have lv : ∀ n, live (η ++ [vo]) n → live η n ∨ n = η.length := fun n ⟨o, h1, h2⟩ => by
    rcases cases_ n o h1 with h | ⟨h, _⟩
    · exact .inl ⟨o, h, h2⟩
    · exact .inr h
  have rold : ∀ n a, live η n → updR ρ η.length D n = some a → ρ n = some a := fun n a ⟨o, h1, _⟩ h => by
    unfold updR at h
    have : n < η.length := by
      obtain ⟨h2, _⟩ := List.getElem?_eq_some_iff.mp h1
      exact h2
    rw [if_neg (by omega)] at h
    exact h
  have S1 := Sm.loose l ho hq
  refine ⟨⟨S1.same, fun n o h => ?_, fun n m a h1 h2 h3 h4 => ?_, fun n hn' => ?_, S1.tab, S1.ntb⟩, fun {ρ0 G0 η0 H0} hD E => ⟨fun n a h => er n a (E.rho n a h), E.same, fun a u h no nt => ?_, fun a ps h => ?_, E.fresh, fun a h => ?_⟩⟩
  · rcases cases_ n o h with h | ⟨rfl, rfl⟩
    · by_cases hd : o = .dead
      · subst hd; trivial
      · refine (S1.obj n o h).move er (Same.refl G) (fun a ha => ?_) fun a u _ hu => hu
        obtain ⟨b, h4, h6, _⟩ := (S1.obj n o h).at hd
        rw [ha] at h4; cases h4
        exact h6
    · exact (r.mono (Same.refl G) er).rep self l.1 upd_same
  · rcases lv n h1 with h1 | rfl <;> rcases lv m h2 with h2 | rfl
    · exact Sm.inj n m a h1 h2 (rold n a h1 h3) (rold m a h2 h4)
    · rw [self] at h4; cases h4
      exact absurd ⟨n, h1, rold n _ h1 h3⟩ l.2
    · rw [self] at h3; cases h3
      exact absurd ⟨m, h2, rold m _ h2 h4⟩ l.2
    · rfl
  · rw [List.length_append] at hn'
    simp only [List.length_singleton] at hn'
    unfold updR
    rw [if_neg (by omega)]
    exact Sm.new n (by omega)
  · have : a ≠ D := ne_of_none h hD
    rw [upd_ne this]; exact E.kept a u h no nt
  · have : a ≠ D := ne_of_none h hD
    obtain ⟨qs, q⟩ := E.tbl a ps h
    exact ⟨qs, by rw [upd_ne this]; exact q⟩
  · obtain ⟨n, h1, h2⟩ := h
    rcases lv n h1 with h1 | rfl
    · exact E.own a ⟨n, h1, rold n a h1 h2⟩
    · rw [self] at h2; cases h2; exact .inr hD
/-- the pairs' readings -/
def trsOf (Γ : Env) (c : Cfg) (Z : WX) : Ex → List (TE × TE)
  | .cons a (.cons b r) => (tI Γ Z (ev c a), tI Γ Z (ev c b)) :: trsOf Γ c Z r
  | _ => []
def flatV2 : List (V × V) → List V
  | [] => []
  | (x, y) :: r => x :: y :: flatV2 r
theorem pps_ok {pos : Pos} : ∀ {x : Ex} {keys : List (Option Expr)} {vals : List Expr}, keys.all (·.isSome) = true → keys.length = vals.length → AllE Γ c Z X x (inter keys vals) → PPs X pos keys vals (trsOf Γ c Z x)
  | x, [], [], _, _, h => by
    have := h.nilOf
    subst this
    exact pps_nil
  | x, some kx :: keys, v :: vals, ha, hl, h => by
    simp only [List.all_cons, Bool.and_eq_true] at ha
    cases x <;> first | exact h.elim | skip
    rename_i a r
    obtain ⟨_, h1, h2⟩ := h
    cases r <;> first | exact h2.elim | skip
    rename_i b r
    obtain ⟨_, h3, h4⟩ := h2
    exact pps_cons h1 h3 (pps_ok ha.2 (by simpa using hl) h4)
  | x, none :: keys, _, ha, _, _ => by simp at ha
  | x, [], _ :: _, _, hl, _ => by simp at hl
  | x, _ :: _, [], _, hl, _ => by simp at hl
theorem pairs_read {σ : L2.St} {β : Type} {Rp : Hp → Rho → β → Hp → Prop} {ρ0 : Rho} {G0 : Hp} {η0 : Hv} {H0 : Hp} {ν : List (Option W)} : ∀ {x : Ex} {es : List Expr} (kk : List W → M β) {ρ : Rho} {G H : Hp} {η : Hv}, AllE Γ c Z X x es → es.length % 2 = 0 → Sim Γ ρ G η H → Slots Γ G ρ ν σ → Ext ρ0 G0 η0 H0 ρ G η H → Fin Γ Z Rp σ ρ0 G0 η0 H0 ((evl c x ν >>= kk) η) →
    ∀ {Q : List (V × V) → Hp → Prop}, (∀ ps ws ρ2 G2 η2 H2, Sim Γ ρ2 G2 η2 H2 → Ext ρ G η H ρ2 G2 η2 H2 → RepWs Γ G2 ρ2 ws (flatV2 ps) → Fin Γ Z Rp σ ρ0 G0 η0 H0 (kk ws η2) → Q ps H2) → tPairs (trsOf Γ c Z x) σ H Q
  | x, [], kk, ρ, G, H, η, h, _, S1, T, E0, t, Q, q => by
    have := h.nilOf
    subst this
    have e : (evl c .nil ν >>= kk) η = kk [] η := by simp [evl]
    rw [e] at t
    exact q [] [] ρ G η H S1 (Ext.refl _ _ _ _) .nil t
  | x, [_], kk, ρ, G, H, η, h, hl, S1, T, E0, t, Q, q => by simp at hl
  | x, e1 :: e2 :: es, kk, ρ, G, H, η, h, hl, S1, T, E0, t, Q, q => by
    cases x <;> first | exact h.elim | skip
    rename_i a r
    obtain ⟨_, h1, h2⟩ := h
    cases r <;> first | exact h2.elim | skip
    rename_i b r
    obtain ⟨_, h3, h4⟩ := h2
    have ee : (evl c (.cons a (.cons b r)) ν >>= kk) η = (ev c a ν >>= fun w1 => ev c b ν >>= fun w2 => evl c r ν >>= fun ws => kk (w1 :: w2 :: ws)) η := by simp [evl]
    rw [ee] at t
    refine ⟨ν, η, ρ, G, S1, T, Fin.bindB E0 t _ fun w1 ρ1 G1 η1 H1 S2 E1 t1 x1 r1 => ?_⟩
    have T1 := T.mono E1.same E1.rho
    refine ⟨ν, η1, ρ1, G1, S2, T1, Fin.bindB (E0.trans E1) t1 _ fun w2 ρ2 G2 η2 H2 S3 E2 t2 x2 r2 => ?_⟩
    have T2 := T1.mono E2.same E2.rho
    refine pairs_read (fun ws => kk (w1 :: w2 :: ws)) h4 (by simp at hl; omega) S3 T2 ((E0.trans E1).trans E2) t2 fun ps ws ρ3 G3 η3 H3 S4 E3 rr t3 => ?_
    have E23 := E2.trans E3
    exact q ((x1, x2) :: ps) (w1 :: w2 :: ws) ρ3 G3 η3 H3 S4 (E1.trans E23) (.cons (r1.mono E23.same E23.rho) (.cons (r2.mono E3.same E3.rho) rr)) t3
theorem pairs_rep {G : Hp} {ρ : Rho} : ∀ {ps : List (V × V)} {ws : List W} {kvs : List (D × W)}, RepWs Γ G ρ ws (flatV2 ps) → pairsW ws = some kvs → ∃ ks : List (Key × V), ps = ks.map (fun kv => (kV kv.1, kv.2)) ∧ RepKs Γ G ρ kvs ks
  | [], _, kvs, .nil, e => by cases e; exact ⟨[], rfl, .nil⟩
  | (x, y) :: ps, _, kvs, .cons (w := w1) h1 (.cons (w := w2) h2 r), e => by
    cases w1 with
    | ref n => cases e
    | clo l cs => cases e
    | d kd =>
      simp only [pairsW] at e
      cases hk : keyK kd with
      | none => rw [hk] at e; cases e
      | some key =>
        rw [hk] at e
        simp only [Option.isSome_some, if_true] at e
        rename_i ws
        cases q : pairsW ws with
        | none => rw [q] at e; cases e
        | some kr =>
          rw [q] at e
          cases e
          obtain ⟨ks, e1, e2⟩ := pairs_rep r q
          exact ⟨(key, y) :: ks, by rw [List.map_cons, ← e1, kvOf hk h1], .cons hk h2 e2⟩
theorem merge_nodup {G : Hp} {ρ : Rho} : ∀ {kvs : List (D × W)} {ks acc : List (Key × V)}, RepKs Γ G ρ kvs ks → ndupK kvs = true → (∀ p ∈ kvs, ∀ key, keyK p.1 = some key → (acc.any fun kv => decide (kv.1 = key)) = false) → mergeK acc ks = acc ++ ks
  | _, _, acc, .nil, _, _ => by simp [mergeK]
  | (k0, w) :: r, (key0, v) :: rs, acc, .cons h0 hw t, hn, hd => by
    simp only [ndupK, Bool.and_eq_true, Bool.not_eq_true'] at hn
    have e1 : putK acc key0 v = acc ++ [(key0, v)] := by
      unfold putK
      rw [hd (k0, w) (by simp) key0 h0]
      rfl
    have e2 : mergeK acc ((key0, v) :: rs) = mergeK (putK acc key0 v) rs := rfl
    rw [e2, e1, merge_nodup t hn.2 fun p hp key hk => ?_]
    · simp
    · rw [List.any_append, hd p (by simp [hp]) key hk]
      simp only [List.any_cons, List.any_nil, Bool.or_false, Bool.false_or, decide_eq_false_iff_not]
      intro e
      subst e
      have e3 := keyK_inj h0 hk
      have := List.any_eq_false.mp hn.1 p hp
      simp [e3] at this
theorem pairsW_even : ∀ {ws : List W} {kvs : List (D × W)}, pairsW ws = some kvs → ws.length = 2 * kvs.length
  | [], kvs, e => by cases e; rfl
  | .d kd :: w :: r, kvs, e => by
    simp only [pairsW] at e
    split at e
    · cases q : pairsW r with
      | none => rw [q] at e; cases e
      | some kr =>
        rw [q] at e
        cases e
        have := pairsW_even q
        simp; omega
    · cases e
  | [.d _], _, e => by cases e
  | .ref _ :: _, _, e => by cases e
  | .clo _ _ :: _, _, e => by cases e
theorem inter_len : ∀ {keys : List (Option Expr)} {vals : List Expr}, keys.all (·.isSome) = true → keys.length = vals.length → (inter keys vals).length = 2 * keys.length
  | [], [], _, _ => rfl
  | some _ :: ks, v :: vs, ha, hl => by
    simp only [List.all_cons, Bool.and_eq_true] at ha
    simp only [inter, List.length_cons]
    rw [inter_len ha.2 (by simpa using hl)]
    omega
  | none :: _, _, ha, _ => by simp at ha
  | [], _ :: _, _, hl => by simp at hl
  | _ :: _, [], _, hl => by simp at hl
theorem mkD_ok {ws : List W} {Rp : Hp → Rho → W → Hp → Prop} {σ : L2.St} {H0 : Hp} {ρ0 : Rho} {G0 : Hp} {η0 : Hv} (h : Fin Γ Z Rp σ ρ0 G0 η0 H0 (mkD ws η)) : ∃ kvs, pairsW ws = some kvs ∧ ndupK kvs = true ∧ kvs.length ≤ 15 ∧ Fin Γ Z Rp σ ρ0 G0 η0 H0 (.ok (.ref η.length) (η ++ [.dct kvs])) := by
  unfold mkD at h
  cases e : pairsW ws with
  | none => rw [e] at h; exact Fin.badE h
  | some kvs =>
    rw [e] at h
    simp only at h
    by_cases hc : (ndupK kvs && decide (kvs.length ≤ 15)) = true
    · rw [if_pos hc] at h
      rw [Bool.and_eq_true, decide_eq_true_eq] at hc
      exact ⟨kvs, rfl, hc.1, hc.2, h⟩
    · rw [if_neg hc] at h
      exact Fin.badE h
theorem snd_ndct {es : Ex} (ih : SndE Γ B c es) : SndE Γ B c (.ndct es) := by
  intro S k Z X g
  refine ⟨fun e h => ?_, fun es h => (by cases h), fun _ _ h => (by cases h)⟩
  obtain ⟨keys, vals, pos, rfl, h1, h2, h3, h4⟩ := fDct_inv (show fDct e (okL B es S) = true from h)
  have al := (ih S k Z X g).2.1 _ h4
  have e2 : ev c (.ndct es) = fun ν => (evl c es ν >>= mkD) := by funext ν; simp [ev]
  refine both rfl ?_
  cases keys with
  | nil =>
    cases vals with
    | cons _ _ => simp at h2
    | nil =>
      have := al.nilOf
      subst this
      refine PE.imp pe_dnewK fun σ H Q t => ?_
      rw [e2] at t
      obtain ⟨ν, η, ρ, G, S', T, t⟩ := t
      have t : Fin Γ Z (pW Γ Q) σ ρ G η H ((evl c .nil ν >>= mkD) η) := t
      have e : (evl c .nil ν >>= mkD) η = mkD [] η := by simp [evl]
      rw [e] at t
      obtain ⟨kvs, e3, e4, e5, t2⟩ := mkD_ok t
      cases e3
      intro p hp
      obtain ⟨S2, E2⟩ := S'.layO (ρ := ρ) hp (RepC.dct (Γ := Γ) (G := G) (ρ := ρ) .nil)
      exact t2 _ _ _ S2 E2 _ ⟨p, by unfold updR; rw [if_pos rfl], rfl⟩
  | cons k0 keys =>
    refine PE.imp (pe_disp (pps_ok h1 h2 al) h1 h2 (by simp) h3) fun σ H Q t => ?_
    rw [e2] at t
    obtain ⟨ν, η, ρ, G, S', T, t⟩ := t
    intro p hp
    have l0 : Loose G η ρ p := ⟨S'.gnone hp, S'.notOwn hp⟩
    refine pairs_read mkD al (by rw [inter_len h1 h2]; omega) (S'.loose l0 (.dK []) (fun u z => by rw [hp] at z; cases z)) T ((Ext.refl ρ G η H).loose hp _) t fun ps ws ρ2 G2 η2 H2 S2 E2 rr t2 => ?_
    obtain ⟨l2, hp2⟩ := l0.ext upd_same E2
    obtain ⟨kvs, e3, e4, e5, t3⟩ := mkD_ok t2
    obtain ⟨ks, e6, rk⟩ := pairs_rep rr e3
    refine ⟨hp2, ks, e6, by rw [rk.length]; exact e5, ?_⟩
    rw [merge_nodup rk e4 fun _ _ _ _ => rfl, List.nil_append]
    have E02 := ((Ext.refl ρ G η H).loose hp (.dK [])).trans E2
    have S3 := S2.adopt l2 (fun u z => by rw [hp2] at z; cases z; exact trivial) (RepC.dct rk)
    exact t3 _ _ _ S3.1 (S3.2 hp E02) _ ⟨p, by unfold updR; rw [if_pos rfl], rfl⟩
end
end Ip

set_option Elab.async false
set_option linter.all false
set_option maxRecDepth 100000
set_option maxHeartbeats 400000
/-! IpUpd: d.update(e), d an own dict, e a dict as data. -/
namespace Ip
open PySem PySem.Spec PyProof.Rows L2
section
variable {X : Cx} {pins : List (Addr × Obj)} {σ : L2.St} {H : Hp} {s : Shared}
theorem d_upd {A : Around} {E : Value → Shared → Prop} {a b : Addr} {kvs more : List (Key × V)} {Q : Value → Shared → Prop} (I : Inv X pins σ H s) (e : H a = some (.dK kvs)) (e2 : Rd H b (.dK more)) (hne : a ≠ b) (hz : kvs.length + more.length ≤ sizeLine)
    (h : ∀ s', Inv X pins σ (upd H a (.dK (mergeK kvs more))) s' → Q .none s') : wpAny (model X.prog X.w) A (call (.builtin "dict.update") [.ref a, .ref b]) Q E s := by
  obtain ⟨z, hd, vs, rel, dd⟩ := dk_of I.hok e
  obtain ⟨z2, hd2, vs2, rel2, dd2⟩ := dk_rd I.hok e2
  refine call_meetsIn PySem.F.slot_dict_update dd.typeIs PySem.F.entry_dict_update (PySem.F.args_dict_update_2 _ _) (meets_dict_update (mixKind X.prog X.w) a b hne hd2)
    ⟨vs, vs2, dd, dd2, by rw [← rel.length, ← rel2.length]; exact hz, fun h' dd' _ hs => h _ ?_⟩
  have he : ∃ q, h'.get? a = some q := let ⟨q, _, _, hq, _⟩ := dd'; ⟨q, hq⟩
  exact d_write I (by rw [e]; exact True.intro) hs he (dk_new (Nat.le_trans (length_mergeK more kvs) hz) hd (KV.merge rel2 rel) dd')
def tDUpd (td ty : L2.TE) : L2.TE := fun σ H Q => td σ H fun x H1 => ∃ a, x = .ref a ∧ L2.IsD H1 a ∧ ty σ H1 fun y H2 => ∃ b kvs more, y = .ref b ∧ a ≠ b ∧ H2 a = some (.dK kvs) ∧ Rd H2 b (.dK more) ∧ kvs.length + more.length ≤ sizeLine ∧ Q .non (upd H2 a (.dK (mergeK kvs more)))
theorem pe_dupd {o e : Expr} {apos cpos : Pos} {td ty : L2.TE} (ho : PE X o td) (he : PE X e ty) (m : L2.M1 X o "update" apos e cpos) : PE X (.Call (.Attribute o "update" apos) [e] [] cpos) (tDUpd td ty) := by
  refine ⟨fun pins s σ H Q I h => ?_⟩
  refine wpAny_Call_method m.base m.few m.line PySem.F.plainAttrs_dict PySem.F.slot_dict_update PySem.F.type_dict_update (thn (ho.run pins s σ H _ I h) fun u s1 ⟨x, H1, I1, rx, a, ex, d, q1⟩ => ?_)
  subst ex
  obtain rfl : u = Value.ref a := rx
  obtain ⟨t1, t2, _⟩ := L2.isD_at I1 d
  refine ⟨t1, t2, ?_⟩
  rw [m.trees]
  refine Calls.callWith_builtin rfl (Calls.evalArgs_plain (Calls.spliced_cons (thn (he.run pins s1 σ H1 _ I1 q1) fun iv s2 ⟨y, H2, I2, ry, b, kvs, more, ey, hne, ea, eb, hz, q2⟩ => Calls.spliced_nil ?_)))
  subst ey
  obtain rfl : iv = Value.ref b := ry
  exact d_upd I2 ea eb hne hz fun s3 I3 => ⟨.non, _, I3, rfl, q2⟩
end
section
variable {Γ : Env} {B : Tb} {c : Cfg} {S : SC} {k : Nat} {Z : WX} {X : Cx} {ρ : Rho} {G H : Hp} {η : Hv}
theorem RepKs.merge {G : Hp} {ρ : Rho} : ∀ {ps : List (D × D)} {more : List (Key × V)}, RepP Γ G ps more → ∀ {kvs : List (D × W)} {ks : List (Key × V)}, RepKs Γ G ρ kvs ks → RepKs Γ G ρ (ps.foldl (fun a p => setK a p.1 (.d p.2)) kvs) (mergeK ks more)
  | _, _, .nil, _, _, r => r
  | _, _, .cons hk hx t, _, _, r => RepKs.merge t (r.set hk (show RepW Γ G ρ (.d _) _ from hx))
theorem chkC_ok {α : Type} {w : W} {m : M α} {Rp : Hp → Rho → α → Hp → Prop} {σ : L2.St} {ρ : Rho} {G : Hp} {η : Hv} {H : Hp} (h : Fin Γ Z Rp σ ρ G η H ((do let _ ← chkC w; m) η)) : ∃ n kvs, w = .ref n ∧ η[n]? = some (.dct kvs) ∧ Fin Γ Z Rp σ ρ G η H (m η) := by
  rw [M.bind_ap] at h
  unfold chkC at h
  cases w with
  | d x => exact h.elim
  | clo l cs => exact h.elim
  | ref n =>
    simp only at h
    cases e : η[n]? with
    | none => rw [e] at h; exact h.elim
    | some o =>
      rw [e] at h
      cases o with
      | dct kvs => exact ⟨n, kvs, rfl, e, h⟩
      | dead => exact h.elim
      | lst _ => exact h.elim
      | cel _ => exact h.elim
theorem updW_ok {w x : W} {Rp : Hp → Rho → W → Hp → Prop} {σ : L2.St} {H0 : Hp} {ρ0 : Rho} {G0 : Hp} {η0 : Hv} (h : Fin Γ Z Rp σ ρ0 G0 η0 H0 (updW w x η0)) : ∃ n kvs ps, w = .ref n ∧ x = .d (.dct ps) ∧ η0[n]? = some (.dct kvs) ∧ kvs.length + ps.length ≤ lim ∧
    Fin Γ Z Rp σ ρ0 G0 η0 H0 (.ok (.d .non) (η0.set n (.dct (ps.foldl (fun a p => setK a p.1 (.d p.2)) kvs)))) := by
  unfold updW at h
  cases w with
  | d _ => exact h.elim
  | clo _ _ => exact h.elim
  | ref n =>
    cases x with
    | ref _ => exact h.elim
    | clo _ _ => exact h.elim
    | d d =>
      cases d <;> first | exact h.elim | skip
      rename_i ps
      simp only at h
      cases e : η0[n]? with
      | none => rw [e] at h; exact h.elim
      | some o =>
        rw [e] at h
        cases o with
        | dct kvs =>
          simp only at h
          by_cases hc : allKK ps = true ∧ kvs.length + ps.length ≤ lim
          · rw [if_pos hc] at h
            exact ⟨n, kvs, ps, rfl, rfl, e, hc.2, h⟩
          · rw [if_neg hc] at h; exact h.elim
        | dead => exact h.elim
        | lst _ => exact h.elim
        | cel _ => exact h.elim
theorem snd_upd {a x : Ex} (iha : SndE Γ B c a) (ihx : SndE Γ B c x) : SndE Γ B c (.upd a x) := by
  intro S k Z X g
  refine ⟨fun e h => ?_, fun es h => (by cases h), fun _ _ h => (by cases h)⟩
  obtain ⟨o, apos, y, cpos, rfl, h2, h3, h4, h5, h6⟩ := fMt1_inv (show fMt1 "update" e (okE B a S) (okE B x S) = true from h)
  have p1 := ((iha S k Z X g).1 _ h5).1
  have p2 := ((ihx S k Z X g).1 _ h6).1
  have e2 : ev c (.upd a x) = fun ν => (do let w ← ev c a ν; let _ ← chkC w; let x ← ev c x ν; updW w x) := by funext ν; simp [ev]
  refine both rfl (PE.imp (pe_dupd p1 p2 ⟨base_of h2 _ _, few1 h4, h3, by rw [star_of h4]; rfl⟩) fun σ H Q t => ?_)
  rw [e2] at t
  obtain ⟨ν, η, ρ, G, S', T, t⟩ := t
  refine ⟨ν, η, ρ, G, S', T, Fin.bind t _ fun w ρ1 G1 η1 H1 S1 E1 t1 v rv => ?_⟩
  obtain ⟨n, kvs, rfl, e3, t2⟩ := chkC_ok t1
  obtain ⟨p, ks, rfl, hp, hl, hH, rk⟩ := own_dct S1 e3 rv
  refine ⟨p, rfl, .inl ⟨ks, .of hH⟩, ν, η1, ρ1, G1, S1, T.mono E1.same E1.rho, Fin.bind t2 _ fun w2 ρ2 G2 η2 H2 S2 E2 t3 u ru => ?_⟩
  obtain ⟨n', kvs2, ps, en, rfl, e4, hz, t4⟩ := updW_ok t3
  cases en
  obtain ⟨p2, ks2, e5, hp2, hl2, hH2, rk2⟩ := own_dct S2 e4 (v := .ref p) ⟨p, E2.rho _ _ hp, rfl⟩
  cases e5
  have ru : Rep Γ G2 (.dct ps) u := ru
  cases ru with
  | @dctK b more _ hb rp =>
    obtain ⟨b', h7, gp, _⟩ := (S2.obj n _ e4).at (by simp)
    rw [hp2] at h7; cases h7
    have hne : p ≠ b := fun e => by
      subst e
      rcases hb with q | ⟨o, q⟩ <;> rw [gp] at q <;> cases q
    obtain ⟨S3, E3⟩ := S2.putO hl2 hp2 (RepC.dct (RepKs.merge rp rk2))
    exact ⟨b, ks2, more, rfl, hne, hH2, Same.rd S2.same hb, by rw [rk2.length, rp.length, hsz]; exact hz, t4 _ _ _ S3 E3 _ .non⟩
end
end Ip

set_option Elab.async false
set_option linter.all false
set_option maxRecDepth 100000
set_option maxHeartbeats 400000
/-! IpIt2: zip, enumerate. -/
namespace Ip
open PySem PySem.Spec PyProof.Rows L2 RZ
section
variable {Γ : Env} {c : Cfg} {S : SC} {k : Nat} {Z : WX} {X : Cx} {ρ : Rho} {G H : Hp} {η : Hv}
theorem pair_rep {G H : Hp} {T : Addr} {x y : V} {d e : D} (hs : Same G H) (hT : H T = none) (r1 : Rep Γ G d x) (r2 : Rep Γ G e y) : Rep Γ (grow G H (upd H T (.tup [x, y]))) (pairD d e) (.ref T) :=
  .tup (SqT.of (grow_up hT)) (.cons (Rep.mono (grow_same hs) r1) (.cons (Rep.mono (grow_same hs) r2) .nil))
theorem wlk_zipL {K : PySem.W.Frag} {a b : Addr} {xs ys : List D} : Wlk Γ (CS Γ [.ref a, .ref b] (.ds [.lst xs, .lst ys])) ((List.zipWith pairD xs ys).map W.d) (Itz K a b) := by
  have get : ∀ {G H : Hp}, Same G H → RepAs Γ G H [.lst xs, .lst ys] [.ref a, .ref b] → ∃ vs us, SqL K H a vs ∧ RepL Γ G xs vs ∧ SqL K H b us ∧ RepL Γ G ys us := fun {G H} hs r => by
    obtain ⟨v, u, e, r1, r2⟩ := r.two
    cases e
    obtain ⟨p, vs, e2, h1, h2⟩ := r1.isLst hs
    obtain ⟨q, us, e3, h3, h4⟩ := r2.isLst hs
    cases e2; cases e3
    exact ⟨vs, us, .inl h1, h2, .inl h3, h4⟩
  have hl : ((List.zipWith pairD xs ys).map W.d).length = min xs.length ys.length := by simp
  refine ⟨fun i G ρ H hi hs r => ?_, fun G ρ H hs r => ?_, fun i G ρ H x H' hi hs r y => ?_⟩
  · obtain ⟨vs, us, h1, h2, h3, h4⟩ := get hs r
    have l1 := h2.length
    have l2 := h4.length
    rw [hl] at hi
    exact ⟨vs, us, vs[i]'(by omega), us[i]'(by omega), h1, h3, by simp [show i < vs.length by omega], by simp [show i < us.length by omega]⟩
  · obtain ⟨vs, us, h1, h2, h3, h4⟩ := get hs r
    refine ⟨vs, us, h1, h3, ?_⟩
    rw [hl, h2.length, h4.length]
    omega
  · obtain ⟨vs, us, h1, h2, h3, h4⟩ := get hs r
    rw [hl] at hi
    obtain ⟨T, x1, y1, rfl, hT, rfl, q1, q2⟩ := y
    obtain ⟨v, e1, r1⟩ := h2.get (i := i) (x := xs[i]'(by omega)) (by simp [show i < xs.length by omega])
    obtain ⟨u, e2, r2⟩ := h4.get (i := i) (x := ys[i]'(by omega)) (by simp [show i < ys.length by omega])
    rw [q1 vs h1] at e1; cases e1
    rw [q2 us h3] at e2; cases e2
    refine ⟨.d (pairD (xs[i]'(by omega)) (ys[i]'(by omega))), ?_, same_upd hT, pair_rep hs hT r1 r2⟩
    rw [List.getElem?_map, List.getElem?_zipWith]
    simp [show i < xs.length by omega, show i < ys.length by omega]
theorem wlk_zipT {K : PySem.W.Frag} {a b : Addr} {xs ys : List D} (hK : K = Γ.K) : Wlk Γ (CS Γ [.ref a, .ref b] (.ds [.tup xs, .tup ys])) ((List.zipWith pairD xs ys).map W.d) (ItzT K a b) := by
  have get : ∀ {G H : Hp}, Same G H → RepAs Γ G H [.tup xs, .tup ys] [.ref a, .ref b] → ∃ vs us, SqT K H a vs ∧ RepL Γ G xs vs ∧ SqT K H b us ∧ RepL Γ G ys us := fun {G H} hs r => by
    obtain ⟨v, u, e, r1, r2⟩ := r.two
    cases e
    obtain ⟨p, vs, e2, h1, h2⟩ := r1.tup
    obtain ⟨q, us, e3, h3, h4⟩ := r2.tup
    cases e2; cases e3
    exact ⟨vs, us, by rw [hK]; exact Same.sqT hs h1, h2, by rw [hK]; exact Same.sqT hs h3, h4⟩
  have hl : ((List.zipWith pairD xs ys).map W.d).length = min xs.length ys.length := by simp
  refine ⟨fun i G ρ H hi hs r => ?_, fun G ρ H hs r => ?_, fun i G ρ H x H' hi hs r y => ?_⟩
  · obtain ⟨vs, us, h1, h2, h3, h4⟩ := get hs r
    have l1 := h2.length
    have l2 := h4.length
    rw [hl] at hi
    exact ⟨vs, us, vs[i]'(by omega), us[i]'(by omega), h1, h3, by simp [show i < vs.length by omega], by simp [show i < us.length by omega]⟩
  · obtain ⟨vs, us, h1, h2, h3, h4⟩ := get hs r
    refine ⟨vs, us, h1, h3, ?_⟩
    rw [hl, h2.length, h4.length]
    omega
  · obtain ⟨vs, us, h1, h2, h3, h4⟩ := get hs r
    rw [hl] at hi
    obtain ⟨T, x1, y1, rfl, hT, rfl, q1, q2⟩ := y
    obtain ⟨v, e1, r1⟩ := h2.get (i := i) (x := xs[i]'(by omega)) (by simp [show i < xs.length by omega])
    obtain ⟨u, e2, r2⟩ := h4.get (i := i) (x := ys[i]'(by omega)) (by simp [show i < ys.length by omega])
    rw [q1 vs h1] at e1; cases e1
    rw [q2 us h3] at e2; cases e2
    refine ⟨.d (pairD (xs[i]'(by omega)) (ys[i]'(by omega))), ?_, same_upd hT, pair_rep hs hT r1 r2⟩
    rw [List.getElem?_map, List.getElem?_zipWith]
    simp [show i < xs.length by omega, show i < ys.length by omega]
theorem wlk_enum {K : PySem.W.Frag} {a : Addr} {xs : List D} : Wlk Γ (CS Γ [.ref a] (.ds [.lst xs])) ((xs.mapIdx fun i x => pairD (.int (i : Nat)) x).map W.d) (Ite K a) := by
  have get : ∀ {G H : Hp}, Same G H → RepAs Γ G H [.lst xs] [.ref a] → ∃ vs, SqL K H a vs ∧ RepL Γ G xs vs := fun {G H} hs r => by
    obtain ⟨v, e, r1⟩ := r.one
    cases e
    obtain ⟨p, vs, e2, h1, h2⟩ := r1.isLst hs
    cases e2
    exact ⟨vs, .inl h1, h2⟩
  have hl : ((xs.mapIdx fun i x => pairD (.int (i : Nat)) x).map W.d).length = xs.length := by simp
  refine ⟨fun i G ρ H hi hs r => ?_, fun G ρ H hs r => ?_, fun i G ρ H x H' hi hs r y => ?_⟩
  · obtain ⟨vs, h1, h2⟩ := get hs r
    have l1 := h2.length
    rw [hl] at hi
    exact ⟨vs, vs[i]'(by omega), h1, by simp [show i < vs.length by omega]⟩
  · obtain ⟨vs, h1, h2⟩ := get hs r
    exact ⟨vs, h1, by rw [hl, h2.length]; exact Nat.le_refl _⟩
  · obtain ⟨vs, h1, h2⟩ := get hs r
    rw [hl] at hi
    obtain ⟨T, x1, rfl, hT, rfl, q1⟩ := y
    obtain ⟨v, e1, r1⟩ := h2.get (i := i) (x := xs[i]) (by simp [hi])
    rw [q1 vs h1] at e1; cases e1
    refine ⟨.d (pairD (.int (i : Nat)) xs[i]), ?_, same_upd hT, pair_rep hs hT (.int _) r1⟩
    simp [hi]
/-- what the arguments read as -/
theorem data_snap {ik : Ik} (hk : ik ≠ .raw) {ws : List W} {vs : List V} {sn : Snap} {η2 : Hv} (S2 : Sim Γ ρ G η2 H) (rs : RepWs Γ G ρ ws vs) (e1 : snap ik ws η2 = some sn) : ∃ ds, sn = .ds ds ∧ RepAs Γ G H ds vs := by
  have e1' : (rdWs η2 ws).map Snap.ds = some sn := by
    cases ik <;> first | exact absurd rfl hk | exact e1
  cases e3 : rdWs η2 ws with
  | none => rw [e3] at e1'; cases e1'
  | some ds =>
    rw [e3] at e1'
    cases e1'
    exact ⟨ds, rfl, RepWs.read S2 rs e3⟩
theorem pi_zipD {es : List Expr} {j : Nat} {tp p pos : Pos} {a b : Expr} {x : Ex} (g : Gd Γ c S k Z X) (hg : S.gl "zip" = true) (h : AllE Γ c Z X x [a, b]) : PI X (.Tuple es j tp) (.Call (.Name "zip" p) [a, b] [] pos) (tIt Γ Z .zip (evl c x)) := by
  have st := h.stars
  simp only [List.all_cons, Bool.and_eq_true] at st
  refine PI.imp (pi_zipA (g.gl hg) (g.blt (by decide +kernel)) (AllE.pa h) (star_of st.1 _ _) (noSplat (by simp [st.2.1]) _ _)) fun σ H R t => ?_
  obtain ⟨ν, η, ρ, G, S', T, t⟩ := t
  refine ⟨ν, η, ρ, G, S', T, (itM_ok t).imp fun G1 ρ1 ws H1 q vs rs => ?_⟩
  obtain ⟨η2, sn, its, S2, e1, e2, q⟩ := q
  have cs := snap_ok S2 rs e1
  obtain ⟨ds, rfl, ra⟩ := data_snap (by decide) S2 rs e1
  simp only [itS] at e2
  rcases ds with _ | ⟨d, _ | ⟨d2, _ | ⟨d3, ds⟩⟩⟩
  · simp [itD] at e2
  · simp [itD] at e2
  · obtain ⟨v, u, rfl, r1, r2⟩ := ra.two
    cases d <;> cases d2 <;> first | (simp [itD] at e2; done) | skip
    · cases e2
      obtain ⟨p, vs, rfl, h1, h2⟩ := r1.tup
      obtain ⟨p2, us, rfl, h3, h4⟩ := r2.tup
      exact ⟨p, p2, vs, us, rfl, .inr ⟨by rw [g.K]; exact Same.sqT S2.same h1, by rw [g.K]; exact Same.sqT S2.same h3, q _ rs cs _ (wlk_zipT g.K)⟩⟩
    · cases e2
      obtain ⟨p, vs, rfl, h1, h2⟩ := r1.isLst S2.same
      obtain ⟨p2, us, rfl, h3, h4⟩ := r2.isLst S2.same
      exact ⟨p, p2, vs, us, rfl, .inl ⟨.inl h1, .inl h3, q _ rs cs _ wlk_zipL⟩⟩
  · simp [itD] at e2
theorem pi_enumD {es : List Expr} {j : Nat} {tp p pos : Pos} {a : Expr} {x : Ex} (g : Gd Γ c S k Z X) (hg : S.gl "enumerate" = true) (h : AllE Γ c Z X x [a]) : PI X (.Tuple es j tp) (.Call (.Name "enumerate" p) [a] [] pos) (tIt Γ Z .enum (evl c x)) := by
  have st := h.stars
  simp only [List.all_cons, Bool.and_eq_true] at st
  refine PI.imp (pi_enum (g.gl hg) (g.blt (by decide +kernel)) (AllE.pa h) (star_of st.1 _ _)) fun σ H R t => ?_
  obtain ⟨ν, η, ρ, G, S', T, t⟩ := t
  refine ⟨ν, η, ρ, G, S', T, (itM_ok t).imp fun G1 ρ1 ws H1 q vs rs => ?_⟩
  obtain ⟨η2, sn, its, S2, e1, e2, q⟩ := q
  have cs := snap_ok S2 rs e1
  obtain ⟨ds, rfl, ra⟩ := data_snap (by decide) S2 rs e1
  simp only [itS] at e2
  rcases ds with _ | ⟨d, _ | ⟨d2, ds⟩⟩
  · simp [itD] at e2
  · obtain ⟨v, rfl, r1⟩ := ra.one
    cases d <;> first | (simp [itD] at e2; done) | skip
    cases e2
    obtain ⟨p, vs, rfl, h1, h2⟩ := r1.isLst S2.same
    exact ⟨p, vs, rfl, .inl h1, q _ rs cs _ wlk_enum⟩
  · simp [itD] at e2
end
end Ip

set_option Elab.async false
set_option linter.all false
set_option maxRecDepth 100000
set_option maxHeartbeats 2000000
/-! IpSk: sorted(.., key = a def). -/
namespace Ip
open PySem PySem.Spec PyProof.Rows L2
theorem ns_det {h : Heap} {L : Addr} {m m' : Str → Option Value} (a : h.Ns L m) (b : h.Ns L m') : m = m' := by
  obtain ⟨o, es, ep, h1, h2, _, h3⟩ := a
  obtain ⟨o', es', ep', k1, k2, _, k3⟩ := b
  rw [h1] at k1
  cases k1
  rw [h2] at k2
  cases k2
  funext x
  rw [← h3 x, k3 x]
section
variable {prog : Program} {w : World} {A : Around} {E : Value → Shared → Prop} {s : Shared}
/-- the sort behind the keys -/
theorem sort_end {L a kS : Addr} {keys : Array Value} {vs : List Value} {kz : List PyData} {e e1 : Nat} {m : Str → Option Value} {P : PySem.Fin → Shared → Prop}
    (ns : s.heap.Ns L m) (nk : s.heap.get? kS = some (seqObj "list" keys e)) (na : s.heap.get? a = some (seqObj "list" #[] e1)) (hka : kS ≠ a) (hkL : kS ≠ L) (haL : a ≠ L)
    (er : PySem.W.EachIs (fun v k => ∃ as, Reads s.heap v k as) keys.toList kz) (hal : PySem.W.AllAlike kz) (hsk : PySem.W.Sortable kz) (hu : ∀ d, d ∈ kz → A.units + d.depth < cLine) (hsz : keys.size = vs.length) (hZ : vs.length ≤ sizeLine)
    (h : ∀ h' tk c, (∀ m, s.heap.Ns L m → h'.Ns L m) → (∀ b o, b ≠ L → b ≠ kS → b ≠ a → s.heap.get? b = some o → h'.get? b = some o) → h'.get? a = some (seqObj "list" (PySem.W.sortVals (PySem.W.dataKind s.heap kz) false keys.toList vs).toArray c) → P (.done (.ret .none)) { s with heap := h', toks := tk }) :
    wpAny (model prog w) A (ksk_end a false vs.toArray e1 (.ref kS) keys) P E s := by
  obtain ⟨news, hn⟩ : ∃ news : List (Addr × Obj), news = (List.range s.heap.objs.size).filterMap fun b => if b = L ∨ b = kS ∨ b = a then none else (s.heap.get? b).map fun o => (b, o) := ⟨_, rfl⟩
  have n1 : ∀ p ∈ news, s.heap.get? p.1 = some p.2 ∧ p.1 ≠ L ∧ p.1 ≠ kS ∧ p.1 ≠ a := fun p hp => by
    rw [hn] at hp
    obtain ⟨b, _, hb⟩ := List.mem_filterMap.mp hp
    by_cases hc : b = L ∨ b = kS ∨ b = a
    · rw [if_pos hc] at hb; cases hb
    · rw [if_neg hc] at hb
      cases q : s.heap.get? b with
      | none => rw [q] at hb; cases hb
      | some o =>
        rw [q] at hb
        cases hb
        exact ⟨q, fun z => hc (.inl z), fun z => hc (.inr (.inl z)), fun z => hc (.inr (.inr z))⟩
  have n2 : ∀ b o, b ≠ L → b ≠ kS → b ≠ a → s.heap.get? b = some o → (b, o) ∈ news := fun b o h1 h2 h3 q => by
    rw [hn]
    refine List.mem_filterMap.mpr ⟨b, List.mem_range.mpr (Heap.lt_size q), ?_⟩
    rw [if_neg (fun z => by rcases z with z | z | z <;> contradiction), q]
    rfl
  have e0 : ∀ b, (default : Heap).get? b = none := fun b => Heap.get?_none_of_le (Nat.zero_le _)
  refine PySem.W.key_end (e := e) (h₀ := (default : Heap)) (L := L) (m := m) (news := news) (κ := PySem.W.dataKind s.heap kz) ⟨ns, fun b o q => (by rw [e0] at q; cases q), Nat.zero_le _⟩ (fun p hp => ?_) hka (fun p hp => (n1 p hp).2.2.1) (fun p hp => (n1 p hp).2.2.2) (PySem.W.SortsAt.data er hal hsk hu) hsz hZ fun h' tk c F N => ?_
  · rcases List.mem_append.mp hp with hp | hp
    · exact ⟨(n1 p hp).1, (n1 p hp).2.1, e0 _⟩
    · rcases List.mem_cons.mp hp with rfl | hp
      · exact ⟨nk, hkL, e0 _⟩
      · rw [List.mem_singleton.mp hp]
        exact ⟨na, haL, e0 _⟩
  · refine h h' tk c (fun m' hm => ?_) (fun b o h1 h2 h3 q => (N (b, o) (List.mem_cons_of_mem _ (n2 b o h1 h2 h3 q))).1) (N _ List.mem_cons_self).1
    rw [ns_det hm ns]
    exact F.ns
end
theorem dsortK_some {ps : List (D × D)} {ys : List D} (h : dsortK ps = some ys) : (ps.map (·.1)).all shp = true ∧ allAlk (ps.map (·.1)) = true ∧ ((ps.map (·.1)).all neTup = true ∨ (ps.map (·.1)).all noTup = true) ∧ ps.length ≤ lim ∧ ys = (sortK ps).map (·.2) := by
  unfold dsortK at h
  split at h
  · rename_i hc
    cases h
    simp only [Bool.and_eq_true, Bool.or_eq_true, decide_eq_true_eq] at hc
    exact ⟨hc.1.1.1, hc.1.1.2, hc.1.2, hc.2, rfl⟩
  · cases h
/-- keys that can be sorted by, as the library asks -/
theorem sortable_of {xs : List D} (h1 : xs.all shp = true) (h3 : xs.all neTup = true ∨ xs.all noTup = true) : PySem.W.Sortable (xs.map toP) := by
  have shpOf : ∀ x ∈ xs, shp x = true := List.all_eq_true.mp h1
  rcases h3 with h3 | h3
  · refine .inl fun d hd => ?_
    obtain ⟨x, hx, rfl⟩ := List.mem_map.mp hd
    have := List.all_eq_true.mp h3 x hx
    cases x <;> first | (simp [neTup] at this; done) | skip
    rename_i ws
    cases ws with
    | nil => simp [neTup] at this
    | cons w ws => exact ⟨toP w, toPL ws, by simp [toP, toPL]⟩
  · refine .inr fun d hd => ?_
    obtain ⟨x, hx, rfl⟩ := List.mem_map.mp hd
    have h5 := List.all_eq_true.mp h3 x hx
    have h6 := (shp_ok (shpOf x hx)).1
    cases x <;> first | (simp [noTup] at h5; done) | (simp [pln] at h6; done) | simp [toP]
theorem alike_of {xs : List D} (h2 : allAlk xs = true) : PySem.W.AllAlike (xs.map toP) := by
  intro d hd d' hd'
  obtain ⟨x, hx, rfl⟩ := List.mem_map.mp hd
  obtain ⟨y, hy, rfl⟩ := List.mem_map.mp hd'
  exact alk_pln x y (List.all_eq_true.mp (List.all_eq_true.mp h2 x hx) y hy)
section
variable {Γ : Env} {B : Tb} {c : Cfg} {S : SC} {k : Nat} {Z : WX} {X : Cx}
def srtT (xs ks : List D) : M W := do
  let ys ← ofO (dsortK (ks.zip xs))
  Pure.pure (.d (.lst ys))
theorem rdW_one {η : Hv} {w : W} {ds : List D} (h : rdWs η [w] = some ds) : ∃ d, ds = [d] ∧ rdW η w = some d := by
  unfold rdWs at h
  cases e : rdW η w with
  | none => rw [e] at h; cases h
  | some d => rw [e] at h; cases h; exact ⟨d, rfl, rfl⟩
theorem srtM_ok {f : Nat} {w : W} {Rp : Hp → Rho → W → Hp → Prop} {σ : L2.St} {ρ : Rho} {G : Hp} {η : Hv} {H : Hp} (h : Fin Γ Z Rp σ ρ G η H (srtM c f w η)) : ∃ xs, rdW η w = some (.lst xs) ∧ Fin Γ Z Rp σ ρ G η H ((keysM c f xs >>= srtT xs) η) := by
  unfold srtM at h
  rw [M.bind_ap] at h
  unfold asR at h
  cases e : rdWs η [w] with
  | none => rw [e] at h; exact h.elim
  | some ds =>
    rw [e] at h
    simp only at h
    obtain ⟨d, rfl, hd⟩ := rdW_one e
    rw [M.bind_ap] at h
    cases d <;> first | exact h.elim | skip
    rename_i xs
    exact ⟨xs, hd, h⟩
theorem keysM_cons {f : Nat} {x : D} {r : List D} {kk : List D → M W} {Rp : Hp → Rho → W → Hp → Prop} {σ : L2.St} {ρ : Rho} {G : Hp} {η : Hv} {H : Hp} (h : Fin Γ Z Rp σ ρ G η H ((keysM c f (x :: r) >>= kk) η)) :
    ∃ d η1, c.call 0 f [.d x] η = .ok (.d d) η1 ∧ Fin Γ Z Rp σ ρ G η H ((keysM c f r >>= fun ks => kk (d :: ks)) η1) := by
  simp only [keysM, M.bind_assoc] at h
  rw [M.bind_ap] at h
  unfold noX at h
  cases e : c.call 0 f [.d x] η with
  | exc _ _ => rw [e] at h; exact h.elim
  | bad => rw [e] at h; exact h.elim
  | ok w η1 =>
    rw [e] at h
    simp only at h
    cases w <;> first | exact h.elim | skip
    rename_i d
    exact ⟨d, η1, rfl, h⟩
theorem keysM_noexc {f : Nat} {kk : List D → M W} (hk : ∀ ks η e η', kk ks η ≠ .exc e η') : ∀ {xs : List D} {η η' : Hv} {e : D}, (keysM c f xs >>= kk) η = .exc e η' → False
  | [], η, η', e, h => hk [] η e η' h
  | x :: r, η, η', e, h => by
    simp only [keysM, M.bind_assoc] at h
    rw [M.bind_ap] at h
    unfold noX at h
    cases q : c.call 0 f [.d x] η with
    | exc _ _ => rw [q] at h; cases h
    | bad => rw [q] at h; cases h
    | ok w η1 =>
      rw [q] at h
      simp only at h
      cases w <;> first | (cases h; done) | skip
      rename_i d
      have h : (keysM c f r >>= fun ks => kk (d :: ks)) η1 = .exc e η' := h
      exact keysM_noexc (fun ks => hk (d :: ks)) h
theorem srtT_noexc {xs ks : List D} {η η' : Hv} {e : D} : srtT xs ks η ≠ .exc e η' := by
  unfold srtT
  intro h
  rw [M.bind_ap] at h
  cases q : dsortK (ks.zip xs) with
  | none => rw [q] at h; cases h
  | some z => rw [q] at h; cases h
theorem srtM_noexc {f : Nat} {w : W} {η η' : Hv} {e : D} : srtM c f w η ≠ .exc e η' := by
  intro h
  unfold srtM at h
  rw [M.bind_ap] at h
  unfold asR at h
  cases q : rdWs η [w] with
  | none => rw [q] at h; cases h
  | some ds =>
    rw [q] at h
    simp only at h
    obtain ⟨d, rfl, hd⟩ := rdW_one q
    rw [M.bind_ap] at h
    cases d <;> first | (cases h; done) | skip
    rename_i xs
    have h : (keysM c f xs >>= srtT xs) η = .exc e η' := h
    exact keysM_noexc (fun ks η e η' => srtT_noexc) h
/-- what is asked of the call -/
def SrtR (Γ : Env) (c : Cfg) (f : Nat) : V → Hp → VK → Prop := fun x H Q => ∃ ρ G η w, Sim Γ ρ G η H ∧ RepW Γ G ρ w x ∧ Fin Γ ZN (pW Γ Q) [] ρ G η H (srtM c f w η)
/-- a call that lets nothing out, told by its whole end -/
theorem run_key {pins : List (Addr × Obj)} {σ : L2.St} {H : Hp} {s : Shared} {A : Around} {fa : Addr} {fd : FuncData} {ps : List Str} {sp : Sp} {v : V} {u : Value} {Q : VK} {E : Value → Shared → Prop} (F : FnG X.prog X.w X.K X.mg X.base (L2.CX X.prog X.w) k fa fd ps sp) (hb : Binds X.K fd ps []) (hA : A.frames = X.A.frames) (hr : Room k A) (hg : A.guards = some []) (I : Inv X pins σ H s) (rv : RelV v u) (h : sp [v] H Q (fun _ _ _ => False)) :
    wpAny (model X.prog X.w) A (call (.ref fa) [u]) (fun u' s' => CE X.stack X.prog X.w H s Q u' s') E s := by
  have b := hb s [u] I.kIn (by rw [List.append_nil]; have := F.len _ _ _ _ h; simpa using this)
  rw [List.append_nil] at b
  have e0 := I.env0
  refine wpAny_call (codeAny_mono (F.go A X.stack s H ⟨[u], []⟩ [u] [v] Q (fun _ _ _ => False) hr hg ⟨hA.trans e0.frames, e0.mod, e0.bs, e0.bsz, e0.funs, e0.frf, e0.hok, e0.bare⟩ b (.cons rv .nil) h) fun r s' hq => ?_)
  cases r with
  | error e =>
    obtain ⟨_, _, _, _, _, _, _, _, _, _, _, _, z⟩ := hq
    exact z.elim
  | ok fl =>
    cases fl with
    | ret u => exact hq
    | next => exact False.elim hq
    | brk => exact False.elim hq
    | cont => exact False.elim hq
theorem each_zipL {α β γ : Type} {R : α → β → Prop} : ∀ {as : List α} {bs : List β} {cs : List γ}, PySem.W.EachIs R as bs → cs.length = bs.length → PySem.W.EachIs (fun a (p : γ × β) => R a p.2) as (cs.zip bs)
  | _, _, [], .nil, _ => .nil
  | _, _, c :: cs, .cons h t, e => .cons h (each_zipL t (by simpa using e))
theorem each_mapD {α β γ : Type} {R : α → γ → Prop} (f : β → γ) : ∀ {as : List α} {bs : List β}, PySem.W.EachIs (fun a b => R a (f b)) as bs → PySem.W.EachIs R as (bs.map f)
  | _, _, .nil => .nil
  | _, _, .cons h t => .cons h (each_mapD f t)
theorem call_srt (g : Gd Γ c S k Z X) {f : Nat} {fa : Addr} {fd : FuncData} {ps : List Str} (F : FnG X.prog X.w X.K X.mg X.base (L2.CX X.prog X.w) k fa fd ps (spF Γ 1 (c.call 0 f))) (hb : Binds X.K fd ps [])
    {pins : List (Addr × Obj)} {σ : L2.St} {H : Hp} {s : Shared} {x : V} {u : Value} {Q : VK} (I : Inv X pins σ H s) (rx : RelV x u) (h : SrtR Γ c f x H Q) :
    wpAny (model X.prog X.w) X.A (call (.builtin "sorted") [u] [(Str.ofString "key", .ref fa)]) (EP X pins σ Q) X.xe s := by
  obtain ⟨ρ, G, η, w, Sm, rw_, hF⟩ := h
  obtain ⟨xs, hd, hF⟩ := srtM_ok hF
  obtain ⟨l, vs, rfl, hl, rr⟩ := (rw_.read Sm hd).isLst Sm.same
  cases rx
  obtain ⟨its, rv, pl, hz⟩ := I.list (.inl hl)
  have hiz : its.length ≤ sizeLine := by rw [← rv.length]; exact hz
  have hxl : xs.length = its.length := by rw [← rv.length, rr.length]
  refine PySem.W.sorted_of_sort pl.isList hiz (ksk_s1 _ _) (fun x => ksk_l1 _ _) fun E' => ?_
  rw [ksk_t1]
  generalize ha : s.heap.objs.size + 1 = a
  have hca : (PySem.W.copyHeap s.heap its).get? a = some (seqObj "list" its.toArray 0) := by rw [← ha]; exact PySem.W.copyHeap_at s.heap its
  have hco : ∀ b o, s.heap.get? b = some o → (PySem.W.copyHeap s.heap its).get? b = some o := fun _ _ => PySem.W.copyHeap_old
  generalize PySem.W.copyHeap s.heap its = hc at hca hco
  have hac : a < hc.objs.size := Heap.lt_size hca
  have sa : s.heap.objs.size ≤ a := by omega
  unfold ksk_tree
  refine wpAny_bind (listItems_at hca rfl ?_)
  refine wpAny_bind (listUpdate_at hca rfl ?_ (by rw [List.size_toArray]; exact hiz) (Nat.zero_le _))
  obtain ⟨e1, ho1⟩ : ∃ e1, (hc.update a (Obj.mapSeq fun _ => (#[] : Array Value))).get? a = some (seqObj "list" #[] e1) := ⟨_, get?_update_seq hca fun _ => #[]⟩
  have s1 := Heap.SameBut.update hc a (Obj.mapSeq fun _ => (#[] : Array Value))
  have hsz1 : (hc.update a (Obj.mapSeq fun _ => (#[] : Array Value))).objs.size = hc.objs.size := by rw [Heap.size_update]
  show wpAny _ _ _ _ _ { s with heap := hc.update a (Obj.mapSeq fun _ => (#[] : Array Value)) }
  generalize hc.update a (Obj.mapSeq fun _ => (#[] : Array Value)) = h1 at ho1 s1 hsz1
  refine wpAny_bind (seqEpoch_at ho1 rfl ?_)
  refine wpAny_bind (wpAny_newTuple ?_ (by show its.length ≤ _; exact hiz))
  refine wpAny_bind (wpAny_newList ?_ (Nat.zero_le _))
  refine wpAny_holding ?_
  have gk : ((h1.push (seqObj "tuple" its.toArray 0)).push (seqObj "list" #[] 0)).get? (h1.push (seqObj "tuple" its.toArray 0)).objs.size = some (seqObj "list" #[] 0) := Heap.get?_push_size _ rfl
  have ga : ((h1.push (seqObj "tuple" its.toArray 0)).push (seqObj "list" #[] 0)).get? a = some (seqObj "list" #[] e1) := Heap.get?_push_of_some _ (Heap.get?_push_of_some _ ho1)
  have keep : ∀ b o, s.heap.get? b = some o → ((h1.push (seqObj "tuple" its.toArray 0)).push (seqObj "list" #[] 0)).get? b = some o := fun b o q =>
    Heap.get?_push_of_some _ (Heap.get?_push_of_some _ ((s1.2 b (Nat.ne_of_lt (Nat.lt_of_lt_of_le (Heap.lt_size q) sa))).trans (hco b o q)))
  have sk : a < (h1.push (seqObj "tuple" its.toArray 0)).objs.size := by rw [size_push', hsz1]; omega
  show wpAny _ _ (ksk_rest a (.ref fa) false its.toArray e1 (.ref (h1.push (seqObj "tuple" its.toArray 0)).objs.size)) _ _ { s with heap := (h1.push (seqObj "tuple" its.toArray 0)).push (seqObj "list" #[] 0) }
  generalize (h1.push (seqObj "tuple" its.toArray 0)).objs.size = kS at gk sk
  generalize (h1.push (seqObj "tuple" its.toArray 0)).push (seqObj "list" #[] 0) = h2 at gk ga keep
  have I1 : Inv X pins σ H { s with heap := h2, toks := s.toks } := I.kept keep
  have hkS : s.heap.objs.size ≤ kS := by omega
  have hka : kS ≠ a := Nat.ne_of_gt sk
  have fpa : ∀ H', H' a = none → FpOk X pins H' a := fun H' h => I.fpOk sa h
  have fpk : ∀ H', H' kS = none → FpOk X pins H' kS := fun H' h => I.fpOk hkS h
  have nofr : ∀ b, s.heap.objs.size ≤ b → b ∉ frs X.stack := fun b hb z => by
    rcases List.mem_cons.mp (I.stkSub _ z) with e | e
    · have h1 := I.lt
      rw [← e] at h1
      exact Nat.lt_irrefl _ (Nat.lt_of_lt_of_le h1 hb)
    · exact I.nofs hb e
  have r4 := g.rm
  have rk : Room k X.A.in1.in1 := by
    have h4 : 4 ≤ S.up := by unfold SC.up; split <;> omega
    exact (Room.in1 (Room.in1 (k := k + 1) (r4.mono (by omega))))
  unfold ksk_rest
  refine wpAny_bind (wpAny_rule ?_)
  first
    | rw [List.forIn_toArray]
    | (rw [← Array.forIn_toList]; simp only [List.toList_toArray])
    | rw [← Array.forIn_toList]
  refine wpAny_bind (ksk_fold (fun i s' => ∃ kA e ρ' G' η' H' ys kvs, Inv X pins σ H' s' ∧ H' a = none ∧ H' kS = none ∧ s'.heap.get? kS = some (seqObj "list" kA e) ∧ s'.heap.get? a = some (seqObj "list" #[] e1) ∧ Vals kvs kA.toList ∧ RepL Γ G' ys kvs ∧ ys.length = i ∧ Sim Γ ρ' G' η' H' ∧ Ext ρ G η H ρ' G' η' H' ∧
      Fin Γ ZN (pW Γ Q) [] ρ' G' η' H' ((keysM c f (xs.drop i) >>= fun ks => srtT xs (ys ++ ks)) η')) its 0 _
    ⟨#[], 0, ρ, G, η, H, [], [], I1, I.hok.fresh sa, I.hok.fresh hkS, gk, ga, .nil, .nil, rfl, Sm, Ext.refl _ _ _ _, by rw [List.drop_zero]; simpa using hF⟩ ?step ?done)
  case step =>
    rintro j x s' hx ⟨kA, e, ρ', G', η', H', ys, kvs, I', na, nk, gk', ga', vk, rk', yl, S', E', hF'⟩
    simp only [Nat.zero_add] at yl hF' ⊢
    have hj : j < its.length := (List.getElem?_eq_some_iff.mp hx).1
    have hjx : j < xs.length := by omega
    rw [List.drop_eq_getElem_cons hjx] at hF'
    obtain ⟨kd, η1, hc1, hF2⟩ := keysM_cons hF'
    obtain ⟨v, hv, rvx⟩ := RepL.get rr (i := j) (x := xs[j]) (by simp [hjx])
    obtain ⟨x', hx', rx'⟩ := Vals.get rv hv
    rw [hx] at hx'
    cases hx'
    have hz : kA.size ≤ its.length := by
      have h1 := vk.length
      have h2 := rk'.length
      simp only [Array.length_toList, List.size_toArray] at h1
      omega
    refine wpAny_bind (wpAny_attempt (wpAny_mono (run_key (E := fun _ _ => False) (A := X.A.in1.in1) (Q := fun v H2 => ∃ ρ2 G2, Sim Γ ρ2 G2 η1 H2 ∧ Ext ρ' G' η' H' ρ2 G2 η1 H2 ∧ Rep Γ G2 kd v) F hb rfl rk g.gd I' rx' ⟨rfl, [.d xs[j]], η', ρ', G', S', .cons (Rep.mono E'.same rvx) .nil, by
      rw [hc1]
      exact fun ρ2 G2 H2 S2 E2 v rv => ⟨ρ2, G2, S2, E2, rv⟩⟩) (fun v' s'' he => ?_) fun _ _ hF => hF.elim))
    obtain ⟨kv, H2, os2, bare2, un2, hok2, rkv, ρ2, G2, S2, E2, rep2⟩ := he
    have I2 : Inv X pins σ H2 s'' := I'.call' (ch := []) os2 un2 hok2 bare2 fun _ z => nomatch z
    have gk2 := un2.keep kS _ gk' nk (nofr _ hkS) (by simp)
    have ga2 := un2.keep a _ ga' na (nofr _ sa) (by simp)
    have nk2 := un2.free kS _ gk' nk (by simp)
    have na2 := un2.free a _ ga' na (by simp)
    try dsimp only
    have u1 := Heap.SameBut.update s''.heap kS (Obj.mapSeq (·.push v'))
    obtain ⟨c2, hc2⟩ : ∃ c2, (s''.heap.update kS (Obj.mapSeq (·.push v'))).get? kS = some (seqObj "list" (kA.push v') c2) := ⟨_, get?_update_seq gk2 (·.push v')⟩
    refine wpAny_bind (listUpdate_at gk2 rfl ?_ (Nat.le_trans hz hiz) (Nat.le_trans (Nat.le_of_eq (Array.size_push ..)) (Nat.succ_le_succ (Nat.le_trans hz hiz))))
    obtain ⟨f0, f1, f2, f3, f4, f5⟩ := fpk H2 nk2
    refine wpAny_pure ⟨rfl, kA.push v', c2, ρ2, G2, η1, H2, ys ++ [kd], kvs ++ [kv], I2.turned (it := kS) (t' := s''.toks) (fun b o hb q => (u1.2 b hb).trans q) f0 f1 f3 f4 f5, na2, nk2, hc2, (u1.2 a hka.symm).trans ga2, ?_, (RepL.mono E2.same rk').append (.cons rep2 .nil), by simp [yl], S2, E'.trans E2, ?_⟩
    · have : (kA.push v').toList = kA.toList ++ [v'] := by simp
      rw [this]
      exact vk.append (.cons rkv .nil)
    · have e2 : (fun ks => srtT xs (ys ++ [kd] ++ ks)) = fun ks => srtT xs (ys ++ kd :: ks) := by
        funext ks
        simp
      rw [e2]
      exact Fin.step E2 hF2
  case done =>
    rintro s5 ⟨kA, e, ρ5, G5, η5, H5, ys, kvs, I5, na5, nk5, gk5, ga5, vk, rk5, yl, S5, E5, hF5⟩
    simp only [Nat.zero_add] at yl hF5
    rw [← hxl, List.drop_length] at hF5
    have hF5 : Fin Γ ZN (pW Γ Q) [] ρ5 G5 η5 H5 (srtT xs (ys ++ []) η5) := hF5
    rw [List.append_nil] at hF5
    unfold srtT at hF5
    rw [M.bind_ap] at hF5
    cases eq : dsortK (ys.zip xs) with
    | none => rw [eq] at hF5; exact hF5.elim
    | some zs =>
      rw [eq] at hF5
      obtain ⟨q1, q2, q3, q4, rfl⟩ := dsortK_some eq
      have hyx : ys.length = xs.length := by omega
      have hfst : (ys.zip xs).map (·.1) = ys := by rw [List.map_fst_zip]; omega
      rw [hfst] at q1 q2 q3
      have shpOf : ∀ y ∈ ys, shp y = true := List.all_eq_true.mp q1
      have er : PySem.W.EachIs (fun v k => ∃ as, Reads s5.heap v k as) kA.toList (ys.map toP) := by
        have e3 := PySem.W.each_mem (each_of rk5 vk)
        refine PySem.W.each_map (R := fun v k => ∃ as, Reads s5.heap v k as) toP (e3.mono fun u d ⟨⟨v, r1, r2⟩, hd⟩ => ?_)
        exact Dp.reads I5 (toP d) v u (by rw [g.K]; exact Rep.dp S5.same (shp_ok (shpOf d hd)).1 r2) r1
      have hks : kA.size = its.length := by
        have h1 := vk.length
        have h2 := rk5.length
        simp only [Array.length_toList, List.size_toArray] at h1
        omega
      obtain ⟨f0, f1, f2, f3, f4, f5⟩ := fpk H5 nk5
      obtain ⟨d0, d1, d2, d3, d4, d5⟩ := fpa H5 na5
      obtain ⟨mL, hnL, _⟩ := I5.loc
      try dsimp only
      refine wpAny_bind (listItems_at gk5 rfl ?_)
      have hun : X.A.in1.in1.units + 64 < cLine := by
        have := rk.un
        omega
      refine sort_end (L := X.env.locals) (m := mL) hnL gk5 ga5 hka f1 d1 er (alike_of q2) (sortable_of q1 q3) (fun d hd => ?_) hks hiz fun h' tk cc k1 k2 k3 => ⟨rfl, ?_⟩
      · obtain ⟨y, hy, rfl⟩ := List.mem_map.mp hd
        have h7 := shpOf y hy
        simp only [shp, Bool.and_eq_true, decide_eq_true_eq] at h7
        rw [toP_dep]
        omega
      · -- what the list holds
        have ek : (ys.zip xs).map (fun b => toP b.1) = ys.map toP := by
          have : (ys.zip xs).map (fun b => toP b.1) = ((ys.zip xs).map (·.1)).map toP := by rw [List.map_map]; rfl
          rw [this, hfst]
        have ko : PySem.W.KeyedOut false ((ys.zip xs).map fun b => toP b.1) its (PySem.W.sortVals (PySem.W.dataKind s5.heap (ys.map toP)) false kA.toList its) := by
          rw [ek]
          exact ⟨s5.heap, kA.toList, alike_of q2, rfl, er⟩
        have eo := PySem.W.keyedOut_each (fun b : D × D => toP b.1) ko (each_zipL (R := RvD Γ G5) (each_of (RepL.mono E5.same rr) rv) (cs := ys) hyx)
        have ec : (ys.zip xs).mergeSort (PySem.W.dataLe false fun b : D × D => toP b.1) = sortK (ys.zip xs) := by
          rw [sortK, msort_eq]
          refine PySem.W.sort_congr fun x hx y hy => ?_
          have mx : x.1 ∈ ys := by rw [← hfst]; exact List.mem_map_of_mem hx
          have my : y.1 ∈ ys := by rw [← hfst]; exact List.mem_map_of_mem hy
          rw [PySem.W.dataLe_eq]
          simp only [cond_false]
          rw [ltv_ok y.1 x.1 (shp_ok (shpOf _ my)).1 (shp_ok (shpOf _ mx)).1 (List.all_eq_true.mp (List.all_eq_true.mp q2 _ my) _ mx)]
        rw [ec] at eo
        have eo2 : PySem.W.EachIs (RvD Γ G5) (PySem.W.sortVals (PySem.W.dataKind s5.heap (ys.map toP)) false kA.toList its) ((sortK (ys.zip xs)).map (·.2)) := each_mapD (fun b : D × D => b.2) eo
        obtain ⟨ws', rv', rr'⟩ := of_each eo2
        have hl' : ws'.length ≤ sizeLine := by
          rw [rr'.length]
          rw [sortK, msort_eq]
          rw [List.length_map, List.length_mergeSort, hsz]
          exact q4
        generalize PySem.W.sortVals (PySem.W.dataKind s5.heap (ys.map toP)) false kA.toList its = out at k3 rv'
        refine ⟨.ref a, upd H5 a (.lst ws'), I5.step (g' := s5.gens) (t' := tk) (d' := s5.drawn) (ch := [a, kS]) (fun b hb => ?_) (fun b o n1 n2 n3 q _ => k2 b o n1 (fun z => n3 (by simp [z])) (fun z => n3 (by simp [z])) q) (fun b o n1 n2 n3 q _ => ⟨o.slots, k2 b o n1 (fun z => n3 (by simp [z])) (fun z => n3 (by simp [z])) q⟩)
          (fun b o n q hn => by rw [upd_ne (fun z => n (by simp [z]))]; exact hn) (fun b o n q => ?_) (fun b us q => by rw [upd_ne (ne_of_none q na5)]; exact q) (fun b o us q => by rw [upd_ne (ne_of_none q na5)]; exact q) (fun b ps q => ⟨#[], by rw [upd_ne (ne_of_none q na5), q]; simp⟩) k1 (fun b uo q => ?_) I5.bare, rfl, ?_⟩
        · rcases List.mem_cons.mp hb with rfl | hb
          · exact ⟨d3, d1, d4, d5⟩
          · rw [List.mem_singleton.mp hb]
            exact ⟨f3, f1, f4, f5⟩
        · by_cases hbL : b = X.env.locals
          · subst hbL
            obtain ⟨o', _, _, ho', _⟩ := k1 _ hnL
            exact ⟨o', ho'⟩
          · exact ⟨o, k2 b o hbL (fun z => n (by simp [z])) (fun z => n (by simp [z])) q⟩
        · by_cases hba : b = a
          · subst hba
            rw [upd_same] at q
            cases q
            exact ⟨hl', out, cc, rv', k3⟩
          · rw [upd_ne hba] at q
            refine (I5.hok b uo q).stay (fun b2 u2 hb2 q2 => ?_) (fun b2 q2 => by rw [upd_ne (ne_of_none q2 na5)]; exact q2) fun b2 us q2 => by rw [upd_ne (ne_of_none q2 na5)]; exact q2
            have nt : ∃ o, H5 b2 = some o := by
              rcases hb2 with rfl | hb2
              · exact ⟨_, q⟩
              · exact ⟨_, hb2⟩
            obtain ⟨o2, nt⟩ := nt
            refine k2 b2 u2 (fun z => ?_) (ne_of_none nt nk5) (ne_of_none nt na5) q2
            rw [z, I5.free] at nt
            cases nt
        · have hp : H5 a = none := na5
          exact hF5 ρ5 (grow G5 H5 (upd H5 a (.lst ws'))) _ (S5.grow (same_upd hp)) (Ext.grow S5 (same_upd hp)) (.ref a) (.lst (.inl (grow_up hp (fun ps z => by cases z))) (RepL.mono (grow_same S5.same) rr'))
theorem tI_noexc {fa : List (Option W) → M W} {gk : W → M W} (hk : ∀ w η e η', gk w η ≠ .exc e η') {σ : L2.St} {H : Hp} {Q : VK} (t : tI Γ Z (fun ν => fa ν >>= gk) σ H Q) : tI Γ Z fa σ H fun x H1 => ∃ ρ G η w, Sim Γ ρ G η H1 ∧ RepW Γ G ρ w x ∧ Fin Γ ZN (pW Γ Q) [] ρ G η H1 (gk w η) := by
  obtain ⟨ν, η, ρ, G, Sm, T, t⟩ := t
  refine ⟨ν, η, ρ, G, Sm, T, Fin.bind t _ fun w ρ1 G1 η1 H1 S1 E1 h1 v rv => ⟨ρ1, G1, η1, w, S1, rv, ?_⟩⟩
  cases e : gk w η1 with
  | ok w2 η2 => rw [e] at h1; exact h1
  | exc _ _ => exact absurd e (hk _ _ _ _)
  | bad => rw [e] at h1; exact h1
theorem snd_srt (hB2 : Γ.ft = B.ft) {f : Nat} {a : Ex} (ih : SndE Γ B c a) : SndE Γ B c (.srt f a) := by
  intro S k Z X g
  refine ⟨fun e h => ?_, fun es h => (by cases h), fun _ _ h => (by cases h)⟩
  obtain ⟨p, y, nm, fx, fp, kp, pos, rfl, h1, rfl, h3, h4, h5, h6⟩ := fSrt_inv (show fSrt B S f e (okE B a S) = true from h)
  rw [← hB2] at h3
  obtain ⟨fa, fd, ps, hl, hm, hk, hb, _, hF⟩ := g.fns.run f fx _ h3
  have F := hF 0
  rw [← g.P, ← g.w, ← g.K, ← g.mg, ← g.base] at F
  rw [← g.K] at hb
  simp only [SC.glb, Bool.and_eq_true] at h4
  have PF : PE X (.Name fx fp) (tC (.ref fa)) := pe_glob (v := .ref fa) (g.gl h4.1) (by rw [g.mg]; exact hm) rfl (nodbg_ok h4.2).1
  have CR0 : CallRK X (.builtin "sorted") [Str.ofString "key"] (fun vs zs H Q => ∃ x, vs = [x] ∧ zs = [V.ref fa] ∧ SrtR Γ c f x H Q) := by
    intro pins s σ H vs zs us ws Q I r rz h
    obtain ⟨x, rfl, rfl, h⟩ := h
    obtain ⟨u, rfl, ru⟩ := vals1 r
    obtain ⟨w1, rfl, e1⟩ := vals1 rz
    cases e1
    exact call_srt g F hb I ru h
  have PA1 := pa_cons ((ih S k Z X g).1 _ h6).1 pa_nil (star_of h5 _ _)
  refine both rfl (PE.imp (pe_callBK CR0 (g.gl h1) (g.blt (fn_blt .sorted)) (fn_boot .sorted) PA1 (pk_cons (nm := some "key") (kpos := kp) PF pk_nil) (fn_name .sorted) (fn_dbg .sorted) (by rw [star_of h5]; rfl) (noSplat (by simp [h5]) _ _)) fun σ H Q t => ?_)
  have e2 : ev c (.srt f a) = fun ν => ev c a ν >>= srtM c f := by funext ν; simp only [ev]
  rw [e2] at t
  have t2 := tI_noexc (gk := srtM c f) (fun _ _ _ _ => srtM_noexc) t
  obtain ⟨ν, η, ρ, G, Sm, T, t2⟩ := t2
  exact ⟨ν, η, ρ, G, Sm, T, t2.imp fun G1 ρ1 w1 H1 q v rv => ⟨v, rfl, rfl, q v rv⟩⟩
end
end Ip

set_option Elab.async false
set_option linter.all false
set_option maxRecDepth 100000
set_option maxHeartbeats 2000000
/-! IpGc: comprehensions of several clauses. -/
namespace Ip
open PySem PySem.Spec PyProof.Rows L2
/-- what a turn's rest says: the slots, the heap, what is wanted then -/
abbrev TR := L2.St → Hp → (Hp → Prop) → Prop
/-- a turn's rest ahead of the next turn; ow: slots that it may change -/
structure PRest (Xb : Cx) (mk : Sem PySem.Fin → Sem PySem.Fin) (ow : List Nat) (t : TR) : Prop where
  run : ∀ (pins : List (Addr × Obj)) (s : Shared) (σ : L2.St) (H : Hp) (K : Hp → Prop) (k : Sem PySem.Fin) (Q : PySem.Fin → Shared → Prop) (E : Value → Shared → Prop), Inv Xb pins σ H s → t σ H K → (∀ s' H', Inv Xb pins (wipe σ ow) H' s' → K H' → wpAny (model Xb.prog Xb.w) Xb.A k Q E s') → wpAny (model Xb.prog Xb.w) Xb.A (mk k) Q E s
/-- a loop's turns: W by the turn and a measure -/
def tLoop (J : It) (own : List Nat) (g : TG) (tt : TT) (t : TR) : TR := fun σ H1 K => ∃ W : Nat → Nat → Hp → Prop, (∃ m, W 0 m H1) ∧ ∀ i m H, W i m H →
  (J.stop i H ∧ K H) ∨ (J.go i H ∧ ∃ Nx : Hp → Prop, (∀ H', Nx H' → ∃ m', m' < m ∧ W (i + 1) m' H') ∧ ∀ x H', J.yld i H x H' → g x (wipe σ own) H' fun σ2 H2 => wipe σ2 own = wipe σ own ∧ tt σ2 H2 fun b H3 =>
    if b = true then t σ2 H3 Nx else Nx H3)
section
variable {X : Cx} {s0 : Shared} {H0 : Hp} {scope : Scope} {ce : PySem.Env} {fp0 : List Addr}
theorem wipe_wipe {σ σ2 : L2.St} {own ow : List Nat} (h : wipe σ2 own = wipe σ own) (hs : ∀ i ∈ ow, i ∈ own) {j : Nat} {v : V} (e : (wipe σ own)[j]? = some (some v)) : (wipe σ2 ow)[j]? = some (some v) := by
  rw [← h] at e
  obtain ⟨e1, e2⟩ := wipe_some e
  rw [wipe_out fun m => e2 (hs j m)]
  exact e1
theorem loop_rest {e : Expr} {d : Nat} {tg : Expr} {ifs : List Expr} {p : Pos} {acc : Value} {mk : Sem PySem.Fin → Sem PySem.Fin} {own ow : List Nat} {g : TG} {tt : TT} {t : TR} {it : Addr}
    (hturn : compTurn e d (.ref it) acc ce = (do
      standAt p
      match ← pyNext (.ref it) with
      | none => pure (.done .next)
      | some v =>
        letOwnedTupleGo tg (.ref it) v
        assign tg ce v
        let ok ← forIn ifs true fun c r => if r = true then do let ok ← isTrue c ce (eval c ce); pure (ForInStep.yield ok) else pure (ForInStep.yield r)
        if ok = true then mk (again (.compLoop e d (.ref it) acc ce)) else again (.compLoop e d (.ref it) acc ce)))
    (hq : (Code.compLoop e d (.ref it) acc ce).quiet = true) (hA : X.A.under (.compLoop e d (.ref it) acc ce) = X.A) (hden : ∀ M : Unit, (model X.prog X.w).den (.compLoop e d (.ref it) acc ce) = (compTurn e d (.ref it) acc ce).onRaise (fun x => do noteFrame x ce; theTreesLotGoes x))
    (hc : X.calm = true) (pg : PG (X.blk s0 H0 scope ce fp0) tg g) (pt : PTs (X.blk s0 H0 scope ce fp0) ifs tt) (pm : PRest (X.blk s0 H0 scope ce fp0) mk ow t) (hsub : ∀ i ∈ ow, i ∈ own)
    {J : It} {fp : List Addr} {tn : Nat → Heap → Prop} (T : Turn X.prog X.w X.K tg J fp it tn) {pins : List (Addr × Obj)} {s : Shared} {σ : L2.St} {H : Hp} {K : Hp → Prop}
    (I : Inv (X.blk s0 H0 scope ce fp0) pins (wipe σ own) H s) (st : tn 0 s.heap) (f : ∀ b ∈ fp, FpOk (X.blk s0 H0 scope ce fp0) pins H b) (h : tLoop J own g tt t σ H K) :
    codeAny (model X.prog X.w) X.A (.compLoop e d (.ref it) acc ce) (fun r s' => r = .ok .next ∧ ∃ H', Inv (X.blk s0 H0 scope ce fp0) pins (wipe σ own) H' s' ∧ K H') s := by
  obtain ⟨W, ⟨m0, w0⟩, turn⟩ := h
  have stat : ∀ {H' : Hp}, (∀ b ∈ fp, H' b = none) → ∀ b ∈ fp, FpOk (X.blk s0 H0 scope ce fp0) pins H' b := fun {H'} hn b hb => ⟨hn b hb, (f b hb).2⟩
  refine codeAny_loop hq (fun n s' => ∃ i H', Inv (X.blk s0 H0 scope ce fp0) pins (wipe σ own) H' s' ∧ tn i s'.heap ∧ (∀ b ∈ fp, H' b = none) ∧ W i n H') ?_ m0 ⟨0, H, I, st, fun b hb => (f b hb).1, w0⟩
  rintro n s5 ⟨i, H5, I5, st5, n5, w5⟩
  rw [hA, hden ()]
  refine wpAny_noted ?_
  rw [hturn]
  refine wpAny_bind (wpAny_standAt ?_)
  rcases turn i n H5 w5 with ⟨stop, qq⟩ | ⟨go, Nx, hNx, step⟩
  · have td := T.done (X.blk s0 H0 scope ce fp0) rfl rfl rfl hc i pins s5 _ H5 (fun _ _ => False) I5 (stat n5) st5 stop
    refine wpAny_bind (thnF td fun r s6 ⟨hr, I6⟩ => ?_)
    subst hr
    exact wpAny_pure ⟨rfl, H5, I6, qq⟩
  · have ti := T.item (X.blk s0 H0 scope ce fp0) rfl rfl rfl hc i pins s5 _ H5 (fun _ _ => False) I5 (stat n5) st5 go
    refine wpAny_bind (thnF ti fun r s6 ⟨u, hr, h6⟩ => ?_)
    subst hr
    refine wpAny_bind (thnF h6 fun _ s7 ⟨x, H7, I7, r7, y7, st7, n7⟩ => ?_)
    have I7' := I7.pinned (stat n7) (T.obj _ _ st7)
    refine wpAny_bind (thnF (pg.run _ s7 _ H7 x u _ I7' r7 (step x H7 y7)) fun _ s8 ⟨σ8, H8, I8, hw8, q8⟩ => ?_)
    refine wpAny_bind (thnF (pt.run _ s8 σ8 H8 _ I8 q8) fun b s9 ⟨H9, I9, q9⟩ => ?_)
    -- the turn's end
    have fin : ∀ {s' : Shared} {H' : Hp}, Inv (X.blk s0 H0 scope ce fp0) (pins ++ pinsAt fp s7.heap) (wipe σ8 ow) H' s' → Nx H' → ∃ m, m < n ∧ ∃ i H', Inv (X.blk s0 H0 scope ce fp0) pins (wipe σ own) H' s' ∧ tn i s'.heap ∧ (∀ b ∈ fp, H' b = none) ∧ W i m H' := fun {s' H'} I' nx => by
      obtain ⟨m', hm, w'⟩ := hNx H' nx
      have pin' : ∀ b ∈ fp, ∀ o, s7.heap.get? b = some o → s'.heap.get? b = some o ∧ H' b = none := fun b hb o e =>
        let z := I'.pin (b, o) (List.mem_append_right _ (List.mem_append_right _ (mem_pinsAt hb e)))
        ⟨z.1, z.2.1⟩
      have hl : (wipe σ own).length = (wipe σ8 ow).length := by rw [← hw8, wipe_length, wipe_length]
      refine ⟨m', hm, i + 1, H', (I'.unpinned (pins := pins)).weak hl (fun j v e => wipe_wipe hw8 hsub e), T.keep _ _ _ st7 fun b hb o e => (pin' b hb o e).1, fun b hb => ?_, w'⟩
      obtain ⟨o, e, _⟩ := T.obj _ _ st7 b hb
      exact (pin' b hb o e).2
    cases b with
    | false =>
      simp only [Bool.false_eq_true, if_false] at q9 ⊢
      refine wpAny_pure ⟨rfl, fin (I9.weak (by rw [wipe_length]) fun j v e => (wipe_some e).1) q9⟩
    | true =>
      simp only [if_true] at q9 ⊢
      exact pm.run _ s9 σ8 H9 _ _ _ _ I9 q9 fun s' H' I' nx => wpAny_pure ⟨rfl, fin I' nx⟩
/-- the start of a clause's loop -/
theorem start_any {prog : Program} {w : World} {A : Around} {R : Result → Shared → Prop} {s : Shared} {e : Expr} {d : Nat} {it acc : Value} {env : PySem.Env}
    (ha : ((clausesOf e)[d]?).elim false (·.is_async != 0) = false) (hq : (Code.compStart e d it acc env).quiet = true) (hA : A.under (.compStart e d it acc env) = A) (hden : (model prog w).den (.compStart e d it acc env) = (compStart e d it acc env).onRaise (fun x => do noteFrame x env; standAt theWindowsPlace))
    (hq2 : (Code.compLoop e d it acc env).quiet = true)
    (h0 : codeAny (model prog w) A (.compLoop e d it acc env) R s)
    (h : wpAny (model prog w) A (pyIter it) (fun it' s' => codeAny (model prog w) A (.compLoop e d it' acc env) R s' ∧ (Code.compLoop e d it' acc env).quiet = true) (notedBy (model prog w) A env fun x s' => R (.error x) s') s) :
    codeAny (model prog w) A (.compStart e d it acc env) R s := by
  refine codeAny_of_tree ?_
  rw [hA, hden]
  refine wpAny_notedAt ?_
  unfold compStart
  rw [if_neg (by rw [ha]; exact Bool.false_ne_true)]
  show wpAny _ _ (ask >>= _) _ _ s
  refine wpAny_bind (wpAny_askSetting (wpAny_ite ?_))
  split
  · first
      | exact wpAny_bind (wpAny_pure (wpAny_pure (And.intro hq2 h0)))
      | exact wpAny_pure (And.intro hq2 h0)
  · refine wpAny_bind (wpAny_rule ?_)
    cases (clausesOf e)[d]? with
    | none => exact wpAny_bind (wpAny_mono h (fun it' s' h' => wpAny_pure (And.intro h'.2 h'.1)) fun _ _ x => x)
    | some g => exact wpAny_bind (wpAny_standAt (wpAny_bind (wpAny_mono h (fun it' s' h' => wpAny_pure (And.intro h'.2 h'.1)) fun _ _ x => x)))
/-- how a clause's loop is written -/
structure Lp (e : Expr) (d : Nat) (acc : Value) (ce : PySem.Env) (tg : Expr) (ifs : List Expr) (mk : Sem PySem.Fin → Sem PySem.Fin) : Prop where
  turn : ∃ p, ∀ it : Addr, compTurn e d (.ref it) acc ce = (do
      standAt p
      match ← pyNext (.ref it) with
      | none => pure (.done .next)
      | some v =>
        letOwnedTupleGo tg (.ref it) v
        assign tg ce v
        let ok ← forIn ifs true fun c r => if r = true then do let ok ← isTrue c ce (eval c ce); pure (ForInStep.yield ok) else pure (ForInStep.yield r)
        if ok = true then mk (again (.compLoop e d (.ref it) acc ce)) else again (.compLoop e d (.ref it) acc ce))
  q : ∀ it, (Code.compLoop e d it acc ce).quiet = true
  qs : ∀ it, (Code.compStart e d it acc ce).quiet = true
  u : ∀ (A : Around) it, A.under (.compLoop e d it acc ce) = A
  us : ∀ (A : Around) it, A.under (.compStart e d it acc ce) = A
  den : ∀ P w it, (model P w).den (.compLoop e d it acc ce) = (compTurn e d it acc ce).onRaise (fun x => do noteFrame x ce; theTreesLotGoes x)
  dens : ∀ P w it, (model P w).den (.compStart e d it acc ce) = (compStart e d it acc ce).onRaise (fun x => do noteFrame x ce; standAt theWindowsPlace)
  cl : ((clausesOf e)[d]?).elim false (·.is_async != 0) = false
theorem lp_run {e : Expr} {d : Nat} {tg : Expr} {ifs : List Expr} {acc : Value} {mk : Sem PySem.Fin → Sem PySem.Fin} {own ow : List Nat} {g : TG} {tt : TT} {t : TR} {it : Addr} (L : Lp e d acc ce tg ifs mk)
    (hc : X.calm = true) (pg : PG (X.blk s0 H0 scope ce fp0) tg g) (pt : PTs (X.blk s0 H0 scope ce fp0) ifs tt) (pm : PRest (X.blk s0 H0 scope ce fp0) mk ow t) (hsub : ∀ i ∈ ow, i ∈ own)
    {J : It} {fp : List Addr} {tn : Nat → Heap → Prop} (T : Turn X.prog X.w X.K tg J fp it tn) {pins : List (Addr × Obj)} {s : Shared} {σ : L2.St} {H : Hp} {K : Hp → Prop}
    (I : Inv (X.blk s0 H0 scope ce fp0) pins (wipe σ own) H s) (st : tn 0 s.heap) (f : ∀ b ∈ fp, FpOk (X.blk s0 H0 scope ce fp0) pins H b) (h : tLoop J own g tt t σ H K) :
    codeAny (model X.prog X.w) X.A (.compStart e d (.ref it) acc ce) (fun r s' => r = .ok .next ∧ ∃ H', Inv (X.blk s0 H0 scope ce fp0) pins (wipe σ own) H' s' ∧ K H') s := by
  obtain ⟨p, hturn⟩ := L.turn
  have loop := loop_rest (hturn it) (L.q _) (L.u _ _) (fun _ => L.den _ _ _) hc pg pt pm hsub T I st f h
  exact start_any L.cl (L.qs _) (L.us _ _) (L.dens _ _ _) (L.q _) loop (T.self X.A 0 _ _ _ st ⟨loop, L.q _⟩)
/-- a further clause -/
def mkNest (e : Expr) (d : Nat) (acc : Value) (ce : PySem.Env) (it2 : Expr) : Sem PySem.Fin → Sem PySem.Fin := fun k => do
  let x ← eval it2 ce
  standAt it2.pos
  let x ← foldedSetIterable it2 ce x
  let _ ← runOwn (.compStart e d (← holding [x] (pyIter x)) acc ce) ce
  k
theorem rest_nest {e : Expr} {d : Nat} {tg it2 : Expr} {ifs : List Expr} {acc : Value} {mk : Sem PySem.Fin → Sem PySem.Fin} {own ow : List Nat} {g : TG} {tt : TT} {t : TR} {wi : TI} (L : Lp e d acc ce tg ifs mk)
    (hc : X.calm = true) (hi : PI (X.blk s0 H0 scope ce fp0) tg it2 wi) (hs : ∀ x, foldedSetIterable it2 ce x = pure x) (pg : PG (X.blk s0 H0 scope ce fp0) tg g) (pt : PTs (X.blk s0 H0 scope ce fp0) ifs tt) (pm : PRest (X.blk s0 H0 scope ce fp0) mk ow t) (hsub : ∀ i ∈ ow, i ∈ own) :
    PRest (X.blk s0 H0 scope ce fp0) (mkNest e d acc ce it2) own (fun σ H K => wi σ H fun J H1 => tLoop J own g tt t σ H1 K) := by
  refine ⟨fun pins s σ H K k Q E I h hk => ?_⟩
  unfold mkNest
  refine wpAny_bind (thnF (hi.run pins s σ H _ I h) fun xv s1 hx => ?_)
  refine wpAny_bind (wpAny_standAt (wpAny_bind (wpAny_of_eq (hs xv) ?_)))
  refine wpAny_bind (wpAny_holding (thnF hx fun itv s2 h2 => ?_))
  obtain ⟨it, fp, tn, J, H2, rfl, I2, T, st2, f2, q⟩ := h2
  refine wpAny_bind (wpAny_runOwn ?_)
  have loop := lp_run L hc pg pt pm hsub T (I2.weak (wipe_length σ own) fun j v e => (wipe_some e).1) st2 f2 q
  refine codeAny_mono loop fun r s' ⟨hr, H', I', q'⟩ => ?_
  subst hr
  exact hk s' H' I' q'
/-- the tests of a clause are in tt; a rest that yields an item to the list -/
def mkApp (acc : Value) (ce : PySem.Env) (elt : Expr) : Sem PySem.Fin → Sem PySem.Fin := fun k => (do let _ ← call (.builtin "list.append") [acc, ← eval elt ce]) >>= fun _ => k
def tEmL (D : Addr) (te : TE) : TR := fun σ H K => te σ H fun y H4 => ∃ acc, H4 D = some (.lst acc) ∧ acc.length < sizeLine ∧ K (upd H4 D (.lst (acc ++ [y])))
theorem rest_app {elt : Expr} {D : Addr} {te : TE} (pe : PE (X.blk s0 H0 scope ce fp0) elt te) : PRest (X.blk s0 H0 scope ce fp0) (mkApp (.ref D) ce elt) [] (tEmL D te) := by
  refine ⟨fun pins s σ H K k Q E I h hk => ?_⟩
  unfold mkApp
  refine wpAny_bind (wpAny_bind (thnF (pe.run pins s σ H _ I h) fun z s1 ⟨y, H1, I1, r1, acc, hD, hz, q⟩ => ?_))
  refine wpAny_bind (app_ok (X := X.blk s0 H0 scope ce fp0) I1 hD hz r1 fun s2 I2 => ?_)
  exact wpAny_pure (hk s2 _ I2 q)
/-- a dict's item whose key is a tuple -/
def tPutT (Γ : Env) (D : Addr) (y z : V) (H : Hp) (K : Hp → Prop) : Prop := ∃ G kvs xs kd nk b, Same G H ∧ RepT Γ G kvs xs ∧ y = .ref b ∧ RepA Γ G H kd (.ref b) ∧ tkD kd = some nk ∧ H D = some (DT Γ.P Γ.w D xs) ∧ xs.length < sizeLine ∧ ∀ u, RelV z u → K (upd H D (DT Γ.P Γ.w D (storedH xs nk b u)))
theorem storedH_len {xs : List (NestedKey × Addr × Value)} {k : NestedKey} {a : Addr} {v : Value} : (storedH xs k a v).length ≤ xs.length + 1 := by
  unfold storedH
  split
  · simp
  · simp
theorem put_T {Γ : Env} (hK : X.K = Γ.K) (hP : X.prog = Γ.P) (hw : X.w = Γ.w) {pins : List (Addr × Obj)} {s : Shared} {σ : L2.St} {H : Hp} {E : Value → Shared → Prop} {K : Hp → Prop} {Q : Unit → Shared → Prop} {D : Addr} {y z : V} {uy uz : Value} (hu : X.A.units + 8 < cLine) (I : Inv X pins σ H s) (ry : RelV y uy) (rz : RelV z uz)
    (h : tPutT Γ D y z H K) (hQ : ∀ s' H', Inv X pins σ H' s' → K H' → Q () s') : wpAny (model X.prog X.w) X.A (dictSet D uy uz) Q E s := by
  obtain ⟨G, kvs, xs, kd, nk, b, S, rt, rfl, rk, hk, hD, hz, hKK⟩ := h
  cases ry
  obtain ⟨h1, h2, hm⟩ := RepT.dictOf hK I S (.inl hD) rt X.prog X.w
  obtain ⟨b', eb, _, hn, hd⟩ := RepA.tkey hK I S hk rk
  cases eb
  refine wpAny_dictSet_heap (knd := nestedKind X.prog X.w) (hsz := by omega) hu ⟨hn, hd⟩ hm fun h' hm' hs => ?_
  refine hQ _ _ (I.write (t' := s.toks + (nestedKind X.prog X.w).draws nk) (x := D) (e := D) (o := DT Γ.P Γ.w D (storedH xs nk b uz)) (by rw [hD]; exact True.intro) (.inl rfl) (fun c u hc q => (hs.2 c hc).trans q) ?_ ?_) (hKK uz rz)
  · obtain ⟨o, _, _, ho, _⟩ := hm'
    exact ⟨o, ho⟩
  · obtain ⟨o, es, ep, ho, hc, hdt, he, hi, hnd⟩ := hm'
    rw [hP, hw] at he
    refine ⟨⟨h1, Nat.le_trans storedH_len hz, hnd, o, es, ep, ho, hc, hdt, he⟩, ⟨o, ho⟩, fun g1 g2 ⟨q1, q2, q3, o2, es2, ep2, k1, k2⟩ kk => ⟨q1, q2, q3, o2, es2, ep2, kk _ k1, k2⟩⟩
def mkPut (D : Addr) (ce : PySem.Env) (kx vx : Expr) : Sem PySem.Fin → Sem PySem.Fin := fun k => (do
    let kv ← eval kx ce
    let vv ← holding [kv] (eval vx ce)
    standAt { kx.pos with endLine := vx.pos.endLine, endCol := vx.pos.endCol }
    holding [kv, vv] (dictSet D kv vv)) >>= fun _ => k
def tEmT (Γ : Env) (D : Addr) (tk tv : TE) : TR := fun σ H K => tk σ H fun y H4 => tv σ H4 fun z H5 => ∃ G kd, Same G H5 ∧ RepA Γ G H5 kd y ∧ tPutT Γ D y z H5 K
theorem rest_put {Γ : Env} (hK : X.K = Γ.K) (hP : X.prog = Γ.P) (hw : X.w = Γ.w) (hu : X.A.units + 8 < cLine) {kx vx : Expr} {D : Addr} {tk tv : TE} (pk : PE (X.blk s0 H0 scope ce fp0) kx tk) (pv : PE (X.blk s0 H0 scope ce fp0) vx tv) : PRest (X.blk s0 H0 scope ce fp0) (mkPut D ce kx vx) [] (tEmT Γ D tk tv) := by
  refine ⟨fun pins s σ H K k Q E I h hk => ?_⟩
  unfold mkPut
  refine wpAny_bind (wpAny_bind (thnF (pk.run pins s σ H _ I h) fun kv s1 ⟨y, H1, I1, r1, q1⟩ => ?_))
  refine wpAny_bind (wpAny_holding (thnF (pv.run pins s1 σ H1 _ I1 q1) fun vv s2 ⟨z, H2, I2, r2, G, kd, _, _, q2⟩ => ?_))
  refine wpAny_bind (wpAny_standAt (wpAny_holding (put_T (X := X.blk s0 H0 scope ce fp0) hK hP hw hu I2 r1 r2 q2 fun s3 H3 I3 q3 => hk s3 H3 I3 q3)))
/-- a comprehension of any form; O D: what the new thing at D is at first -/
theorem comp_core {pins : List (Addr × Obj)} {s : Shared} {σ : L2.St} {H : Hp} {Q : VK} {e tg iter : Expr} {ifs : List Expr} {gs : List Comprehension} {scope : Scope} {own : List (Str × Nat)} {pos' : Pos} {wi : TI} {g : TG} {tt : TT} {newM : Sem Value} {o0 : Obj} {O : Addr → HO} {t : Addr → TR} {use : Option (Value → Sem Unit)} {Qf : Value → Shared → Prop}
    (hcl : clausesOf e = ⟨tg, iter, ifs, 0⟩ :: gs) (hnew : ∀ (s : Shared) (Qn : Value → Shared → Prop) (E : Value → Shared → Prop), Qn (.ref s.heap.objs.size) { s with heap := s.heap.push o0 } → wpAny (model X.prog X.w) X.A newM Qn E s)
    (hobj : ∀ (s : Shared) (H : Hp), Inv X pins σ H s → ObjOk X.prog X.w (upd H s.heap.objs.size (O s.heap.objs.size)) (s.heap.push o0) s.heap.objs.size (O s.heap.objs.size))
    (hc : X.calm = true) (hN : X.N.Nodup) (I : Inv X pins σ H s) (hi : PI X tg iter wi) (ok : BlkOk X.N X.env.scope scope own) (hs : ∀ x, foldedSetIterable iter X.env x = pure x)
    (hB : ∀ (D : Addr) (s : Shared) (H : Hp) (C : Addr) (cl : List (Str × Addr)) (fp : List Addr), ∃ mk ow, Lp e 0 (.ref D) (compEnvC scope cl C X.env) tg ifs mk ∧ PG (X.blk s H scope (compEnvC scope cl C X.env) fp) tg g ∧ PTs (X.blk s H scope (compEnvC scope cl C X.env) fp) ifs tt ∧ PRest (X.blk s H scope (compEnvC scope cl C X.env) fp) mk ow (t D) ∧ ∀ i ∈ ow, i ∈ own.map (·.2))
    (h : wi σ H fun J H1 => ∀ D, H1 D = none → tLoop J (own.map (·.2)) g tt (t D) σ (upd H1 D (O D)) fun H' => Q (.ref D) H')
    (hRR : ∀ D C s' m H', Inv X pins σ H' s' → Q (.ref D) H' → s'.heap.Ns C m → FpOk X pins H' C → compPost (model X.prog X.w) X.A X.xe use Qf (.ref D) C (.ok .next) s') :
    wpAny (model X.prog X.w) X.A (comprehension e scope X.env pos' newM false (eval iter X.env) use) Qf X.xe s := by
  have hfree : ∀ y ∈ scope.names, y.2 = .free → ∃ c, X.env.cells.lookup y.1 = some c := fun y hy e => by
    rcases ok.free y hy e with k | k
    · exact I.ok.has _ (.inl k)
    · exact I.ok.has _ (.inr k)
  refine wpAny_comprehension_free (use := use) hcl hs (closure_ok hfree) ok.kind (fun y hy e => by rw [ok.uniq y hy, e])
    (thn (hi.run pins s σ H _ I h) fun xv s1 hx => thn hx fun itv s2 h2 => ?_)
  obtain ⟨it, fp, tn, J, H2, ei, I2, T, st2, f2, q⟩ := h2
  subst ei
  refine hnew s2 _ _ (newEnv_comp ?_)
  have hob := hobj s2 H2 I2
  generalize hD : s2.heap.objs.size = D at hob
  have hDn : H2 D = none := I2.hok.fresh (Nat.le_of_eq hD)
  have tl := q D hDn
  generalize hs3 : ({ s2 with heap := s2.heap.push o0 } : Shared) = s3
  have I3 : Inv X pins σ (upd H2 D (O D)) s3 := by
    rw [← hs3]
    exact I2.laid (t' := s2.toks) (fun b o e => Heap.get?_push_of_some _ e) (Nat.le_of_eq hD) hob
  have h3 : s3.heap = s2.heap.push o0 := by rw [← hs3]
  have sz : ∀ b ∈ fp, b < s2.heap.objs.size := fun b hb => by
    obtain ⟨o, e, _⟩ := T.obj _ _ st2 b hb
    exact Heap.lt_size e
  have f3 : ∀ b ∈ fp, FpOk X pins (upd H2 D (O D)) b ∧ b < s3.heap.objs.size := fun b hb => by
    have hlt := sz b hb
    refine ⟨⟨?_, (f2 b hb).2⟩, by rw [h3, Heap.size_push]; exact Nat.lt_succ_of_lt hlt⟩
    rw [upd_ne (by rw [← hD]; exact Nat.ne_of_lt hlt)]
    exact (f2 b hb).1
  have st3 : tn 0 s3.heap := T.keep _ _ _ st2 fun b _ o e => by rw [h3]; exact Heap.get?_push_of_some _ e
  have I4 := block_start I3 ok hN f3
  have hb := hB D s3 (upd H2 D (O D)) s3.heap.objs.size (cellsFrom (s3.heap.objs.size + 1) scope.names (cloFrom X.env.cells scope.names [])) fp
  show codeAny _ _ (.compStart e 0 (.ref it) (.ref D) (compEnvC scope (cellsFrom (s3.heap.objs.size + 1) scope.names (cloFrom X.env.cells scope.names [])) s3.heap.objs.size X.env)) (compPost (model X.prog X.w) X.A X.xe use Qf (.ref D) s3.heap.objs.size) { s3 with heap := pushCells (s3.heap.push { cls := .type "dict", data := .dict #[] }) scope.names }
  have nfp : ∀ b ∈ fp, (upd H2 D (O D)) b = none := fun b hb => (f3 b hb).1.1
  generalize hce : compEnvC scope (cellsFrom (s3.heap.objs.size + 1) scope.names (cloFrom X.env.cells scope.names [])) s3.heap.objs.size X.env = ce at I4 hb ⊢
  have cL : ce.locals = s3.heap.objs.size := by subst hce; rfl
  generalize hH3 : upd H2 D (O D) = H3 at I3 I4 hb tl nfp f3
  obtain ⟨mk, ow, L, pg, pt, pm, hsub⟩ := hb
  generalize hs4 : ({ s3 with heap := pushCells (s3.heap.push { cls := .type "dict", data := .dict #[] }) scope.names } : Shared) = s4 at I4 ⊢
  have st4 : tn 0 s4.heap := T.keep _ _ _ st3 fun b _ o e => by rw [← hs4]; exact pushCells_keeps _ _ _ _ (Heap.get?_push_of_some _ e)
  have stat : ∀ b ∈ fp, FpOk (X.blk s3 H3 scope ce fp) [] H3 b := fun b hb =>
    ⟨nfp b hb, (I4.ok.exf b hb).1, I4.ok.exfs b hb, .inl hb, fun x c e => (I4.ok.exf b hb).2 x c e, fun p hp => absurd (show p ∈ ([] : List (Addr × Obj)) ++ [] from hp) (by simp)⟩
  refine codeAny_mono (lp_run L hc pg pt pm hsub T I4 st4 stat tl) fun r s6 ⟨hr, H5, I6, qq⟩ => ?_
  subst hr
  -- back in the def's context
  have I7 : Inv X pins σ H5 s6 := I3.call' (ch := fp) I6.os I6.base I6.hok I6.bare fun b hb => ⟨(f3 b hb).1.2.2.2.1, (f3 b hb).1.2.1, (f3 b hb).1.2.2.2.2.1, (f3 b hb).1.2.2.2.2.2⟩
  have nC : H5 s3.heap.objs.size = none := by
    have z : H5 ce.locals = none := I6.free
    rw [cL] at z
    exact z
  obtain ⟨m, hn, _⟩ := I6.loc
  have hn : s6.heap.Ns ce.locals m := hn
  rw [cL] at hn
  exact hRR D s3.heap.objs.size s6 m H5 I7 qq hn (I3.fpOk (Nat.le_refl _) nC)
theorem lp_dict {kx vx : Expr} {gens : List Comprehension} {pos : Pos} {d : Nat} {D : Addr} {tg iter : Expr} {ifs : List Expr} (h : gens[d]? = some ⟨tg, iter, ifs, 0⟩) (h2 : gens[d + 1]? = none) : Lp (.DictComp kx vx gens scope pos) d (.ref D) ce tg ifs (mkPut D ce kx vx) := by
  refine ⟨⟨iter.pos, fun it => ?_⟩, fun _ => rfl, fun _ => rfl, fun _ _ => rfl, fun _ _ => rfl, fun _ _ _ => rfl, fun _ _ _ => rfl, ?_⟩
  · unfold compTurn
    simp only [h, h2]
    rfl
  · show ((gens)[d]?).elim false (·.is_async != 0) = false
    rw [h]
    rfl
theorem lp_dict2 {kx vx : Expr} {gens : List Comprehension} {pos : Pos} {d : Nat} {D : Addr} {tg iter tg2 iter2 : Expr} {ifs ifs2 : List Expr} (h : gens[d]? = some ⟨tg, iter, ifs, 0⟩) (h2 : gens[d + 1]? = some ⟨tg2, iter2, ifs2, 0⟩) : Lp (.DictComp kx vx gens scope pos) d (.ref D) ce tg ifs (mkNest (.DictComp kx vx gens scope pos) (d + 1) (.ref D) ce iter2) := by
  refine ⟨⟨iter.pos, fun it => ?_⟩, fun _ => rfl, fun _ => rfl, fun _ _ => rfl, fun _ _ => rfl, fun _ _ _ => rfl, fun _ _ _ => rfl, ?_⟩
  · unfold compTurn
    simp only [h, h2]
    rfl
  · show ((gens)[d]?).elim false (·.is_async != 0) = false
    rw [h]
    rfl
theorem lp_list {elt : Expr} {gens : List Comprehension} {pos : Pos} {d : Nat} {D : Addr} {tg iter : Expr} {ifs : List Expr} (h : gens[d]? = some ⟨tg, iter, ifs, 0⟩) (h2 : gens[d + 1]? = none) : Lp (.ListComp elt gens scope pos) d (.ref D) ce tg ifs (mkApp (.ref D) ce elt) := by
  refine ⟨⟨iter.pos, fun it => ?_⟩, fun _ => rfl, fun _ => rfl, fun _ _ => rfl, fun _ _ => rfl, fun _ _ _ => rfl, fun _ _ _ => rfl, ?_⟩
  · unfold compTurn
    simp only [h, h2]
    rfl
  · show ((gens)[d]?).elim false (·.is_async != 0) = false
    rw [h]
    rfl
theorem lp_list2 {elt : Expr} {gens : List Comprehension} {pos : Pos} {d : Nat} {D : Addr} {tg iter tg2 iter2 : Expr} {ifs ifs2 : List Expr} (h : gens[d]? = some ⟨tg, iter, ifs, 0⟩) (h2 : gens[d + 1]? = some ⟨tg2, iter2, ifs2, 0⟩) : Lp (.ListComp elt gens scope pos) d (.ref D) ce tg ifs (mkNest (.ListComp elt gens scope pos) (d + 1) (.ref D) ce iter2) := by
  refine ⟨⟨iter.pos, fun it => ?_⟩, fun _ => rfl, fun _ => rfl, fun _ _ => rfl, fun _ _ => rfl, fun _ _ _ => rfl, fun _ _ _ => rfl, ?_⟩
  · unfold compTurn
    simp only [h, h2]
    rfl
  · show ((gens)[d]?).elim false (·.is_async != 0) = false
    rw [h]
    rfl
end
end Ip

set_option Elab.async false
set_option linter.all false
set_option maxRecDepth 100000
set_option maxHeartbeats 2000000
/-! IpGc2: what the evaluator says of a comprehension of several clauses. -/
namespace Ip
open PySem PySem.Spec PyProof.Rows L2 LamX
def Big (o : HO) : Prop := (∀ ps, o ≠ .tbl ps) ∧ (∀ xs, o ≠ .tup xs) ∧ ∀ c q, o ≠ CodeO c q
theorem big_lst (xs : List V) : Big (.lst xs) := ⟨fun _ z => (by cases z), fun _ z => (by cases z), fun c q z => (by unfold CodeO at z; cases z)⟩
theorem codeO_dt {P : Program} {w : World} {a : Addr} {xs : List (NestedKey × Addr × Value)} {c : Addr} {q : Str} : DT P w a xs ≠ CodeO c q := by
  intro z
  unfold DT CodeO at z
  injection z with z
  obtain ⟨oc, hoc⟩ : ∃ oc : Obj, oc = { cls := .none, data := .fields #[.none, .str q default] } := ⟨_, rfl⟩
  obtain ⟨h, hh⟩ : ∃ h : Heap, h = { objs := Array.replicate (c + 1) oc } := ⟨_, rfl⟩
  have g1 : ∀ b o, h.get? b = some o → o = oc := fun b o e => by
    rw [hh] at e
    unfold Heap.get? at e
    by_cases hb : b < c + 1
    · simp only [Array.getElem?_replicate, hb, if_true] at e
      rw [hoc] at e ⊢
      simp at e
      exact e.symm
    · simp only [Array.getElem?_replicate, hb, if_false] at e
      cases e
  have g2 : h.get? c = some oc := by
    rw [hh]
    unfold Heap.get?
    simp only [Array.getElem?_replicate, Nat.lt_succ_self, if_true]
    rw [hoc]
  have e := congrFun z h
  have r : (∃ (oc : Obj) (vs : Array Value) (t : Tok), h.get? c = some oc ∧ oc.data = .fields vs ∧ vs[1]? = some (.str q t)) := ⟨oc, #[.none, .str q default], default, g2, by rw [hoc], rfl⟩
  have r2 := (Eq.mpr e r)
  obtain ⟨_, _, _, o, es, ep, h1, _, h2, _⟩ := r2
  rw [g1 _ _ h1, hoc] at h2
  cases h2
theorem big_dt {P : Program} {w : World} {a : Addr} {xs : List (NestedKey × Addr × Value)} : Big (DT P w a xs) := ⟨fun _ z => (by unfold DT at z; cases z), fun _ z => (by unfold DT at z; cases z), fun _ _ => codeO_dt⟩
section
variable {Γ : Env} {c : Cfg} {S : SC} {k : Nat} {Z : WX} {X : Cx}
theorem Loose.ext2 {ρ ρ' : Rho} {G G' H H' : Hp} {η η' : Hv} {D : Addr} {o : HO} (l : Loose G η ρ D) (hD : H D = some o) (E : Ext ρ G η H ρ' G' η' H') (nt : Big o) : Loose G' η' ρ' D ∧ H' D = some o := by
  refine ⟨⟨?_, fun ho => ?_⟩, E.kept D o hD l.2 nt.1⟩
  · cases q : G' D with
    | none => rfl
    | some u =>
      rcases E.fresh D (by rw [q]; simp) with h | h | h | ⟨xs, h⟩
      · exact absurd l.1 h
      · rw [hD] at h; cases h
      · exact absurd h l.2
      · rw [hD] at h; cases h
        exact absurd rfl (nt.2.1 xs)
  · rcases E.own D ho with h | h
    · exact l.2 h
    · rw [hD] at h; cases h
theorem Sim.loose2 {ρ : Rho} {G H : Hp} {η : Hv} (Sm : Sim Γ ρ G η H) {D : Addr} (l : Loose G η ρ D) (o : HO) (hq : ∀ u, H D = some u → Big u) : Sim Γ ρ G η (upd H D o) := by
  refine ⟨fun a u h => ?_, fun n o' h => ?_, Sm.inj, Sm.new, fun p hp => ?_, Sm.ntb⟩
  · have : a ≠ D := fun e => by subst e; rw [l.1] at h; cases h
    rw [upd_ne this]; exact Sm.same a u h
  · by_cases hd : o' = .dead
    · subst hd; trivial
    · refine (Sm.obj n o' h).move (fun _ _ q => q) (Same.refl G) (fun a ha => ?_) fun a u ha hu => ?_
      · obtain ⟨b, h4, h6, _⟩ := (Sm.obj n o' h).at hd
        rw [ha] at h4; cases h4
        exact h6
      · have : a ≠ D := fun e => by subst e; exact l.2 ⟨n, ⟨o', h, hd⟩, ha⟩
        rw [upd_ne this]; exact hu
  · obtain ⟨ps, h1, h2, h3⟩ := Sm.tab p hp
    refine ⟨ps, ?_, h2, fun pos cv hc => ?_⟩
    · have : p.1 ≠ D := fun z => by
        rw [z] at h1
        exact (hq _ h1).1 ps rfl
      rw [upd_ne this]; exact h1
    · obtain ⟨c, e1, e2⟩ := h3 pos cv hc
      refine ⟨c, e1, ?_⟩
      have : c ≠ D := fun z => by
        subst z
        exact (hq _ e2).2.2 c p.2 rfl
      rw [upd_ne this]; exact e2
theorem loopM_nil_ok {α : Type} {ik : Ik} {ws : List W} {sn : Snap} {f : W → M (List α)} {η η' : Hv} {ys : List α} (h : loopM ik ws sn f [] η = .ok ys η') : snap ik ws η = some sn ∧ ys = [] ∧ η' = η := by
  unfold loopM at h
  split at h
  · rename_i e
    cases h
    exact ⟨e, rfl, rfl⟩
  · cases h
theorem loopM_cons_ok {α : Type} {ik : Ik} {ws : List W} {sn : Snap} {f : W → M (List α)} {x : W} {xs : List W} {η η' : Hv} {ys : List α} (h : loopM ik ws sn f (x :: xs) η = .ok ys η') : snap ik ws η = some sn ∧ ∃ y1 η1 y2, f x η = .ok y1 η1 ∧ loopM ik ws sn f xs η1 = .ok y2 η' ∧ ys = y1 ++ y2 := by
  unfold loopM at h
  split at h
  · rename_i e
    refine ⟨e, ?_⟩
    rw [M.bind_ap] at h
    cases e1 : f x η with
    | ok y1 η1 =>
      rw [e1] at h
      simp only at h
      rw [M.bind_ap] at h
      cases e2 : loopM ik ws sn f xs η1 with
      | ok y2 η2 => rw [e2] at h; cases h; exact ⟨y1, η1, y2, rfl, e2, rfl⟩
      | exc _ _ => rw [e2] at h; cases h
      | bad => rw [e2] at h; cases h
    | exc _ _ => rw [e1] at h; cases h
    | bad => rw [e1] at h; cases h
  · cases h
mutual
/-- a turn's rest, behind the tests -/
inductive GenN (Γ : Env) (c : Cfg) (em : Ex → TR → Prop) : Ex → TR → Prop
  | leaf {e : Ex} {t : TR} : em e t → GenN Γ c em e t
  | nest {ik : Ik} {ws : List Nat} {pt : Pt} {it r : Ex} {tt : TT} {t : TR} : GenT Γ c em r tt t → (∀ i ∈ pt.vars, i ∈ ws) → GenN Γ c em (.gfor ik ws pt it r) (fun σ H K => tIt Γ ZN ik (evl c it) σ H fun J H1 => tLoop J ws (gB Γ pt) tt t σ H1 K)
/-- with the tests -/
inductive GenT (Γ : Env) (c : Cfg) (em : Ex → TR → Prop) : Ex → TT → TR → Prop
  | n {r : Ex} {t : TR} : GenN Γ c em r t → GenT Γ c em r tYes t
  | f {t0 r : Ex} {t : TR} : GenN Γ c em r t → GenT Γ c em (.gif t0 r) (tT Γ ZN (ev c t0)) t
end
/-- the evaluator's clauses -/
structure EvC {α : Type} (c : Cfg) (E : Ex → List (Option W) → M (List α)) : Prop where
  gif : ∀ t r ν, E (.gif t r) ν = (do
    let x ← ev c t ν
    let k ← asB x
    if k then E r ν else Pure.pure [])
  gfor : ∀ ik ws pt it r ν, E (.gfor ik ws pt it r) ν = (do
    let q ← itM ik (evl c it) ν
    loopM ik q.1 q.2.1 (fun x => match bindP pt x (wipeV ν ws) with
      | some ν' => E r ν'
      | none => M.bad) q.2.2)
theorem evC_g : EvC c (evg c) := ⟨fun t r ν => by simp only [evg], fun ik ws pt it r ν => by
  simp only [evg, itM, M.bind_assoc, M.pure_bind] <;> rfl⟩
theorem evC_p : EvC c (evp c) := ⟨fun t r ν => by simp only [evp], fun ik ws pt it r ν => by
  simp only [evp, itM, M.bind_assoc, M.pure_bind] <;> rfl⟩
theorem gif_okE {α : Type} {E : Ex → List (Option W) → M (List α)} (hE : EvC c E) {t r : Ex} {ν : List (Option W)} {η η' : Hv} {ys : List α} (h : E (.gif t r) ν η = .ok ys η') : ∃ b η1, ev c t ν η = .ok (.d (.bl b)) η1 ∧ (b = true → E r ν η1 = .ok ys η') ∧ (b = false → ys = [] ∧ η' = η1) := by
  rw [hE.gif] at h
  rw [M.bind_ap] at h
  cases e : ev c t ν η with
  | ok w η1 =>
    rw [e] at h
    cases w with
    | d d =>
      cases d <;> first | (cases h; done) | skip
      rename_i b
      refine ⟨b, η1, rfl, fun hb => ?_, fun hb => ?_⟩
      · subst hb; exact h
      · subst hb; cases h; exact ⟨rfl, rfl⟩
    | ref n => cases h
    | clo l cs => cases h
  | exc x η1 => rw [e] at h; cases h
  | bad => rw [e] at h; cases h
section
variable {α : Type} {E : Ex → List (Option W) → M (List α)} {em : Ex → TR → Prop} {A : Hp → HO → List α → Prop} {Good : List α → Prop} {ρb : Rho} {Gb Hb : Hp} {ηb : Hv} {D : Addr}
/-- a state in which the new thing is at D -/
structure Stt (Γ : Env) (ρb : Rho) (Gb : Hp) (ηb : Hv) (Hb : Hp) (D : Addr) (ρ : Rho) (G : Hp) (η : Hv) (H : Hp) : Prop where
  S : Sim Γ ρ G η H
  E : Ext ρb Gb ηb Hb ρ G η H
  l : Loose G η ρ D
def Acc (A : Hp → HO → List α → Prop) (D : Addr) (G H : Hp) (zs : List α) : Prop := ∃ o, H D = some o ∧ A G o zs
/-- what holds of the kind of thing -/
structure AccK (A : Hp → HO → List α → Prop) : Prop where
  big : ∀ G o zs, A G o zs → Big o
  mono : ∀ G G' o zs, Same G G' → A G o zs → A G' o zs
theorem Stt.step (hA : AccK A) {ρ ρ' : Rho} {G G' H H' : Hp} {η η' : Hv} {zs : List α} (s : Stt Γ ρb Gb ηb Hb D ρ G η H) (a : Acc A D G H zs) (S' : Sim Γ ρ' G' η' H') (E' : Ext ρ G η H ρ' G' η' H') : Stt Γ ρb Gb ηb Hb D ρ' G' η' H' ∧ Acc A D G' H' zs := by
  obtain ⟨o, h1, h2⟩ := a
  obtain ⟨l', h'⟩ := s.l.ext2 h1 E' (hA.big _ _ _ h2)
  exact ⟨⟨S', s.E.trans E', l'⟩, o, h', hA.mono _ _ _ _ E'.same h2⟩
/-- what is wanted behind a rest -/
def Wt (Γ : Env) (A : Hp → HO → List α → Prop) (ρb : Rho) (Gb : Hp) (ηb : Hv) (Hb : Hp) (D : Addr) (ρ : Rho) (G : Hp) (η' : Hv) (zs : List α) (K : Hp → Prop) : Prop :=
  ∀ ρ' G' H', Stt Γ ρb Gb ηb Hb D ρ' G' η' H' → (∀ n a, ρ n = some a → ρ' n = some a) → Same G G' → Acc A D G' H' zs → K H'
def LeafOk (Γ : Env) (E : Ex → List (Option W) → M (List α)) (em : Ex → TR → Prop) (A : Hp → HO → List α → Prop) (Good : List α → Prop) (D : Addr) : Prop := ∀ e t, em e t → ∀ (ρb : Rho) (Gb Hb : Hp) (ηb : Hv), Hb D = none → ∀ ν η η' ys ρ G H σ zs K, E e ν η = .ok ys η' → Stt Γ ρb Gb ηb Hb D ρ G η H → Slots Γ G ρ ν σ → Acc A D G H zs → Good (zs ++ ys) →
  Wt Γ A ρb Gb ηb Hb D ρ G η' (zs ++ ys) K → t σ H K
theorem Wt.imp {ρ ρ1 : Rho} {G G1 : Hp} {η' : Hv} {zs : List α} {K : Hp → Prop} (h : Wt Γ A ρb Gb ηb Hb D ρ G η' zs K) (er : ∀ n a, ρ n = some a → ρ1 n = some a) (es : Same G G1) : Wt Γ A ρb Gb ηb Hb D ρ1 G1 η' zs K :=
  fun ρ' G' H' s r g a => h ρ' G' H' s (fun n a q => r n a (er n a q)) (es.trans g) a
mutual
theorem genN_read (hE : EvC c E) (hA : AccK A) (hG : ∀ a b, Good (a ++ b) → Good a) (hl : LeafOk Γ E em A Good D) (hb : Hb D = none) : ∀ {r : Ex} {t : TR}, GenN Γ c em r t → ∀ {ν : List (Option W)} {η η' : Hv} {ys : List α} {ρ : Rho} {G H : Hp} {σ : L2.St} {zs : List α} {K : Hp → Prop}, E r ν η = .ok ys η' → Stt Γ ρb Gb ηb Hb D ρ G η H → Slots Γ G ρ ν σ → Acc A D G H zs → Good (zs ++ ys) →
    Wt Γ A ρb Gb ηb Hb D ρ G η' (zs ++ ys) K → t σ H K
  | _, _, .leaf h, _, _, _, _, _, _, _, _, _, _, e, s, T, a, g, k => hl _ _ h _ _ _ _ hb _ _ _ _ _ _ _ _ _ _ e s T a g k
  | _, _, .nest (ik := ik) (ws := ws) (pt := pt) (it := it) (r := r) (tt := tt) (t := t) h hv, ν, η, η', ys, ρ, G, H, σ, zs, K, e, s, T, a, g, k => by
    rw [hE.gfor, M.bind_ap] at e
    cases e1 : itM ik (evl c it) ν η with
    | exc _ _ => rw [e1] at e; cases e
    | bad => rw [e1] at e; cases e
    | ok q η1 =>
      rw [e1] at e
      simp only at e
      obtain ⟨us, sn, its⟩ := q
      simp only at e
      refine ⟨ν, η, ρ, G, s.S, T, ?_⟩
      rw [e1]
      intro ρ1 G1 H1 S1 E1 vs ru cs J hJ
      simp only at ru cs hJ
      obtain ⟨s1, a1⟩ := s.step hA a S1 E1
      refine ⟨fun i m H => m = its.length - i ∧ i ≤ its.length ∧ ∃ η2 ρ2 G2 zs' rest, Stt Γ ρb Gb ηb Hb D ρ2 G2 η2 H ∧ (∀ n a, ρ1 n = some a → ρ2 n = some a) ∧ Same G1 G2 ∧ Acc A D G2 H (zs ++ zs') ∧ ys = zs' ++ rest ∧
        loopM ik us sn (fun x => match bindP pt x (wipeV ν ws) with
          | some ν' => E r ν'
          | none => M.bad) (its.drop i) η2 = .ok rest η', ⟨its.length, rfl, Nat.zero_le _, η1, ρ1, G1, [], ys, s1, fun _ _ h => h, Same.refl _, by simpa using a1, rfl, by rw [List.drop_zero]; exact e⟩, ?_⟩
      rintro i m H2 ⟨rfl, hi, η2, ρ2, G2, zs', rest, s2, er, es, a2, hy, el⟩
      have rus : RepWs Γ G2 ρ2 us vs := ru.mono es er
      by_cases hlt : i < its.length
      · rw [List.drop_eq_getElem_cons hlt] at el
        obtain ⟨hsn, y1, η3, y2, ef, el2, hr⟩ := loopM_cons_ok el
        have cs' := snap_ok s2.S rus hsn
        refine .inr ⟨hJ.goes i G2 ρ2 H2 hlt s2.S.same cs', _, fun H'' w => ⟨its.length - (i + 1), by omega, w⟩, fun x H3 y => ?_⟩
        obtain ⟨w, hw, sm, rw_⟩ := hJ.yields i G2 ρ2 H2 x H3 hlt s2.S.same cs' y
        have ew : w = its[i] := by simpa [hlt] using hw.symm
        subst ew
        obtain ⟨s3, a3⟩ := s2.step hA a2 (s2.S.grow sm) (Ext.grow s2.S sm)
        cases eb : bindP pt its[i] (wipeV ν ws) with
        | none => rw [eb] at ef; cases ef
        | some ν' =>
          rw [eb] at ef
          have ef : E r ν' η2 = .ok y1 η3 := ef
          have sg := grow_same (H' := H3) s2.S.same
          refine ⟨wipeV ν ws, ρ2, _, its[i], ν', ((T.wipe ws).mono E1.same E1.rho).mono (es.trans sg) er, s3.S.same, rw_, eb, fun σ2 hl2 ho T2 => ⟨wipe_eq hl2 fun j hj => ho j fun q => hj (hv j q), ?_⟩⟩
          have gd : Good ((zs ++ zs') ++ y1) := by
            rw [hy, hr] at g
            refine hG _ y2 ?_
            simpa [List.append_assoc] using g
          refine genT_read hE hA hG hl hb h ef s3 T2 a3 gd fun ρ4 G4 H4 s4 r4 g4 a4 => ?_
          exact ⟨rfl, hlt, η3, ρ4, G4, zs' ++ y1, y2, s4, fun n a q => r4 n a (er n a q), es.trans (sg.trans g4), by rw [← List.append_assoc]; exact a4, by rw [hy, hr, List.append_assoc], el2⟩
      · have ei : i = its.length := by omega
        subst ei
        rw [List.drop_length] at el
        obtain ⟨hsn, rfl, rfl⟩ := loopM_nil_ok el
        have cs' := snap_ok s2.S rus hsn
        rw [List.append_nil] at hy
        subst hy
        exact .inl ⟨hJ.stops G2 ρ2 H2 s2.S.same cs', k ρ2 G2 H2 s2 (fun n a q => er n a (E1.rho n a q)) (E1.same.trans es) a2⟩
theorem genT_read (hE : EvC c E) (hA : AccK A) (hG : ∀ a b, Good (a ++ b) → Good a) (hl : LeafOk Γ E em A Good D) (hb : Hb D = none) : ∀ {r : Ex} {tt : TT} {t : TR}, GenT Γ c em r tt t → ∀ {ν : List (Option W)} {η η' : Hv} {ys : List α} {ρ : Rho} {G H : Hp} {σ : L2.St} {zs : List α} {K : Hp → Prop}, E r ν η = .ok ys η' → Stt Γ ρb Gb ηb Hb D ρ G η H → Slots Γ G ρ ν σ → Acc A D G H zs → Good (zs ++ ys) →
    Wt Γ A ρb Gb ηb Hb D ρ G η' (zs ++ ys) K → tt σ H fun b H3 => if b = true then t σ H3 K else K H3
  | _, _, _, .n (t := t) h, ν, η, η', ys, ρ, G, H, σ, zs, K, e, s, T, a, g, k => by
    show (if true = true then t σ H K else K H)
    rw [if_pos rfl]
    exact genN_read hE hA hG hl hb h e s T a g k
  | _, _, _, .f (t0 := t0) (r := r) h, ν, η, η', ys, ρ, G, H, σ, zs, K, e, s, T, a, g, k => by
    obtain ⟨b, η1, e1, et, ef⟩ := gif_okE hE e
    refine ⟨ν, η, ρ, G, s.S, T, ?_⟩
    rw [e1]
    intro ρ1 G1 H1 S1 E1
    obtain ⟨s1, a1⟩ := s.step hA a S1 E1
    refine ⟨b, rfl, ?_⟩
    cases b with
    | true =>
      rw [if_pos rfl]
      exact genN_read hE hA hG hl hb h (et rfl) s1 (T.mono E1.same E1.rho) a1 g (k.imp E1.rho E1.same)
    | false =>
      rw [if_neg Bool.false_ne_true]
      obtain ⟨rfl, rfl⟩ := ef rfl
      rw [List.append_nil] at k
      exact k ρ1 G1 H1 s1 E1.rho E1.same a1
end
/-- the loop of the outermost clause: the iterator has come -/
theorem loop_read (hE : EvC c E) (hA : AccK A) (hG : ∀ a b, Good (a ++ b) → Good a) (hl : LeafOk Γ E em A Good D) (hb : Hb D = none) {ik : Ik} {ws : List Nat} {pt : Pt} {r : Ex} {tt : TT} {t : TR} (h : GenT Γ c em r tt t) (hv : ∀ i ∈ pt.vars, i ∈ ws)
    {ν : List (Option W)} {η1 η' : Hv} {us : List W} {sn : Snap} {its : List W} {vs : List V} {J : It} {ys : List α} {ρ1 : Rho} {G1 H1 : Hp} {σ : L2.St} {zs : List α} {K : Hp → Prop} (s1 : Stt Γ ρb Gb ηb Hb D ρ1 G1 η1 H1) (a1 : Acc A D G1 H1 zs) (T : Slots Γ G1 ρ1 ν σ) (ru : RepWs Γ G1 ρ1 us vs) (hJ : Wlk Γ (CS Γ vs sn) its J)
    (e : loopM ik us sn (fun x => match bindP pt x (wipeV ν ws) with
      | some ν' => E r ν'
      | none => M.bad) its η1 = .ok ys η') (g : Good (zs ++ ys)) (k : Wt Γ A ρb Gb ηb Hb D ρ1 G1 η' (zs ++ ys) K) : tLoop J ws (gB Γ pt) tt t σ H1 K := by
  refine ⟨fun i m H => m = its.length - i ∧ i ≤ its.length ∧ ∃ η2 ρ2 G2 zs' rest, Stt Γ ρb Gb ηb Hb D ρ2 G2 η2 H ∧ (∀ n a, ρ1 n = some a → ρ2 n = some a) ∧ Same G1 G2 ∧ Acc A D G2 H (zs ++ zs') ∧ ys = zs' ++ rest ∧
    loopM ik us sn (fun x => match bindP pt x (wipeV ν ws) with
      | some ν' => E r ν'
      | none => M.bad) (its.drop i) η2 = .ok rest η', ⟨its.length, rfl, Nat.zero_le _, η1, ρ1, G1, [], ys, s1, fun _ _ h => h, Same.refl _, by simpa using a1, rfl, by rw [List.drop_zero]; exact e⟩, ?_⟩
  rintro i m H2 ⟨rfl, hi, η2, ρ2, G2, zs', rest, s2, er, es, a2, hy, el⟩
  have rus : RepWs Γ G2 ρ2 us vs := ru.mono es er
  by_cases hlt : i < its.length
  · rw [List.drop_eq_getElem_cons hlt] at el
    obtain ⟨hsn, y1, η3, y2, ef, el2, hr⟩ := loopM_cons_ok el
    have cs' := snap_ok s2.S rus hsn
    refine .inr ⟨hJ.goes i G2 ρ2 H2 hlt s2.S.same cs', _, fun H'' w => ⟨its.length - (i + 1), by omega, w⟩, fun x H3 y => ?_⟩
    obtain ⟨w, hw, sm, rw_⟩ := hJ.yields i G2 ρ2 H2 x H3 hlt s2.S.same cs' y
    have ew : w = its[i] := by simpa [hlt] using hw.symm
    subst ew
    obtain ⟨s3, a3⟩ := s2.step hA a2 (s2.S.grow sm) (Ext.grow s2.S sm)
    cases eb : bindP pt its[i] (wipeV ν ws) with
    | none => rw [eb] at ef; cases ef
    | some ν' =>
      rw [eb] at ef
      have ef : E r ν' η2 = .ok y1 η3 := ef
      have sg := grow_same (H' := H3) s2.S.same
      refine ⟨wipeV ν ws, ρ2, _, its[i], ν', (T.wipe ws).mono (es.trans sg) er, s3.S.same, rw_, eb, fun σ2 hl2 ho T2 => ⟨wipe_eq hl2 fun j hj => ho j fun q => hj (hv j q), ?_⟩⟩
      have gd : Good ((zs ++ zs') ++ y1) := by
        rw [hy, hr] at g
        refine hG _ y2 ?_
        simpa [List.append_assoc] using g
      refine genT_read hE hA hG hl hb h ef s3 T2 a3 gd fun ρ4 G4 H4 s4 r4 g4 a4 => ?_
      exact ⟨rfl, hlt, η3, ρ4, G4, zs' ++ y1, y2, s4, fun n a q => r4 n a (er n a q), es.trans (sg.trans g4), by rw [← List.append_assoc]; exact a4, by rw [hy, hr, List.append_assoc], el2⟩
  · have ei : i = its.length := by omega
    subst ei
    rw [List.drop_length] at el
    obtain ⟨hsn, rfl, rfl⟩ := loopM_nil_ok el
    have cs' := snap_ok s2.S rus hsn
    rw [List.append_nil] at hy
    subst hy
    exact .inl ⟨hJ.stops G2 ρ2 H2 s2.S.same cs', k ρ2 G2 H2 s2 er es a2⟩
end
end
end Ip

set_option Elab.async false
set_option linter.all false
set_option maxRecDepth 100000
set_option maxHeartbeats 2000000
/-! IpGc3: comprehensions of several clauses are sound. -/
namespace Ip
open PySem PySem.Spec PyProof.Rows L2 LamX
section
variable {Γ : Env} {B : Tb} {c : Cfg} {S : SC} {k : Nat} {Z : WX} {X : Cx}
/-! ### lists -/
def AL (Γ : Env) : Hp → HO → List D → Prop := fun G o zs => ∃ acc, o = .lst acc ∧ RepL Γ G zs acc
theorem ak_l : AccK (AL Γ) := ⟨fun G o zs ⟨acc, h, _⟩ => by rw [h]; exact big_lst _, fun G G' o zs e ⟨acc, h, r⟩ => ⟨acc, h, RepL.mono e r⟩⟩
def GoodL (zs : List D) : Prop := zs.length ≤ lim
inductive EmL (Γ : Env) (c : Cfg) (D : Addr) : Ex → TR → Prop
  | y (x : Ex) : EmL Γ c D (.yld x) (tEmL D (tI Γ ZN (ev c x)))
theorem leaf_l {D : Addr} : LeafOk Γ (evg c) (EmL Γ c D) (AL Γ) GoodL D := by
  intro e t h ρb Gb Hb ηb hb ν η η' ys ρ G H σ zs K ee s T a g kk
  cases h with
  | y x =>
    obtain ⟨d, e1, rfl⟩ := yld_ok ee
    refine ⟨ν, η, ρ, G, s.S, T, ?_⟩
    rw [e1]
    intro ρ1 G1 H1 S1 E1 v rv
    obtain ⟨s1, o, h1, acc, rfl, ra⟩ := s.step ak_l a S1 E1
    have hz : acc.length < sizeLine := by
      rw [ra.length, hsz]
      unfold GoodL at g
      simp at g
      omega
    exact ⟨acc, h1, hz, kk ρ1 G1 _ ⟨s1.S.loose2 s1.l _ (fun u q => by rw [h1] at q; cases q; exact big_lst _), s1.E.loose hb _, s1.l⟩ E1.rho E1.same ⟨_, upd_same, _, rfl, ra.append (.cons rv .nil)⟩⟩
/-! ### dicts -/
def AT (Γ : Env) (Da : Addr) : Hp → HO → List (D × D) → Prop := fun G o zs => ∃ xs, o = DT Γ.P Γ.w Da xs ∧ RepT Γ G (mergeD [] zs) xs
theorem ak_t {Da : Addr} : AccK (AT Γ Da) := ⟨fun G o zs ⟨acc, h, _⟩ => by rw [h]; exact big_dt, fun G G' o zs e ⟨acc, h, r⟩ => ⟨acc, h, RepT.mono e r⟩⟩
def GoodT (zs : List (D × D)) : Prop := allTK zs = true ∧ zs.length ≤ lim
theorem RepT.put {G : Hp} {k z : D} {nk : NestedKey} {b : Addr} {v : V} {u : Value} (hk : tkD k = some nk) (rk : Rep Γ G k (.ref b)) (ru : RelV v u) (rz : Rep Γ G z v) {kvs : List (D × D)} {xs : List (NestedKey × Addr × Value)} (r : RepT Γ G kvs xs) : RepT Γ G (setK kvs k z) (storedH xs nk b u) := by
  have key : ∀ {kvs : List (D × D)} {xs : List (NestedKey × Addr × Value)}, RepT Γ G kvs xs → (kvs.any fun p => decide (p.1 = k)) = (atKey xs nk).isSome ∧ RepT Γ G (kvs.map fun p => if p.1 = k then (p.1, z) else p) (xs.map (putAt nk u)) := by
    intro kvs xs r
    induction kvs generalizing xs with
    | nil => cases r; exact ⟨rfl, .nil⟩
    | cons p kvs ih =>
      cases r with
      | @cons k' x nk' b' v' u' _ rs h1 h2 h3 h4 t =>
        obtain ⟨i1, i2⟩ := ih t
        by_cases e : k' = k
        · subst e
          rw [hk] at h1
          cases h1
          refine ⟨by simp [atKey], ?_⟩
          rw [List.map_cons, List.map_cons]
          simp only [if_true, putAt]
          exact .cons hk h2 ru rz i2
        · have ne : nk' ≠ nk := fun q => e (tk_inj (q ▸ h1) hk)
          refine ⟨?_, ?_⟩
          · rw [List.any_cons, i1]
            unfold atKey
            rw [List.find?_cons_of_neg (by simpa using ne)]
            simp [e]
          · rw [List.map_cons, List.map_cons]
            simp only [putAt, if_neg e, if_neg ne]
            exact .cons h1 h2 h3 h4 i2
  obtain ⟨h1, h2⟩ := key r
  unfold setK storedH
  rw [h1]
  split
  · exact h2
  · have app : ∀ {kvs : List (D × D)} {xs : List (NestedKey × Addr × Value)}, RepT Γ G kvs xs → RepT Γ G (kvs ++ [(k, z)]) (xs ++ [(nk, b, u)]) := by
      intro kvs xs r
      induction kvs generalizing xs with
      | nil => cases r; exact .cons hk rk ru rz .nil
      | cons p kvs ih =>
        cases r with
        | cons h1 h2 h3 h4 t => exact .cons h1 h2 h3 h4 (ih t)
    exact app r
inductive EmT (Γ : Env) (c : Cfg) (D : Addr) : Ex → TR → Prop
  | y (a b : Ex) : EmT Γ c D (.yld2 a b) (tEmT Γ D (tI Γ ZN (ev c a)) (tI Γ ZN (ev c b)))
theorem leaf_t {D : Addr} : LeafOk Γ (evp c) (EmT Γ c D) (AT Γ D) GoodT D := by
  intro e t h ρb Gb Hb ηb hb ν η η' ys ρ G H σ zs K ee s T a g kk
  cases h with
  | y x y =>
    obtain ⟨d1, d2, η1, e1, e2, rfl⟩ := yld2_ok ee
    obtain ⟨g1, g2⟩ := g
    have hk : (tkD d1).isSome = true := by
      unfold allTK at g1
      rw [List.all_append, Bool.and_eq_true] at g1
      simpa using g1.2
    obtain ⟨nk, hk⟩ := Option.isSome_iff_exists.mp hk
    refine ⟨ν, η, ρ, G, s.S, T, ?_⟩
    rw [e1]
    intro ρ1 G1 H1 S1 E1 v1 rv1
    obtain ⟨s1, a1⟩ := s.step ak_t a S1 E1
    refine ⟨ν, η1, ρ1, G1, S1, T.mono E1.same E1.rho, ?_⟩
    rw [e2]
    intro ρ2 G2 H2 S2 E2 v2 rv2
    obtain ⟨s2, o, h2, xs, rfl, rt⟩ := s1.step ak_t a1 S2 E2
    have rk : Rep Γ G2 d1 v1 := Rep.mono E2.same rv1
    obtain ⟨tx, rfl⟩ := tk_tup hk
    obtain ⟨b, rfl⟩ : ∃ b, v1 = .ref b := by cases rk; exact ⟨_, rfl⟩
    have hz : xs.length < sizeLine := by
      rw [rt.length, hsz]
      have := merge_len zs []
      simp at this g2
      omega
    refine ⟨G2, .tup tx, S2.same, .fix rk, G2, _, xs, .tup tx, nk, b, S2.same, rt, rfl, .fix rk, hk, h2, hz, fun u ru => ?_⟩
    refine kk ρ2 G2 _ ⟨s2.S.loose2 s2.l _ (fun u q => by rw [h2] at q; cases q; exact big_dt), s2.E.loose hb _, s2.l⟩ (fun n a q => E2.rho n a (E1.rho n a q)) (E1.same.trans E2.same) ⟨_, upd_same, _, rfl, ?_⟩
    rw [merge_snoc]
    exact RepT.put hk rk ru rv2 rt
end
end Ip

set_option Elab.async false
set_option linter.all false
set_option maxRecDepth 100000
set_option maxHeartbeats 2000000
/-! IpGc4: comprehensions of several clauses are sound, the expression. -/
namespace Ip
open PySem PySem.Spec PyProof.Rows L2
section
variable {Γ : Env} {B : Tb} {c : Cfg} {S : SC} {k : Nat} {Z : WX} {X : Cx}
theorem isTup_inv {tg : Expr} (h : isTup tg = true) : ∃ es j p, tg = .Tuple es j p := by
  cases tg <;> first | (cases h; done) | exact ⟨_, _, _, rfl⟩
/-- an iterable -/
theorem it_ok (g : Gd Γ c S k Z X) {ik : Ik} {tg e : Expr} {it : Ex} (A : ∀ es, okL B it S es = true → AllE Γ c Z X it es) (h : fIt S ik tg e (okL B it S) = true) : PI X tg e (tIt Γ Z ik (evl c it)) ∧ ∀ x, foldedSetIterable e X.env x = pure x := by
  unfold fIt at h
  split at h
  · rw [Bool.and_eq_true] at h
    obtain ⟨a, rfl, p1⟩ := (A _ h.2).one
    exact ⟨pi_plain g p1, fun x => foldSet h.1 _ x⟩
  · rw [Bool.and_eq_true] at h
    obtain ⟨a, rfl, p1⟩ := (A _ h.2).one
    exact ⟨pi_raw g p1, fun x => foldSet h.1 _ x⟩
  · split at h
    · simp only [Bool.and_eq_true, decide_eq_true_eq, Bool.or_eq_true, beq_iff_eq] at h
      obtain ⟨⟨⟨rfl, h2⟩, h3⟩, h4⟩ := h
      exact ⟨pi_rng g h2 (A _ h4) h3, fun x => rfl⟩
    · cases h
  · split at h
    · simp only [Bool.and_eq_true, decide_eq_true_eq] at h
      obtain ⟨⟨⟨rfl, h2⟩, h3⟩, h4⟩ := h
      obtain ⟨es, j, p, rfl⟩ := isTup_inv h3
      exact ⟨pi_zipD g h2 (A _ h4), fun x => rfl⟩
    · cases h
  · split at h
    · simp only [Bool.and_eq_true, decide_eq_true_eq] at h
      obtain ⟨⟨⟨rfl, h2⟩, h3⟩, h4⟩ := h
      obtain ⟨es, j, p, rfl⟩ := isTup_inv h3
      exact ⟨pi_enumD g h2 (A _ h4), fun x => rfl⟩
    · cases h
  · cases h
/-- all parts of a turn -/
def SubE (Γ : Env) (B : Tb) (c : Cfg) : Ex → Prop
  | .yld x => SndE Γ B c x
  | .yld2 a b => SndE Γ B c a ∧ SndE Γ B c b
  | .gif t r => SndE Γ B c t ∧ SubE Γ B c r
  | .gfor _ _ _ it r => SndE Γ B c it ∧ SubE Γ B c r
  | _ => True
/-- how the code of a comprehension is written: its loops -/
structure CompW (e : Expr) (gens : List Comprehension) (mkL : Addr → PySem.Env → Sem PySem.Fin → Sem PySem.Fin) : Prop where
  one : ∀ (d : Nat) (D : Addr) (ce : PySem.Env) (tg iter : Expr) (ifs : List Expr), gens[d]? = some ⟨tg, iter, ifs, 0⟩ → gens[d + 1]? = none → Lp e d (.ref D) ce tg ifs (mkL D ce)
  more : ∀ (d : Nat) (D : Addr) (ce : PySem.Env) (tg iter : Expr) (ifs : List Expr) (tg2 iter2 : Expr) (ifs2 : List Expr), gens[d]? = some ⟨tg, iter, ifs, 0⟩ → gens[d + 1]? = some ⟨tg2, iter2, ifs2, 0⟩ → Lp e d (.ref D) ce tg ifs (mkNest e (d + 1) (.ref D) ce iter2)
/-- a rest without tests -/
def RestN (Γ : Env) (B : Tb) (c : Cfg) (S : SC) (k : Nat) (Z : WX) (X : Cx) (scope : Scope) (em : Addr → Ex → TR → Prop) (e : Expr) (gens : List Comprehension) (L : List Expr) (mkL : Addr → PySem.Env → Sem PySem.Fin → Sem PySem.Fin) (r : Ex) : Prop :=
  ∀ (vs : List Nat) (gs : List Comprehension) (d : Nat) (tg iter : Expr) (ifs : List Expr), okR B r (S.blk scope) vs [] gs L = true → gens[d]? = some ⟨tg, iter, ifs, 0⟩ → gens.drop (d + 1) = gs →
    ∃ t : Addr → TR, (∀ D, GenN Γ c (em D) r (t D)) ∧ ∀ (D : Addr) (s : Shared) (H : Hp) (C : Addr) (cl : List (Str × Addr)) (fp : List Addr), ∃ mk ow, Lp e d (.ref D) (compEnvC scope cl C X.env) tg ifs mk ∧ PRest (X.blk s H scope (compEnvC scope cl C X.env) fp) mk ow (t D) ∧ ∀ i ∈ ow, i ∈ vs
/-- the innermost rest -/
def LeafN (Γ : Env) (B : Tb) (c : Cfg) (S : SC) (X : Cx) (scope : Scope) (em : Addr → Ex → TR → Prop) (L : List Expr) (mkL : Addr → PySem.Env → Sem PySem.Fin → Sem PySem.Fin) (r : Ex) : Prop :=
  ∀ (vs : List Nat) (gs : List Comprehension), okR B r (S.blk scope) vs [] gs L = true → gs = [] ∧ ∃ t : Addr → TR, (∀ D, em D r (t D)) ∧ ∀ (D : Addr) (s : Shared) (H : Hp) (C : Addr) (cl : List (Str × Addr)) (fp : List Addr), PRest (X.blk s H scope (compEnvC scope cl C X.env) fp) (mkL D (compEnvC scope cl C X.env)) [] (t D)
theorem drop_none {gens : List Comprehension} {d : Nat} (h : gens.drop (d + 1) = []) : gens[d + 1]? = none := by
  have := congrArg (·[0]?) h
  simpa using this
theorem drop_some {gens gs : List Comprehension} {g : Comprehension} {d : Nat} (h : gens.drop (d + 1) = g :: gs) : gens[d + 1]? = some g ∧ gens.drop (d + 1 + 1) = gs := by
  have h1 := congrArg (·[0]?) h
  have h2 := congrArg (List.drop 1) h
  rw [List.drop_drop] at h2
  exact ⟨by simpa using h1, by simpa [Nat.add_comm, Nat.add_left_comm] using h2⟩
theorem rest_leaf {scope : Scope} {em : Addr → Ex → TR → Prop} {e : Expr} {gens : List Comprehension} {L : List Expr} {mkL : Addr → PySem.Env → Sem PySem.Fin → Sem PySem.Fin} (W : CompW e gens mkL) {r : Ex} (h : LeafN Γ B c S X scope em L mkL r) : RestN Γ B c S k Z X scope em e gens L mkL r := by
  intro vs gs d tg iter ifs ok hg hd
  obtain ⟨rfl, t, h1, h2⟩ := h vs gs ok
  exact ⟨t, fun D => .leaf (h1 D), fun D s H C cl fp => ⟨_, [], W.one d D _ tg iter ifs hg (drop_none hd), h2 D s H C cl fp, fun i hi => by simp at hi⟩⟩
/-- a rest with tests -/
def RestT (Γ : Env) (B : Tb) (c : Cfg) (S : SC) (k : Nat) (Z : WX) (X : Cx) (scope : Scope) (em : Addr → Ex → TR → Prop) (e : Expr) (gens : List Comprehension) (L : List Expr) (mkL : Addr → PySem.Env → Sem PySem.Fin → Sem PySem.Fin) (r : Ex) : Prop :=
  ∀ (vs : List Nat) (gs : List Comprehension) (d : Nat) (tg iter : Expr) (ifs : List Expr), okR B r (S.blk scope) vs ifs gs L = true → gens[d]? = some ⟨tg, iter, ifs, 0⟩ → gens.drop (d + 1) = gs →
    ∃ tt, ∃ t : Addr → TR, (∀ D, GenT Γ c (em D) r tt (t D)) ∧ (∀ (s : Shared) (H : Hp) (C : Addr) (cl : List (Str × Addr)) (fp : List Addr), PTs (X.blk s H scope (compEnvC scope cl C X.env) fp) ifs tt) ∧
      ∀ (D : Addr) (s : Shared) (H : Hp) (C : Addr) (cl : List (Str × Addr)) (fp : List Addr), ∃ mk ow, Lp e d (.ref D) (compEnvC scope cl C X.env) tg ifs mk ∧ PRest (X.blk s H scope (compEnvC scope cl C X.env) fp) mk ow (t D) ∧ ∀ i ∈ ow, i ∈ vs
theorem rest_all (g : Gd Γ c S k Z X) {scope : Scope} {em : Addr → Ex → TR → Prop} {e : Expr} {gens : List Comprehension} {L : List Expr} {mkL : Addr → PySem.Env → Sem PySem.Fin → Sem PySem.Fin} (W : CompW e gens mkL)
    (hl1 : ∀ x, SubE Γ B c (.yld x) → LeafN Γ B c S X scope em L mkL (.yld x)) (hl2 : ∀ a b, SubE Γ B c (.yld2 a b) → LeafN Γ B c S X scope em L mkL (.yld2 a b)) :
    ∀ r, SubE Γ B c r → RestN Γ B c S k Z X scope em e gens L mkL r ∧ RestT Γ B c S k Z X scope em e gens L mkL r := by
  have gb : ∀ (s : Shared) (H : Hp) (C : Addr) (cl : List (Str × Addr)) (fp : List Addr), Gd Γ c (S.blk scope) k ZN (X.blk s H scope (compEnvC scope cl C X.env) fp) := fun s H C cl fp => g.blk scope s H C cl fp
  -- without tests: the tests are none
  have toT : ∀ r, (∀ vs ifs gs, okR B r (S.blk scope) vs ifs gs L = true → ifs = []) → RestN Γ B c S k Z X scope em e gens L mkL r → RestT Γ B c S k Z X scope em e gens L mkL r := fun r hi h vs gs d tg iter ifs ok hg hd => by
    have e0 := hi vs ifs gs ok
    subst e0
    obtain ⟨t, h1, h2⟩ := h vs gs d tg iter [] ok hg hd
    exact ⟨tYes, t, fun D => .n (h1 D), fun _ _ _ _ _ => pts_nil, h2⟩
  intro r
  induction r with
  | yld x _ =>
    intro hs
    have n := rest_leaf (k := k) (Z := Z) (e := e) (gens := gens) W (hl1 x hs)
    refine ⟨n, toT _ (fun vs ifs gs ok => ?_) n⟩
    cases ifs with
    | nil => rfl
    | cons _ _ => cases ok
  | yld2 a b _ _ =>
    intro hs
    have n := rest_leaf (k := k) (Z := Z) (e := e) (gens := gens) W (hl2 a b hs)
    refine ⟨n, toT _ (fun vs ifs gs ok => ?_) n⟩
    cases ifs with
    | nil => rfl
    | cons _ _ => cases ok
  | gif t0 r _ ih =>
    intro hs
    obtain ⟨h1, h2⟩ := hs
    refine ⟨fun vs gs d tg iter ifs ok => (by cases ok), fun vs gs d tg iter ifs ok hg hd => ?_⟩
    cases ifs with
    | nil => cases ok
    | cons cd ifs =>
      cases ifs with
      | cons _ _ => cases ok
      | nil =>
        have ok : (okE B t0 (S.blk scope) cd && okR B r (S.blk scope) vs [] gs L) = true := ok
        rw [Bool.and_eq_true] at ok
        obtain ⟨t, q1, q2⟩ := (ih h2).1 vs gs d tg iter [cd] ok.2 hg hd
        exact ⟨_, t, fun D => .f (q1 D), fun s H C cl fp => pts_one ((h1 _ k _ _ (gb s H C cl fp)).1 _ ok.1).2, q2⟩
  | gfor ik ws pt it r _ ih =>
    intro hs
    obtain ⟨h1, h2⟩ := hs
    have n : RestN Γ B c S k Z X scope em e gens L mkL (.gfor ik ws pt it r) := by
      intro vs gs d tg iter ifs ok hg hd
      cases gs with
      | nil => cases ok
      | cons g2 gs2 =>
        obtain ⟨tg2, iter2, ifs2, isA⟩ := g2
        have ok : (decide (isA = 0) && okP (S.blk scope) pt tg2 && pt.vars.all (fun i => ws.contains i) && ws.all (fun i => vs.contains i) && fIt (S.blk scope) ik tg2 iter2 (okL B it (S.blk scope)) && okR B r (S.blk scope) ws ifs2 gs2 L) = true := ok
        simp only [Bool.and_eq_true, decide_eq_true_eq, List.all_eq_true, List.contains_eq_mem] at ok
        obtain ⟨⟨⟨⟨⟨rfl, o2⟩, o3⟩, o4⟩, o5⟩, o6⟩ := ok
        obtain ⟨d1, d2⟩ := drop_some hd
        obtain ⟨tt, t, q1, q2, q3⟩ := (ih h2).2 ws gs2 (d + 1) tg2 iter2 ifs2 o6 d1 d2
        refine ⟨fun D => _, fun D => .nest (q1 D) o3, fun D s H C cl fp => ?_⟩
        obtain ⟨mk, ow, L2, pm, hsub⟩ := q3 D s H C cl fp
        have gbx := gb s H C cl fp
        obtain ⟨p1, p2⟩ := it_ok gbx (h1 _ k _ _ gbx).2.1 o5
        exact ⟨_, ws, W.more d D _ tg iter ifs tg2 iter2 ifs2 hg d1, rest_nest L2 g.calm p1 p2 (pg_ok gbx o2) (q2 s H C cl fp) pm hsub, o4⟩
    refine ⟨n, toT _ (fun vs ifs gs ok => ?_) n⟩
    cases ifs with
    | nil => rfl
    | cons _ _ => cases ok
  | _ => exact fun _ => ⟨fun vs gs d tg iter ifs ok => (by cases ok), fun vs gs d tg iter ifs ok => (by cases ok)⟩
end
end Ip

set_option Elab.async false
set_option linter.all false
set_option maxRecDepth 100000
set_option maxHeartbeats 2000000
/-! IpGc5: comprehensions of several clauses: values, stores. -/
namespace Ip
open PySem PySem.Spec PyProof.Rows L2
/-- a comprehension, whatever is done with what it makes -/
structure PC (X : Cx) (e : Expr) (scope : Scope) (newM : Sem Value) (iter : Expr) (t : TE) : Prop where
  run : ∀ (pins : List (Addr × Obj)) (s : Shared) (σ : L2.St) (H : Hp) (Q : VK) (pos' : Pos) (use : Option (Value → Sem Unit)) (Qf : Value → Shared → Prop), Inv X pins σ H s → t σ H Q →
    (∀ D C s' m H', Inv X pins σ H' s' → Q (.ref D) H' → s'.heap.Ns C m → FpOk X pins H' C → compPost (model X.prog X.w) X.A X.xe use Qf (.ref D) C (.ok .next) s') →
    wpAny (model X.prog X.w) X.A (comprehension e scope X.env pos' newM false (eval iter X.env) use) Qf X.xe s
section
variable {Γ : Env} {B : Tb} {c : Cfg} {S : SC} {k : Nat} {Z : WX} {X : Cx}
theorem pe_pcL {elt tg iter : Expr} {ifs : List Expr} {gs : List Comprehension} {scope : Scope} {pos : Pos} {t : TE} (h : PC X (.ListComp elt (⟨tg, iter, ifs, 0⟩ :: gs) scope pos) scope (newList []) iter t) : PE X (.ListComp elt (⟨tg, iter, ifs, 0⟩ :: gs) scope pos) t := by
  refine ⟨fun pins s σ H Q I ht => ?_⟩
  rw [eval_ListComp]
  refine h.run pins s σ H Q _ none _ I ht fun D C s' m H' I' q hn f => ⟨m, hn, fun h'' sb => ?_⟩
  obtain ⟨f0, f1, f2, f3, f4, f5⟩ := f
  exact ⟨.ref D, H', I'.turned (t' := s'.toks) (fun b o hb e => (sb.2 b hb).trans e) f0 f1 f3 f4 f5, rfl, q⟩
theorem pe_pcD {kx vx tg iter : Expr} {ifs : List Expr} {gs : List Comprehension} {scope : Scope} {pos : Pos} {t : TE} (h : PC X (.DictComp kx vx (⟨tg, iter, ifs, 0⟩ :: gs) scope pos) scope newDict iter t) : PE X (.DictComp kx vx (⟨tg, iter, ifs, 0⟩ :: gs) scope pos) t := by
  refine ⟨fun pins s σ H Q I ht => ?_⟩
  rw [arm_eval_DictComp]
  refine h.run pins s σ H Q _ none _ I ht fun D C s' m H' I' q hn f => ⟨m, hn, fun h'' sb => ?_⟩
  obtain ⟨f0, f1, f2, f3, f4, f5⟩ := f
  exact ⟨.ref D, H', I'.turned (t' := s'.toks) (fun b o hb e => (sb.2 b hb).trans e) f0 f1 f3 f4 f5, rfl, q⟩
theorem pc_store {pins : List (Addr × Obj)} {σ : L2.St} {H' : Hp} {s' : Shared} {i : Nat} {y : Str} {py : Pos} {L C : Addr} {m : Str → Option Value} {Dn : Ends} {Qf : Value → Shared → Prop} (hN : X.N.Nodup) (hy : X.N[i]? = some y) (hyl : X.env.scope.names.lookup y = some .local) (I' : Inv X pins σ H' s') (q : gName i (.ref L) σ H' Dn.nx) (hn : s'.heap.Ns C m) (f : FpOk X pins H' C)
    (hQf : ∀ s', SP X pins Dn .next s' → Qf .none s' ) (hQ2 : Qf = fun _ s' => SP X pins Dn .next s') :
    compPost (model X.prog X.w) X.A X.xe (some (assign (.Name y py) X.env)) Qf (.ref L) C (.ok .next) s' := by
  subst hQ2
  show wpAny _ _ (assign (.Name y py) X.env (.ref L)) _ _ _
  refine wpAny_assign_Name (store_ok2 (v := V.ref L) I' hN hy (.inl hyl) rfl (fun s2 I2 ⟨a, sb, ha⟩ => ?_) (.inr hyl))
  obtain ⟨f0, f1, f2, f3, f4, f5⟩ := f
  have haC : C ≠ a := by
    rcases ha with z | z
    · rw [z]; exact f1
    · exact fun e => f4 y a z e.symm
  refine ⟨m, hn.sameBut sb haC, fun h3 sb3 => ?_⟩
  exact ⟨_, H', I2.turned (t' := s2.toks) (fun b o hb e => (sb3.2 b hb).trans e) f0 f1 f3 f4 f5, q⟩
theorem ps_pcL {i : Nat} {y : Str} {py spos : Pos} {elt tg iter : Expr} {ifs : List Expr} {gs : List Comprehension} {scope : Scope} {pos : Pos} {t : TE} (hN : X.N.Nodup) (hy : X.N[i]? = some y) (hyl : X.env.scope.names.lookup y = some .local)
    (hsw : swapsWith (.ListComp elt (⟨tg, iter, ifs, 0⟩ :: gs) scope pos) (some (.Name y py)) spos.line X.env = pure true) (h : PC X (.ListComp elt (⟨tg, iter, ifs, 0⟩ :: gs) scope pos) scope (newList []) iter t) : PS X (.Assign [.Name y py] (.ListComp elt (⟨tg, iter, ifs, 0⟩ :: gs) scope pos) spos) (tAsg t (gName i)) := by
  refine ⟨fun pins s σ H D I ht => ?_⟩
  rw [exec_Assign_Name_used _ _ _ _ hsw]
  refine wpAny_bind (wpAny_standAt (wpAny_bind ?_))
  show wpAny _ X.A (do let _ ← comprehension (.ListComp elt (⟨tg, iter, ifs, 0⟩ :: gs) scope pos) scope X.env (firstIterPos (⟨tg, iter, ifs, 0⟩ :: gs) pos) (newList []) false (eval iter X.env) (some (assign (.Name y py) X.env))) _ _ s
  refine wpAny_bind (thn (h.run pins s σ H (fun x H1 => gName i x σ H1 D.nx) _ _ (fun _ s' => SP X pins D .next s') I ht fun L C s' m H' I' q hn f => pc_store hN hy hyl I' q hn f (fun _ h => h) rfl) fun _ s' hq => wpAny_pure (wpAny_pure hq))
theorem ps_pcD {i : Nat} {y : Str} {py spos : Pos} {kx vx tg iter : Expr} {ifs : List Expr} {gs : List Comprehension} {scope : Scope} {pos : Pos} {t : TE} (hN : X.N.Nodup) (hy : X.N[i]? = some y) (hyl : X.env.scope.names.lookup y = some .local)
    (hsw : swapsWith (.DictComp kx vx (⟨tg, iter, ifs, 0⟩ :: gs) scope pos) (some (.Name y py)) spos.line X.env = pure true) (h : PC X (.DictComp kx vx (⟨tg, iter, ifs, 0⟩ :: gs) scope pos) scope newDict iter t) : PS X (.Assign [.Name y py] (.DictComp kx vx (⟨tg, iter, ifs, 0⟩ :: gs) scope pos) spos) (tAsg t (gName i)) := by
  refine ⟨fun pins s σ H D I ht => ?_⟩
  rw [exec_Assign_Name_used _ _ _ _ hsw]
  refine wpAny_bind (wpAny_standAt (wpAny_bind ?_))
  show wpAny _ X.A (do let _ ← comprehension (.DictComp kx vx (⟨tg, iter, ifs, 0⟩ :: gs) scope pos) scope X.env (firstIterPos (⟨tg, iter, ifs, 0⟩ :: gs) pos) newDict false (eval iter X.env) (some (assign (.Name y py) X.env))) _ _ s
  refine wpAny_bind (thn (h.run pins s σ H (fun x H1 => gName i x σ H1 D.nx) _ _ (fun _ s' => SP X pins D .next s') I ht fun L C s' m H' I' q hn f => pc_store hN hy hyl I' q hn f (fun _ h => h) rfl) fun _ s' hq => wpAny_pure (wpAny_pure hq))
/-- the new thing is data from now on -/
theorem Sim.keepD {ρ ρ' : Rho} {G G' H H' : Hp} {η η' : Hv} {D : Addr} {o : HO} (S' : Sim Γ ρ' G' η' H') (E' : Ext ρ G η H ρ' G' η' H') (hD : H D = none) (l' : Loose G' η' ρ' D) (hD' : H' D = some o) (nt : ∀ ps, o ≠ .tbl ps) :
    Sim Γ ρ' (upd G' D o) η' H' ∧ Ext ρ G η H ρ' (upd G' D o) η' H' ∧ Same G' (upd G' D o) := by
  have sg : Same G' (upd G' D o) := same_upd l'.1
  refine ⟨⟨fun a u h => ?_, fun n o' h => ?_, S'.inj, S'.new, S'.tab, fun a ps z => ?_⟩, ⟨E'.rho, E'.same.trans sg, E'.kept, E'.tbl, fun a h => ?_, E'.own⟩, sg⟩
  · by_cases e : a = D
    · subst e; rw [upd_same] at h; cases h; exact hD'
    · rw [upd_ne e] at h; exact S'.same a u h
  · by_cases hd : o' = .dead
    · subst hd; trivial
    · refine (S'.obj n o' h).move (fun _ _ q => q) sg (fun a ha => ?_) fun a u _ hu => hu
      obtain ⟨b, h4, h6, _⟩ := (S'.obj n o' h).at hd
      rw [ha] at h4; cases h4
      have : a ≠ D := fun e => by subst e; exact l'.2 ⟨n, ⟨o', h, hd⟩, ha⟩
      rw [upd_ne this]
      exact h6
  · by_cases e : a = D
    · subst e; rw [upd_same] at z; cases z; exact nt ps rfl
    · rw [upd_ne e] at z; exact S'.ntb a ps z
  · by_cases e : a = D
    · subst e; exact .inr (.inl hD)
    · rw [upd_ne e] at h; exact E'.fresh a h
theorem noX_ok' {α : Type} {m : M α} {kk : α → M W} {Rp : Hp → Rho → W → Hp → Prop} {σ : L2.St} {ρ : Rho} {G : Hp} {η : Hv} {H : Hp} (h : Fin Γ Z Rp σ ρ G η H ((noX m >>= kk) η)) : ∃ ys η', m η = .ok ys η' ∧ Fin Γ Z Rp σ ρ G η H (kk ys η') := by
  rw [M.bind_ap] at h
  unfold noX at h
  cases e : m η with
  | ok ys η' => rw [e] at h; exact ⟨ys, η', rfl, h⟩
  | exc _ _ => rw [e] at h; exact h.elim
  | bad => rw [e] at h; exact h.elim
theorem gfor_ok {α : Type} {E : Ex → List (Option W) → M (List α)} (hE : EvC c E) {ik : Ik} {ws : List Nat} {pt : Pt} {it r : Ex} {ν : List (Option W)} {η η' : Hv} {ys : List α} (h : E (.gfor ik ws pt it r) ν η = .ok ys η') : ∃ q η1, itM ik (evl c it) ν η = .ok q η1 ∧ loopM ik q.1 q.2.1 (fun x => match bindP pt x (wipeV ν ws) with
      | some ν' => E r ν'
      | none => M.bad) q.2.2 η1 = .ok ys η' := by
  rw [hE.gfor, M.bind_ap] at h
  cases e : itM ik (evl c it) ν η with
  | ok q η1 => rw [e] at h; exact ⟨q, η1, rfl, h⟩
  | exc _ _ => rw [e] at h; cases h
  | bad => rw [e] at h; cases h
theorem ownL_vs (S : SC) (vs : List Nat) : (ownL S vs).map (·.2) = vs := ownL_ix S vs
theorem pc_lcn (g : Gd Γ c S k Z X) {ik : Ik} {vs : List Nat} {pt : Pt} {it r : Ex} (ihit : SndE Γ B c it) (ihr : SubE Γ B c r) {elt tg iter : Expr} {ifs : List Expr} {gs : List Comprehension} {scope : Scope} {pos : Pos}
    (h1 : okBlk S scope vs = true) (h2 : okP (S.blk scope) pt tg = true) (h3 : ∀ i ∈ pt.vars, i ∈ vs) (h4 : fIt S ik tg iter (okL B it S) = true) (h5 : okR B r (S.blk scope) vs ifs gs [elt] = true) :
    PC X (.ListComp elt (⟨tg, iter, ifs, 0⟩ :: gs) scope pos) scope (newList []) iter (tI Γ Z (ev c (.lcn false (.gfor ik vs pt it r)))) ∧ ∀ x, foldedSetIterable iter X.env x = pure x := by
  obtain ⟨p1, p2⟩ := it_ok g (ihit S k Z X g).2.1 h4
  refine ⟨⟨fun pins s σ H Q pos' use Qf I t hRR => ?_⟩, p2⟩
  have W : CompW (.ListComp elt (⟨tg, iter, ifs, 0⟩ :: gs) scope pos) (⟨tg, iter, ifs, 0⟩ :: gs) (fun D ce => mkApp (.ref D) ce elt) := ⟨fun d D ce tg iter ifs h h2 => lp_list h h2, fun d D ce tg iter ifs tg2 iter2 ifs2 h h2 => lp_list2 h h2⟩
  obtain ⟨tt, t2, q1, q2, q3⟩ := (rest_all (k := k) (Z := Z) (B := B) (L := [elt]) (em := fun D => EmL Γ c D) (scope := scope) g W (fun x hx vs gs ok => by
    cases gs with
    | cons _ _ => cases ok
    | nil =>
      refine ⟨rfl, fun D => tEmL D (tI Γ ZN (ev c x)), fun D => .y x, fun D s H C cl fp => rest_app ((hx _ k _ _ (g.blk scope s H C cl fp)).1 _ (show okE B x (S.blk scope) elt = true from ok)).1⟩) (fun a b hx vs gs ok => by
    cases gs <;> cases ok) r ihr).2 vs gs 0 tg iter ifs h5 rfl rfl
  obtain ⟨ν, η, ρ, G, Sm, T, t⟩ := t
  have e0 : ev c (.lcn false (.gfor ik vs pt it r)) ν = (noX (evg c (.gfor ik vs pt it r) ν) >>= mkL false) := by simp only [ev]
  rw [e0] at t
  obtain ⟨ys, η', ee, t⟩ := noX_ok' t
  obtain ⟨⟨us, sn, its⟩, η1, e1, e2⟩ := gfor_ok evC_g ee
  simp only at e2
  unfold mkL at t
  by_cases hz : ys.length ≤ lim
  · rw [if_pos hz, if_neg Bool.false_ne_true] at t
    refine comp_core (tt := tt) (t := t2) (O := fun _ => .lst []) (o0 := { cls := .type "list", data := .seq ([] : List Value).toArray }) (own := ownL S vs) (gs := gs) (wi := tIt Γ Z ik (evl c it)) (g := gB Γ pt) rfl (fun s Qn E hq => wpAny_newList hq (Nat.zero_le _)) (fun s H I => ⟨Nat.zero_le _, [], 0, .nil, Heap.get?_push_size _ rfl⟩) g.calm (by rw [g.N]; exact g.nd) I p1 (blk_ok g h1) p2 (fun D s H C cl fp => ?_) ?_ hRR
    · obtain ⟨mk, ow, L, pm, hsub⟩ := q3 D s H C cl fp
      exact ⟨mk, ow, L, pg_ok (g.blk scope s H C cl fp) h2, q2 s H C cl fp, pm, by rw [ownL_vs]; exact hsub⟩
    · refine ⟨ν, η, ρ, G, Sm, T, ?_⟩
      rw [e1]
      intro ρ1 G1 H1 S1 E1 vs2 ru cs J hJ D hD
      simp only at ru cs hJ
      rw [ownL_vs]
      have l1 : Loose G1 η1 ρ1 D := ⟨S1.gnone hD, S1.notOwn hD⟩
      refine loop_read (E := evg c) (em := EmL Γ c D) (A := AL Γ) (Good := GoodL) (ρb := ρ1) (Gb := G1) (Hb := H1) (ηb := η1) (zs := []) (ys := ys) (η' := η') evC_g ak_l (fun a b h => by unfold GoodL at h ⊢; rw [List.length_append] at h; omega) leaf_l hD (q1 D) h3 ⟨S1.loose2 l1 _ (fun u q => by rw [hD] at q; cases q), (Ext.refl _ _ _ _).loose hD _, l1⟩ ⟨_, upd_same, [], rfl, .nil⟩ (T.mono E1.same E1.rho) ru hJ e2 (by simpa [GoodL] using hz) fun ρ' G' H' s' er es a' => ?_
      obtain ⟨o, hD', acc, rfl, ra⟩ := a'
      obtain ⟨S2, E2, sg⟩ := s'.S.keepD (s'.E) hD s'.l hD' (fun ps z => by cases z)
      exact t ρ' _ H' S2 (E1.trans E2) (.ref D) (.lst (.inl upd_same) (RepL.mono sg (by simpa using ra)))
  · rw [if_neg hz] at t
    exact Fin.badE t
theorem pc_dcn (g : Gd Γ c S k Z X) {ik : Ik} {vs : List Nat} {pt : Pt} {it r : Ex} (ihit : SndE Γ B c it) (ihr : SubE Γ B c r) {kx vx tg iter : Expr} {ifs : List Expr} {gs : List Comprehension} {scope : Scope} {pos : Pos}
    (h1 : okBlk S scope vs = true) (h2 : okP (S.blk scope) pt tg = true) (h3 : ∀ i ∈ pt.vars, i ∈ vs) (h4 : fIt S ik tg iter (okL B it S) = true) (h5 : okR B r (S.blk scope) vs ifs gs [kx, vx] = true) :
    PC X (.DictComp kx vx (⟨tg, iter, ifs, 0⟩ :: gs) scope pos) scope newDict iter (tI Γ Z (ev c (.dcn (.gfor ik vs pt it r)))) ∧ ∀ x, foldedSetIterable iter X.env x = pure x := by
  obtain ⟨p1, p2⟩ := it_ok g (ihit S k Z X g).2.1 h4
  refine ⟨⟨fun pins s σ H Q pos' use Qf I t hRR => ?_⟩, p2⟩
  have hu : X.A.units + 8 < cLine := by have := g.room.un; omega
  have W : CompW (.DictComp kx vx (⟨tg, iter, ifs, 0⟩ :: gs) scope pos) (⟨tg, iter, ifs, 0⟩ :: gs) (fun D ce => mkPut D ce kx vx) := ⟨fun d D ce tg iter ifs h h2 => lp_dict h h2, fun d D ce tg iter ifs tg2 iter2 ifs2 h h2 => lp_dict2 h h2⟩
  obtain ⟨tt, t2, q1, q2, q3⟩ := (rest_all (k := k) (Z := Z) (B := B) (L := [kx, vx]) (em := fun D => EmT Γ c D) (scope := scope) g W (fun x hx vs gs ok => by
    cases gs <;> cases ok) (fun a b hx vs gs ok => by
    cases gs with
    | cons _ _ => cases ok
    | nil =>
      have ok : (okE B a (S.blk scope) kx && okE B b (S.blk scope) vx) = true := ok
      rw [Bool.and_eq_true] at ok
      exact ⟨rfl, fun D => tEmT Γ D (tI Γ ZN (ev c a)) (tI Γ ZN (ev c b)), fun D => .y a b, fun D s H C cl fp => rest_put g.K g.P g.w hu ((hx.1 _ k _ _ (g.blk scope s H C cl fp)).1 _ ok.1).1 ((hx.2 _ k _ _ (g.blk scope s H C cl fp)).1 _ ok.2).1⟩) r ihr).2 vs gs 0 tg iter ifs h5 rfl rfl
  obtain ⟨ν, η, ρ, G, Sm, T, t⟩ := t
  have e0 : ev c (.dcn (.gfor ik vs pt it r)) ν = (noX (evp c (.gfor ik vs pt it r) ν) >>= mkDT) := by simp only [ev]
  rw [e0] at t
  obtain ⟨ys, η', ee, t⟩ := noX_ok' t
  obtain ⟨⟨us, sn, its⟩, η1, e1, e2⟩ := gfor_ok evC_p ee
  simp only at e2
  unfold mkDT at t
  by_cases hz : (allTK ys && decide (ys.length ≤ lim)) = true
  · rw [if_pos hz] at t
    rw [Bool.and_eq_true, decide_eq_true_eq] at hz
    refine comp_core (tt := tt) (t := t2) (O := fun D => DT Γ.P Γ.w D []) (o0 := { cls := .type "dict", data := .dict #[] }) (own := ownL S vs) (gs := gs) (wi := tIt Γ Z ik (evl c it)) (g := gB Γ pt) rfl (fun s Qn E hq => wpAny_newObj_type hq) (fun s H I => ?_) g.calm (by rw [g.N]; exact g.nd) I p1 (blk_ok g h1) p2 (fun D s H C cl fp => ?_) ?_ hRR
    · refine ⟨⟨beq_eq_false_iff_ne.mpr (Ne.symm (Nat.ne_of_lt I.big)), Nat.zero_le _, List.nodup_nil, _, #[], 0, Heap.get?_push_size _ rfl, ⟨rfl, rfl, rfl⟩, rfl, rfl⟩, ⟨_, Heap.get?_push_size _ rfl⟩, fun g1 g2 ⟨q1, q2, q3, o2, es2, ep2, k1, k2⟩ kk => ⟨q1, q2, q3, o2, es2, ep2, kk _ k1, k2⟩⟩
    · obtain ⟨mk, ow, L, pm, hsub⟩ := q3 D s H C cl fp
      exact ⟨mk, ow, L, pg_ok (g.blk scope s H C cl fp) h2, q2 s H C cl fp, pm, by rw [ownL_vs]; exact hsub⟩
    · refine ⟨ν, η, ρ, G, Sm, T, ?_⟩
      rw [e1]
      intro ρ1 G1 H1 S1 E1 vs2 ru cs J hJ D hD
      simp only at ru cs hJ
      rw [ownL_vs]
      have l1 : Loose G1 η1 ρ1 D := ⟨S1.gnone hD, S1.notOwn hD⟩
      refine loop_read (E := evp c) (em := EmT Γ c D) (A := AT Γ D) (Good := GoodT) (ρb := ρ1) (Gb := G1) (Hb := H1) (ηb := η1) (zs := []) (ys := ys) (η' := η') evC_p ak_t (fun a b h => ?_) leaf_t hD (q1 D) h3 ⟨S1.loose2 l1 _ (fun u q => by rw [hD] at q; cases q), (Ext.refl _ _ _ _).loose hD _, l1⟩ ⟨_, upd_same, [], rfl, .nil⟩ (T.mono E1.same E1.rho) ru hJ e2 (by simpa [GoodT] using hz) fun ρ' G' H' s' er es a' => ?_
      · obtain ⟨g1, g2⟩ := h
        unfold allTK at g1
        rw [List.all_append, Bool.and_eq_true] at g1
        rw [List.length_append] at g2
        exact ⟨g1.1, by omega⟩
      · obtain ⟨o, hD', xs, rfl, ra⟩ := a'
        obtain ⟨S2, E2, sg⟩ := s'.S.keepD (s'.E) hD s'.l hD' (fun ps z => by unfold DT at z; cases z)
        exact t ρ' _ H' S2 (E1.trans E2) (.ref D) (.tdc (.inl upd_same) (RepT.mono sg (by simpa using ra)))
  · rw [if_neg hz] at t
    exact Fin.badE t
theorem snd_lcn {al : Bool} {r : Ex} (ih : SubE Γ B c r) : SndE Γ B c (.lcn al r) := by
  intro S k Z X g
  refine ⟨fun e h => ?_, fun es h => (by cases al <;> cases r <;> cases h), fun _ _ h => (by cases al <;> cases r <;> cases h)⟩
  cases al <;> cases r <;> first | (cases h; done) | skip
  rename_i ik vs pt it r
  obtain ⟨elt, tg, iter, ifs, gs, scope, pos, rfl, h1, h2, h3, h4, h5⟩ := fLcn_inv (show fLcn S vs ik pt e (okL B it S) (okR B r) = true from h)
  exact both rfl (pe_pcL (pc_lcn g ih.1 ih.2 h1 h2 h3 h4 h5).1)
theorem snd_dcn {r : Ex} (ih : SubE Γ B c r) : SndE Γ B c (.dcn r) := by
  intro S k Z X g
  refine ⟨fun e h => ?_, fun es h => (by cases r <;> cases h), fun _ _ h => (by cases r <;> cases h)⟩
  cases r <;> first | (cases h; done) | skip
  rename_i ik vs pt it r
  obtain ⟨kx, vx, tg, iter, ifs, gs, scope, pos, rfl, h1, h2, h3, h4, h5⟩ := fDcn_inv (show fDcn S vs ik pt e (okL B it S) (okR B r) = true from h)
  exact both rfl (pe_pcD (pc_dcn g ih.1 ih.2 h1 h2 h3 h4 h5).1)
end
end Ip

set_option Elab.async false
set_option linter.all false
set_option maxRecDepth 100000
set_option maxHeartbeats 400000
/-! IpSnd3: all expressions. -/
namespace Ip
open PySem PySem.Spec PyProof.Rows L2
section
variable {Γ : Env} {B : Tb} {c : Cfg} {S : SC} {k : Nat} {Z : WX} {X : Cx}
theorem genR_of {r : Ex} {elt : Expr} {ifs : List Expr} (hl : ifs.length ≤ 1) (h : okG B r S elt ifs = true) : (∃ x, r = .yld x ∧ ifs = []) ∨ (∃ t x cd, r = .gif t (.yld x) ∧ ifs = [cd]) := by
  cases r <;> first | (cases h; done) | skip
  · rename_i t r
    cases ifs with
    | nil => cases h
    | cons cd ifs =>
      have h : (okE B t S cd && okG B r S elt ifs) = true := h
      rw [Bool.and_eq_true] at h
      cases ifs with
      | cons _ _ => simp at hl
      | nil =>
        have h2 := h.2
        cases r <;> first | (cases h2; done) | skip
        · exact .inr ⟨t, _, cd, rfl, rfl⟩
  · rename_i x
    cases ifs with
    | nil => exact .inl ⟨x, rfl, rfl⟩
    | cons _ _ => cases h
/-- the parts of a comprehension -/
theorem lc_parts (g : Gd Γ c S k Z X) {vs : List Nat} {ik : Ik} {pt : Pt} {it r : Ex} (ihit : SndE Γ B c it) (ihr : SndE Γ B c r) {e : Expr} (h : fLc S vs ik pt e (okL B it S) (okG B r) = true) :
    ∃ elt tg iter ifs scope pos tt te, e = .ListComp elt [⟨tg, iter, ifs, 0⟩] scope pos ∧ GenR Γ c r tt te ∧ (∀ i ∈ pt.vars, i ∈ vs) ∧ PI X tg iter (tIt Γ Z ik (evl c it)) ∧ BlkOk X.N X.env.scope scope (ownL S vs) ∧
      (∀ (s : Shared) (H : Hp) (C : Addr) (cl : List (Str × Addr)) (fp : List Addr), PG (X.blk s H scope (compEnvC scope cl C X.env) fp) tg (gB Γ pt)) ∧ (∀ (s : Shared) (H : Hp) (C : Addr) (cl : List (Str × Addr)) (fp : List Addr), PTs (X.blk s H scope (compEnvC scope cl C X.env) fp) ifs tt) ∧
      (∀ (s : Shared) (H : Hp) (C : Addr) (cl : List (Str × Addr)) (fp : List Addr), PE (X.blk s H scope (compEnvC scope cl C X.env) fp) elt te) ∧ ∀ x, foldedSetIterable iter X.env x = pure x := by
  obtain ⟨elt, tg, iter, ifs, scope, pos, rfl, h1, h2, h3, h4, h5, h6⟩ := fLc_inv h
  obtain ⟨p1, p2⟩ := it_ok g (ihit S k Z X g).2.1 h4
  have gb : ∀ (s : Shared) (H : Hp) (C : Addr) (cl : List (Str × Addr)) (fp : List Addr), Gd Γ c (S.blk scope) k ZN (X.blk s H scope (compEnvC scope cl C X.env) fp) := fun s H C cl fp => g.blk scope s H C cl fp
  have go : ∀ (s : Shared) (H : Hp) (C : Addr) (cl : List (Str × Addr)) (fp : List Addr), GenO Γ c ZN (X.blk s H scope (compEnvC scope cl C X.env) fp) r elt ifs := fun s H C cl fp => (ihr _ k _ _ (gb s H C cl fp)).2.2 elt ifs h6
  rcases genR_of h5 h6 with ⟨x, rfl, rfl⟩ | ⟨t, x, cd, rfl, rfl⟩
  · exact ⟨elt, tg, iter, _, scope, pos, _, _, rfl, .y x, h3, p1, blk_ok g h1, fun s H C cl fp => pg_ok (gb s H C cl fp) h2, fun s H C cl fp => pts_nil, fun s H C cl fp => go s H C cl fp, p2⟩
  · exact ⟨elt, tg, iter, _, scope, pos, _, _, rfl, .f t x, h3, p1, blk_ok g h1, fun s H C cl fp => pg_ok (gb s H C cl fp) h2, fun s H C cl fp => pts_one (go s H C cl fp).1, fun s H C cl fp => (go s H C cl fp).2, p2⟩
theorem snd_lc {al : Bool} {vs : List Nat} {ik : Ik} {pt : Pt} {it r : Ex} (ihit : SndE Γ B c it) (ihr : SndE Γ B c r) : SndE Γ B c (.lc al vs ik pt it r) := by
  intro S k Z X g
  refine ⟨fun e h => ?_, fun es h => (by cases h), fun _ _ h => (by cases h)⟩
  obtain ⟨elt, tg, iter, ifs, scope, pos, tt, te, rfl, hr, hv, p1, p2, p3, p4, p5, p6⟩ := lc_parts g ihit ihr (show fLc S vs ik pt e (okL B it S) (okG B r) = true from h)
  refine both rfl (PE.imp (pe_lc g.calm (by rw [g.N]; exact g.nd) p1 p2 p3 p4 p5 p6) fun σ H Q t => ?_)
  rw [ownL_ix]
  exact lc_read hr hv t
theorem snd_yld {x : Ex} (ih : SndE Γ B c x) : SndE Γ B c (.yld x) := by
  intro S k Z X g
  refine ⟨fun e h => (by cases h), fun es h => (by cases h), fun elt ifs h => ?_⟩
  cases ifs with
  | nil =>
    have h : (true && okE B x S elt) = true := h
    rw [Bool.true_and] at h
    exact ((ih S k Z X g).1 _ h).1
  | cons _ _ => cases h
theorem snd_gif {t r : Ex} (iht : SndE Γ B c t) (ihr : SndE Γ B c r) : SndE Γ B c (.gif t r) := by
  intro S k Z X g
  refine ⟨fun e h => (by cases h), fun es h => (by cases h), fun elt ifs h => ?_⟩
  cases ifs with
  | nil => cases h
  | cons cd ifs =>
    have h : (okE B t S cd && okG B r S elt ifs) = true := h
    rw [Bool.and_eq_true] at h
    exact ⟨((iht S k Z X g).1 _ h.1).2, (ihr S k Z X g).2.2 elt ifs h.2⟩
theorem snd_no {x : Ex} (h1 : ∀ S e, okE B x S e = false) (h2 : ∀ S es, okL B x S es = false) (h3 : ∀ S e es, okG B x S e es = false) : SndE Γ B c x := fun S k Z X g =>
  ⟨fun e h => (by rw [h1] at h; cases h), fun es h => (by rw [h2] at h; cases h), fun e es h => (by rw [h3] at h; cases h)⟩
theorem dc_parts (g : Gd Γ c S k Z X) {vs : List Nat} {ik : Ik} {pt : Pt} {it r : Ex} (ihit : SndE Γ B c it) (ihr : SubE Γ B c r) {e : Expr} (h : okE B (.dc vs ik pt it r) S e = true) :
    ∃ kx vx tg iter ifs scope pos tt tk tv, e = .DictComp kx vx [⟨tg, iter, ifs, 0⟩] scope pos ∧ GenP Γ c r tt tk tv ∧ (∀ i ∈ pt.vars, i ∈ vs) ∧ PI X tg iter (tIt Γ Z ik (evl c it)) ∧ BlkOk X.N X.env.scope scope (ownL S vs) ∧
      (∀ (s : Shared) (H : Hp) (C : Addr) (cl : List (Str × Addr)) (fp : List Addr), PG (X.blk s H scope (compEnvC scope cl C X.env) fp) tg (gB Γ pt)) ∧ (∀ (s : Shared) (H : Hp) (C : Addr) (cl : List (Str × Addr)) (fp : List Addr), PTs (X.blk s H scope (compEnvC scope cl C X.env) fp) ifs tt) ∧
      (∀ (s : Shared) (H : Hp) (C : Addr) (cl : List (Str × Addr)) (fp : List Addr), PE (X.blk s H scope (compEnvC scope cl C X.env) fp) kx tk) ∧ (∀ (s : Shared) (H : Hp) (C : Addr) (cl : List (Str × Addr)) (fp : List Addr), PE (X.blk s H scope (compEnvC scope cl C X.env) fp) vx tv) ∧ ∀ x, foldedSetIterable iter X.env x = pure x := by
  have gb : ∀ (scope : Scope) (s : Shared) (H : Hp) (C : Addr) (cl : List (Str × Addr)) (fp : List Addr), Gd Γ c (S.blk scope) k ZN (X.blk s H scope (compEnvC scope cl C X.env) fp) := fun scope s H C cl fp => g.blk scope s H C cl fp
  cases r <;> first | (cases h; done) | skip
  · rename_i t r
    cases r <;> first | (cases h; done) | skip
    rename_i a b
    obtain ⟨kx, vx, tg, iter, ifs, scope, pos, rfl, h1, h2, h3, h4, h6⟩ := fDcc_inv (show fDcc S vs ik pt e (okL B it S) (fun S' kx vx ifs => match ifs with
      | [cd] => okE B t S' cd && okE B a S' kx && okE B b S' vx
      | _ => false) = true from h)
    obtain ⟨q1, q2, q3⟩ := ihr
    obtain ⟨p1, p2⟩ := it_ok g (ihit S k Z X g).2.1 h4
    rcases ifs with _ | ⟨cd, _ | ⟨cd2, ifs⟩⟩ <;> first | (cases h6; done) | skip
    simp only [Bool.and_eq_true] at h6
    exact ⟨kx, vx, tg, iter, _, scope, pos, _, _, _, rfl, .f t a b, h3, p1, blk_ok g h1, fun s H C cl fp => pg_ok (gb scope s H C cl fp) h2, fun s H C cl fp => pts_one ((q1 _ k _ _ (gb scope s H C cl fp)).1 _ h6.1.1).2, fun s H C cl fp => ((q2 _ k _ _ (gb scope s H C cl fp)).1 _ h6.1.2).1, fun s H C cl fp => ((q3 _ k _ _ (gb scope s H C cl fp)).1 _ h6.2).1, p2⟩
  · rename_i a b
    obtain ⟨kx, vx, tg, iter, ifs, scope, pos, rfl, h1, h2, h3, h4, h6⟩ := fDcc_inv (show fDcc S vs ik pt e (okL B it S) (fun S' kx vx ifs => ifs.isEmpty && okE B a S' kx && okE B b S' vx) = true from h)
    obtain ⟨q2, q3⟩ := ihr
    obtain ⟨p1, p2⟩ := it_ok g (ihit S k Z X g).2.1 h4
    simp only [Bool.and_eq_true, List.isEmpty_iff] at h6
    obtain ⟨⟨rfl, h7⟩, h8⟩ := h6
    exact ⟨kx, vx, tg, iter, _, scope, pos, _, _, _, rfl, .y a b, h3, p1, blk_ok g h1, fun s H C cl fp => pg_ok (gb scope s H C cl fp) h2, fun s H C cl fp => pts_nil, fun s H C cl fp => ((q2 _ k _ _ (gb scope s H C cl fp)).1 _ h7).1, fun s H C cl fp => ((q3 _ k _ _ (gb scope s H C cl fp)).1 _ h8).1, p2⟩
theorem snd_dc {vs : List Nat} {ik : Ik} {pt : Pt} {it r : Ex} (ihit : SndE Γ B c it) (ihr : SubE Γ B c r) : SndE Γ B c (.dc vs ik pt it r) := by
  intro S k Z X g
  refine ⟨fun e h => ?_, fun es h => (by cases r <;> cases h), fun _ _ h => (by cases r <;> cases h)⟩
  obtain ⟨kx, vx, tg, iter, ifs, scope, pos, tt, tk, tv, rfl, hr, hv, p1, p2, p3, p4, p5, p6, p7⟩ := dc_parts g ihit ihr h
  refine both rfl (PE.imp (pe_dc g.calm (by rw [g.N]; exact g.nd) p1 p2 p3 p4 p5 p6 p7) fun σ H Q t => ?_)
  rw [ownL_ix]
  exact dc_read hr hv t
theorem sndE2 (hB1 : Γ.gs = B.gs) (hB2 : Γ.ft = B.ft) (hB3 : Γ.ks = B.ks) (hB4 : Γ.pl = B.pl) (hB5 : Γ.xi = B.xi) (hB6 : Γ.kw = B.kw) (hB7 : Γ.ct = B.ct) (x : Ex) : SndE Γ B c x ∧ SubE Γ B c x := by
  induction x with
  | nil => exact ⟨snd_nil, trivial⟩
  | cons a r iha ihr => exact ⟨snd_cons iha.1 ihr.1, trivial⟩
  | cst d => exact ⟨snd_cst hB1 hB3, trivial⟩
  | var i => exact ⟨snd_var, trivial⟩
  | pr p es ih => exact ⟨snd_pr ih.1, trivial⟩
  | slc a b d iha ihb ihd => exact ⟨snd_slc iha.1 ihb.1 ihd.1, trivial⟩
  | nt a ih => exact ⟨snd_nt ih.1, trivial⟩
  | and a b iha ihb => exact ⟨snd_and iha.1 ihb.1, trivial⟩
  | or a b iha ihb => exact ⟨snd_or iha.1 ihb.1, trivial⟩
  | chn o p a b d iha ihb ihd => exact ⟨snd_chn iha.1 ihb.1 ihd.1, trivial⟩
  | ite t a b iht iha ihb => exact ⟨snd_ite iht.1 iha.1 ihb.1, trivial⟩
  | call md i es ih => exact ⟨snd_call hB2 ih.1, trivial⟩
  | nlst es ih => exact ⟨snd_nlst ih.1, trivial⟩
  | frz a ih => exact ⟨snd_frz ih.1, trivial⟩
  | app a x iha ihx => exact ⟨snd_app iha.1 ihx.1, trivial⟩
  | lc al vs ik pt it r ihit ihr => exact ⟨snd_lc ihit.1 ihr.1, trivial⟩
  | upd a x iha ihx => exact ⟨snd_upd iha.1 ihx.1, trivial⟩
  | pop a ih => exact ⟨snd_pop ih.1, trivial⟩
  | popi a x iha ihx => exact ⟨snd_popi iha.1 ihx.1, trivial⟩
  | dget a b iha ihb => exact ⟨snd_dget iha.1 ihb.1, trivial⟩
  | ndct es ih => exact ⟨snd_ndct ih.1, trivial⟩
  | mk q es ih => exact ⟨snd_mk hB1 hB4 hB5 ih.1, trivial⟩
  | mkk q a ih => exact ⟨snd_mkk hB1 hB5 ih.1, trivial⟩
  | callk md f n pm es ih => exact ⟨snd_callk hB2 hB6 ih.1, trivial⟩
  | cau q a ih => exact ⟨snd_cau hB1 hB7 ih.1, trivial⟩
  | srt f a ih => exact ⟨snd_srt hB2 ih.1, trivial⟩
  | yld x ih => exact ⟨snd_yld ih.1, ih.1⟩
  | gif t r iht ihr => exact ⟨snd_gif iht.1 ihr.1, iht.1, ihr.2⟩
  | gfor ik ws pt it r ihit ihr => exact ⟨snd_no (fun _ _ => rfl) (fun _ _ => rfl) (fun _ _ _ => rfl), ihit.1, ihr.2⟩
  | lcn al r ih => exact ⟨snd_lcn ih.2, trivial⟩
  | dcn r ih => exact ⟨snd_dcn ih.2, trivial⟩
  | yld2 a b iha ihb => exact ⟨snd_no (fun _ _ => rfl) (fun _ _ => rfl) (fun _ _ _ => rfl), iha.1, ihb.1⟩
  | dc vs ik pt it r ihit ihr => exact ⟨snd_dc ihit.1 ihr.2, trivial⟩
  | _ => exact ⟨snd_no (fun _ _ => rfl) (fun _ _ => rfl) (fun _ _ _ => rfl), trivial⟩
theorem sndE (hB1 : Γ.gs = B.gs) (hB2 : Γ.ft = B.ft) (hB3 : Γ.ks = B.ks) (hB4 : Γ.pl = B.pl) (hB5 : Γ.xi = B.xi) (hB6 : Γ.kw = B.kw) (hB7 : Γ.ct = B.ct) (x : Ex) : SndE Γ B c x := (sndE2 hB1 hB2 hB3 hB4 hB5 hB6 hB7 x).1
end
end Ip

set_option Elab.async false
set_option linter.all false
set_option maxRecDepth 100000
set_option maxHeartbeats 400000
/-! IpStm: statements. -/
namespace Ip
open PySem PySem.Spec PyProof.Rows L2

def noComp : Expr → Bool
  | .ListComp _ _ _ _ => false
  | .SetComp _ _ _ _ => false
  | .DictComp _ _ _ _ _ => false
  | _ => true
def isLc : Ex → Bool
  | .lc _ _ _ _ _ _ => true
  | .dc _ _ _ _ _ => true
  | .lcn _ _ => true
  | .dcn _ => true
  | _ => false
def isTupE : Expr → Bool
  | .Tuple _ _ _ => true
  | _ => false
theorem sw_no {v : Expr} (h : noComp v = true) (tg : Option Expr) (l : Nat) (env : PySem.Env) : swapsWith v tg l env = pure false := by
  cases v <;> first | (cases h; done) | rfl
theorem sw_tup {v : Expr} {es : List Expr} {j : Nat} {p : Pos} (l : Nat) (env : PySem.Env) : swapsWith v (some (.Tuple es j p)) l env = pure false := by
  cases v <;> rfl
theorem st_no {v : Expr} (h : isTupE v = false) (tg : List Expr) (env : PySem.Env) : swappedStores tg v env = pure none := by
  unfold swappedStores
  cases v <;> first | (cases h; done) | skip
  all_goals (rcases tg with _ | ⟨t, _ | ⟨t2, tg⟩⟩ <;> first | rfl | (cases t <;> rfl))
/-- is the store swapped with the comprehension's end -/
def lcSwap (S : SC) (v : Expr) (x : Str) (p : Pos) : Bool := match v with
  | .ListComp _ _ sc pos => S.knd x == some .local && p.line == pos.line && !(sc.names.any fun (n, k) => n == x && (k == .local || k == .cell))
  | .DictComp _ _ _ sc pos => S.knd x == some .local && p.line == pos.line && !(sc.names.any fun (n, k) => n == x && (k == .local || k == .cell))
  | _ => false
def fAsg (S : SC) (i : Nat) (l : Bool) (st : Stmt) (k : Expr → Bool) : Bool := match st with
  | .Assign [.Name x _] v _ => (S.N[i]? == some x) && S.loc x && (noComp v || l) && k v
  | _ => false
def fAsgp (S : SC) (pt : Pt) (st : Stmt) (k : Expr → Bool) : Bool := match st with
  | .Assign [tg] v _ => isTup tg && okP S pt tg && !isTupE v && k v
  | _ => false
theorem fAsg_inv {S : SC} {i : Nat} {l : Bool} {st : Stmt} {k : Expr → Bool} (h : fAsg S i l st k = true) : ∃ x p v pos, st = .Assign [.Name x p] v pos ∧ (S.N[i]? == some x) = true ∧ S.loc x = true ∧ (noComp v || l) = true ∧ k v = true := by
  unfold fAsg at h
  split at h
  · simp only [Bool.and_eq_true] at h
    exact ⟨_, _, _, _, rfl, h.1.1.1, h.1.1.2, h.1.2, h.2⟩
  · cases h
theorem fAsgp_inv {S : SC} {pt : Pt} {st : Stmt} {k : Expr → Bool} (h : fAsgp S pt st k = true) : ∃ tg v pos, st = .Assign [tg] v pos ∧ isTup tg = true ∧ okP S pt tg = true ∧ isTupE v = false ∧ k v = true := by
  unfold fAsgp at h
  split at h
  · simp only [Bool.and_eq_true, Bool.not_eq_true'] at h
    exact ⟨_, _, _, rfl, h.1.1.1, h.1.1.2, h.1.2, h.2⟩
  · cases h
def fIfe (st : Stmt) (k1 : Expr → Bool) (k2 k3 : List Stmt → Bool) : Bool := match st with
  | .If c a b _ => k1 c && k2 a && k3 b
  | _ => false
def fRet (e : Ex) (st : Stmt) (k : Expr → Bool) : Bool := match st with
  | .Return (some v) _ => k v
  | .Return none _ => (match e with
    | .cst .non => true
    | _ => false)
  | _ => false
def fExp (st : Stmt) (k : Expr → Bool) : Bool := match st with
  | .Expr v _ => noComp v && k v
  | _ => false
def fFor (S : SC) (ik : Ik) (pt : Pt) (st : Stmt) (kI : List Expr → Bool) (k : List Stmt → Bool) : Bool := match st with
  | .For tg iter body [] _ => okP S pt tg && fIt S ik tg iter kI && k body
  | _ => false
def fWhl (st : Stmt) (k1 : Expr → Bool) (k : List Stmt → Bool) : Bool := match st with
  | .While c body [] _ => k1 c && k body
  | _ => false
def fDset (st : Stmt) (k1 k2 k3 : Expr → Bool) : Bool := match st with
  | .Assign [.Subscript o i _] v _ => noComp v && k1 o && k2 i && k3 v
  | _ => false
theorem fDset_inv {st : Stmt} {k1 k2 k3 : Expr → Bool} (h : fDset st k1 k2 k3 = true) : ∃ o i p v pos, st = .Assign [.Subscript o i p] v pos ∧ noComp v = true ∧ k1 o = true ∧ k2 i = true ∧ k3 v = true := by
  unfold fDset at h
  split at h
  · simp only [Bool.and_eq_true] at h
    exact ⟨_, _, _, _, _, rfl, h.1.1.1, h.1.1.2, h.1.2, h.2⟩
  · cases h
def isStar : Expr → Bool
  | .Starred _ _ => true
  | _ => false
def nameAt (S : SC) (l : Nat) (t : Expr) : Option Str := match t with
  | .Name id pos => if S.knd id == some .local && pos.line == l then some id else none
  | _ => none
def namesAt (S : SC) (l : Nat) (ts : List Expr) : List Str := ts.filterMap fun t => nameAt S l t
def line0 (ts : List Expr) : Nat := (ts.head?.map (·.pos.line)).getD 0
/-- which names are stored from the right -/
def swp (S : SC) (ts vs : List Expr) : Option (Option (List Str)) :=
  if !(ts.length == 2 || ts.length == 3) || vs.length != ts.length then some none else
  if vs.any isStar then some none else
  if (namesAt S (line0 ts) ts).length != ts.length || (namesAt S (line0 ts) ts).eraseDups.length != (namesAt S (line0 ts) ts).length then some none else
  if vs.all (foldedForSure 8) then some none else
  if vs.all (constantsAlone 8) then none else some (some (namesAt S (line0 ts) ts))
theorem swp_ok {S : SC} {env : PySem.Env} {ts vs : List Expr} {j1 j2 p1 p2} {r : Option (List Str)} (hk : env.blockKind = .function) (hS : ∀ x, env.kindOf x = S.knd x) (h : swp S ts vs = some r) :
    swappedStores [.Tuple ts j1 p1] (.Tuple vs j2 p2) env = pure r := by
  have hn : ∀ f : Expr → Option Str, (∀ t, f t = nameAt S (line0 ts) t) → List.filterMap f ts = namesAt S (line0 ts) ts := fun f hf => by
    unfold namesAt
    congr 1
    funext t
    exact hf t
  have hst : (vs.any fun t => match t with
    | .Starred _ _ => true
    | _ => false) = vs.any isStar := by
    congr 1
  unfold swappedStores
  unfold swp at h
  simp only [hk]
  by_cases c1 : (!(ts.length == 2 || ts.length == 3) || vs.length != ts.length) = true
  · rw [if_pos c1] at h
    cases h
    rw [if_pos (by simpa using c1)]
  · rw [if_neg c1] at h
    rw [if_neg (by simpa using c1)]
    by_cases c2 : (vs.any isStar) = true
    · rw [if_pos c2] at h
      cases h
      rw [if_pos (by rw [← hst] at c2; exact c2)]
    · rw [if_neg c2] at h
      rw [if_neg (by rw [← hst] at c2; exact c2)]
      rw [hn _ (fun t => by
        cases t <;> first | rfl | skip
        unfold nameAt line0
        simp only [hS])]
      by_cases c3 : ((namesAt S (line0 ts) ts).length != ts.length || (namesAt S (line0 ts) ts).eraseDups.length != (namesAt S (line0 ts) ts).length) = true
      · rw [if_pos c3] at h ⊢
        cases h; rfl
      · rw [if_neg c3] at h ⊢
        by_cases c4 : vs.all (foldedForSure 8) = true
        · rw [if_pos c4] at h ⊢
          cases h; rfl
        · rw [if_neg c4] at h ⊢
          by_cases c5 : vs.all (constantsAlone 8) = true
          · rw [if_pos c5] at h; cases h
          · rw [if_neg c5] at h ⊢
            cases h; rfl
def nmOf : Expr → Str
  | .Name x _ => x
  | _ => ""
def isLocN (S : SC) : Expr → Bool
  | .Name x _ => S.knd x == some .local
  | _ => false
/-- the stores are of a known order -/
def swOk (S : SC) (ts vs : List Expr) : Bool := match swp S ts vs with
  | some none => true
  | some (some ns) => decide (ns = ts.map nmOf) && ts.all (isLocN S)
  | none => false
def fPar (S : SC) (is : List Nat) (st : Stmt) (kk : List Expr → Bool) : Bool := match st with
  | .Assign [.Tuple [x, y] _ _] (.Tuple vs _ _) _ => (match is with
    | [i, j] => decide (i ≠ j) && fPv S i x && fPv S j y && swOk S [x, y] vs && decide (vs.length = 2) && kk vs
    | _ => false)
  | .Assign [.Tuple [x, y, z] _ _] (.Tuple vs _ _) _ => (match is with
    | [i, j, l] => decide (i ≠ j) && decide (i ≠ l) && decide (j ≠ l) && fPv S i x && fPv S j y && fPv S l z && swOk S [x, y, z] vs && decide (vs.length = 3) && kk vs
    | _ => false)
  | _ => false
def fRais (B : Tb) (S : SC) (e : Ex) (st : Stmt) : Bool := match st with
  | .Raise (some (.Call (.Name x _) [y] [] _)) none _ => (match raisC e with
    | some (q, a) => (B.gs[q]? == some x) && (B.pl.contains q || B.xi.any (fun p => p.1 == q)) && S.glb x && notStar y && okE B a S y
    | none => false)
  | _ => false
def fTry (B : Tb) (S : SC) (k i : Nat) (a : Sm) (st : Stmt) (kb : List Stmt → Bool) : Bool := match st with
  | .Try body [.ExceptHandler (some (.Name x _)) (some n) [.Assign [.Name y _] (.Name m _) _] _] [] [] _ => (match cauS a with
    | some (j, i') => decide (i' = i) && (B.gs[k]? == some x) && (B.pl.contains k || B.xi.any (fun p => p.1 == k)) && S.glb x && (S.N[i]? == some n) && (S.knd n == some .local) && decide (m = n) && nodbg n && (S.N[j]? == some y) && S.loc y && kb body
    | none => false)
  | _ => false
def fLamA (S : SC) (e : Expr) (k : SC → Expr → Bool) : Bool := match e with
  | .Lambda ps body scope _ => parNil ps && LamX.lamSB S.sc scope && k (S.lam scope) body
  | _ => false
def fWk1 (S : SC) (i : Nat) (st : Stmt) (k : SC → Expr → Bool) : Bool := match st with
  | .Assign [.Name x _] (.List [e] _) _ => (S.N[i]? == some x) && S.loc x && fLamA S e k
  | _ => false
def fWk2 (S : SC) (i : Nat) (st : Stmt) (k : SC → Expr → Bool) : Bool := match st with
  | .Expr (.Call (.Attribute (.Name x _) nm ap) [e] [] cp) _ => (S.N[i]? == some x) && S.vis x && nodbg x && decide (nm = "append") && (ap.endLine == cp.line) && fLamA S e k
  | _ => false
def fWkT (B : Tb) (S : SC) (i j q : Nat) (d : D) (t : Expr) : Bool := match t with
  | .Compare (.ListComp (.Constant (.int o) _ _) [⟨.Name v pv, .Name x _, [.UnaryOp .Not (.Call (.Name ii _) [.Call (.Name cx _) [.Name v2 _] [] _, ce] [] _) _], 0⟩] scope _) [op] [r] _ =>
     decide (o = 1) && okBlk S scope [j] && fPv (S.blk scope) j (.Name v pv) && (S.N[i]? == some x) && S.vis x && nodbg x && decide (ii = "isinstance") && (S.blk scope).gl "isinstance" && decide ((cx, q) ∈ B.ct) && (S.blk scope).glb cx && (S.blk scope).var j v2 && okE B (.cst d) (S.blk scope) ce && notStar ce && S.lm.isSome && opC .ne op && !behindInMarks op r && okE B (.pr .lst .nil) S r && decide (j < S.N.length)
  | _ => false
def fWkM (k : Ex → SC → Expr → Bool) (S : SC) (i : Nat) (kf : List Stmt → Bool) : Ex → List Stmt → Bool
  | .nil, sts => kf sts
  | .cons a r, st :: sts => fWk2 S i st (k a) && fWkM k S i kf r sts
  | _, _ => false
def fWkI (sts : List Stmt) (kt : Expr → Bool) (kb kr : List Stmt → Bool) : Bool := match sts with
  | .If t body [] _ :: rest => kt t && kb body && kr rest
  | _ => false
def fWk (k : Ex → SC → Expr → Bool) (S : SC) (i : Nat) (kf : List Stmt → Bool) (as : Ex) (sts : List Stmt) : Bool := match as, sts with
  | .cons a r, st :: sts => decide ((exL (.cons a r)).length ≤ 15) && fWk1 S i st (k a) && fWkM k S i kf r sts
  | _, _ => false
section
variable (B : Tb)
mutual
def okS : Sm → SC → Stmt → Bool
  | .asg i e, S, st => fAsg S i (isLc e) st (okE B e S)
  | .asgp pt e, S, st => fAsgp S pt st (okE B e S)
  | .ife t a b, S, st => fIfe st (okE B t S) (okB a S) (okB b S)
  | .ret e, S, st => fRet e st (okE B e S)
  | .exp e, S, st => fExp st (okE B e S)
  | .brk, _, st => (match st with
    | .Break _ => true
    | _ => false)
  | .cnt, _, st => (match st with
    | .Continue _ => true
    | _ => false)
  | .forr ik pt it b, S, st => fFor S ik pt st (okL B it S) (okB b S)
  | .dset a k e, S, st => fDset st (okE B a S) (okE B k S) (okE B e S)
  | .whl t b, S, st => fWhl st (okE B t S) (okB b S)
  | .rais e, S, st => fRais B S e st
  | .par is es, S, st => fPar S is st (okL B es S)
  | .tryw b k i a, S, st => fTry B S k i a st (okB b S)
  | _, _, _ => false
def okB : Sm → SC → List Stmt → Bool
  | .sk, _, sts => sts.isEmpty
  | .sq a b, S, sts => (match sts with
    | st :: rest => okS a S st && okB b S rest
    | [] => false)
  | .wk i j q d as b r, S, sts => fWk (okE B) S i (fun sts => fWkI sts (fWkT B S i j q d) (okB b S) (okB r S)) as sts
  | _, _, _ => false
end
end
section
variable {Γ : Env} {B : Tb} {c : Cfg} {S : SC} {k : Nat} {Z : WX} {X : Cx}
/-- the context of a def's own block -/
structure TopX (X : Cx) : Prop where
  kd : X.env.scope.kind = .function
  stk : X.stack = X.env :: X.outer
  frm : X.env.frame = some X.env.locals
def SndS (Γ : Env) (B : Tb) (c : Cfg) (b : Sm) : Prop := ∀ (S : SC) (k : Nat) (Z : WX) (X : Cx), Gd Γ c S k Z X → TopX X → PassesOwn (model X.prog X.w) X.A X.env X.xe →
  (∀ st, okS B b S st = true → PS X st (tS Γ Z (sx c b))) ∧ (∀ sts, okB B b S sts = true → PSs X sts (tS Γ Z (sx c b)))
theorem FinS.badE {D : Ends} {ρ : Rho} {G : Hp} {η : Hv} {H : Hp} {C : Prop} (h : FinS Γ Z D ρ G η H .bad) : C := False.elim h
theorem tS_ofE {e : Ex} {kk : List (Option W) → W → Hv → O} {D : Ends} {σ : L2.St} {H : Hp} (h : tS Γ Z (fun ν h => O.ofE ν (ev c e ν h) (kk ν)) D σ H) :
    tI Γ Z (ev c e) σ H fun x H1 => ∃ ν w η ρ G, Sim Γ ρ G η H1 ∧ Slots Γ G ρ ν σ ∧ RepW Γ G ρ w x ∧ FinS Γ Z D ρ G η H1 (kk ν w η) := by
  obtain ⟨ν, η, ρ, G, Sm, T, h⟩ := h
  exact ⟨ν, η, ρ, G, Sm, T, FinS.ofE T h _ fun w ρ1 G1 η1 H1 S1 E1 h1 v rv => ⟨ν, w, η1, ρ1, G1, S1, T.mono E1.same E1.rho, rv, h1⟩⟩
theorem snd_asg (hE : ∀ x, SndE Γ B c x) (hE2 : ∀ x, SubE Γ B c x) {i : Nat} {e : Ex} : SndS Γ B c (.asg i e) := by
  intro S k Z X g hkd hp
  refine ⟨fun st h => ?_, fun sts h => (by cases h)⟩
  obtain ⟨x, p, v, pos, rfl, h1, h2, h3, h4⟩ := fAsg_inv (show fAsg S i (isLc e) st (okE B e S) = true from h)
  obtain ⟨l1, l2⟩ := g.loc h2
  have fin : ∀ {D : Ends} {σ : L2.St} {H : Hp}, tS Γ Z (sx c (.asg i e)) D σ H → tAsg (tI Γ Z (ev c e)) (gName i) D σ H := fun {D σ H} t => by
    have t2 := tS_ofE (kk := fun ν w h' => .nx (ν.set i (some w)) h') (show tS Γ Z (fun ν h => O.ofE ν (ev c e ν h) fun w h' => .nx (ν.set i (some w)) h') D σ H from t)
    obtain ⟨ν, η, ρ, G, Sm, T, q⟩ := t2
    refine ⟨ν, η, ρ, G, Sm, T, q.imp fun G1 ρ1 w1 H1 qq v rv => ?_⟩
    obtain ⟨ν2, w2, η2, ρ2, G2, S2, T2, r2, q2⟩ := qq v rv
    exact q2 _ ρ2 G2 H1 S2 (Ext.refl _ _ _ _) (T2.set r2)
  by_cases hc : noComp v = true
  · have P : PS X (.Assign [.Name x p] v pos) (tAsg (tI Γ Z (ev c e)) (gName i)) := ps_set (by rw [g.N]; exact g.nd) (g.ix h1) l1 ((hE e S k Z X g).1 v h4).1 (sw_no hc _ _ _) l2
    exact PS.imp P fun D σ H t => fin t
  · have hc : noComp v = false := by simpa using hc
    rw [hc, Bool.false_or] at h3
    cases e <;> first | (cases h3; done) | skip
    · rename_i al vs ik pt it r
      obtain ⟨elt, tg, iter, ifs, scope, cpos, tt, te, rfl, hr, hv, p1, p2, p3, p4, p5, p6⟩ := lc_parts g (hE it) (hE r) (show fLc S vs ik pt v (okL B it S) (okG B r) = true from h4)
      have hkf : X.env.blockKind = .function := by unfold Env.blockKind; rw [hkd.kd]; rfl
      have hsw : swapsWith (.ListComp elt [⟨tg, iter, ifs, 0⟩] scope cpos) (some (.Name x p)) pos.line X.env = pure (lcSwap S (.ListComp elt [⟨tg, iter, ifs, 0⟩] scope cpos) x p) := by
        have hknd : X.env.kindOf x = S.knd x := by show X.env.scope.names.lookup x = _; rw [g.sc]; rfl
        unfold swapsWith lcSwap
        simp only [hkf, hknd, Expr.pos]
        rfl
      cases hb : lcSwap S (.ListComp elt [⟨tg, iter, ifs, 0⟩] scope cpos) x p with
      | true =>
        rw [hb] at hsw
        have hloc : X.env.scope.names.lookup x = some .local := by
          simp only [lcSwap, Bool.and_eq_true, beq_iff_eq] at hb
          rw [g.sc]
          exact hb.1.1
        refine PS.imp (ps_setLc g.calm (by rw [g.N]; exact g.nd) (g.ix h1) hloc hsw p1 p2 p3 p4 p5 p6) fun D σ H t => ?_
        have t2 : tLc (tIt Γ Z ik (evl c it)) (gB Γ pt) tt te vs σ H fun x H1 => gName i x σ H1 D.nx := lc_read hr hv (fin t)
        rw [ownL_ix]
        exact t2
      | false =>
        rw [hb] at hsw
        have P := ps_set (X := X) (pos := pos) (i := i) (x := x) (pos' := p) (by rw [g.N]; exact g.nd) (g.ix h1) l1 ((hE (.lc al vs ik pt it r) S k Z X g).1 _ h4).1 hsw l2
        exact PS.imp P fun D σ H t => fin t
    · rename_i vs ik pt it r
      obtain ⟨kx, vx, tg, iter, ifs, scope, cpos, tt, tk, tv, rfl, hr, hv, p1, p2, p3, p4, p5, p5b, p6⟩ := dc_parts g (hE it) (hE2 r) h4
      have hkf : X.env.blockKind = .function := by unfold Env.blockKind; rw [hkd.kd]; rfl
      have hsw : swapsWith (.DictComp kx vx [⟨tg, iter, ifs, 0⟩] scope cpos) (some (.Name x p)) pos.line X.env = pure (lcSwap S (.DictComp kx vx [⟨tg, iter, ifs, 0⟩] scope cpos) x p) := by
        have hknd : X.env.kindOf x = S.knd x := by show X.env.scope.names.lookup x = _; rw [g.sc]; rfl
        unfold swapsWith lcSwap
        simp only [hkf, hknd, Expr.pos]
        rfl
      cases hb : lcSwap S (.DictComp kx vx [⟨tg, iter, ifs, 0⟩] scope cpos) x p with
      | true =>
        rw [hb] at hsw
        have hloc : X.env.scope.names.lookup x = some .local := by
          simp only [lcSwap, Bool.and_eq_true, beq_iff_eq] at hb
          rw [g.sc]
          exact hb.1.1
        refine PS.imp (ps_setDc g.calm (by rw [g.N]; exact g.nd) (g.ix h1) hloc hsw p1 p2 p3 p4 p5 p5b p6) fun D σ H t => ?_
        have t2 : tDc (tIt Γ Z ik (evl c it)) (gB Γ pt) tt tk tv vs σ H fun x H1 => gName i x σ H1 D.nx := dc_read hr hv (fin t)
        rw [ownL_ix]
        exact t2
      | false =>
        rw [hb] at hsw
        have P := ps_set (X := X) (pos := pos) (i := i) (x := x) (pos' := p) (by rw [g.N]; exact g.nd) (g.ix h1) l1 ((hE (.dc vs ik pt it r) S k Z X g).1 _ h4).1 hsw l2
        exact PS.imp P fun D σ H t => fin t
    · rename_i al r0
      cases al <;> cases r0 <;> first | (cases h4; done) | skip
      rename_i ik vs pt it r
      obtain ⟨elt, tg, iter, ifs, gs, scope, cpos, rfl, q1, q2, q3, q4, q5⟩ := fLcn_inv (show fLcn S vs ik pt v (okL B it S) (okR B r) = true from h4)
      have hkf : X.env.blockKind = .function := by unfold Env.blockKind; rw [hkd.kd]; rfl
      have hsw : swapsWith (.ListComp elt (⟨tg, iter, ifs, 0⟩ :: gs) scope cpos) (some (.Name x p)) pos.line X.env = pure (lcSwap S (.ListComp elt (⟨tg, iter, ifs, 0⟩ :: gs) scope cpos) x p) := by
        have hknd : X.env.kindOf x = S.knd x := by show X.env.scope.names.lookup x = _; rw [g.sc]; rfl
        unfold swapsWith lcSwap
        simp only [hkf, hknd, Expr.pos]
        rfl
      cases hb : lcSwap S (.ListComp elt (⟨tg, iter, ifs, 0⟩ :: gs) scope cpos) x p with
      | true =>
        rw [hb] at hsw
        have hloc : X.env.scope.names.lookup x = some .local := by
          simp only [lcSwap, Bool.and_eq_true, beq_iff_eq] at hb
          rw [g.sc]
          exact hb.1.1
        exact PS.imp (ps_pcL (by rw [g.N]; exact g.nd) (g.ix h1) hloc hsw (pc_lcn g (hE it) (hE2 r) q1 q2 q3 q4 q5).1) fun D σ H t => fin t
      | false =>
        rw [hb] at hsw
        have P := ps_set (X := X) (pos := pos) (i := i) (x := x) (pos' := p) (by rw [g.N]; exact g.nd) (g.ix h1) l1 ((hE (.lcn false (.gfor ik vs pt it r)) S k Z X g).1 _ h4).1 hsw l2
        exact PS.imp P fun D σ H t => fin t
    · rename_i r0
      cases r0 <;> first | (cases h4; done) | skip
      rename_i ik vs pt it r
      obtain ⟨kx, vx, tg, iter, ifs, gs, scope, cpos, rfl, q1, q2, q3, q4, q5⟩ := fDcn_inv (show fDcn S vs ik pt v (okL B it S) (okR B r) = true from h4)
      have hkf : X.env.blockKind = .function := by unfold Env.blockKind; rw [hkd.kd]; rfl
      have hsw : swapsWith (.DictComp kx vx (⟨tg, iter, ifs, 0⟩ :: gs) scope cpos) (some (.Name x p)) pos.line X.env = pure (lcSwap S (.DictComp kx vx (⟨tg, iter, ifs, 0⟩ :: gs) scope cpos) x p) := by
        have hknd : X.env.kindOf x = S.knd x := by show X.env.scope.names.lookup x = _; rw [g.sc]; rfl
        unfold swapsWith lcSwap
        simp only [hkf, hknd, Expr.pos]
        rfl
      cases hb : lcSwap S (.DictComp kx vx (⟨tg, iter, ifs, 0⟩ :: gs) scope cpos) x p with
      | true =>
        rw [hb] at hsw
        have hloc : X.env.scope.names.lookup x = some .local := by
          simp only [lcSwap, Bool.and_eq_true, beq_iff_eq] at hb
          rw [g.sc]
          exact hb.1.1
        exact PS.imp (ps_pcD (by rw [g.N]; exact g.nd) (g.ix h1) hloc hsw (pc_dcn g (hE it) (hE2 r) q1 q2 q3 q4 q5).1) fun D σ H t => fin t
      | false =>
        rw [hb] at hsw
        have P := ps_set (X := X) (pos := pos) (i := i) (x := x) (pos' := p) (by rw [g.N]; exact g.nd) (g.ix h1) l1 ((hE (.dcn (.gfor ik vs pt it r)) S k Z X g).1 _ h4).1 hsw l2
        exact PS.imp P fun D σ H t => fin t
theorem snd_asgp (hE : ∀ x, SndE Γ B c x) {pt : Pt} {e : Ex} : SndS Γ B c (.asgp pt e) := by
  intro S k Z X g hkd hp
  refine ⟨fun st h => ?_, fun sts h => (by cases h)⟩
  obtain ⟨tg, v, pos, rfl, h1, h2, h3, h4⟩ := fAsgp_inv (show fAsgp S pt st (okE B e S) = true from h)
  obtain ⟨es, j, p, rfl⟩ := isTup_inv h1
  have hs : swapsWith v (some (.Tuple es j p)) pos.line X.env = pure false := sw_tup _ _
  have P : PS X (.Assign [.Tuple es j p] v pos) (tAsg (tI Γ Z (ev c e)) (gB Γ pt)) := ps_asg ((hE e S k Z X g).1 v h4).1 (pg_ok g h2) hs (st_no h3 _ _) (by rw [assign_of (by rfl)]; rfl)
  refine PS.imp P fun D σ H t => ?_
  have t2 := tS_ofE (kk := fun ν w h' => match bindP pt w ν with | some ν' => .nx ν' h' | none => .bad) (show tS Γ Z (fun ν h => O.ofE ν (ev c e ν h) fun w h' => match bindP pt w ν with | some ν' => .nx ν' h' | none => .bad) D σ H from t)
  obtain ⟨ν, η, ρ, G, Sm, T, q⟩ := t2
  refine ⟨ν, η, ρ, G, Sm, T, q.imp fun G1 ρ1 w1 H1 qq v rv => ?_⟩
  obtain ⟨ν2, w2, η2, ρ2, G2, S2, T2, r2, q2⟩ := qq v rv
  cases eb : bindP pt w2 ν2 with
  | none => rw [eb] at q2; exact FinS.badE q2
  | some ν' =>
    rw [eb] at q2
    exact ⟨ν2, ρ2, G2, w2, ν', T2, S2.same, r2, eb, fun σ' _ _ T' => q2 σ' ρ2 G2 H1 S2 (Ext.refl _ _ _ _) T'⟩
theorem snd_ife (hE : ∀ x, SndE Γ B c x) {t : Ex} {a b : Sm} (iha : SndS Γ B c a) (ihb : SndS Γ B c b) : SndS Γ B c (.ife t a b) := by
  intro S k Z X g hkd hp
  refine ⟨fun st h => ?_, fun sts h => (by cases h)⟩
  have h : fIfe st (okE B t S) (okB B a S) (okB B b S) = true := h
  unfold fIfe at h
  split at h
  · simp only [Bool.and_eq_true] at h
    refine PS.imp (ps_if ((hE t S k Z X g).1 _ h.1.1).2 ((iha S k Z X g hkd hp).2 _ h.1.2) ((ihb S k Z X g hkd hp).2 _ h.2)) fun D σ H q => ?_
    obtain ⟨ν, η, ρ, G, Sm, T, q⟩ := q
    refine ⟨ν, η, ρ, G, Sm, T, FinS.ofE T (show FinS Γ Z D ρ G η H (O.ofE ν (ev c t ν η) fun w h' => match w with
      | .d (.bl true) => sx c a ν h'
      | .d (.bl false) => sx c b ν h'
      | _ => .bad) from q) _ fun w ρ1 G1 η1 H1 S1 E1 h1 => ?_⟩
    have T1 := T.mono E1.same E1.rho
    rcases w with d | n | ⟨l, cs⟩
    · cases d <;> first | exact FinS.badE h1 | skip
      rename_i kk
      refine ⟨kk, rfl, ?_⟩
      cases kk with
      | true => exact ⟨ν, η1, ρ1, G1, S1, T1, h1⟩
      | false => exact ⟨ν, η1, ρ1, G1, S1, T1, h1⟩
    · exact FinS.badE h1
    · exact FinS.badE h1
  · cases h
theorem snd_ret (hE : ∀ x, SndE Γ B c x) {e : Ex} : SndS Γ B c (.ret e) := by
  intro S k Z X g hkd hp
  refine ⟨fun st h => ?_, fun sts h => (by cases h)⟩
  have h : fRet e st (okE B e S) = true := h
  unfold fRet at h
  split at h
  · refine PS.imp (ps_ret ((hE e S k Z X g).1 _ h).1) fun D σ H t => ?_
    have t2 := tS_ofE (kk := fun ν w h' => .ret w h') (show tS Γ Z (fun ν h => O.ofE ν (ev c e ν h) fun w h' => .ret w h') D σ H from t)
    obtain ⟨ν, η, ρ, G, Sm, T, q⟩ := t2
    refine ⟨ν, η, ρ, G, Sm, T, q.imp fun G1 ρ1 w1 H1 qq v rv => ?_⟩
    obtain ⟨ν2, w2, η2, ρ2, G2, S2, T2, r2, q2⟩ := qq v rv
    exact q2 v ρ2 G2 H1 S2 (Ext.refl _ _ _ _) r2
  · split at h
    · refine PS.imp ps_retN fun D σ H t => ?_
      obtain ⟨ν, η, ρ, G, Sm, T, q⟩ := t
      have q : FinS Γ Z D ρ G η H (.ret (.d .non) η) := q
      exact q .non ρ G H Sm (Ext.refl _ _ _ _) .non
    · cases h
  · cases h
theorem snd_exp (hE : ∀ x, SndE Γ B c x) {e : Ex} : SndS Γ B c (.exp e) := by
  intro S k Z X g hkd hp
  refine ⟨fun st h => ?_, fun sts h => (by cases h)⟩
  have h : fExp st (okE B e S) = true := h
  unfold fExp at h
  split at h
  · rw [Bool.and_eq_true] at h
    refine PS.imp (ps_expr ((hE e S k Z X g).1 _ h.2).1 (sw_no h.1 _ _ _)) fun D σ H t => ?_
    have t2 := tS_ofE (kk := fun ν w h' => .nx ν h') (show tS Γ Z (fun ν h => O.ofE ν (ev c e ν h) fun w h' => .nx ν h') D σ H from t)
    obtain ⟨ν, η, ρ, G, Sm, T, q⟩ := t2
    refine ⟨ν, η, ρ, G, Sm, T, q.imp fun G1 ρ1 w1 H1 qq v rv => ?_⟩
    obtain ⟨ν2, w2, η2, ρ2, G2, S2, T2, r2, q2⟩ := qq v rv
    exact q2 _ ρ2 G2 H1 S2 (Ext.refl _ _ _ _) T2
  · cases h
theorem dsetW_ok {w kw x : W} {η η' : Hv} {u : Unit} (h : dsetW w kw x η = .ok u η') : ∃ n kvs kd key, w = .ref n ∧ kw = .d kd ∧ η[n]? = some (.dct kvs) ∧ keyK kd = some key ∧ kvs.length < lim ∧ η' = η.set n (.dct (setK kvs kd x)) := by
  unfold dsetW at h
  cases w with
  | d x => cases h
  | clo l cs => cases h
  | ref n =>
    cases kw with
    | ref m => cases h
    | clo l cs => cases h
    | d kd =>
      simp only at h
      cases e : η[n]? with
      | none => rw [e] at h; cases h
      | some o =>
        rw [e] at h
        cases o with
        | dct kvs =>
          simp only at h
          by_cases hc : (keyK kd).isSome ∧ kvs.length < lim
          · rw [if_pos hc] at h
            cases h
            obtain ⟨key, hk⟩ := Option.isSome_iff_exists.mp hc.1
            exact ⟨n, kvs, kd, key, rfl, rfl, e, hk, hc.2, rfl⟩
          · rw [if_neg hc] at h; cases h
        | dead => cases h
        | lst _ => cases h
        | cel _ => cases h
theorem snd_dset (hE : ∀ x, SndE Γ B c x) {a ky e : Ex} : SndS Γ B c (.dset a ky e) := by
  intro S k Z X g hkd hp
  refine ⟨fun st h => ?_, fun sts h => (by cases h)⟩
  obtain ⟨o, i, p, v, pos, rfl, h1, h2, h3, h4⟩ := fDset_inv (show fDset st (okE B a S) (okE B ky S) (okE B e S) = true from h)
  have P : PS X (.Assign [.Subscript o i p] v pos) (sDPut (tI Γ Z (ev c a)) (tI Γ Z (ev c ky)) (tI Γ Z (ev c e))) := ps_dput (by have := g.room.un; omega) ((hE a S k Z X g).1 _ h2).1 ((hE ky S k Z X g).1 _ h3).1 ((hE e S k Z X g).1 _ h4).1 (sw_no h1 _ _ _)
  refine PS.imp P fun D σ H t => ?_
  obtain ⟨ν, η, ρ, G, S0, T, t⟩ := t
  have t : FinS Γ Z D ρ G η H (O.ofE ν ((ev c e ν >>= fun x => ev c a ν >>= fun w => ev c ky ν >>= fun y => dsetW w y x) η) fun _ h' => .nx ν h') := t
  -- the whole as one run
  have key : Fin Γ Z (fun G1 ρ1 (_ : Unit) H1 => ∃ η1, Sim Γ ρ1 G1 η1 H1 ∧ FinS Γ Z D ρ1 G1 η1 H1 (.nx ν η1)) σ ρ G η H ((ev c e ν >>= fun x => ev c a ν >>= fun w => ev c ky ν >>= fun y => dsetW w y x) η) := by
    cases q : (ev c e ν >>= fun x => ev c a ν >>= fun w => ev c ky ν >>= fun y => dsetW w y x) η with
    | ok u η' =>
      rw [q] at t
      exact fun ρ' G' H' S' E' => ⟨η', S', FinS.step E' t⟩
    | exc x η' =>
      rw [q] at t
      exact fun cls d ρ' G' H' S' E' r => t cls d σ ρ' G' H' S' E' (T.mono E'.same E'.rho) r
    | bad => rw [q] at t; exact FinS.badE t
  refine ⟨ν, η, ρ, G, S0, T, Fin.bind key _ fun wx ρ1 G1 η1 H1 S1 E1 t1 x rx => ?_⟩
  have T1 := T.mono E1.same E1.rho
  refine ⟨ν, η1, ρ1, G1, S1, T1, Fin.bind t1 _ fun wd ρ2 G2 η2 H2 S2 E2 t2 xd rd => ?_⟩
  have T2 := T1.mono E2.same E2.rho
  refine ⟨ν, η2, ρ2, G2, S2, T2, Fin.bind t2 _ fun wy ρ3 G3 η3 H3 S3 E3 t3 y ry => ?_⟩
  have T3 := T2.mono E3.same E3.rho
  cases q : dsetW wd wy wx η3 with
  | ok u η4 =>
    rw [q] at t3
    obtain ⟨n, kvs, kd, key, rfl, rfl, e3, e4, e5, rfl⟩ := dsetW_ok q
    obtain ⟨p1, ks, rfl, hp1, hl, hH, rk⟩ := own_dct S3 e3 (rd.mono E3.same E3.rho)
    have ek := kvOf e4 ry
    subst ek
    obtain ⟨S4, E4⟩ := S3.putO hl hp1 (RepC.dct (rk.set e4 (rx.mono (E2.trans E3).same (E2.trans E3).rho)))
    obtain ⟨η5, S5, t5⟩ := t3 ρ3 G3 _ S4 E4
    exact ⟨p1, _, rfl, .inl ⟨ks, key, hH, rfl, by rw [rk.length, hsz]; exact e5, rfl⟩, t5 σ ρ3 G3 _ S5 (Ext.refl _ _ _ _) T3⟩
  | exc x' η4 => exact absurd q (by unfold dsetW; intro h; split at h <;> first | cases h | (split at h <;> first | cases h | (split at h <;> cases h)))
  | bad => rw [q] at t3; exact Fin.badE t3
theorem snd_brk : SndS Γ B c .brk := by
  intro S k Z X g hkd hp
  refine ⟨fun st h => ?_, fun sts h => (by cases h)⟩
  cases st <;> first | (cases h; done) | skip
  refine PS.imp ps_break fun D σ H t => ?_
  obtain ⟨ν, η, ρ, G, Sm, T, q⟩ := t
  have q : FinS Γ Z D ρ G η H (.brk ν η) := q
  exact q _ ρ G H Sm (Ext.refl _ _ _ _) T
theorem snd_cnt : SndS Γ B c .cnt := by
  intro S k Z X g hkd hp
  refine ⟨fun st h => ?_, fun sts h => (by cases h)⟩
  cases st <;> first | (cases h; done) | skip
  refine PS.imp ps_continue fun D σ H t => ?_
  obtain ⟨ν, η, ρ, G, Sm, T, q⟩ := t
  have q : FinS Γ Z D ρ G η H (.cnt ν η) := q
  exact q _ ρ G H Sm (Ext.refl _ _ _ _) T
theorem snd_sk : SndS Γ B c .sk := by
  intro S k Z X g hkd hp
  refine ⟨fun st h => (by cases h), fun sts h => ?_⟩
  cases sts with
  | nil =>
    refine PSs.imp pss_nil fun D σ H t => ?_
    obtain ⟨ν, η, ρ, G, Sm, T, q⟩ := t
    have q : FinS Γ Z D ρ G η H (.nx ν η) := q
    exact q _ ρ G H Sm (Ext.refl _ _ _ _) T
  | cons _ _ => cases h
theorem snd_sq {a b : Sm} (iha : SndS Γ B c a) (ihb : SndS Γ B c b) : SndS Γ B c (.sq a b) := by
  intro S k Z X g hkd hp
  refine ⟨fun st h => (by cases h), fun sts h => ?_⟩
  cases sts with
  | nil => cases h
  | cons st rest =>
    have h : (okS B a S st && okB B b S rest) = true := h
    rw [Bool.and_eq_true] at h
    refine PSs.imp (pss_cons ((iha S k Z X g hkd hp).1 _ h.1) ((ihb S k Z X g hkd hp).2 _ h.2)) fun D σ H t => ?_
    obtain ⟨ν, η, ρ, G, Sm, T, q⟩ := t
    have q : FinS Γ Z D ρ G η H (match sx c a ν η with
      | .nx ν' h' => sx c b ν' h'
      | o => o) := q
    refine ⟨ν, η, ρ, G, Sm, T, ?_⟩
    cases e : sx c a ν η with
    | nx ν' η' =>
      rw [e] at q
      exact fun σ' ρ' G' H' S' E' T' => ⟨ν', η', ρ', G', S', T', FinS.step E' q⟩
    | ret w η' => rw [e] at q; exact q
    | brk ν' η' => rw [e] at q; exact q
    | cnt ν' η' => rw [e] at q; exact q
    | exc x ν' η' => rw [e] at q; exact q
    | bad => rw [e] at q; exact FinS.badE q
end
end Ip

set_option Elab.async false
set_option linter.all false
set_option maxRecDepth 100000
set_option maxHeartbeats 400000
/-! IpTrs: raise, try. -/
namespace Ip
open PySem PySem.Spec PyProof.Rows L2
section
variable {Γ : Env} {B : Tb} {c : Cfg} {S : SC} {k : Nat} {Z : WX} {X : Cx}
theorem fRais_inv {e : Ex} {st : Stmt} (h : fRais B S e st = true) : ∃ x p y p3 p4 q a, st = .Raise (some (.Call (.Name x p) [y] [] p3)) none p4 ∧ raisC e = some (q, a) ∧ B.gs[q]? = some x ∧ (q ∈ B.pl ∨ ∃ f, (q, f) ∈ B.xi) ∧ S.glb x = true ∧ notStar y = true ∧ okE B a S y = true := by
  unfold fRais at h
  split at h
  · cases e1 : raisC e with
    | none => rw [e1] at h; cases h
    | some qa =>
      obtain ⟨q, a⟩ := qa
      rw [e1] at h
      simp only [Bool.and_eq_true, beq_iff_eq, List.contains_eq_mem, decide_eq_true_eq, Bool.or_eq_true, List.any_eq_true] at h
      obtain ⟨⟨⟨⟨h1, h2⟩, h3⟩, h4⟩, h5⟩ := h
      refine ⟨_, _, _, _, _, q, a, rfl, rfl, h1, ?_, h3, h4, h5⟩
      rcases h2 with h2 | ⟨p, hp, rfl⟩
      · exact .inl h2
      · exact .inr ⟨p.2, hp⟩
  · cases h
theorem fTry_inv {q i : Nat} {a : Sm} {st : Stmt} {kb : List Stmt → Bool} (h : fTry B S q i a st kb = true) : ∃ body x p1 n y p2 p3 p4 p5 p6 j, st = .Try body [.ExceptHandler (some (.Name x p1)) (some n) [.Assign [.Name y p2] (.Name n p3) p4] p5] [] [] p6 ∧
    cauS a = some (j, i) ∧ B.gs[q]? = some x ∧ (q ∈ B.pl ∨ ∃ f, (q, f) ∈ B.xi) ∧ S.glb x = true ∧ (S.N[i]? == some n) = true ∧ S.knd n = some .local ∧ nodbg n = true ∧ (S.N[j]? == some y) = true ∧ S.loc y = true ∧ kb body = true := by
  unfold fTry at h
  split at h
  · cases e1 : cauS a with
    | none => rw [e1] at h; cases h
    | some ji =>
      obtain ⟨j, i'⟩ := ji
      rw [e1] at h
      simp only [Bool.and_eq_true, decide_eq_true_eq, List.contains_eq_mem, Bool.or_eq_true, List.any_eq_true] at h
      obtain ⟨⟨⟨⟨⟨⟨⟨⟨⟨⟨rfl, h1⟩, h2⟩, h3⟩, h4⟩, h5⟩, rfl⟩, h6⟩, h7⟩, h8⟩, h9⟩ := h
      refine ⟨_, _, _, _, _, _, _, _, _, _, j, rfl, rfl, beq_iff_eq.mp h1, ?_, h3, h4, beq_iff_eq.mp h5, h6, h7, h8, h9⟩
      rcases h2 with h2 | ⟨p, hp, h2⟩
      · exact .inl h2
      · exact .inr ⟨p.2, by rw [← beq_iff_eq.mp h2]; exact hp⟩
  · cases h
theorem Slots.unset {G : Hp} {ρ : Rho} {ν : List (Option W)} {σ : L2.St} {i : Nat} (T : Slots Γ G ρ ν σ) : Slots Γ G ρ (ν.set i none) (σ.set i none) := by
  refine ⟨by simp [T.1], fun m w hm => ?_⟩
  by_cases hi : m = i
  · subst hi
    rw [List.getElem?_set] at hm
    simp at hm
  · rw [List.getElem?_set_ne (Ne.symm hi)] at hm
    rw [List.getElem?_set_ne (Ne.symm hi)]
    exact T.2 m w hm
/-- raise C(e), C with an attribute -/
theorem pmk_xi {X : Cx} {C fI : Addr} {f : Str} {fd : FuncData} {x : Str} {e : Expr} {ta : TA} {k : Nat} {p pos : Pos} (F : XiF X.prog X.K C fI f fd) (T : XiC X.K C f) (iC : PySem.W.findIn X.K (.ref C) "__init__" = some (some (.ref fI))) (tI : PySem.W.typeIn X.K (.ref fI) = some (.type "function"))
    (hsup : X.mg "super" = none) (htop : (X.prog.main.scope.names.lookup ("super" : Str)).isSome = false) (hr : Room (k + 3) X.A) (hg : Gl X x) (hm : X.mg x = some (.ref C)) (he : PA X [e] ta) (hs : starEach [e] X.env = (false, eval e X.env) :: starEach [] X.env) (hdb : (x == ("__debug__" : Str)) = false) :
    PMk X (.Call (.Name x p) [e] [] pos) (tMkO C (spXi C f) [] ta) := by
  have F1 : FnOk X.prog X.w X.K X.mg X.base CX0 (k + 2) fI fd ["self", f] (spXi C f) := xi_fn F T.mem hsup htop T k
  have hb : Binds X.K fd ["self", f] [] := Binds.all fun us hl => by
    obtain ⟨oc, od, qual, params, body, scope, doc, pm, an, cda, ct, osl, cc, rfl, _, _, hpar, _⟩ := F.ex
    exact xi_bind T.mem hpar _ hl
  exact pmk_oex T.o iC tI F1 hr hb .nil pass0 hg hm he hdb hs
theorem snd_rais (hB1 : Γ.gs = B.gs) (hB4 : Γ.pl = B.pl) (hB5 : Γ.xi = B.xi) (hE : ∀ x, SndE Γ B c x) {e : Ex} : SndS Γ B c (.rais e) := by
  intro S k Z X g hkd hp
  refine ⟨fun st h => ?_, fun sts h => (by cases h)⟩
  obtain ⟨x, p, y, p3, p4, q, a, rfl, e1, h1, h2, h3, h4, h5⟩ := fRais_inv (show fRais B S e st = true from h)
  simp only [SC.glb, Bool.and_eq_true] at h3
  rw [← hB1] at h1
  rw [← hB4, ← hB5] at h2
  have PY := ((hE a S k Z X g).1 _ h5).1
  rcases h2 with h2 | ⟨f, h2⟩
  · obtain ⟨C, bmB, bs, n1, n2, f1, f2, f3, f4, f5, f6, f7⟩ := g.fns.fx.cls _ _ h2 h1
    refine PS.imp (ps_raise g.calm g.tk (SkE.pmk_own1 f2 (by rw [g.K]; exact f3) (by rw [g.mg]; exact f1) (by rw [g.K]; exact f4) (raises_own (by rw [g.K]; exact f5) (by rw [g.K]; exact f6)) (g.gl h3.1) PY (star_of h4 _ _) (nodbg_ok h3.2).1)) fun D σ H t => ?_
    obtain ⟨ν, η, ρ, G, Sm, T, t⟩ := t
    simp only [sx, e1] at t
    refine ⟨ν, η, ρ, G, Sm, T, Fin.bind (FinS.ofE T t (fun G1 ρ1 w H1 => w = .d (.exc q []) → Z (.ref C) none σ H1) fun w ρ1 G1 η1 H1 S1 E1 t1 ew => ?_) _ fun w ρ1 G1 η1 H1 S1 E1 t1 v rv => ?_⟩
    · subst ew
      exact t1 _ _ σ ρ1 G1 H1 S1 (Ext.refl _ _ _ _) (T.mono E1.same E1.rho) ⟨h2, x, C, h1, f1, rfl, rfl⟩
    · rcases mkX_ok t1 with ⟨hq, t1⟩ | ⟨f, z, hq, rfl, t1⟩
      · exact t1 ρ1 G1 H1 S1 (Ext.refl _ _ _ _) rfl
      · rw [g.fns.fx.xip q h2] at hq; cases hq
  · obtain ⟨C, fI, fd, f1, f2, f3, f4, f5, f6, f7⟩ := g.fns.fx.xcl _ _ _ h2 h1
    refine PS.imp (ps_raise g.calm g.tk (pmk_xi (k := k + 1) (by rw [g.K, g.P]; exact f2) (by rw [g.K]; exact f3) (by rw [g.K]; exact f4) (by rw [g.K]; exact f5) (g.blt (by decide +kernel)) (by rw [g.P]; exact g.fns.fx.top (fun z => by rw [z] at h2; cases h2)) g.room4 (g.gl h3.1) (by rw [g.mg]; exact f1) (pa_cons PY pa_nil (star_of h4 _ _)) (star_of h4 _ _) (nodbg_ok h3.2).1)) fun D σ H t => ?_
    obtain ⟨ν, η, ρ, G, Sm, T, t⟩ := t
    simp only [sx, e1] at t
    refine ⟨ν, η, ρ, G, Sm, T, Fin.bind (FinS.ofE T t (fun G1 ρ1 w H1 => ∀ y, w = .d (.exc q [(f, y)]) → ∀ v d, Rep Γ G1 y v → H1 d = none → Z (.ref C) (some d) σ (upd H1 d (.xd [((f : Str), v)]))) fun w ρ1 G1 η1 H1 S1 E1 t1 y ew v d rv hd => ?_) _ fun w ρ1 G1 η1 H1 S1 E1 t1 v rv => ?_⟩
    · subst ew
      have sm := same_upd (o := HO.xd [((f : Str), v)]) hd
      refine t1 _ _ σ ρ1 _ _ (S1.grow sm) (Ext.grow S1 sm) ((T.mono E1.same E1.rho).mono (grow_same S1.same) (fun _ _ h => h)) ⟨h2, x, C, d, v, h1, f1, rfl, rfl, ?_, Rep.mono (grow_same S1.same) rv⟩
      exact grow_up hd (fun _ z => by cases z)
    · rcases mkX_ok t1 with ⟨hq, t1⟩ | ⟨f', z, hq, rfl, t1⟩
      · rw [g.fns.fx.xif q f h2] at hq; cases hq
      · rw [g.fns.fx.xif q f h2] at hq
        cases hq
        refine ⟨by show 1 ≤ 1000; decide, fun ad hn => ⟨ad, v, rfl, upd_same, fun d hd hne => ⟨rfl, d, [((f : Str), v)], upd_same, by rw [upd_ne hne, upd_same], by rw [upd_ne hne] at hd; exact hd, ?_⟩⟩⟩
        have hd1 : H1 d = none := by rw [upd_ne hne] at hd; exact hd
        have e : upd (del (upd (upd (upd H1 ad (exo ad C none)) d (exd d [((f : Str), v)])) ad (exo ad C (some d))) ad) d (.xd [((f : Str), v)]) = upd H1 d (.xd [((f : Str), v)]) := by
          funext b
          by_cases hb : b = d
          · rw [hb, upd_same, upd_same]
          · rw [upd_ne hb, upd_ne hb]
            by_cases hb2 : b = ad
            · rw [hb2, hn]; exact del_same
            · rw [del_ne hb2, upd_ne hb2, upd_ne hb, upd_ne hb2]
        rw [e]
        exact t1 ρ1 G1 H1 S1 (Ext.refl _ _ _ _) z rfl v d rv hd1
theorem snd_try (hB1 : Γ.gs = B.gs) (hB4 : Γ.pl = B.pl) (hB5 : Γ.xi = B.xi) {b a : Sm} {q i : Nat} (ih : SndS Γ B c b) : SndS Γ B c (.tryw b q i a) := by
  intro S k Z X g hkd hp
  refine ⟨fun st h => ?_, fun sts h => (by cases h)⟩
  obtain ⟨body, x, p1, n, y, p2, p3, p4, p5, p6, j, rfl, e1, h1, h2, h3, h4, h5, h6, h7, h8, h9⟩ := fTry_inv (show fTry B S q i a st (okB B b S) = true from h)
  simp only [SC.glb, Bool.and_eq_true] at h3
  rw [← hB1] at h1
  rw [← hB4, ← hB5] at h2
  obtain ⟨C, f1⟩ := g.fns.gl _ _ h1
  have hk : X.env.kindOf n = some .local := by show X.env.scope.names.lookup n = _; rw [g.sc]; exact h5
  have hv : Vis X.env.scope n := .inl hk
  obtain ⟨l1, l2⟩ := g.loc h8
  have P := ps_try_own (X := X) (i := i) (np := p1) (pos := p6) (pos' := p5) (c := .ref C) (tb := fun W => tS Γ W (sx c b)) (ts := tAsg (tVar i) (gName j)) (Wout := Z) (body := body) (b₀ := .Assign [.Name y p2] (.Name n p3) p4) (suite := [])
    hkd.stk hkd.frm (by rw [g.N]; exact g.nd) (g.ix h4) hk (x := x) ⟨g.gl h3.1, (nodbg_ok h3.2).1, .inl (by rw [g.mg]; exact f1)⟩ g.tk
    (fun W pn xe tk po => ((ih S k W (X.tr pn xe) ⟨g.P, g.w, g.K, g.mg, g.base, g.N, g.nd, g.sc, g.fn, g.calm, g.rm, tk, g.fns, g.gd, g.lam⟩ ⟨hkd.kd, hkd.stk, hkd.frm⟩ po).2 body h9))
    (fun a pn => pss_one (ps_set (X := suiteX X a pn) (by rw [show (suiteX X a pn).N = X.N from rfl, g.N]; exact g.nd) (g.ix h7) l1 (pe_var (g.ix h4) hv (nodbg_ok h6).1 (nodbg_ok h6).2) rfl l2))
  refine PS.imp P fun D σ H t => ?_
  obtain ⟨ν, η, ρ, G, Sm, T, t⟩ := t
  refine ⟨ν, η, ρ, G, Sm, T, ?_⟩
  simp only [sx] at t
  cases eb : sx c b ν η with
  | nx ν' η' => rw [eb] at t; exact t
  | brk ν' η' => rw [eb] at t; exact t
  | cnt ν' η' => rw [eb] at t; exact t
  | ret w η' => rw [eb] at t; exact t
  | bad => rw [eb] at t; exact t
  | exc e ν' η' =>
    rw [eb] at t
    cases e <;> first | exact FinS.badE t | skip
    rename_i c0 fs
    simp only [e1, true_and] at t
    by_cases hl : i < ν'.length
    case neg => rw [if_neg hl] at t; exact FinS.badE t
    rw [if_pos hl] at t
    have main : ∀ (C0 : Addr) (x0 : Str) (d : Option Addr) (σ' : L2.St) (ρ' : Rho) (G' H' : Hp), isX Γ c0 → Γ.gs[c0]? = some x0 → Γ.mg x0 = some (.ref C0) → Sim Γ ρ' G' η' H' → Ext ρ G η H ρ' G' η' H' → Slots Γ G' ρ' ν' σ' → RepX Γ G' (.exc c0 fs) (.ref C0) d →
        (∀ ad, H' ad = none → RepW Γ (grow G' H' (upd H' ad (EX (.ref C0) d ad))) ρ' (.d (.exc c0 fs)) (.ref ad)) → wAsT X.K (.ref C) i (tAsg (tVar i) (gName j)) Z D (.ref C0) d σ' H' := fun C0 x0 d σ' ρ' G' H' hx k1 k2 S' E' T' rx rr => by
      refine ⟨c.sub c0 q, by rw [g.K]; exact g.fns.fx.exm _ _ _ _ _ _ hx h2 k1 h1 k2 f1, fun hb ad hn => ?_, fun hb => ?_⟩
      · rw [hb] at t
        simp only [if_true] at t
        have hi : i < σ'.length := by
          rw [← T'.1]
          exact hl
        refine ⟨.ref ad, by rw [List.getElem?_set_self hi], ?_⟩
        have sm := same_upd (o := EX (.ref C0) d ad) hn
        have rr := rr ad hn
        exact t _ ρ' _ _ (S'.grow sm) (E'.trans (Ext.grow S' sm)) ((((T'.mono (grow_same S'.same) (fun _ _ h => h)).set rr).set rr).unset)
      · rw [hb] at t
        simp only [Bool.false_eq_true, if_false] at t
        exact t _ _ σ' ρ' G' H' S' E' T' rx
    intro cls d σ' ρ' G' H' S' E' T' rx
    rcases fs with _ | ⟨⟨f, yv⟩, _ | ⟨fz, fs⟩⟩
    · have rx' := rx
      obtain ⟨k0, x0, C0, k1, k2, rfl, rfl⟩ := rx
      exact main C0 x0 none σ' ρ' G' H' (.inl k0) k1 k2 S' E' T' rx' fun ad hn => Rep.exc k0 k1 k2 (.inl (grow_up hn ex_ne_tbl))
    · have rx' := rx
      obtain ⟨k0, x0, C0, dd, v, k1, k2, rfl, rfl, k3, k4⟩ := rx
      exact main C0 x0 (some dd) σ' ρ' G' H' (.inr ⟨f, k0⟩) k1 k2 S' E' T' rx' fun ad hn => Rep.excF k0 k1 k2 (grow_up hn ex_ne_tbl) (grow_same S'.same _ _ k3) (Rep.mono (grow_same S'.same) k4)
    · exact False.elim rx
theorem fPar_inv {is : List Nat} {st : Stmt} {kk : List Expr → Bool} (h : fPar S is st kk = true) :
    (∃ i j x y px py a b j1 p1 j2 p2 p3, is = [i, j] ∧ st = .Assign [.Tuple [.Name x px, .Name y py] j1 p1] (.Tuple [a, b] j2 p2) p3 ∧ i ≠ j ∧ (S.N[i]? == some x) = true ∧ S.loc x = true ∧ (S.N[j]? == some y) = true ∧ S.loc y = true ∧ swOk S [.Name x px, .Name y py] [a, b] = true ∧ kk [a, b] = true) ∨
    (∃ i j l x y z px py pz a b d j1 p1 j2 p2 p3, is = [i, j, l] ∧ st = .Assign [.Tuple [.Name x px, .Name y py, .Name z pz] j1 p1] (.Tuple [a, b, d] j2 p2) p3 ∧ i ≠ j ∧ i ≠ l ∧ j ≠ l ∧ (S.N[i]? == some x) = true ∧ S.loc x = true ∧ (S.N[j]? == some y) = true ∧ S.loc y = true ∧ (S.N[l]? == some z) = true ∧ S.loc z = true ∧ swOk S [.Name x px, .Name y py, .Name z pz] [a, b, d] = true ∧ kk [a, b, d] = true) := by
  unfold fPar at h
  split at h
  · rename_i x y j1 p1 vs j2 p2 p3
    split at h
    · rename_i i j
      simp only [Bool.and_eq_true, decide_eq_true_eq] at h
      obtain ⟨⟨⟨⟨⟨h1, h2⟩, h3⟩, h4⟩, h5⟩, h6⟩ := h
      obtain ⟨x, px, rfl, q1, q2⟩ := fPv_inv h2
      obtain ⟨y, py, rfl, q3, q4⟩ := fPv_inv h3
      rcases vs with _ | ⟨a, _ | ⟨b, _ | ⟨d, vs⟩⟩⟩ <;> first | (simp at h5; done) | skip
      exact .inl ⟨_, _, _, _, _, _, _, _, _, _, _, _, _, rfl, rfl, h1, q1, q2, q3, q4, h4, h6⟩
    · cases h
  · rename_i x y z j1 p1 vs j2 p2 p3
    split at h
    · rename_i i j l
      simp only [Bool.and_eq_true, decide_eq_true_eq] at h
      obtain ⟨⟨⟨⟨⟨⟨⟨⟨h1, h1b⟩, h1c⟩, h2⟩, h3⟩, h3b⟩, h4⟩, h5⟩, h6⟩ := h
      obtain ⟨x, px, rfl, q1, q2⟩ := fPv_inv h2
      obtain ⟨y, py, rfl, q3, q4⟩ := fPv_inv h3
      obtain ⟨z, pz, rfl, q5, q6⟩ := fPv_inv h3b
      rcases vs with _ | ⟨a, _ | ⟨b, _ | ⟨d, _ | ⟨e, vs⟩⟩⟩⟩ <;> first | (simp at h5; done) | skip
      exact .inr ⟨_, _, _, _, _, _, _, _, _, _, _, _, _, _, _, _, _, rfl, rfl, h1, h1b, h1c, q1, q2, q3, q4, q5, q6, h4, h6⟩
    · cases h
  · cases h
theorem Slots.setLs {G : Hp} {ρ : Rho} : ∀ {is : List Nat} {ws : List W} {vs : List V} {ν ν' : List (Option W)} {σ : L2.St}, Slots Γ G ρ ν σ → RepWs Γ G ρ ws vs → Ip.setL is ws ν = some ν' → Slots Γ G ρ ν' ((is.zip vs).foldl (fun s p => s.set p.1 (some p.2)) σ)
  | [], [], _, ν, ν', σ, T, .nil, h => by cases h; exact T
  | i :: is, w :: ws, _, ν, ν', σ, T, .cons r rs, h => Slots.setLs (is := is) (ws := ws) (T.set r) rs h
  | [], _ :: _, _, _, _, _, _, .cons _ _, h => by cases h
  | _ :: _, [], _, _, _, _, _, .nil, h => by cases h
/-- several stores, read -/
theorem par_read {is : List Nat} {es : Ex} {D : Ends} {σ : L2.St} {H : Hp} {Q : List V → Hp → Prop} (hq : ∀ (vs : List V) (H1 : Hp) (G1 : Hp), Same G1 H1 → vs.length = is.length → (∀ H2, Same H1 H2 → D.nx ((is.zip vs).foldl (fun s p => s.set p.1 (some p.2)) σ) H2) → Q vs H1)
    (t : tS Γ Z (sx c (.par is es)) D σ H) : tA Γ Z (evl c es) σ H Q := by
  obtain ⟨ν, η, ρ, G, Sm, T, t⟩ := t
  refine ⟨ν, η, ρ, G, Sm, T, FinS.ofE T (show FinS Γ Z D ρ G η H (O.ofE ν (evl c es ν η) fun ws h' => match setL is ws ν with
    | some ν' => .nx ν' h'
    | none => .bad) from t) _ fun ws ρ1 G1 η1 H1 S1 E1 h1 vs rs => ?_⟩
  cases e : setL is ws ν with
  | none => rw [e] at h1; exact FinS.badE h1
  | some ν' =>
    rw [e] at h1
    have hl : ∀ {is : List Nat} {ws : List W} {ν ν' : List (Option W)}, setL is ws ν = some ν' → ws.length = is.length := fun {is} => by
      induction is with
      | nil => intro ws ν ν' h; cases ws with
        | nil => rfl
        | cons _ _ => cases h
      | cons i is ih => intro ws ν ν' h; cases ws with
        | nil => cases h
        | cons w ws => simp [ih h]
    refine hq vs H1 G1 S1.same (by rw [rs.length, hl e]) fun H2 sm => ?_
    exact h1 _ ρ1 (grow G1 H1 H2) H2 (S1.grow sm) (Ext.grow S1 sm) (((T.mono E1.same E1.rho).mono (grow_same S1.same) (fun _ _ h => h)).setLs (rs.mono (grow_same S1.same) (fun _ _ h => h)) e)
theorem snd_par (hE : ∀ x, SndE Γ B c x) {is : List Nat} {es : Ex} : SndS Γ B c (.par is es) := by
  intro S k Z X g hkd hp
  refine ⟨fun st h => ?_, fun sts h => (by cases h)⟩
  have hbk : X.env.blockKind = .function := by unfold Env.blockKind; rw [hkd.kd]; rfl
  have hks : ∀ x, X.env.kindOf x = S.knd x := fun x => by show X.env.scope.names.lookup x = _; rw [g.sc]; rfl
  have nd : X.N.Nodup := by rw [g.N]; exact g.nd
  have loc1 : ∀ {x : Str}, (S.knd x == some .local) = true → X.env.scope.names.lookup x = some .local := fun {x} h => by
    have := hks x
    rw [beq_iff_eq.mp h] at this
    exact this
  rcases fPar_inv (show fPar S is st (okL B es S) = true from h) with ⟨i, j, x, y, px, py, a, b, j1, p1, j2, p2, p3, rfl, rfl, hij, h1, h2, h3, h4, h5, h6⟩ | ⟨i, j, l, x, y, z, px, py, pz, a, b, d, j1, p1, j2, p2, p3, rfl, rfl, hij, hil, hjl, h1, h2, h3, h4, h7, h8, h5, h6⟩
  · have A := (hE es S k Z X g).2.1 _ h6
    have st := A.stars
    simp only [List.all_cons, List.all_nil, Bool.and_eq_true, Bool.and_true] at st
    unfold swOk at h5
    cases e : swp S [.Name x px, .Name y py] [a, b] with
    | none => rw [e] at h5; cases h5
    | some r =>
      have hw := swp_ok (j1 := j1) (p1 := p1) (j2 := j2) (p2 := p2) hbk hks e
      cases r with
      | none =>
        obtain ⟨l1, l2⟩ := g.loc h2
        obtain ⟨l3, l4⟩ := g.loc h4
        have P := ps_asg (pos := p3) (pe_tup A.pa) (pg_tup (X := X) (k := j1) (pos := p1) (n := 2) g.calm (pgs_cons (pg_name (pos := px) nd (g.ix h1) l1 l2) (pgs_cons (pg_name (pos := py) nd (g.ix h3) l3 l4) pgs_nil))) (by rfl) hw
        refine PS.imp P fun D σ H t => ?_
        refine par_read (fun vs H1 G1 sm hl q => ?_) t
        rcases vs with _ | ⟨v1, _ | ⟨v2, _ | ⟨v3, vs⟩⟩⟩ <;> first | (simp at hl; done) | skip
        exact ⟨by rw [hsz]; simp only [List.length_cons, List.length_nil]; decide, fun p hp => ⟨p, _, rfl, SqT.of (upd_same), rfl, _, _, rfl, _, _, rfl, rfl, q _ (same_upd hp)⟩⟩
      | some ns =>
        rw [e] at h5
        simp only [Bool.and_eq_true, decide_eq_true_eq, List.all_cons, List.all_nil, Bool.and_true, isLocN] at h5
        obtain ⟨hns, hx, hy⟩ := h5
        subst hns
        have P := ps_par (pos := p3) (px := px) (py := py) (kt := j1) (pt := p1) (k2 := j2) (pt2 := p2) g.calm nd (g.ix h1) (g.ix h3) hij (loc1 hx) (loc1 hy) A.pa hw
        refine PS.imp P fun D σ H t => ?_
        refine par_read (fun vs H1 G1 sm hl q => ?_) t
        rcases vs with _ | ⟨v1, _ | ⟨v2, _ | ⟨v3, vs⟩⟩⟩ <;> first | (simp at hl; done) | skip
        exact ⟨v1, v2, rfl, q _ (Same.refl _)⟩
  · have A := (hE es S k Z X g).2.1 _ h6
    unfold swOk at h5
    cases e : swp S [.Name x px, .Name y py, .Name z pz] [a, b, d] with
    | none => rw [e] at h5; cases h5
    | some r =>
      have hw := swp_ok (j1 := j1) (p1 := p1) (j2 := j2) (p2 := p2) hbk hks e
      cases r with
      | none =>
        obtain ⟨l1, l2⟩ := g.loc h2
        obtain ⟨l3, l4⟩ := g.loc h4
        obtain ⟨l5, l6⟩ := g.loc h8
        have P := ps_asg (pos := p3) (pe_tup A.pa) (pg_tup (X := X) (k := j1) (pos := p1) (n := 3) g.calm (pgs_cons (pg_name (pos := px) nd (g.ix h1) l1 l2) (pgs_cons (pg_name (pos := py) nd (g.ix h3) l3 l4) (pgs_cons (pg_name (pos := pz) nd (g.ix h7) l5 l6) pgs_nil)))) (by rfl) hw
        refine PS.imp P fun D σ H t => ?_
        refine par_read (fun vs H1 G1 sm hl q => ?_) t
        rcases vs with _ | ⟨v1, _ | ⟨v2, _ | ⟨v3, _ | ⟨v4, vs⟩⟩⟩⟩ <;> first | (simp at hl; done) | skip
        exact ⟨by rw [hsz]; simp only [List.length_cons, List.length_nil]; decide, fun p hp => ⟨p, _, rfl, SqT.of (upd_same), rfl, _, _, rfl, _, _, rfl, _, _, rfl, rfl, q _ (same_upd hp)⟩⟩
      | some ns =>
        rw [e] at h5
        simp only [Bool.and_eq_true, decide_eq_true_eq, List.all_cons, List.all_nil, Bool.and_true, isLocN] at h5
        obtain ⟨hns, hx, hy, hz⟩ := h5
        subst hns
        have P := ps_par3 (pos := p3) (px := px) (py := py) (pz := pz) (kt := j1) (pt := p1) (k2 := j2) (pt2 := p2) g.calm nd (g.ix h1) (g.ix h3) (g.ix h7) hij hil hjl (loc1 hx) (loc1 hy) (loc1 hz) A.pa hw
        refine PS.imp P fun D σ H t => ?_
        refine par_read (fun vs H1 G1 sm hl q => ?_) t
        rcases vs with _ | ⟨v1, _ | ⟨v2, _ | ⟨v3, _ | ⟨v4, vs⟩⟩⟩⟩ <;> first | (simp at hl; done) | skip
        exact ⟨v1, v2, v3, rfl, q _ (Same.refl _)⟩
end
end Ip

set_option Elab.async false
set_option linter.all false
set_option maxRecDepth 100000
set_option maxHeartbeats 400000
/-! IpLoop: for, while. -/
namespace Ip
open PySem PySem.Spec PyProof.Rows L2
section
variable {Γ : Env} {B : Tb} {c : Cfg} {S : SC} {k : Nat} {Z : WX} {X : Cx}
theorem fFor_inv {ik : Ik} {pt : Pt} {st : Stmt} {kI : List Expr → Bool} {kb : List Stmt → Bool} (h : fFor S ik pt st kI kb = true) : ∃ tg iter body pos, st = .For tg iter body [] pos ∧ okP S pt tg = true ∧ fIt S ik tg iter kI = true ∧ kb body = true := by
  unfold fFor at h
  split at h
  · simp only [Bool.and_eq_true] at h
    exact ⟨_, _, _, _, rfl, h.1.1, h.1.2, h.2⟩
  · cases h
theorem fWhl_inv {st : Stmt} {k1 : Expr → Bool} {kb : List Stmt → Bool} (h : fWhl st k1 kb = true) : ∃ t body pos, st = .While t body [] pos ∧ k1 t = true ∧ kb body = true := by
  unfold fWhl at h
  split at h
  · simp only [Bool.and_eq_true] at h
    exact ⟨_, _, _, rfl, h.1, h.2⟩
  · cases h
theorem loopS_nil {ik : Ik} {ws : List W} {sn : Snap} {f : W → List (Option W) → Hv → O} {ν : List (Option W)} {h : Hv} : loopS ik ws sn f [] ν h = if snap ik ws h = some sn then .nx ν h else .bad := rfl
theorem loopS_cons {ik : Ik} {ws : List W} {sn : Snap} {f : W → List (Option W) → Hv → O} {x : W} {xs : List W} {ν : List (Option W)} {h : Hv} : loopS ik ws sn f (x :: xs) ν h = if snap ik ws h = some sn then (match f x ν h with
    | .nx ν' h' => loopS ik ws sn f xs ν' h'
    | .cnt ν' h' => loopS ik ws sn f xs ν' h'
    | .brk ν' h' => .nx ν' h'
    | o => o) else .bad := rfl
/-- the evaluator's turn of a for -/
def turnS (c : Cfg) (pt : Pt) (b : Sm) : W → List (Option W) → Hv → O := fun x ν h => match bindP pt x ν with
  | some ν' => sx c b ν' h
  | none => .bad
theorem snd_for (hE : ∀ x, SndE Γ B c x) {ik : Ik} {pt : Pt} {it : Ex} {b : Sm} (ihb : SndS Γ B c b) : SndS Γ B c (.forr ik pt it b) := by
  intro S k Z X g hkd hp
  refine ⟨fun st h => ?_, fun sts h => (by cases h)⟩
  obtain ⟨tg, iter, body, pos, rfl, h1, h2, h3⟩ := fFor_inv (show fFor S ik pt st (okL B it S) (okB B b S) = true from h)
  obtain ⟨p1, p2⟩ := it_ok g (hE it S k Z X g).2.1 h2
  refine PS.imp (ps_for hp g.calm p1 (pg_ok g h1) ((ihb S k Z X g hkd hp).2 _ h3) p2) fun D σ H t => ?_
  obtain ⟨ν, η, ρ, G, S0, T0, t⟩ := t
  refine ⟨ν, η, ρ, G, S0, T0, ?_⟩
  have t : FinS Γ Z D ρ G η H (O.ofE ν (itM ik (evl c it) ν η) fun q h' => loopS ik q.1 q.2.1 (turnS c pt b) q.2.2 ν h') := t
  have key : ∀ (q : List W × Snap × List W) (ρ1 : Rho) (G1 : Hp) (η1 : Hv) (H1 : Hp), Sim Γ ρ1 G1 η1 H1 → Slots Γ G1 ρ1 ν σ → FinS Γ Z D ρ1 G1 η1 H1 (loopS ik q.1 q.2.1 (turnS c pt b) q.2.2 ν η1) →
      ∀ vs, RepWs Γ G1 ρ1 q.1 vs → CS Γ vs q.2.1 G1 ρ1 H1 → ∀ J, Wlk Γ (CS Γ vs q.2.1) q.2.2 J → ∃ W : Nat → Nat → L2.St → Hp → Prop, (∃ m, W 0 m σ H1) ∧ ∀ i m σ H, W i m σ H →
        (J.stop i H ∧ D.nx σ H) ∨ (J.go i H ∧ ∃ N : L2.St → Hp → Prop, (∀ σ' H', N σ' H' → ∃ m', m' < m ∧ W (i + 1) m' σ' H') ∧ ∀ x H', J.yld i H x H' → gB Γ pt x σ H' fun σ2 H2 => tS Γ Z (sx c b) { D with nx := N, ct := N, bk := D.nx } σ2 H2) := by
    rintro ⟨ws, sn, its⟩ ρ1 G1 η1 H1 S1 T1 t1 vs ru cs J hJ
    simp only at t1 ru cs hJ
    refine ⟨fun i m σ H => m = its.length - i ∧ i ≤ its.length ∧ ∃ ν' η' ρ' G', Sim Γ ρ' G' η' H ∧ Slots Γ G' ρ' ν' σ ∧ Ext ρ1 G1 η1 H1 ρ' G' η' H ∧ FinS Γ Z D ρ' G' η' H (loopS ik ws sn (turnS c pt b) (its.drop i) ν' η'), ⟨its.length, by simp, Nat.zero_le _, ν, η1, ρ1, G1, S1, T1, Ext.refl _ _ _ _, by rw [List.drop_zero]; exact t1⟩, ?_⟩
    rintro i m σ' H' ⟨rfl, hi, ν', η', ρ', G', S', T', E', t'⟩
    have rus : RepWs Γ G' ρ' ws vs := ru.mono E'.same E'.rho
    by_cases hlt : i < its.length
    · rw [List.drop_eq_getElem_cons hlt, loopS_cons] at t'
      by_cases hsn : snap ik ws η' = some sn
      · rw [if_pos hsn] at t'
        have cs' := snap_ok S' rus hsn
        refine .inr ⟨hJ.goes i G' ρ' H' hlt S'.same cs', _, fun σ'' H'' w => ⟨its.length - (i + 1), by omega, w⟩, fun x H2 y => ?_⟩
        obtain ⟨w, hw, sm, rw_⟩ := hJ.yields i G' ρ' H' x H2 hlt S'.same cs' y
        have ew : w = its[i] := by simpa [hlt] using hw.symm
        subst ew
        have S2 := S'.grow sm
        have E2 := Ext.grow S' sm
        have T2 := T'.mono E2.same E2.rho
        unfold turnS at t'
        cases eb : bindP pt its[i] ν' with
        | none => rw [eb] at t'; exact FinS.badE t'
        | some ν2 =>
          rw [eb] at t'
          simp only at t'
          refine ⟨ν', ρ', _, its[i], ν2, T2, S2.same, rw_, eb, fun σ2 _ _ T3 => ⟨ν2, η', ρ', _, S2, T3, ?_⟩⟩
          have t3 := FinS.step E2 t'
          cases e : sx c b ν2 η' with
          | nx ν3 η3 =>
            rw [e] at t3
            exact fun σ3 ρ3 G3 H3 S3 E3 T4 => ⟨rfl, hlt, ν3, η3, ρ3, G3, S3, T4, E'.trans (E2.trans E3), FinS.step E3 t3⟩
          | cnt ν3 η3 =>
            rw [e] at t3
            exact fun σ3 ρ3 G3 H3 S3 E3 T4 => ⟨rfl, hlt, ν3, η3, ρ3, G3, S3, T4, E'.trans (E2.trans E3), FinS.step E3 t3⟩
          | brk ν3 η3 => rw [e] at t3; exact t3
          | ret w3 η3 => rw [e] at t3; exact t3
          | exc x3 ν3 η3 => rw [e] at t3; exact t3
          | bad => rw [e] at t3; exact FinS.badE t3
      · rw [if_neg hsn] at t'
        exact FinS.badE t'
    · have ei : i = its.length := by omega
      subst ei
      rw [List.drop_length, loopS_nil] at t'
      by_cases hsn : snap ik ws η' = some sn
      · rw [if_pos hsn] at t'
        exact .inl ⟨hJ.stops G' ρ' H' S'.same (snap_ok S' rus hsn), t' σ' ρ' G' H' S' (Ext.refl _ _ _ _) T'⟩
      · rw [if_neg hsn] at t'
        exact FinS.badE t'
  cases e : itM ik (evl c it) ν η with
  | ok q η1 =>
    rw [e] at t
    exact fun ρ1 G1 H1 S1 E1 vs ru cs J hJ => key q ρ1 G1 η1 H1 S1 (T0.mono E1.same E1.rho) (FinS.step E1 t) vs ru cs J hJ
  | exc x η1 =>
    rw [e] at t
    exact fun cls d ρ' G' H' S' E' r => t cls d σ ρ' G' H' S' E' (T0.mono E'.same E'.rho) r
  | bad => rw [e] at t; exact FinS.badE t
theorem snd_whl (hE : ∀ x, SndE Γ B c x) {t : Ex} {b : Sm} (ihb : SndS Γ B c b) : SndS Γ B c (.whl t b) := by
  intro S k Z X g hkd hp
  refine ⟨fun st h => ?_, fun sts h => (by cases h)⟩
  obtain ⟨te, body, pos, rfl, h1, h2⟩ := fWhl_inv (show fWhl st (okE B t S) (okB B b S) = true from h)
  refine PS.imp (ps_while hp ((hE t S k Z X g).1 _ h1).2 ((ihb S k Z X g hkd hp).2 _ h2)) fun D σ H q => ?_
  obtain ⟨ν, η, ρ, G, S0, T0, q⟩ := q
  refine ⟨fun m σ H => ∃ ν η ρ G, Sim Γ ρ G η H ∧ Slots Γ G ρ ν σ ∧ FinS Γ Z D ρ G η H (loopW (ev c t) (sx c b) m ν η), ⟨c.fuel, ν, η, ρ, G, S0, T0, q⟩, ?_⟩
  rintro m σ1 H1 ⟨ν1, η1, ρ1, G1, S1, T1, q1⟩
  cases m with
  | zero => exact FinS.badE q1
  | succ m =>
    refine ⟨ν1, η1, ρ1, G1, S1, T1, FinS.ofE T1 (show FinS Γ Z D ρ1 G1 η1 H1 (O.ofE ν1 (ev c t ν1 η1) fun w h' => match w with
      | .d (.bl true) => (match sx c b ν1 h' with
        | .nx ν' h'' => loopW (ev c t) (sx c b) m ν' h''
        | .cnt ν' h'' => loopW (ev c t) (sx c b) m ν' h''
        | .brk ν' h'' => .nx ν' h''
        | o => o)
      | .d (.bl false) => .nx ν1 h'
      | _ => .bad) from q1) _ fun w ρ2 G2 η2 H2 S2 E2 q2 => ?_⟩
    have T2 := T1.mono E2.same E2.rho
    rcases w with d | n | ⟨l, cs⟩
    · cases d <;> first | exact FinS.badE q2 | skip
      rename_i kk
      refine ⟨kk, rfl, ?_⟩
      cases kk with
      | false => exact q2 σ1 ρ2 G2 H2 S2 (Ext.refl _ _ _ _) T2
      | true =>
        rw [if_pos rfl]
        simp only at q2
        refine ⟨fun σ' H' => ∃ ν η ρ G, Sim Γ ρ G η H' ∧ Slots Γ G ρ ν σ' ∧ FinS Γ Z D ρ G η H' (loopW (ev c t) (sx c b) m ν η), fun σ' H' w => ⟨m, Nat.lt_succ_self m, w⟩, ν1, η2, ρ2, G2, S2, T2, ?_⟩
        cases e : sx c b ν1 η2 with
        | nx ν3 η3 =>
          rw [e] at q2
          exact fun σ3 ρ3 G3 H3 S3 E3 T4 => ⟨ν3, η3, ρ3, G3, S3, T4, FinS.step E3 q2⟩
        | cnt ν3 η3 =>
          rw [e] at q2
          exact fun σ3 ρ3 G3 H3 S3 E3 T4 => ⟨ν3, η3, ρ3, G3, S3, T4, FinS.step E3 q2⟩
        | brk ν3 η3 => rw [e] at q2; exact q2
        | ret w3 η3 => rw [e] at q2; exact q2
        | exc x3 ν3 η3 => rw [e] at q2; exact q2
        | bad => rw [e] at q2; exact FinS.badE q2
    · exact FinS.badE q2
    · exact FinS.badE q2
end
end Ip

set_option Elab.async false
set_option linter.all false
set_option maxRecDepth 100000
set_option maxHeartbeats 2000000
/-! IpLcI: a list comprehension whose tests and element may lean on what is known where its block begins. -/
namespace Ip
open PySem PySem.Spec PyProof.Rows L2
section
variable {X : Cx}
theorem lc_coreI {pins : List (Addr × Obj)} {s : Shared} {σ : L2.St} {H : Hp} {Q : VK} {elt tg iter : Expr} {ifs : List Expr} {scope : Scope} {own : List (Str × Nat)} {pos pos' : Pos} {wi : TI} {g : TG} {tt : TT} {te : TE} {use : Option (Value → Sem Unit)} {Qf : Value → Shared → Prop}
    (hc : X.calm = true) (hN : X.N.Nodup) (I : Inv X pins σ H s) (hi : PI X tg iter wi) (ok : BlkOk X.N X.env.scope scope own)
    (hg : ∀ (s : Shared) (H : Hp) (C : Addr) (cl : List (Str × Addr)) (fp : List Addr), PG (X.blk s H scope (compEnvC scope cl C X.env) fp) tg g) (ht : ∀ (s : Shared) (H : Hp) (C : Addr) (cl : List (Str × Addr)) (fp : List Addr), Inv X pins σ H s → (∀ b ∈ fp, FpOk X pins H b) → PTs (X.blk s H scope (compEnvC scope cl C X.env) fp) ifs tt)
    (he : ∀ (s : Shared) (H : Hp) (C : Addr) (cl : List (Str × Addr)) (fp : List Addr), Inv X pins σ H s → (∀ b ∈ fp, FpOk X pins H b) → PE (X.blk s H scope (compEnvC scope cl C X.env) fp) elt te) (hs : ∀ x, foldedSetIterable iter X.env x = pure x)
    (h : tLc wi g tt te (own.map (·.2)) σ H Q)
    (hRR : ∀ D C s' m H', Inv X pins σ H' s' → Q (.ref D) H' → s'.heap.Ns C m → FpOk X pins H' C → compPost (model X.prog X.w) X.A X.xe use Qf (.ref D) C (.ok .next) s') :
    wpAny (model X.prog X.w) X.A (comprehension (.ListComp elt [⟨tg, iter, ifs, 0⟩] scope pos) scope X.env pos' (newList []) false (eval iter X.env) use) Qf X.xe s := by
  have hfree : ∀ y ∈ scope.names, y.2 = .free → ∃ c, X.env.cells.lookup y.1 = some c := fun y hy e => by
    rcases ok.free y hy e with k | k
    · exact I.ok.has _ (.inl k)
    · exact I.ok.has _ (.inr k)
  refine wpAny_comprehension_free (use := use) rfl hs (closure_ok hfree) ok.kind (fun y hy e => by rw [ok.uniq y hy, e])
    (thn (hi.run pins s σ H _ I h) fun xv s1 hx => thn hx fun itv s2 h2 => ?_)
  obtain ⟨it, fp, tn, J, H2, e, I2, T, st2, f2, q⟩ := h2
  subst e
  refine wpAny_newObj_type (newEnv_comp ?_) (by show 0 ≤ sizeLine; decide)
  generalize hD : s2.heap.objs.size = D
  have hDn : H2 D = none := I2.hok.fresh (Nat.le_of_eq hD)
  obtain ⟨W, ⟨m0, w0⟩, turn⟩ := q D hDn
  -- the new list
  generalize hs3 : ({ s2 with heap := s2.heap.push { cls := .type "list", data := .seq ([] : List Value).toArray } } : Shared) = s3
  have I3 : Inv X pins σ (upd H2 D (.lst [])) s3 := by
    rw [← hs3]
    refine I2.laid (t' := s2.toks) (fun b o e => Heap.get?_push_of_some _ e) (Nat.le_of_eq hD) ⟨Nat.zero_le _, [], 0, .nil, ?_⟩
    rw [← hD]
    exact Heap.get?_push_size _ rfl
  have h3 : s3.heap = s2.heap.push { cls := .type "list", data := .seq ([] : List Value).toArray } := by rw [← hs3]
  have sz : ∀ b ∈ fp, b < s2.heap.objs.size := fun b hb => by
    obtain ⟨o, e, _⟩ := T.obj _ _ st2 b hb
    exact Heap.lt_size e
  have f3 : ∀ b ∈ fp, FpOk X pins (upd H2 D (.lst [])) b ∧ b < s3.heap.objs.size := fun b hb => by
    have hlt := sz b hb
    refine ⟨⟨?_, (f2 b hb).2⟩, by rw [h3, Heap.size_push]; exact Nat.lt_succ_of_lt hlt⟩
    rw [upd_ne (by rw [← hD]; exact Nat.ne_of_lt hlt)]
    exact (f2 b hb).1
  have st3 : tn 0 s3.heap := T.keep _ _ _ st2 fun b _ o e => by rw [h3]; exact Heap.get?_push_of_some _ e
  have I4 := block_start I3 ok hN f3
  have pg := hg s3 (upd H2 D (.lst [])) s3.heap.objs.size (cellsFrom (s3.heap.objs.size + 1) scope.names (cloFrom X.env.cells scope.names [])) fp
  have pt := ht s3 (upd H2 D (.lst [])) s3.heap.objs.size (cellsFrom (s3.heap.objs.size + 1) scope.names (cloFrom X.env.cells scope.names [])) fp I3 (fun b hb => (f3 b hb).1)
  have pe := he s3 (upd H2 D (.lst [])) s3.heap.objs.size (cellsFrom (s3.heap.objs.size + 1) scope.names (cloFrom X.env.cells scope.names [])) fp I3 (fun b hb => (f3 b hb).1)
  show codeAny _ _ (.compStart (.ListComp elt [⟨tg, iter, ifs, 0⟩] scope pos) 0 (.ref it) (.ref D) (compEnvC scope (cellsFrom (s3.heap.objs.size + 1) scope.names (cloFrom X.env.cells scope.names [])) s3.heap.objs.size X.env)) (compPost (model X.prog X.w) X.A X.xe use Qf (.ref D) s3.heap.objs.size) { s3 with heap := pushCells (s3.heap.push { cls := .type "dict", data := .dict #[] }) scope.names }
  have nfp : ∀ b ∈ fp, (upd H2 D (.lst [])) b = none := fun b hb => (f3 b hb).1.1
  generalize hce : compEnvC scope (cellsFrom (s3.heap.objs.size + 1) scope.names (cloFrom X.env.cells scope.names [])) s3.heap.objs.size X.env = ce at I4 pg pt pe ⊢
  have cL : ce.locals = s3.heap.objs.size := by subst hce; rfl
  generalize hH3 : upd H2 D (.lst []) = H3 at I3 I4 pg pt pe w0 nfp f3
  generalize hs4 : ({ s3 with heap := pushCells (s3.heap.push { cls := .type "dict", data := .dict #[] }) scope.names } : Shared) = s4 at I4 ⊢
  have st4 : tn 0 s4.heap := T.keep _ _ _ st3 fun b _ o e => by rw [← hs4]; exact pushCells_keeps _ _ _ _ (Heap.get?_push_of_some _ e)
  have stat : ∀ {σ' : L2.St} {H' : Hp} {s' : Shared}, Inv (X.blk s3 H3 scope ce fp) [] σ' H' s' → (∀ b ∈ fp, H' b = none) → ∀ b ∈ fp, FpOk (X.blk s3 H3 scope ce fp) [] H' b := fun {σ' H' s'} I' hn b hb =>
    ⟨hn b hb, (I'.ok.exf b hb).1, I'.ok.exfs b hb, .inl hb, fun x c e => (I'.ok.exf b hb).2 x c e, fun p hp => absurd (show p ∈ ([] : List (Addr × Obj)) ++ [] from hp) (by simp)⟩
  have loop : codeAny (model X.prog X.w) X.A (.compLoop (.ListComp elt [⟨tg, iter, ifs, 0⟩] scope pos) 0 (.ref it) (.ref D) ce) (compPost (model X.prog X.w) X.A X.xe use Qf (.ref D) s3.heap.objs.size) s4 := by
    refine compLoop_any (fun n s' => ∃ i H', Inv (X.blk s3 H3 scope ce fp) [] (wipe σ (own.map (·.2))) H' s' ∧ tn i s'.heap ∧ (∀ b ∈ fp, H' b = none) ∧ W i n H') ?_ m0 ⟨0, H3, I4, st4, nfp, w0⟩
    rintro n s5 ⟨i, H5, I5, st5, n5, w5⟩
    rcases turn i n H5 w5 with ⟨stop, qq⟩ | ⟨go, Nx, hNx, step⟩
    · have td := T.done (X.blk s3 H3 scope ce fp) rfl rfl rfl hc i [] s5 _ H5 (fun _ _ => False) I5 (stat I5 n5) st5 stop
      refine thnF td fun r s6 ⟨hr, I6⟩ => ?_
      subst hr
      -- back in the def's context
      have I7 : Inv X pins σ H5 s6 := I3.call' (ch := fp) I6.os I6.base I6.hok I6.bare fun b hb => ⟨(f3 b hb).1.2.2.2.1, (f3 b hb).1.2.1, (f3 b hb).1.2.2.2.2.1, (f3 b hb).1.2.2.2.2.2⟩
      have nC : H5 s3.heap.objs.size = none := by
        have z : H5 ce.locals = none := I6.free
        rw [cL] at z
        exact z
      obtain ⟨m, hn, _⟩ := I6.loc
      have hn : s6.heap.Ns ce.locals m := hn
      rw [cL] at hn
      exact hRR D s3.heap.objs.size s6 m H5 I7 qq hn (I3.fpOk (Nat.le_refl _) nC)
    · have ti := T.item (X.blk s3 H3 scope ce fp) rfl rfl rfl hc i [] s5 _ H5 (fun _ _ => False) I5 (stat I5 n5) st5 go
      refine thnF ti fun r s6 ⟨u, hr, h6⟩ => ?_
      subst hr
      refine thnF h6 fun _ s7 ⟨x, H7, I7, r7, y7, st7, n7⟩ => ?_
      have I7' := I7.pinned (stat I7 n7) (T.obj _ _ st7)
      refine thnF (pg.run _ s7 _ H7 x u _ I7' r7 (step x H7 y7)) fun _ s8 ⟨σ8, H8, I8, hw8, q8⟩ => ?_
      refine thnF (pt.run _ s8 σ8 H8 _ I8 q8) fun b s9 ⟨H9, I9, q9⟩ => ?_
      -- the turn's end
      have fin : ∀ {s' : Shared} {H' : Hp}, Inv (X.blk s3 H3 scope ce fp) ([] ++ pinsAt fp s7.heap) σ8 H' s' → Nx H' → ∃ m, m < n ∧ ∃ i H', Inv (X.blk s3 H3 scope ce fp) [] (wipe σ (own.map (·.2))) H' s' ∧ tn i s'.heap ∧ (∀ b ∈ fp, H' b = none) ∧ W i m H' := fun {s' H'} I' nx => by
        obtain ⟨m', hm, w'⟩ := hNx H' nx
        have pin' : ∀ b ∈ fp, ∀ o, s7.heap.get? b = some o → s'.heap.get? b = some o ∧ H' b = none := fun b hb o e =>
          let z := I'.pin (b, o) (List.mem_append_right _ (List.mem_append_right _ (mem_pinsAt hb e)))
          ⟨z.1, z.2.1⟩
        have hl : (wipe σ (own.map (·.2))).length = σ8.length := by rw [← hw8, wipe_length]
        refine ⟨m', hm, i + 1, H', (I'.unpinned (pins := [])).weak hl (fun j v e => ?_), T.keep _ _ _ st7 fun b hb o e => (pin' b hb o e).1, fun b hb => ?_, w'⟩
        · rw [← hw8] at e
          exact (wipe_some e).1
        · obtain ⟨o, e, _⟩ := T.obj _ _ st7 b hb
          exact (pin' b hb o e).2
      cases b with
      | false =>
        simp only [Bool.false_eq_true, if_false] at q9 ⊢
        exact fin I9 q9
      | true =>
        simp only [if_true] at q9 ⊢
        refine thnF (pe.run _ s9 σ8 H9 _ I9 q9) fun z s10 ⟨yv, H10, I10, r10, acc, hD10, hz10, nx⟩ => ?_
        exact app_ok (X := X.blk s3 H3 scope ce fp) I10 hD10 hz10 r10 fun s11 I11 => fin I11 nx
  exact codeAny_compStart_list loop (T.self X.A 0 _ _ _ st4 loop)
end
end Ip

set_option Elab.async false
set_option linter.all false
set_option maxRecDepth 100000
set_option maxHeartbeats 2000000
/-! IpWk: a list of lambdas that a comprehension runs through a def that catches. -/
namespace Ip
open PySem PySem.Spec PyProof.Rows L2 LamX
section
variable {Γ : Env} {B : Tb} {c : Cfg} {S : SC} {k : Nat} {Z : WX} {X : Cx} {pins : List (Addr × Obj)} {σ : L2.St} {H : Hp} {s : Shared}
abbrev noP : Arguments := ⟨[], [], none, [], [], none, []⟩
abbrev lamO (X : Cx) (body : Expr) (scope : Scope) (pm : Value) (c' : Addr) (ctv : Value) : Obj := PySem.W.kla_obj "<lambda>" (X.env.qual ++ "<lambda>") noP body scope (cloFrom X.env.cells scope.names []) pm c' ctv
def LamG (Γ : Env) (c : Cfg) (X : Cx) (k : Nat) (a : Ex) (body : Expr) (scope : Scope) : Prop :=
  LamS X.env.scope scope ∧ ∀ (A : Around) (outer : List PySem.Env) (s : Shared) (H : Hp) (E : XK) (f c' : Addr), A.guards = some [] → Room (k + 4) (A.deeper (lamEnv X scope s.heap.objs.size f c')) → PE (lamCx X A outer s H E scope f c') body (tI Γ (fun cls d _ H' => E cls d H') (ev c a))
theorem lam_pin {T : List (Addr × Str)} {ca P : Addr} {body : Expr} {scope : Scope} {pos : Pos} {E : Value → Shared → Prop} {Q : Value → Shared → Prop} (I : Inv X pins σ H s) (TB : TabB X.base X.mg ca P) (hcode : X.env.code = .ref ca)
    (hm : (P, X.env.qual ++ "<lambda>") ∈ T) (hu : ∀ p ∈ T, p.1 = P → p.2 = X.env.qual ++ "<lambda>") (hT : Tabs T H) (L : LamS X.env.scope scope)
    (h : ∀ (f c' : Addr) (pm ctv : Value) (H1 : Hp) (s' : Shared), Inv X (pins ++ [(f, lamO X body scope pm c' ctv)]) σ H1 s' → ExtT H H1 → Tabs T H1 → H1 c' = some (CodeO c' (X.env.qual ++ "<lambda>")) → Q (.ref f) s') :
    wpAny (model X.prog X.w) X.A (eval (.Lambda noP body scope pos) X.env) Q E s := by
  refine lam_make3 I TB hcode hm hu hT rfl (L.has I.ok) fun f c' pm ctv H1 s' I1 eN T1 hf hfn hfr hco hsz => h f c' pm ctv H1 s' ?_ eN T1 hco
  have z := I1.pinned (fp := [f]) (fun b hb => by
    have e : b = f := by simpa using hb
    subst e
    exact I.fpOk hsz hfn) (fun b hb => by
    have e : b = f := by simpa using hb
    subst e
    exact ⟨_, hf, fun v => by intro q; cases q⟩)
  have e : pinsAt [f] s'.heap = [(f, lamO X body scope pm c' ctv)] := by
    unfold pinsAt
    simp only [List.filterMap_cons, List.filterMap_nil, hf, Option.map_some]
  rw [e] at z
  exact z
/-- the lambdas that lie in the list -/
inductive WkS (Γ : Env) (c : Cfg) (X : Cx) (k : Nat) (pl : List (Addr × Obj)) (H : Hp) : List Ex → List V → Prop
  | nil : WkS Γ c X k pl H [] []
  | cons {a : Ex} {as : List Ex} {vs : List V} {f c' : Addr} {pm ctv : Value} {body : Expr} {scope : Scope} (h1 : (f, lamO X body scope pm c' ctv) ∈ pl) (h2 : H c' = some (CodeO c' (X.env.qual ++ "<lambda>"))) (h3 : LamG Γ c X k a body scope) (h4 : WkS Γ c X k pl H as vs) : WkS Γ c X k pl H (a :: as) (.ref f :: vs)
theorem WkS.mono {pl pl' : List (Addr × Obj)} {H H' : Hp} {as : List Ex} {vs : List V} (hp : ∀ p ∈ pl, p ∈ pl') (hE : ∀ b q, H b = some (CodeO b q) → H' b = some (CodeO b q)) (w : WkS Γ c X k pl H as vs) : WkS Γ c X k pl' H' as vs := by
  induction w with
  | nil => exact .nil
  | cons h1 h2 h3 _ ih => exact .cons (hp _ h1) (hE _ _ h2) h3 ih
theorem WkS.snoc {pl : List (Addr × Obj)} {as bs : List Ex} {vs us : List V} (w : WkS Γ c X k pl H as vs) (u : WkS Γ c X k pl H bs us) : WkS Γ c X k pl H (as ++ bs) (vs ++ us) := by
  induction w with
  | nil => exact u
  | cons h1 h2 h3 _ ih => exact .cons h1 h2 h3 ih
theorem WkS.at {pl : List (Addr × Obj)} {as : List Ex} {vs : List V} (w : WkS Γ c X k pl H as vs) : ∀ {i : Nat} {v : V}, vs[i]? = some v → ∃ a f c' pm ctv body scope, as[i]? = some a ∧ v = .ref f ∧ (f, lamO X body scope pm c' ctv) ∈ pl ∧ H c' = some (CodeO c' (X.env.qual ++ "<lambda>")) ∧ LamG Γ c X k a body scope := by
  induction w with
  | nil => intro i v h; simp at h
  | cons h1 h2 h3 _ ih =>
    intro i v h
    cases i with
    | zero =>
      simp at h
      subst h
      exact ⟨_, _, _, _, _, _, _, rfl, rfl, h1, h2, h3⟩
    | succ i =>
      obtain ⟨a, f, c', pm, ctv, body, scope, q⟩ := ih (i := i) (v := v) (by simpa using h)
      exact ⟨a, f, c', pm, ctv, body, scope, by simpa using q.1, q.2⟩
theorem WkS.len {pl : List (Addr × Obj)} {as : List Ex} {vs : List V} (w : WkS Γ c X k pl H as vs) : vs.length = as.length := by
  induction w with
  | nil => rfl
  | cons _ _ _ _ ih => simp [ih]
/-- the list so far -/
structure WkI (Γ : Env) (c : Cfg) (X : Cx) (k : Nat) (pins : List (Addr × Obj)) (ρ : Rho) (G : Hp) (η : Hv) (H0 : Hp) (L : Addr) (σ : L2.St) (as : List Ex) (pl : List (Addr × Obj)) (H : Hp) (vs : List V) (s : Shared) : Prop where
  I : Inv X (pins ++ pl) σ H s
  S : Sim Γ ρ G η H
  E : Ext ρ G η H0 ρ G η H
  l : Loose G η ρ L
  n : H0 L = none
  h : H L = some (.lst vs)
  w : WkS Γ c X k pl H as vs
theorem codeO_up {H : Hp} {L : Addr} {o : HO} {vs : List V} (hL : H L = none ∨ H L = some (.lst vs)) {b : Addr} {q : Str} (h : H b = some (CodeO b q)) : upd H L o b = some (CodeO b q) := by
  have : b ≠ L := fun e => by
    subst e
    rcases hL with z | z
    · rw [h] at z; cases z
    · rw [h] at z
      have z' : CodeO b q = .lst vs := Option.some.inj z
      unfold CodeO at z'
      cases z'
  rw [upd_ne this]; exact h
theorem codeO_ext {H H1 : Hp} (e : ExtT H H1) {b : Addr} {q : Str} (h : H b = some (CodeO b q)) : H1 b = some (CodeO b q) := e.1 b _ h codeO_ne
/-- name = [lambda: ..] -/
theorem wk_first (g : Gd Γ c S k Z X) {q : Str} (hq : S.lm = some q) {i : Nat} {x : Str} {px lp p2 pos : Pos} {a : Ex} {body : Expr} {scope : Scope} (hy : X.N[i]? = some x) (hl : S.loc x = true) {ρ : Rho} {G : Hp} {η : Hv} (I : Inv X pins σ H s) (Sm : Sim Γ ρ G η H) (hG : LamG Γ c X k a body scope) {R : Flow → Shared → Prop}
    (h : ∀ (L : Addr) (pl : List (Addr × Obj)) (H1 : Hp) (vs : List V) (s' : Shared), WkI Γ c X k pins ρ G η H L (σ.set i (some (.ref L))) [a] pl H1 vs s' → R .next s') :
    wpAny (model X.prog X.w) X.A (exec (.Assign [.Name x px] (.List [.Lambda noP body scope lp] p2) pos) X.env) R X.xe s := by
  obtain ⟨ca, P, l1, l2, l3, l4, l5⟩ := g.lam q hq
  obtain ⟨v1, v2⟩ := g.loc hl
  refine wpAny_Assign_Name (wpAny_List_spliced ?_) rfl
  show wpAny _ _ (spliced ((false, eval (.Lambda noP body scope lp) X.env) :: backTo p2 (starEach [] X.env))) _ _ s
  refine Calls.spliced_cons (lam_pin I l2 l1 (by rw [l3]; exact l4) (fun p hp he => (l5 p hp he).trans l3.symm) Sm.tab hG.1 fun f c' pm ctv H1 s1 I1 eN T1 hco => ?_)
  refine Calls.spliced_nil ⟨by show (1 : Nat) ≤ sizeLine; decide, ?_⟩
  obtain ⟨S1, E1⟩ := Sm.extT eN T1
  have hf : H1 s1.heap.objs.size = none := I1.hok.fresh (Nat.le_refl _)
  have lL : Loose G η ρ s1.heap.objs.size := ⟨S1.gnone hf, S1.notOwn hf⟩
  have I2 : Inv X (pins ++ [(f, lamO X body scope pm c' ctv)]) σ (upd H1 s1.heap.objs.size (.lst [.ref f])) { s1 with heap := s1.heap.push { cls := .type "list", data := .seq [Value.ref f].toArray }, toks := s1.toks } :=
    I1.laid (t' := s1.toks) (fun b u e => Heap.get?_push_of_some _ e) (Nat.le_refl _) ⟨by show (1 : Nat) ≤ sizeLine; decide, [.ref f], 0, .cons rfl .nil, Heap.get?_push_size _ rfl⟩
  have n0 : H s1.heap.objs.size = none := by
    cases e : H s1.heap.objs.size with
    | none => rfl
    | some o =>
      by_cases ht : ∃ ps, o = .tbl ps
      · obtain ⟨ps, rfl⟩ := ht
        obtain ⟨qs, z⟩ := eN.2 _ _ e
        rw [hf] at z; cases z
      · rw [eN.1 _ _ e fun ps z => ht ⟨ps, z⟩] at hf; cases hf
  refine store_ok (v := .ref s1.heap.objs.size) I2 (by rw [g.N]; exact g.nd) hy v1 rfl (fun s2 I3 => h s1.heap.objs.size _ _ [.ref f] s2 ⟨I3, S1.loose lL _ (fun u z => by rw [hf] at z; cases z), E1.loose n0 _, lL, n0, upd_same, ?_⟩) v2
  exact .cons (List.mem_singleton.mpr rfl) (codeO_up (vs := []) (.inl hf) hco) hG .nil
/-- name.append(lambda: ..) -/
theorem wk_more (g : Gd Γ c S k Z X) {q : Str} (hq : S.lm = some q) {i : Nat} {x : Str} {px lp ap cp pos : Pos} {a : Ex} {as : List Ex} {body : Expr} {scope : Scope} (hy : X.N[i]? = some x) (hv : S.vis x = true) (hd : nodbg x = true) (hline : (ap.endLine == cp.line) = true) {ρ : Rho} {G : Hp} {η : Hv} {H0 : Hp} {L : Addr} {pl : List (Addr × Obj)} {vs : List V}
    (K : WkI Γ c X k pins ρ G η H0 L σ as pl H vs s) (hσ : σ[i]? = some (some (.ref L))) (hz : vs.length < sizeLine) (hG : LamG Γ c X k a body scope) {R : Flow → Shared → Prop}
    (h : ∀ (pl : List (Addr × Obj)) (H1 : Hp) (vs1 : List V) (s' : Shared), WkI Γ c X k pins ρ G η H0 L σ (as ++ [a]) pl H1 vs1 s' → vs1.length = vs.length + 1 → R .next s') :
    wpAny (model X.prog X.w) X.A (exec (.Expr (.Call (.Attribute (.Name x px) "append" ap) [.Lambda noP body scope lp] [] cp) pos) X.env) R X.xe s := by
  obtain ⟨ca, P, l1, l2, l3, l4, l5⟩ := g.lam q hq
  refine wpAny_Expr_any ?_ K.I.quiet rfl
  refine wpAny_Call_method_late rfl rfl hline rfl (thn ((pe_var (pos := px) hy (g.vis hv) (nodbg_ok hd).1 (nodbg_ok hd).2).run (pins ++ pl) s σ H (fun v H1 => v = .ref L ∧ H1 = H) K.I ⟨.ref L, hσ, rfl, rfl⟩) fun u s1 ⟨v, H1, I1, r1, q1⟩ => ?_)
  obtain ⟨ev, eH⟩ := q1
  subst ev
  rw [eH] at I1
  obtain rfl : u = Value.ref L := r1
  obtain ⟨t1, t2⟩ := tyV_is (T := "list") (x := .ref L) (v := .ref L) I1 rfl (.inl ⟨rfl, vs, .inl (.inl K.h)⟩)
  refine ⟨"list", "list.append", PySem.F.plainAttrs_list, PySem.F.slot_list_append, PySem.F.type_list_append, t1, t2, ?_⟩
  refine Calls.callWith_builtin rfl (Calls.evalArgs_plain ?_)
  refine Calls.spliced_cons (lam_pin I1 l2 l1 (by rw [l3]; exact l4) (fun p hp he => (l5 p hp he).trans l3.symm) K.S.tab hG.1 fun f c' pm ctv H2 s2 I2 eN T2 hco => ?_)
  refine Calls.spliced_nil ?_
  obtain ⟨S2, E2⟩ := K.S.extT eN T2
  have hL : H2 L = some (.lst vs) := eN.1 _ _ K.h (fun ps z => by cases z)
  refine thn (mt_append (X := X) _ s2 σ H2 (.ref L) [.ref f] (.ref L) [.ref f] (fun _ H3 => H3 = upd H2 L (.lst (vs ++ [.ref f]))) I2 rfl (.cons rfl .nil) ⟨L, vs, .ref f, rfl, rfl, hL, hz, rfl⟩) fun u s3 ⟨v, H3, I3, r3, q3⟩ => ?_
  subst q3
  have E3 := K.E.trans E2
  refine h (pl ++ [(f, lamO X body scope pm c' ctv)]) _ (vs ++ [.ref f]) s3 ⟨by rw [List.append_assoc] at I3; exact I3, S2.loose K.l _ (fun u z => by rw [hL] at z; cases z; exact trivial), E3.loose K.n _, K.l, K.n, upd_same, ?_⟩ (by simp)
  refine WkS.snoc (K.w.mono (fun p hp => List.mem_append_left _ hp) fun b q hb => codeO_up (vs := vs) (.inr hL) (codeO_ext eN hb)) (.cons (List.mem_append_right _ (List.mem_singleton.mpr rfl)) (codeO_up (vs := vs) (.inr hL) hco) hG .nil)
/-- work(..) in the block: the def that catches runs the lambda that lies in the slot -/
def tWork (Γ : Env) (c : Cfg) (X : Cx) (k : Nat) (CS : Addr) (i : Nat) (σ0 : L2.St) : TE := fun σ H Q => ∃ (f c' : Addr) (pm ctv : Value) (body : Expr) (scope : Scope) (a : Ex), σ[i]? = some (some (.ref f)) ∧ (f, lamO X body scope pm c' ctv) ∈ X.pn ∧ H c' = some (CodeO c' (X.env.qual ++ "<lambda>")) ∧ LamG Γ c X k a body scope ∧
  TTc X.K CS (fun E H' Q' => tI Γ (fun cls d _ H' => E cls d H') (ev c a) σ0 H' Q') H Q
theorem pe_work {s3 : Shared} {H3 : Hp} {bsc : Scope} {cenv : PySem.Env} {fp : List Addr} {pl : List (Addr × Obj)} {σ0 : L2.St} {x wn vn : Str} {f0 CS : Addr} {pg : Arguments} {bg : List Stmt} {sg : Scope} {dV kV doc pm cdv ct oc : Value} {an od : Option Addr} {osl : Array (Option Value)} {Ng : List Str} {i : Nat} {p p' pos : Pos}
    (I3 : Inv X pl σ0 H3 s3) (f3 : ∀ b ∈ fp, FpOk X pl H3 b)
    (hg : Gl (X.blk s3 H3 bsc cenv fp) x) (hm : X.mg x = some (.ref f0)) (hk : PySem.W.keepIn X.K (.ref f0) = true)
    (lk : X.K.lookup f0 = some ⟨oc, od, .func (PySem.W.fnOf x x pg bg sg dV kV doc pm an cdv ct), osl⟩) (hcg : PySem.W.codeIn X.K cdv x = true) (hb : L2.Binds X.K (PySem.W.fnOf x x pg bg sg dV kV doc pm an cdv ct) [wn] []) (Sg : FnScope Ng [wn] sg) (hNg : Ng[0]? = some wn) (hva : Vis sg wn)
    (hG : GivesG X Ng x sg f0 cdv bg wn (X.env.qual ++ "<lambda>") (TTc X.K CS))
    (hr : Room (k + 4 + 2) X.A) (hgd : X.A.guards = some []) (hN : X.N[i]? = some vn) (hv : Vis cenv.scope vn) (hdv : nodbg vn = true)
    (hdb : (x == ("__debug__" : Str)) = false) (hd : (wn == ("__debug__" : Str)) = false) (hcd : (wn == ("__classdict__" : Str)) = false) :
    PE (X.blk s3 H3 bsc cenv fp) (.Call (.Name x p) [.Name vn p'] [] pos) (tWork Γ c X k CS i σ0) := by
  refine ⟨fun pins s σ H Q I h => ?_⟩
  obtain ⟨f, c', pmf, ctv, body, scope, a, hs, hpl, hco, hL, h⟩ := h
  refine wpAny_Call_Name_kw (ld_glob I hg hm ?_ hdb)
  refine PySem.W.callWith_K (h₀ := X.base) I.ok.mod.kin hk ?_ (by rfl) (by rfl)
  show wpAny _ _ (spliced ((false, eval (.Name vn p') (X.blk s3 H3 bsc cenv fp).env) :: backTo pos (starEach [] (X.blk s3 H3 bsc cenv fp).env))) _ _ s
  refine Calls.spliced_cons (thn ((pe_var (X := X.blk s3 H3 bsc cenv fp) (pos := p') hN hv (nodbg_ok hdv).1 (nodbg_ok hdv).2).run pins s σ H (fun v H1 => v = .ref f ∧ H1 = H) I ⟨.ref f, hs, rfl, rfl⟩) fun u s1 ⟨v, H1, I1, r1, q1⟩ => ?_)
  obtain ⟨ev', eH⟩ := q1
  subst ev'
  subst eH
  obtain rfl : u = Value.ref f := r1
  refine Calls.spliced_nil ⟨I1.kIn, ?_⟩
  have Ih : Inv X pl σ0 H1 s1 := I3.call' (ch := fp) I1.os I1.base I1.hok I1.bare fun b hb => ⟨(f3 b hb).2.2.2.1, (f3 b hb).2.1, (f3 b hb).2.2.2.2.1, (f3 b hb).2.2.2.2.2⟩
  obtain ⟨pf1, pf2, pf3, pf4, _⟩ := Ih.pin (f, lamO X body scope pmf c' ctv) (List.mem_append_left _ hpl)
  have hfr : f ∉ frs X.stack := fun z => by
    rcases List.mem_cons.mp (Ih.stkSub _ z) with e | e
    · exact pf3 e
    · exact pf4 e
  have rc : codeAny (model X.prog X.w) X.A (.call (.ref f0) ⟨[.ref f], []⟩) (CR C8.CX0 X.stack X.prog X.w H1 s1 Q C8.E0) s1 := by
    refine run_ofS (N := Ng) (ps := [wn]) (us := [.ref f]) (vs := [.ref f]) lk hcg Sg hr Ih.env0 (hb s1 [.ref f] Ih.kIn rfl) (.cons rfl .nil) rfl fun hr' => ?_
    obtain ⟨t', ht', hq'⟩ := hG f c' s1 H1 Q (fun E H' Q' => tI Γ (fun cls d _ H' => E cls d H') (ev c a) σ0 H' Q') (fun W pn xe p1 p2 tk => pe_actG (i := 0) (tb := fun E => tI Γ (fun cls d _ H' => E cls d H') (ev c a)) Ih hL.1 pf1 pf2 hfr rfl tk hr' hgd (fun A outer s H E hg2 hr2 => hL.2 A outer s H E f c' hg2 hr2) hNg hva hd hcd) hco h
    exact ⟨t', ht'.nox, hq'⟩
  refine wpAny_call (codeAny_mono rc fun r s2 hq => ?_)
  cases r with
  | error e => exact (show False from hq).elim
  | ok fl =>
    cases fl with
    | ret u => exact I1.after hq
    | next => exact False.elim hq
    | brk => exact False.elim hq
    | cont => exact False.elim hq
/-- what is caught, by the evaluator -/
theorem ttc_ok (g : Gd Γ c S k Z X) {q : Nat} {x e : Str} {CS : Addr} (h1 : (x, q) ∈ Γ.ct) (hX : isX Γ q) (k1 : Γ.gs[q]? = some e) (hCS : Γ.mg e = some (.ref CS)) {a : Ex} {ν : List (Option W)} {η η' : Hv} {ρ : Rho} {G H : Hp} {σ0 : L2.St} {w : W} {Q : VK} (Sm : Sim Γ ρ G η H) (T : Slots Γ G ρ ν σ0)
    (t : catM c.sub q (ev c a ν) η = .ok w η') (hQ : ∀ (ρ' : Rho) (G' H' : Hp) (v : V), Sim Γ ρ' G' η' H' → Ext ρ G η H ρ' G' η' H' → RepW Γ G' ρ' w v → Q v H') :
    TTc X.K CS (fun E H' Q' => tI Γ (fun cls d _ H' => E cls d H') (ev c a) σ0 H' Q') H Q := by
  intro E Q' hE2 hQ2
  refine ⟨ν, η, ρ, G, Sm, T, ?_⟩
  unfold catM at t
  cases ee : ev c a ν η with
  | ok w' η1 =>
    rw [ee] at t
    cases t
    exact fun ρ' G' H' S' E' v rv => hQ2 v H' (hQ ρ' G' H' _ S' E' .non)
  | bad => rw [ee] at t; cases t
  | exc d η1 =>
    rw [ee] at t
    cases d <;> first | (cases t; done) | skip
    rename_i c0 fs
    simp only at t
    split at t
    · rename_i hsub
      cases t
      have main : ∀ (C0 : Addr) (x0 : Str) (d : Option Addr) (ρ' : Rho) (G' H' : Hp), isX Γ c0 → Γ.gs[c0]? = some x0 → Γ.mg x0 = some (.ref C0) → Sim Γ ρ' G' η' H' → Ext ρ G η H ρ' G' η' H' →
          (∀ ad, H' ad = none → RepW Γ (grow G' H' (upd H' ad (EX (.ref C0) d ad))) ρ' (.d (.exc c0 fs)) (.ref ad)) → E (.ref C0) d H' := fun C0 x0 d ρ' G' H' hx k1' k2' S' E' rr => by
        refine hE2 _ _ _ ⟨c.sub c0 q, by rw [g.K]; exact g.fns.fx.exm _ _ _ _ _ _ hx hX k1' k1 k2' hCS, fun hb ad hn => ?_, fun hb => ?_⟩
        · have sm := same_upd (o := EX (.ref C0) d ad) hn
          exact hQ ρ' _ _ _ (S'.grow sm) (E'.trans (Ext.grow S' sm)) (rr ad hn)
        · rw [hsub] at hb; cases hb
      intro cls d ρ' G' H' S' E' rx
      rcases fs with _ | ⟨⟨f, yv⟩, _ | ⟨fz, fs⟩⟩
      · obtain ⟨k0, x0, C0, q1, q2, rfl, rfl⟩ := rx
        exact main C0 x0 none ρ' G' H' (.inl k0) q1 q2 S' E' fun ad hn => Rep.exc k0 q1 q2 (.inl (grow_up hn ex_ne_tbl))
      · obtain ⟨k0, x0, C0, dd, v, q1, q2, rfl, rfl, q3, q4⟩ := rx
        exact main C0 x0 (some dd) ρ' G' H' (.inr ⟨f, k0⟩) q1 q2 S' E' fun ad hn => Rep.excF k0 q1 q2 (grow_up hn ex_ne_tbl) (grow_same S'.same _ _ q3) (Rep.mono (grow_same S'.same) q4)
      · exact False.elim rx
    · cases t
theorem wkM_cons {q : Nat} {d : D} {a : Ex} {as : List Ex} {ν : List (Option W)} {η ηf : Hv} {zs : List D} (h : wkM c q d (a :: as) ν η = .ok zs ηf) : ∃ w b η1 ys, catM c.sub q (ev c a ν) η = .ok w η1 ∧ prM (dfn c.sub .isinst) [w, .d d] η1 = .ok (.d (.bl b)) η1 ∧ wkM c q d as ν η1 = .ok ys ηf ∧ zs = if b then ys else .int 1 :: ys := by
  simp only [wkM] at h
  rw [M.bind_ap] at h
  cases e1 : catM c.sub q (ev c a ν) η with
  | ok w η1 =>
    rw [e1] at h
    simp only at h
    rw [M.bind_ap] at h
    cases e2 : prM (dfn c.sub .isinst) [w, .d d] η1 with
    | ok r η2 =>
      rw [e2] at h
      simp only at h
      obtain ⟨ds, z, q1, q2, rfl, rfl⟩ := prM_val e2
      rw [M.bind_ap] at h
      cases z <;> first | (cases h; done) | skip
      rename_i b
      have h : (wkM c q d as ν >>= fun ys => Pure.pure (if b then ys else .int 1 :: ys)) η2 = .ok zs ηf := h
      rw [M.bind_ap] at h
      cases e3 : wkM c q d as ν η2 with
      | ok ys η3 =>
        rw [e3] at h
        cases h
        exact ⟨w, b, η2, ys, rfl, e2, e3, rfl⟩
      | exc _ _ => rw [e3] at h; cases h
      | bad => rw [e3] at h; cases h
    | exc _ _ => rw [e2] at h; cases h
    | bad => rw [e2] at h; cases h
  | exc _ _ => rw [e1] at h; cases h
  | bad => rw [e1] at h; cases h
theorem codeO_kept {ρ ρ' : Rho} {G G' H H' : Hp} {η η' : Hv} (Sm : Sim Γ ρ G η H) (E : Ext ρ G η H ρ' G' η' H') {b : Addr} {q : Str} (h : H b = some (CodeO b q)) : H' b = some (CodeO b q) := by
  refine E.kept b _ h (fun ⟨n, ⟨o, h1, h2⟩, h3⟩ => ?_) codeO_ne
  obtain ⟨b', u, k1, k2, k3⟩ := (Sm.obj n o h1).kind h2
  rw [h3] at k1
  cases k1
  rw [h] at k2
  cases k2
  exact k3
theorem Ext.back {ρ : Rho} {G H H0 : Hp} {η : Hv} (Sm : Sim Γ ρ G η H) (E : Ext ρ G η H0 ρ G η H) {D : Addr} (h : H D = none) : H0 D = none := by
  cases e : H0 D with
  | none => rfl
  | some o =>
    by_cases ht : ∃ ps, o = .tbl ps
    · obtain ⟨ps, rfl⟩ := ht
      obtain ⟨qs, z⟩ := E.tbl _ _ e
      rw [h] at z; cases z
    · rw [E.kept D o e (Sm.notOwn h) fun ps z => ht ⟨ps, z⟩] at h; cases h
/-- the list by its name -/
def wiN (K : PySem.W.Frag) (i : Nat) : TI := fun σ H R => ∃ L vs, σ[i]? = some (some (.ref L)) ∧ H L = some (.lst vs) ∧ R (Itl K L) H
theorem pi_wiN {i : Nat} {x : Str} {tg : Expr} {px : Pos} (hy : X.N[i]? = some x) (hv : Vis X.env.scope x) (hd : nodbg x = true) : PI X tg (.Name x px) (wiN X.K i) := by
  refine ⟨fun pins s σ H R I t => ?_⟩
  obtain ⟨L, vs, hσ, hL, q⟩ := t
  refine thn ((pe_var (pos := px) hy hv (nodbg_ok hd).1 (nodbg_ok hd).2).run pins s σ H (fun v H1 => v = .ref L ∧ H1 = H) I ⟨.ref L, hσ, rfl, rfl⟩) fun u s1 ⟨v, H1, I1, r1, q1⟩ => ?_
  obtain ⟨ev', eH⟩ := q1
  subst ev'
  subst eH
  obtain rfl : u = Value.ref L := r1
  exact itl_pi I1 (.of hL) q
/-- the test's reading -/
def tWt (Γ : Env) (c : Cfg) (d : D) (tw : TE) : TT := tNot (tB (tCB (prL Γ (dfn c.sub .isinst)) (tCons tw (tCons (tI Γ ZN (ev c (.cst d))) tNil))))
theorem wk_read (g : Gd Γ c S k Z X) {q j i : Nat} {x e : Str} {CS : Addr} {d : D} (h1 : (x, q) ∈ Γ.ct) (hX : isX Γ q) (k1 : Γ.gs[q]? = some e) (hCS : Γ.mg e = some (.ref CS)) {ns : List Nat} (hj : j ∈ ns) {ρ : Rho} {G H0 H : Hp} {η ηf : Hv} {σ : L2.St} {ν : List (Option W)} {L : Addr} {as : List Ex} {vs : List V} {total : List D}
    (hjl : j < σ.length) (hz : as.length ≤ sizeLine) (Sm : Sim Γ ρ G η H) (E0 : Ext ρ G η H0 ρ G η H) (lL : Loose G η ρ L) (hL : H L = some (.lst vs)) (hw : WkS Γ c X k X.pn H as vs) (T : Slots Γ G ρ ν σ) (hσ : σ[i]? = some (some (.ref L))) (ee : wkM c q d as ν η = .ok total ηf) :
    tLc (wiN X.K i) (gName j) (tWt Γ c d (tWork Γ c X k CS j σ)) (tC (.int 1)) ns σ H (fun x H' => ∃ D acc ρ' G', x = .ref D ∧ H' D = some (.lst acc) ∧ RepL Γ G' total acc ∧ Sim Γ ρ' G' ηf H' ∧ Ext ρ G η H0 ρ' G' ηf H' ∧ Loose G' ηf ρ' D) := by
  refine ⟨L, vs, hσ, hL, fun D hD => ?_⟩
  have nD : H0 D = none := Ext.back Sm E0 hD
  have lD : Loose G η ρ D := ⟨Sm.gnone hD, Sm.notOwn hD⟩
  have neL : L ≠ D := ne_of_none hL hD
  have hlen := hw.len
  refine ⟨fun ix m H => m = as.length - ix ∧ ix ≤ as.length ∧ ∃ η' ρ' G' ys acc zs, Sim Γ ρ' G' η' H ∧ Ext ρ G η H0 ρ' G' η' H ∧ Loose G' η' ρ' D ∧ H D = some (.lst acc) ∧ RepL Γ G' ys acc ∧ acc.length ≤ ix ∧ Loose G' η' ρ' L ∧ H L = some (.lst vs) ∧ WkS Γ c X k X.pn H as vs ∧ wkM c q d (as.drop ix) ν η' = .ok zs ηf ∧ total = ys ++ zs,
    ⟨as.length, rfl, Nat.zero_le _, η, ρ, G, [], [], total, Sm.loose lD _ (fun u z => by rw [hD] at z; cases z), E0.loose nD _, lD, upd_same, .nil, Nat.le_refl _, lL, by rw [upd_ne neL]; exact hL, hw.mono (fun _ h => h) fun b q hb => codeO_up (vs := []) (.inl hD) hb, ee, rfl⟩, ?_⟩
  rintro ix m H1 ⟨rfl, hi, η', ρ', G', ys, acc, zs, S1, E1, l1, hD1, ra, hal, lL1, hL1, hw1, e1, et⟩
  by_cases hlt : ix < as.length
  · refine .inr ⟨⟨vs, vs[ix]'(by omega), .of hL1, by simp [show ix < vs.length by omega]⟩, fun H' => as.length - (ix + 1) = as.length - (ix + 1) ∧ ix + 1 ≤ as.length ∧ ∃ η' ρ' G' ys acc zs, Sim Γ ρ' G' η' H' ∧ Ext ρ G η H0 ρ' G' η' H' ∧ Loose G' η' ρ' D ∧ H' D = some (.lst acc) ∧ RepL Γ G' ys acc ∧ acc.length ≤ ix + 1 ∧ Loose G' η' ρ' L ∧ H' L = some (.lst vs) ∧ WkS Γ c X k X.pn H' as vs ∧ wkM c q d (as.drop (ix + 1)) ν η' = .ok zs ηf ∧ total = ys ++ zs, fun H' w => ⟨as.length - (ix + 1), by omega, w⟩, fun xv H2 y => ?_⟩
    obtain ⟨rfl, y2⟩ := y
    have y3 := y2 vs (.of hL1)
    obtain ⟨a, f, c', pm, ctv, body, scope, ha, rfl, hpl, hco, hG⟩ := hw1.at y3
    have hdr : as.drop ix = a :: as.drop (ix + 1) := by
      rw [List.drop_eq_getElem_cons hlt]
      congr 1
      rw [List.getElem?_eq_getElem hlt] at ha
      exact Option.some.inj ha
    rw [hdr] at e1
    obtain ⟨w, b, η1, ys2, c1, c2, c3, c4⟩ := wkM_cons e1
    have hwl : (wipe σ ns).length = σ.length := wipe_length σ ns
    refine ⟨wipe_eq (by rw [List.length_set]) fun t ht => by rw [List.getElem?_set_ne]; intro z; subst z; exact ht hj, ?_⟩
    refine ⟨f, c', pm, ctv, body, scope, a, List.getElem?_set_self (by rw [hwl]; exact hjl), hpl, hco, hG, ttc_ok g h1 hX k1 hCS S1 (T.mono E1.same E1.rho) c1 fun ρ2 G2 H3 v S2 E2 rv => ?_⟩
    obtain ⟨l2, hD2⟩ := l1.ext hD1 E2
    obtain ⟨lL2, hL2⟩ := lL1.ext hL1 E2
    have E12 := E1.trans E2
    have ra2 := RepL.mono E2.same ra
    have hw2 : WkS Γ c X k X.pn H3 as vs := hw1.mono (fun _ h => h) fun b q hb => codeO_kept S1 E2 hb
    refine ⟨List.replicate ((wipe σ ns).set j (some (.ref f))).length none, η1, ρ2, G2, S2, ⟨by simp, fun t u hu => by
      rw [List.getElem?_replicate] at hu
      split at hu <;> cases hu⟩, ?_⟩
    simp only [ev]
    intro ρ3 G3 H4 S3 E3 u ru
    obtain ⟨l3, hD3⟩ := l2.ext hD2 E3
    obtain ⟨lL3, hL3⟩ := lL2.ext hL2 E3
    have E13 := E12.trans E3
    have ra3 := RepL.mono E3.same ra2
    have hw3 : WkS Γ c X k X.pn H4 as vs := hw2.mono (fun _ h => h) fun b q hb => codeO_kept S2 E3 hb
    obtain ⟨ds, z, q1, q2, q3, _⟩ := prM_val c2
    cases q3
    refine ⟨G3, ds, .bl b, S3.same, RepWs.read S3 (.cons (RepW.mono E3.same E3.rho rv) (.cons ru .nil)) q1, q2, fun v' H5 sm rv' => ?_⟩
    cases rv' with
    | bl =>
      refine ⟨b, rfl, ?_⟩
      have S4 := S3.grow sm
      have E4 := Ext.grow S3 sm
      obtain ⟨l4, hD4⟩ := l3.ext hD3 E4
      obtain ⟨lL4, hL4⟩ := lL3.ext hL3 E4
      have E14 := E13.trans E4
      have ra4 := RepL.mono E4.same ra3
      have hw4 : WkS Γ c X k X.pn H5 as vs := hw3.mono (fun _ h => h) fun b q hb => codeO_kept S3 E4 hb
      cases b with
      | true =>
        show (if (!true) = true then _ else _)
        rw [if_neg (by decide)]
        exact ⟨by trivial, hlt, η1, ρ3, _, ys, acc, ys2, S4, E14, l4, hD4, ra4, by omega, lL4, hL4, hw4, c3, by rw [et, c4]; rfl⟩
      | false =>
        show (if (!false) = true then _ else _)
        rw [if_pos (by decide)]
        refine ⟨acc, hD4, by omega, by trivial, hlt, η1, ρ3, _, ys ++ [.int 1], acc ++ [.int 1], ys2, S4.loose l4 _ (fun u z => by rw [hD4] at z; cases z; exact trivial), E14.loose nD _, l4, upd_same, ra4.append (.cons (.int 1) .nil), by simp; omega, lL4, by rw [upd_ne neL]; exact hL4, hw4.mono (fun _ h => h) fun b q hb => codeO_up (vs := acc) (.inr hD4) hb, c3, by rw [et, c4]; simp⟩
  · have ei : ix = as.length := by omega
    subst ei
    rw [List.drop_length] at e1
    cases e1
    refine .inl ⟨⟨vs, .of hL1, by omega⟩, D, acc, ρ', G', rfl, hD1, ?_, S1, E1, l1⟩
    rw [et, List.append_nil]
    exact ra
end
end Ip

set_option Elab.async false
set_option linter.all false
set_option maxRecDepth 100000
set_option maxHeartbeats 2000000
/-! IpWk2: the statements of a list of lambdas. -/
namespace Ip
open PySem PySem.Spec PyProof.Rows L2 LamX
section
variable {Γ : Env} {B : Tb} {c : Cfg} {S : SC} {k : Nat} {Z : WX} {X : Cx} {pins : List (Addr × Obj)} {σ : L2.St} {H : Hp} {s : Shared}
theorem fLamA_inv {e : Expr} {kk : SC → Expr → Bool} (h : fLamA S e kk = true) : ∃ body scope p, e = .Lambda noP body scope p ∧ LamX.lamSB S.sc scope = true ∧ kk (S.lam scope) body = true := by
  unfold fLamA at h
  split at h
  · simp only [Bool.and_eq_true] at h
    have := parNil_inv h.1.1
    subst this
    exact ⟨_, _, _, rfl, h.1.2, h.2⟩
  · cases h
theorem fWk1_inv {i : Nat} {st : Stmt} {kk : SC → Expr → Bool} (h : fWk1 S i st kk = true) : ∃ x p e p2 p3, st = .Assign [.Name x p] (.List [e] p2) p3 ∧ (S.N[i]? == some x) = true ∧ S.loc x = true ∧ fLamA S e kk = true := by
  unfold fWk1 at h
  split at h
  · simp only [Bool.and_eq_true] at h
    exact ⟨_, _, _, _, _, rfl, h.1.1, h.1.2, h.2⟩
  · cases h
theorem fWk2_inv {i : Nat} {st : Stmt} {kk : SC → Expr → Bool} (h : fWk2 S i st kk = true) : ∃ x p ap e cp p3, st = .Expr (.Call (.Attribute (.Name x p) "append" ap) [e] [] cp) p3 ∧ (S.N[i]? == some x) = true ∧ S.vis x = true ∧ nodbg x = true ∧ (ap.endLine == cp.line) = true ∧ fLamA S e kk = true := by
  unfold fWk2 at h
  split at h
  · simp only [Bool.and_eq_true, decide_eq_true_eq] at h
    obtain ⟨⟨⟨⟨⟨h1, h2⟩, h3⟩, rfl⟩, h5⟩, h6⟩ := h
    exact ⟨_, _, _, _, _, _, rfl, h1, h2, h3, h5, h6⟩
  · cases h
theorem fWkI_inv {sts : List Stmt} {kt : Expr → Bool} {kb kr : List Stmt → Bool} (h : fWkI sts kt kb kr = true) : ∃ t body p rest, sts = .If t body [] p :: rest ∧ kt t = true ∧ kb body = true ∧ kr rest = true := by
  unfold fWkI at h
  split at h
  · simp only [Bool.and_eq_true] at h
    exact ⟨_, _, _, _, rfl, h.1.1, h.1.2, h.2⟩
  · cases h
theorem fWkT_inv {i j q : Nat} {d : D} {t : Expr} (h : fWkT B S i j q d t = true) : ∃ j1 p1 v pv x px cx pc v2 pv2 pcc ce pii pi pn scope cpos op r pos, t = .Compare (.ListComp (.Constant (.int 1) j1 p1) [⟨.Name v pv, .Name x px, [.UnaryOp .Not (.Call (.Name "isinstance" pi) [.Call (.Name cx pc) [.Name v2 pv2] [] pcc, ce] [] pii) pn], 0⟩] scope cpos) [op] [r] pos ∧
    okBlk S scope [j] = true ∧ fPv (S.blk scope) j (.Name v pv) = true ∧ (S.N[i]? == some x) = true ∧ S.vis x = true ∧ nodbg x = true ∧ (S.blk scope).gl "isinstance" = true ∧ (cx, q) ∈ B.ct ∧ (S.blk scope).glb cx = true ∧ (S.blk scope).var j v2 = true ∧ okE B (.cst d) (S.blk scope) ce = true ∧ notStar ce = true ∧ S.lm.isSome = true ∧ opC .ne op = true ∧ behindInMarks op r = false ∧ okE B (.pr .lst .nil) S r = true ∧ j < S.N.length := by
  unfold fWkT at h
  split at h
  · simp only [Bool.and_eq_true, decide_eq_true_eq, Bool.not_eq_true'] at h
    obtain ⟨⟨⟨⟨⟨⟨⟨⟨⟨⟨⟨⟨⟨⟨⟨⟨⟨rfl, h1⟩, h2⟩, h3⟩, h4⟩, h5⟩, rfl⟩, h6⟩, h7⟩, h8⟩, h9⟩, h10⟩, h11⟩, h12⟩, h13⟩, h14⟩, h15⟩, h16⟩ := h
    exact ⟨_, _, _, _, _, _, _, _, _, _, _, _, _, _, _, _, _, _, _, _, rfl, h1, h2, h3, h4, h5, h6, h7, h8, h9, h10, h11, h12, h13, h14, h15, h16⟩
  · cases h
/-- the comprehension in a context whose pins hold the lambdas -/
theorem pe_wkc (g : Gd Γ c S k Z X) (hB7 : Γ.ct = B.ct) (hE : ∀ x, SndE Γ B c x) {i j q : Nat} {d : D} {j1 : Nat} {p1 : Pos} {v : Str} {pv : Pos} {x : Str} {px : Pos} {cx : Str} {pc : Pos} {v2 : Str} {pv2 pcc : Pos} {ce : Expr} {pii pi pn : Pos} {scope : Scope} {cpos : Pos} {CS : Addr}
    (h1 : okBlk S scope [j] = true) (h2 : fPv (S.blk scope) j (.Name v pv) = true) (h3 : (S.N[i]? == some x) = true) (h4 : S.vis x = true) (h5 : nodbg x = true) (h6 : (S.blk scope).gl "isinstance" = true) (h7 : (cx, q) ∈ B.ct) (h8 : (S.blk scope).glb cx = true) (h9 : (S.blk scope).var j v2 = true) (h10 : okE B (.cst d) (S.blk scope) ce = true) (h11 : notStar ce = true) (h12 : S.lm.isSome = true)
    (hCS : ∀ e, Γ.gs[q]? = some e → Γ.mg e = some (.ref CS)) :
    PE X (.ListComp (.Constant (.int 1) j1 p1) [⟨.Name v pv, .Name x px, [.UnaryOp .Not (.Call (.Name "isinstance" pi) [.Call (.Name cx pc) [.Name v2 pv2] [] pcc, ce] [] pii) pn], 0⟩] scope cpos)
      (fun σ H Q => ∃ Q0 : VK, tLc (wiN X.K i) (gName j) (tWt Γ c d (tWork Γ c X k CS j σ)) (tC (.int 1)) [j] σ H Q0 ∧ ∀ x H', Q0 x H' → Q x H') := by
  refine ⟨fun pins s σ H Q I h => ?_⟩
  obtain ⟨Q0, h, hQ⟩ := h
  obtain ⟨hX, gA, fd, st, wn, cn, m1, FD, hb, hcat⟩ := g.fns.fx.cat cx q (by rw [hB7]; exact h7)
  obtain ⟨e, jj, p1', p2, p3, p4, p5, p6, p7, p8, p9, p10, p11, p12, p13, p14, k1, k2, k3, k4, k5, k6, k7, k8, k9, k10, k11, k12, k13, k14⟩ := catB_inv hcat
  have hCS := hCS e k1
  obtain ⟨oc, od, dV, kV, doc, pm, an, cdv, ct, osl, rfl, lk, hcd, _, _⟩ := FD.ex
  have Sg : FnScope [wn, cn, "error"] [wn] (defScope st) := ⟨k8, k9, k10, k3, rfl, fun y hy => .inl (by
    rcases List.mem_cons.mp hy with rfl | hy
    · exact k11
    · cases hy), k14⟩
  have hup : S.up = 6 := by unfold SC.up; rw [h12]; rfl
  have hr : Room (k + 4 + 2) X.A := by have := g.rm; rw [hup] at this; exact this
  have hG : GivesG X [wn, cn, "error"] cx (defScope st) gA cdv (defBody st) wn (X.env.qual ++ "<lambda>") (TTc X.K CS) := by
    rw [k2]
    exact cat_gives (p15 := p1') k3 k12 k13 k6 (by rw [g.mg]; exact hCS) (nodbg_ok k7).1 (nodbg_ok k5)
  have nd : X.N.Nodup := by rw [g.N]; exact g.nd
  have h8' := h8
  simp only [SC.glb, Bool.and_eq_true] at h8'
  have h9' := h9
  simp only [SC.var, Bool.and_eq_true] at h9'
  rw [eval_ListComp]
  refine lc_coreI g.calm nd I (pi_wiN (by rw [g.N]; exact beq_iff_eq.mp h3) (g.vis h4) h5) (blk_ok g h1) (g := gName j) (tt := tWt Γ c d (tWork Γ c X k CS j σ)) (te := tC (.int 1)) (fun s H C cl fp => ?_) (fun s3 H3 C cl fp I3 f3 => ?_) (fun s H C cl fp _ _ => pe_int) (fun x => rfl) (by rw [ownL_ix]; exact h) fun D C s' m H' I' q hn f => ⟨m, hn, fun h'' sb => ?_⟩
  · have gb := g.blk scope s H C cl fp
    obtain ⟨x', p', e', q1, q2⟩ := fPv_inv h2
    cases e'
    obtain ⟨l1, l2⟩ := gb.loc q2
    exact pg_name (by rw [gb.N]; exact gb.nd) (gb.ix q1) l1 l2
  · have gb := g.blk scope s3 H3 C cl fp
    have PW := pe_work (Γ := Γ) (c := c) (X := X) (k := k) (bsc := scope) (cenv := compEnvC scope cl C X.env) (CS := CS) (i := j) (p := pc) (p' := pv2) (pos := pcc) I3 f3 (gb.gl h8'.1) (by rw [g.mg]; exact m1) (by rw [g.K]; exact FD.kp) (by rw [g.K]; exact lk) (by rw [g.K]; exact hcd) (by rw [g.K]; exact hb) Sg rfl (.inl k11) hG hr g.gd (gb.ix h9'.1.1) (gb.vis h9'.1.2) h9'.2 (nodbg_ok h8'.2).1 (nodbg_ok k4).1 (nodbg_ok k4).2
    have PC := ((hE (.cst d) _ k _ _ gb).1 _ h10).1
    have hrr := fnRule gb (f := .isinst) rfl
    refine pts_one (pt_not (pt_val (pe_callB hrr (gb.gl h6) (gb.blt (fn_blt .isinst)) (fn_boot .isinst) (pa_cons PW (pa_cons PC pa_nil (star_of h11 _ _))) (fn_name .isinst) (fn_dbg .isinst) (by rfl) (noSplat (by simp [h11]) _ _))))
  · obtain ⟨f0, f1, f2, f3, f4, f5⟩ := f
    exact ⟨.ref D, H', I'.turned (t' := s'.toks) (fun b o hb e => (sb.2 b hb).trans e) f0 f1 f3 f4 f5, rfl, hQ _ _ q⟩
/-- pins are dropped -/
theorem Inv.dropP {pl : List (Addr × Obj)} (I : Inv X (pins ++ pl) σ H s) : Inv X pins σ H s :=
  ⟨I.ok, I.os, I.bare, I.base, I.loc, I.cell, I.free, I.freeC, fun p hp => I.pin p (by rw [← List.append_assoc]; exact List.mem_append_left _ hp), I.hok, I.len⟩
theorem WkS.toX {pl : List (Addr × Obj)} {as : List Ex} {vs : List V} {pn : List (Addr × Obj)} {xe : Value → Shared → Prop} (w : WkS Γ c X k pl H as vs) : WkS Γ c (X.tr pn xe) k pl H as vs := by
  induction w with
  | nil => exact .nil
  | cons h1 h2 h3 _ ih => exact .cons h1 h2 h3 ih
theorem takesX (tk : Takes X Z) (ok : X.Ok) (pins : List (Addr × Obj)) : Takes (X.tr (X.pn ++ pins) X.xe) Z := by
  intro u s' ⟨a, B0, sI, pins', σ, H, cls, d, e1, I, e2, e3, e4, e5, e6, e7, e8⟩
  exact tk u s' ⟨a, B0, sI, pins, σ, H, cls, d, e1, I.ofTry ok, e2, e3, e4, e5, e6, e7, e8⟩
theorem Gd.toX {Z' : WX} (g : Gd Γ c S k Z X) {pn : List (Addr × Obj)} {xe : Value → Shared → Prop} (tk : Takes (X.tr pn xe) Z') : Gd Γ c S k Z' (X.tr pn xe) :=
  ⟨g.P, g.w, g.K, g.mg, g.base, g.N, g.nd, g.sc, g.fn, g.calm, g.rm, tk, g.fns, g.gd, g.lam⟩
theorem wkM_noexc {q : Nat} {d : D} : ∀ {as : List Ex} {ν : List (Option W)} {η η' : Hv} {e : D}, wkM c q d as ν η = .exc e η' → False
  | [], ν, η, η', e, h => by cases h
  | a :: as, ν, η, η', e, h => by
    simp only [wkM] at h
    rw [M.bind_ap] at h
    cases e1 : catM c.sub q (ev c a ν) η with
    | ok w η1 =>
      rw [e1] at h
      simp only at h
      rw [M.bind_ap] at h
      cases e2 : prM (dfn c.sub .isinst) [w, .d d] η1 with
      | ok r η2 =>
        rw [e2] at h
        simp only at h
        obtain ⟨ds, z, q1, q2, rfl, rfl⟩ := prM_val e2
        rw [M.bind_ap] at h
        cases z <;> first | (cases h; done) | skip
        rename_i b
        have h : (wkM c q d as ν >>= fun ys => Pure.pure (if b then ys else .int 1 :: ys)) η2 = .exc e η' := h
        rw [M.bind_ap] at h
        cases e3 : wkM c q d as ν η2 with
        | ok ys η3 => rw [e3] at h; cases h
        | exc _ _ => exact wkM_noexc e3
        | bad => rw [e3] at h; cases h
      | exc _ _ => exact prM_noexc e2
      | bad => rw [e2] at h; cases h
    | exc _ _ =>
      unfold catM at e1
      split at e1 <;> first | (cases e1; done) | skip
      split at e1 <;> cases e1
    | bad => rw [e1] at h; cases h
theorem wkM_ones {q : Nat} {d : D} : ∀ {as : List Ex} {ν : List (Option W)} {η η' : Hv} {zs : List D}, wkM c q d as ν η = .ok zs η' → ∀ z ∈ zs, z = .int 1
  | [], ν, η, η', zs, h => by cases h; simp
  | a :: as, ν, η, η', zs, h => by
    obtain ⟨w, b, η1, ys, _, _, h3, h4⟩ := wkM_cons h
    intro z hz
    rw [h4] at hz
    cases b with
    | true => exact wkM_ones h3 z hz
    | false =>
      rcases List.mem_cons.mp hz with e | e
      · exact e
      · exact wkM_ones h3 z e
theorem ne_ones {zs : List D} (h : ∀ z ∈ zs, z = .int 1) : (dcmp .ne (.lst zs) (.lst [])).map D.bl = some (.bl (!zs.isEmpty)) := by
  have hp : ∀ zs : List D, (∀ z ∈ zs, z = .int 1) → plnL zs = true ∧ depL zs ≤ 1 := by
    intro zs
    induction zs with
    | nil => intro _; exact ⟨rfl, by simp [depL]⟩
    | cons z zs ih =>
      intro h
      have e := h z List.mem_cons_self
      subst e
      obtain ⟨i1, i2⟩ := ih fun z hz => h z (List.mem_cons_of_mem _ hz)
      exact ⟨by simp [plnL, pln, i1], by simp [depL, dep]; omega⟩
  have hs : shp (.lst zs) = true := by
    obtain ⟨i1, i2⟩ := hp zs h
    have : depL zs + 1 ≤ 64 := by omega
    simp [shp, pln, i1, dep, this]
  have h0 : shp (.lst []) = true := rfl
  simp only [dcmp, eqE, eqD, hs, h0, Bool.and_self, if_true, Option.map_some]
  cases zs <;> rfl
theorem fWkM_run (g : Gd Γ c S k Z X) (hE : ∀ x, SndE Γ B c x) {q : Str} (hq : S.lm = some q) {i : Nat} {kf : List Stmt → Bool} {ρ : Rho} {G : Hp} {η : Hv} {H0 : Hp} {L : Addr} {R : Flow → Shared → Prop} (hσ : σ[i]? = some (some (.ref L))) :
    ∀ (more : Ex) (sts : List Stmt) (as : List Ex) (pl : List (Addr × Obj)) (H : Hp) (vs : List V) (s : Shared), fWkM (okE B) S i kf more sts = true → WkI Γ c X k pins ρ G η H0 L σ as pl H vs s → vs.length + (exL more).length ≤ 15 →
      (∀ (sts : List Stmt) (pl : List (Addr × Obj)) (H : Hp) (vs : List V) (s : Shared), kf sts = true → WkI Γ c X k pins ρ G η H0 L σ (as ++ exL more) pl H vs s → wpAny (model X.prog X.w) X.A (execs sts X.env) R X.xe s) →
      wpAny (model X.prog X.w) X.A (execs sts X.env) R X.xe s := by
  intro more
  induction more with
  | nil => intro sts as pl H vs s h K hl hk; exact hk sts pl H vs s (by cases sts <;> exact h) (by simpa [exL] using K)
  | cons a r _ ih =>
    intro sts as pl H vs s h K hl hk
    cases sts with
    | nil => cases h
    | cons st sts =>
      have h : (fWk2 S i st (okE B a) && fWkM (okE B) S i kf r sts) = true := h
      rw [Bool.and_eq_true] at h
      obtain ⟨x, p, ap, e, cp, p3, rfl, h1, h2, h3, h4, h5⟩ := fWk2_inv h.1
      obtain ⟨body, scope, lp, rfl, h6, h7⟩ := fLamA_inv h5
      have hG : LamG Γ c X k a body scope := ⟨lamS_by (by rw [g.sc]; exact h6), fun A outer s H E f c' hg2 hr2 => ((hE a _ k _ _ (g.lamGd hg2 hr2)).1 _ h7).1⟩
      simp only [exL, List.length_cons] at hl
      refine wpAny_execs_cons (wk_more g hq (by rw [g.N]; exact beq_iff_eq.mp h1) h2 h3 h4 K hσ (by rw [hsz]; unfold lim; omega) hG fun pl2 H2 vs2 s2 K2 hl2 => ?_)
      refine ih sts (as ++ [a]) pl2 H2 vs2 s2 h.2 K2 (by omega) fun sts pl H vs s hk2 K3 => hk sts pl H vs s hk2 (by simpa [exL, List.append_assoc] using K3)
  | _ => intro sts as pl H vs s h K hl hk; cases h
theorem snd_wk (hB1 : Γ.gs = B.gs) (hB7 : Γ.ct = B.ct) (hE : ∀ x, SndE Γ B c x) {i j q : Nat} {d : D} {as : Ex} {b r : Sm} (ihb : SndS Γ B c b) (ihr : SndS Γ B c r) : SndS Γ B c (.wk i j q d as b r) := by
  intro S k Z X g hkd hp
  refine ⟨fun st h => (by cases h), fun sts h => ?_⟩
  replace h : fWk (okE B) S i (fun sts => fWkI sts (fWkT B S i j q d) (okB B b S) (okB B r S)) as sts = true := h
  cases as <;> first | (cases h; done) | skip
  rename_i a more
  cases sts with
  | nil => cases h
  | cons st sts =>
    have h : (decide ((exL (.cons a more)).length ≤ 15) && fWk1 S i st (okE B a) && fWkM (okE B) S i (fun sts => fWkI sts (fWkT B S i j q d) (okB B b S) (okB B r S)) more sts) = true := h
    simp only [Bool.and_eq_true, decide_eq_true_eq] at h
    obtain ⟨⟨hlen, hf1⟩, hfm⟩ := h
    obtain ⟨x0, px0, e0, p20, p30, rfl, h1, h2, h3⟩ := fWk1_inv hf1
    obtain ⟨body0, scope0, lp0, rfl, h4, h5⟩ := fLamA_inv h3
    have hG : LamG Γ c X k a body0 scope0 := ⟨lamS_by (by rw [g.sc]; exact h4), fun A outer s H E f c' hg2 hr2 => ((hE a _ k _ _ (g.lamGd hg2 hr2)).1 _ h5).1⟩
    refine ⟨fun pins s σ H D I t => ?_⟩
    obtain ⟨ν, η, ρ, G, Sm, T, t⟩ := t
    -- S.lm
    have hlm : ∃ qn, S.lm = some qn := by
      have : ∀ (more : Ex) (sts : List Stmt), fWkM (okE B) S i (fun sts => fWkI sts (fWkT B S i j q d) (okB B b S) (okB B r S)) more sts = true → ∃ qn, S.lm = some qn := by
        intro more
        induction more with
        | nil =>
          intro sts h
          obtain ⟨t, body, p, rest, rfl, h1, _, _⟩ := fWkI_inv (show fWkI sts (fWkT B S i j q d) (okB B b S) (okB B r S) = true by cases sts <;> exact h)
          obtain ⟨j1, p1, v, pv, x, px, cx, pc, v2, pv2, pcc, ce, pii, pi, pn, scope, cpos, op, r, pos, rfl, _, _, _, _, _, _, _, _, _, _, _, h12, _⟩ := fWkT_inv h1
          exact Option.isSome_iff_exists.mp h12
        | cons a r _ ih =>
          intro sts h
          cases sts with
          | nil => cases h
          | cons st sts =>
            have h : (fWk2 S i st (okE B a) && fWkM (okE B) S i (fun sts => fWkI sts (fWkT B S i j q d) (okB B b S) (okB B _ S)) r sts) = true := h
            rw [Bool.and_eq_true] at h
            exact ih sts h.2
        | _ => intro sts h; cases h
      exact this more sts hfm
    obtain ⟨qn, hq⟩ := hlm
    have hi : i < σ.length := by
      rw [I.len, g.N]
      exact (List.getElem?_eq_some_iff.mp (beq_iff_eq.mp h1)).1
    refine wpAny_execs_cons (wk_first g hq (by rw [g.N]; exact beq_iff_eq.mp h1) h2 I Sm hG fun L pl0 H1 vs0 s1 K0 => ?_)
    refine fWkM_run g hE hq (List.getElem?_set_self hi) more sts [a] pl0 H1 vs0 s1 hfm K0 (by rw [K0.w.len]; simp only [exL, List.length_cons, List.length_nil] at hlen ⊢; omega) fun sts pl H1 vs s1 hfi K => ?_
    obtain ⟨tt, body, pif, rest, rfl, m1, m2, m3⟩ := fWkI_inv hfi
    obtain ⟨j1, p1, v, pv, x, px, cx, pc, v2, pv2, pcc, ce, pii, pi, pn, scope, cpos, op, rr, pos, rfl, n1, n2, n3, n4, n5, n6, n7, n8, n9, n10, n11, n12, n13, n14, n15, n16⟩ := fWkT_inv m1
    have hj : j < σ.length := by rw [I.len, g.N]; exact n16
    obtain ⟨hX, gA, fd, stc, wn, cn, mc, FD, hbb, hcat⟩ := g.fns.fx.cat cx q (by rw [hB7]; exact n7)
    obtain ⟨ec, jj, p1', p2, p3, p4, p5, p6, p7, p8, p9, p10, p11, p12, p13, p14, k1, _⟩ := catB_inv hcat
    obtain ⟨CS, hCS⟩ := g.fns.gl q ec k1
    have ok : X.Ok := I.ok
    let X' : Cx := X.tr (X.pn ++ (pins ++ pl)) X.xe
    have I' : Inv X' [] (σ.set i (some (.ref L))) H1 s1 := K.I.toTry X.xe
    have g0 : Gd Γ c S k ZN X' := g.toX L2.takes0
    have g' : Gd Γ c S k Z X' := g.toX (takesX g.tk ok _)
    have PB := (ihb S k Z X' g' ⟨hkd.kd, hkd.stk, hkd.frm⟩ hp).2 _ m2
    have PC := pe_wkc (CS := CS) (i := i) (j1 := j1) (p1 := p1) (px := px) (pc := pc) (pv2 := pv2) (pcc := pcc) (pii := pii) (pi := pi) (pn := pn) (cpos := cpos) g0 hB7 hE n1 n2 n3 n4 n5 n6 n7 n8 n9 n10 n11 n12 (fun e he => by rw [k1] at he; cases he; exact hCS)
    have PR := ((hE (.pr .lst .nil) S k ZN X' g0).1 _ n15).1
    have PI := ps_if (pos := pif) (pt_cmpR (pos := pos) (copRule g0 n13) PC PR n14) PB (pss_nil (X := X'))
    have S1 := K.S
    have T1 : Slots Γ G ρ (ν.set i none) (σ.set i (some (.ref L))) := by
      refine ⟨by simp [T.1], fun m w hm => ?_⟩
      by_cases hmi : m = i
      · subst hmi
        rw [List.getElem?_set] at hm
        simp at hm
      · rw [List.getElem?_set_ne (Ne.symm hmi)] at hm
        rw [List.getElem?_set_ne (Ne.symm hmi)]
        exact T.2 m w hm
    have t : FinS Γ Z D ρ G η H (O.ofE (ν.set i none) (wkM c q d (a :: exL more) (ν.set i none) η) fun zs h' => if zs.isEmpty then sx c r (ν.set i none) h' else (match sx c b (ν.set i none) h' with
      | .nx ν' h'' => sx c r ν' h''
      | o => o)) := t
    have t := FinS.step K.E t
    cases ew : wkM c q d (a :: exL more) (ν.set i none) η with
    | exc e η' => exact (wkM_noexc ew).elim
    | bad => rw [ew] at t; exact FinS.badE t
    | ok zs ηf =>
      rw [ew] at t
      have t : FinS Γ Z D ρ G η H1 (if zs.isEmpty then sx c r (ν.set i none) ηf else (match sx c b (ν.set i none) ηf with
        | .nx ν' h'' => sx c r ν' h''
        | o => o)) := t
      have hw : WkS Γ c X' k X'.pn H1 (a :: exL more) vs := (K.w.toX).mono (fun p hp => List.mem_append_right _ (List.mem_append_right _ hp)) fun _ _ h => h
      have lc := wk_read (X := X') g0 (i := i) (j := j) (ns := [j]) (by rw [← hB7] at n7; exact n7) hX k1 hCS List.mem_cons_self (by simpa using hj) (by
        rw [hsz]; unfold lim
        have : (exL (.cons a more)).length ≤ 15 := hlen
        simp only [exL] at this
        omega) S1 (Ext.refl ρ G η H1) K.l K.h hw T1 (List.getElem?_set_self hi) ew
      refine wpAny_execs_cons (thn (PI.run [] s1 (σ.set i (some (.ref L))) H1 { D with nx := tS Γ Z (sx c r) D } I' ?_) fun f s2 hq2 => ?_)
      · refine ⟨_, lc, ?_⟩
        rintro xv H2 ⟨D0, acc, ρ', G', rfl, hD0, ra, S2, E2, l2⟩
        refine ⟨List.replicate (σ.set i (some (.ref L))).length none, ηf, ρ', G', S2, ⟨by simp, fun t u hu => by
          rw [List.getElem?_replicate] at hu
          split at hu <;> cases hu⟩, ?_⟩
        intro ρ3 G3 H3 S3 E3 y ry
        obtain ⟨l3, hD3⟩ := l2.ext hD0 E3
        have E13 := E2.trans E3
        refine ⟨G3, .lst zs, .lst [], .bl (!zs.isEmpty), S3.same, .lst hD3 (RepL.mono E3.same ra), .fix ry, ne_ones (wkM_ones ew), fun v' H4 sm rv' => ?_⟩
        cases rv' with
        | bl =>
          refine ⟨_, rfl, ?_⟩
          have S4 := S3.grow sm
          have E14 := E13.trans (Ext.grow S3 sm)
          have T4 := T1.mono E14.same E14.rho
          have t := FinS.step E14 t
          cases hz : zs.isEmpty with
          | true =>
            rw [hz] at t
            show (if (!true) = true then _ else _)
            rw [if_neg (by simp)]
            exact ⟨_, _, _, _, S4, T4, t⟩
          | false =>
            rw [hz] at t
            show (if (!false) = true then _ else _)
            rw [if_pos (by simp)]
            refine ⟨_, _, _, _, S4, T4, ?_⟩
            rw [if_neg (by simp)] at t
            cases eb : sx c b (ν.set i none) ηf with
            | nx ν' h'' =>
              rw [eb] at t
              exact fun σ' ρ5 G5 H5 S5 E5 T5 => ⟨_, _, _, _, S5, T5, FinS.step E5 t⟩
            | ret w3 η3 => rw [eb] at t; exact t
            | brk ν3 η3 => rw [eb] at t; exact t
            | cnt ν3 η3 => rw [eb] at t; exact t
            | exc x3 ν3 η3 => rw [eb] at t; exact t
            | bad => rw [eb] at t; exact FinS.badE t
      · cases f with
        | next =>
          obtain ⟨σ', H', I2, q2⟩ := hq2
          exact ((ihr S k Z X g hkd hp).2 _ m3).run pins s2 σ' H' D (Inv.dropP (I2.ofTry ok)) q2
        | ret u =>
          obtain ⟨v, σ', H', I2, q2⟩ := hq2
          exact ⟨v, σ', H', Inv.dropP (I2.ofTry ok), q2⟩
        | brk =>
          obtain ⟨σ', H', I2, q2⟩ := hq2
          exact ⟨σ', H', Inv.dropP (I2.ofTry ok), q2⟩
        | cont =>
          obtain ⟨σ', H', I2, q2⟩ := hq2
          exact ⟨σ', H', Inv.dropP (I2.ofTry ok), q2⟩
end
end Ip

set_option Elab.async false
set_option linter.all false
set_option maxRecDepth 100000
set_option maxHeartbeats 400000
/-! IpSndS: all statements. -/
namespace Ip
open PySem PySem.Spec PyProof.Rows L2
section
variable {Γ : Env} {B : Tb} {c : Cfg} {S : SC} {k : Nat} {Z : WX} {X : Cx}
theorem sndS (hB1 : Γ.gs = B.gs) (hB2 : Γ.ft = B.ft) (hB3 : Γ.ks = B.ks) (hB4 : Γ.pl = B.pl) (hB5 : Γ.xi = B.xi) (hB6 : Γ.kw = B.kw) (hB7 : Γ.ct = B.ct) (b : Sm) : SndS Γ B c b := by
  have hE : ∀ x, SndE Γ B c x := sndE hB1 hB2 hB3 hB4 hB5 hB6 hB7
  induction b with
  | sk => exact snd_sk
  | sq a b iha ihb => exact snd_sq iha ihb
  | asg i e => exact snd_asg hE (fun x => (sndE2 hB1 hB2 hB3 hB4 hB5 hB6 hB7 x).2)
  | asgp p e => exact snd_asgp hE
  | ife t a b iha ihb => exact snd_ife hE iha ihb
  | ret e => exact snd_ret hE
  | exp e => exact snd_exp hE
  | dset a ky e => exact snd_dset hE
  | brk => exact snd_brk
  | cnt => exact snd_cnt
  | forr ik pt it b ih => exact snd_for hE ih
  | whl t b ih => exact snd_whl hE ih
  | rais e => exact snd_rais hB1 hB4 hB5 hE
  | par is es => exact snd_par hE
  | tryw b k i a ih _ => exact snd_try hB1 hB4 hB5 ih
  | wk i j q d as b r _ _ => exact snd_wk hB1 hB7 hE ‹_› ‹_›
end
end Ip

set_option Elab.async false
set_option linter.all false
set_option maxRecDepth 100000
set_option maxHeartbeats 400000
/-! IpFun: defs. -/
namespace Ip
open PySem PySem.Spec PyProof.Rows L2

/-- a def: its name, its parameters, its slots' names, its small form -/
structure FDef where
  x : Str
  ps : List Str
  N : List Str
  sm : Sm
  /-- the name of its lambdas, if it makes any -/
  lm : Option Str
def startV (N : List Str) (ws : List W) : List (Option W) := ws.map some ++ List.replicate (N.length - ws.length) none
def runF (c : Cfg) (d : FDef) (ws : List W) : M W := fun η => match sx c d.sm (startV d.N ws) η with
  | .ret w h => .ok w h
  | .nx _ h => .ok (.d .non) h
  | .exc e _ h => .exc e h
  | _ => .bad
/-- with data alone: on a heap of its own -/
def pureF (c : Cfg) (d : FDef) (ws : List W) : M W := fun η => match dats ws with
  | some _ => (match runF c d ws [] with
    | .ok (.d x) _ => .ok (.d x) η
    | .exc e _ => .exc e η
    | _ => .bad)
  | none => .bad
def callF (c : Cfg) (d : FDef) : Nat → List W → M W
  | 0, ws => pureF c d ws
  | _ + 1, ws => runF c d ws
def cfgN (ds : List FDef) (sub : Nat → Nat → Bool) (xi : Nat → Option String) (fuel : Nat) : Nat → Cfg
  | 0 => { call := fun _ _ _ => M.bad, sub := sub, fuel := fuel, xi := xi }
  | n + 1 => { call := fun md i ws => match ds[i]? with
      | some d => callF (cfgN ds sub xi fuel n) d md ws
      | none => M.bad, sub := sub, fuel := fuel, xi := xi }
theorem cfgN_sub {ds : List FDef} {sub : Nat → Nat → Bool} {xi : Nat → Option String} {fuel n : Nat} : (cfgN ds sub xi fuel n).sub = sub := by cases n <;> rfl
theorem cfgN_xi {ds : List FDef} {sub : Nat → Nat → Bool} {xi : Nat → Option String} {fuel n : Nat} : (cfgN ds sub xi fuel n).xi = xi := by cases n <;> rfl
/-- the scope and the parameters fit -/
def okScope (N ps : List Str) (sc : Scope) : Bool :=
  (sc.kind == .function) && !sc.isCoroutine && !sc.isGenerator && decide N.Nodup && decide (N.take ps.length = ps) && ps.all (fun x => sc.names.lookup x == some .local || sc.names.lookup x == some .cell) && sc.names.all (fun y => y.2 != .free)
theorem scope_ok {N ps : List Str} {sc : Scope} (h : okScope N ps sc = true) : FnScope N ps sc := by
  simp only [okScope, Bool.and_eq_true, Bool.not_eq_true', decide_eq_true_eq, List.all_eq_true, Bool.or_eq_true, beq_iff_eq, bne_iff_ne] at h
  obtain ⟨⟨⟨⟨⟨⟨h1, h2⟩, h3⟩, h4⟩, h5⟩, h6⟩, h7⟩ := h
  exact ⟨h1, h2, h3, h4, h5, h6, h7⟩
section
variable {Γ : Env} {B : Tb} {c : Cfg} {ρ : Rho} {G H : Hp} {η : Hv}
theorem start_ok {N : List Str} {ws : List W} {vs : List V} (r : RepWs Γ G ρ ws vs) : Slots Γ G ρ (startV N ws) (L2.start N vs) := by
  have hl := r.length
  refine ⟨by unfold startV L2.start; simp [hl], fun i w hi => ?_⟩
  unfold startV at hi
  unfold L2.start
  by_cases h : i < ws.length
  · rw [List.getElem?_append_left (by simpa using h), List.getElem?_map] at hi
    rw [List.getElem?_append_left (by simp; omega), List.getElem?_map]
    cases e : ws[i]? with
    | none => rw [e] at hi; cases hi
    | some w' =>
      rw [e] at hi
      cases hi
      obtain ⟨v, h1, h2⟩ := RepWs.get r e
      exact ⟨v, by rw [h1]; rfl, h2⟩
  · rw [List.getElem?_append_right (by simpa using h), List.getElem?_replicate] at hi
    split at hi <;> cases hi
theorem RepWs.pure {G : Hp} {ρ ρ' : Rho} : ∀ {ws : List W} {vs : List V} {ds : List D}, RepWs Γ G ρ ws vs → dats ws = some ds → RepWs Γ G ρ' ws vs
  | _, _, _, .nil, _ => .nil
  | .d x :: ws, _, ds, .cons h r, e => by
    unfold dats at e
    cases q : dats ws with
    | none => rw [q] at e; cases e
    | some xs => exact .cons h (RepWs.pure r q)
  | .ref _ :: _, _, _, .cons _ _, e => by cases e
  | .clo _ _ :: _, _, _, .cons _ _, e => by cases e
/-- a pure call is a call -/
theorem sp_pure {n : Nat} {d : FDef} {vs : List V} {H : Hp} {Q : VK} {E : XK} (h : spF Γ n (pureF c d) vs H Q E) : spF Γ n (runF c d) vs H Q E := by
  obtain ⟨hn, ws, η, ρ, G, S, rw_, h⟩ := h
  refine ⟨hn, ws, [], fun _ => none, G, ⟨S.same, fun n o e => by simp at e, fun n m a h1 => by obtain ⟨o, e, _⟩ := h1; simp at e, fun _ _ => rfl, S.tab, S.ntb⟩, ?_⟩
  unfold pureF at h
  cases e : dats ws with
  | none => rw [e] at h; exact Fin.badE h
  | some ds =>
    rw [e] at h
    simp only at h
    refine ⟨RepWs.pure rw_ e, ?_⟩
    -- the caller's own objects behind the run
    have back : ∀ {ρ' : Rho} {G' H' : Hp} {η' : Hv}, Sim Γ ρ' G' η' H' → Ext (fun _ => none) G [] H ρ' G' η' H' → Sim Γ ρ G' η H' ∧ Ext ρ G η H ρ G' η H' := fun {ρ' G' H' η'} S' E' => by
      have nown : ∀ a, ¬ Own [] (fun _ => none) a := fun a ⟨m, ⟨o, h1, _⟩, _⟩ => by simp at h1
      have gn : ∀ m a o, η[m]? = some o → o ≠ .dead → ρ m = some a → G' a = none := fun m a o h1 h2 h3 => by
        obtain ⟨b, h4, h5, h6⟩ := (S.obj m o h1).at h2
        rw [h3] at h4; cases h4
        cases q : G' a with
        | none => rfl
        | some u =>
          rcases E'.fresh a (by rw [q]; simp) with z | z | z | ⟨xs, z⟩
          · exact absurd h5 z
          · exact absurd z h6
          · exact absurd z (nown a)
          · obtain ⟨b2, u', k1, k2, k3⟩ := (S.obj m o h1).kind h2
            rw [h3] at k1; cases k1
            rw [z] at k2; cases k2
            exact absurd k3 (fun y => y)
      refine ⟨⟨S'.same, fun m o h1 => ?_, S.inj, S.new, S'.tab, S'.ntb⟩, ⟨fun _ _ h => h, E'.same, fun a o h _ nt => E'.kept a o h (nown a) nt, E'.tbl, fun a h => ?_, fun a h => .inl h⟩⟩
      · by_cases hd : o = .dead
        · subst hd; trivial
        · refine (S.obj m o h1).move (fun _ _ q => q) E'.same (fun a ha => gn m a o h1 hd ha) fun a u ha hu => E'.kept a u hu (nown a) fun ps z => ?_
          obtain ⟨b, u', k1, k2, k3⟩ := (S.obj m o h1).kind hd
          rw [ha] at k1; cases k1
          rw [hu] at k2; cases k2
          rw [z] at k3; exact k3
      · rcases E'.fresh a h with z | z | z | z
        · exact .inl z
        · exact .inr (.inl z)
        · exact absurd z (nown a)
        · exact .inr (.inr (.inr z))
    cases q : runF c d ws [] with
    | ok w η' =>
      rw [q] at h
      cases w with
      | d x =>
        intro ρ' G' H' S' E' v rv
        obtain ⟨S2, E2⟩ := back S' E'
        exact h ρ G' H' S2 E2 v rv
      | ref m => exact Fin.badE h
      | clo l cs => exact Fin.badE h
    | exc x η' =>
      rw [q] at h
      intro cls dd ρ' G' H' S' E' rx
      obtain ⟨S2, E2⟩ := back S' E'
      exact h cls dd ρ G' H' S2 E2 rx
    | bad => rw [q] at h; exact Fin.badE h
theorem sp_mode {n : Nat} {d : FDef} {md : Nat} {vs : List V} {H : Hp} {Q : VK} {E : XK} (h : spF Γ n (callF c d md) vs H Q E) : spF Γ n (runF c d) vs H Q E := by
  cases md with
  | zero => exact sp_pure h
  | succ _ => exact h
/-- all defs of the program, as they stand behind the top -/
structure Defs (Γ : Env) (B : Tb) (ds : List FDef) (sub : Nat → Nat → Bool) (xi : Nat → Option String) : Prop where
  gs : Γ.gs = B.gs
  ft : Γ.ft = B.ft
  ks : Γ.ks = B.ks
  pl : Γ.pl = B.pl
  xe : Γ.xi = B.xi
  kwe : Γ.kw = B.kw
  cte : Γ.ct = B.ct
  fx : Facts Γ sub xi
  dt : B.ft = ds.map fun d => (d.x, d.ps.length)
  blt : ∀ x ∈ bltL, Γ.mg x = none
  gl : ∀ (j : Nat) (x : Str), Γ.gs[j]? = some x → ∃ a, Γ.mg x = some (.ref a)
  def_ : ∀ (i : Nat) (d : FDef), ds[i]? = some d → ∃ (f : Addr) (fd : FuncData) (st : Stmt), Γ.mg d.x = some (.ref f) ∧ FunD Γ.K d.x d.x (defArgs st) (defBody st) (defScope st) [] [] f fd ∧ Binds Γ.K fd d.ps [] ∧ okScope d.N d.ps (defScope st) = true ∧ okB B d.sm ⟨d.N, defScope st, none, d.lm⟩ (defBody st) = true ∧
    (∀ (ks : List Str) (pm : List Nat), (i, ks, pm) ∈ Γ.kw → ∀ (s : Shared) (us ws : List Value), Γ.K.In s.heap → us.length = d.ps.length → permL pm us = some ws → BindsTo s fd ⟨[], ks.zip us⟩ (d.ps.zip ws)) ∧
    ∀ q, d.lm = some q → ∃ c P, fd.code = .ref c ∧ LamX.TabB Γ.base Γ.mg c P ∧ d.x ++ ".<locals>." ++ "<lambda>" = q ∧ (P, q) ∈ Γ.T ∧ ∀ p ∈ Γ.T, p.1 = P → p.2 = q
/-- one def keeps its promise over the promises of all -/
theorem fn_ok {ds : List FDef} {sub : Nat → Nat → Bool} {xi : Nat → Option String} {fuel n : Nat} (D : Defs Γ B ds sub xi) (ih : Fns Γ (cfgN ds sub xi fuel n) (7 * n)) {d : FDef} {f : Addr} {fd : FuncData} {st : Stmt} (h2 : FunD Γ.K d.x d.x (defArgs st) (defBody st) (defScope st) [] [] f fd)
    (h4 : okScope d.N d.ps (defScope st) = true) (h5 : okB B d.sm ⟨d.N, defScope st, none, d.lm⟩ (defBody st) = true)
    (h6 : ∀ q, d.lm = some q → ∃ c P, fd.code = .ref c ∧ LamX.TabB Γ.base Γ.mg c P ∧ d.x ++ ".<locals>." ++ "<lambda>" = q ∧ (P, q) ∈ Γ.T ∧ ∀ p ∈ Γ.T, p.1 = P → p.2 = q) :
    FnG Γ.P Γ.w Γ.K Γ.mg Γ.base (L2.CX Γ.P Γ.w) (7 * (n + 1)) f fd d.ps (spF Γ d.ps.length (runF (cfgN ds sub xi fuel n) d)) := by
  obtain ⟨oc, od, dV, kV, doc, pm, an, cdv, ct, osl, rfl, lk, hcd, _, _⟩ := h2.ex
  refine ⟨fun vs H Q E q => q.1, fun A outer s H args us vs Q E hr hgd e0 hb r hsp => LamX.run_ofS (k := 7 * n + 6) lk hcd (scope_ok h4) (by show Room (7 * (n + 1)) A; exact hr) e0 hb r hsp.1 fun hr => ?_⟩
  have g : Gd Γ (cfgN ds sub xi fuel n) ⟨d.N, defScope st, none, d.lm⟩ (7 * n) (fun cls dd _ H => E cls dd H) (cxOf (L2.CX Γ.P Γ.w) Γ.P Γ.w Γ.K Γ.mg Γ.base d.N d.x (defScope st) f cdv A outer s H E) :=
    ⟨rfl, rfl, rfl, rfl, rfl, rfl, (scope_ok h4).nd, rfl, fun _ => rfl, rfl, hr.mono (by unfold SC.up; split <;> omega), takes_of rfl rfl rfl rfl, ih, hgd, fun q hq => h6 q hq⟩
  refine ⟨_, ((sndS D.gs D.ft D.ks D.pl D.xe D.kwe D.cte d.sm) _ (7 * n) _ _ g ⟨(scope_ok h4).kind, rfl, rfl⟩ (passes_of rfl)).2 _ h5, ?_⟩
  obtain ⟨hn, ws, η, ρ, G, S, rw_, q⟩ := hsp
  refine ⟨startV d.N ws, η, ρ, G, S, start_ok rw_, ?_⟩
  unfold runF at q
  cases es : sx (cfgN ds sub xi fuel n) d.sm (startV d.N ws) η with
  | ret w η' => rw [es] at q; exact fun v ρ' G' H' S' E' rv => q ρ' G' H' S' E' v rv
  | nx ν' η' => rw [es] at q; exact fun σ' ρ' G' H' S' E' _ => q ρ' G' H' S' E' .non .non
  | exc x ν' η' => rw [es] at q; exact fun cls dd σ' ρ' G' H' S' E' _ rx => q cls dd ρ' G' H' S' E' rx
  | brk ν' η' => rw [es] at q; exact Fin.badE q
  | cnt ν' η' => rw [es] at q; exact Fin.badE q
  | bad => rw [es] at q; exact Fin.badE q
/-- every def keeps its promise, at every depth -/
theorem fnsN {ds : List FDef} {sub : Nat → Nat → Bool} {xi : Nat → Option String} {fuel : Nat} (D : Defs Γ B ds sub xi) : ∀ n, Fns Γ (cfgN ds sub xi fuel n) (7 * n) := by
  intro n
  induction n with
  | zero =>
    refine ⟨fun i x m h => ?_, D.blt, D.gl, D.fx⟩
    rw [D.ft, D.dt, List.getElem?_map] at h
    cases e : ds[i]? with
    | none => rw [e] at h; cases h
    | some d =>
      rw [e] at h
      cases h
      obtain ⟨f, fd, st, h1, h2, h3, h4, h5, h6, h7⟩ := D.def_ i d e
      refine ⟨f, fd, d.ps, rfl, h1, h2.kp, h3, h6, fun md => ⟨fun vs H Q E q => ?_, fun A outer s H args us vs Q E _ _ _ _ _ q => ?_⟩⟩
      · obtain ⟨_, ws, η, ρ, G, S, rw_, q⟩ := q
        exact Fin.badE q
      · obtain ⟨_, ws, η, ρ, G, S, rw_, q⟩ := q
        exact Fin.badE q
  | succ n ih =>
    refine ⟨fun i x m h => ?_, D.blt, D.gl, D.fx⟩
    rw [D.ft, D.dt, List.getElem?_map] at h
    cases e : ds[i]? with
    | none => rw [e] at h; cases h
    | some d =>
      rw [e] at h
      cases h
      obtain ⟨f, fd, st, h1, h2, h3, h4, h5, h6, h7⟩ := D.def_ i d e
      refine ⟨f, fd, d.ps, rfl, h1, h2.kp, h3, h6, fun md => ?_⟩
      have ec : (cfgN ds sub xi fuel (n + 1)).call md i = callF (cfgN ds sub xi fuel n) d md := by
        funext ws
        show (match ds[i]? with
          | some d => callF (cfgN ds sub xi fuel n) d md ws
          | none => M.bad) = _
        rw [e]
      rw [ec]
      refine FnG.imp (sp := spF Γ d.ps.length (runF (cfgN ds sub xi fuel n) d)) ?_ fun vs H Q E q => sp_mode q
      exact fn_ok D ih h2 h4 h5 h7
end
end Ip

set_option Elab.async false
set_option linter.all false
set_option maxRecDepth 100000
set_option maxHeartbeats 400000
/-! IpHx: looks for exceptions with an attribute. -/
namespace Ip
open PySem PySem.Spec PyProof.Rows L2
open He (ga ma)
theorem oexB_ok {K : PySem.W.Frag} {C : Addr} (h : oexB K C = true) : OexC K C := by
  unfold oexB at h
  simp only [Bool.and_eq_true, decide_eq_true_eq] at h
  obtain ⟨⟨⟨⟨h1, h2⟩, h3⟩, h4⟩, h5⟩ := h
  refine ⟨?_, h2, h3, h4, h5⟩
  split at h1
  · rename_i t dd nm bs c bm N q sn sub ab col k0 k1 k2 k3 id k5 e
    simp only [Bool.and_eq_true, decide_eq_true_eq] at h1
    obtain ⟨⟨⟨rfl, rfl⟩, h6⟩, rfl⟩ := h1
    exact ⟨nm, q, N, bs, bm, sn, sub, ab, col, dd, k0, k1, k2, k3, k5, e, h6⟩
  · cases h1
theorem xicB_ok {K : PySem.W.Frag} {C : Addr} {f : Str} (h : xicB K C f = true) : XiC K C f := by
  unfold xicB at h
  simp only [Bool.and_eq_true, decide_eq_true_eq] at h
  obtain ⟨h1, h2, h3, h4, h5, h6, h7⟩ := h
  exact ⟨oexB_ok h1, h2, h3, h4, h5, h6, h7⟩
theorem xifB_ok {P : Program} {K : PySem.W.Frag} {C fI : Addr} {f : Str} (h : xifB P K C fI f = true) : ∃ fd, XiF P K C fI f fd := by
  unfold xifB at h
  split at h
  · rename_i oc od nm qual params body scope gl n0 cc doc pm an cda ct bn osl e
    simp only [Bool.and_eq_true, decide_eq_true_eq] at h
    obtain ⟨rfl, rfl, rfl, rfl, h1, h2, h3, h4, h5, h6⟩ := h
    refine ⟨_, ⟨oc, od, qual, params, body, scope, doc, pm, an, cda, ct, osl, cc, rfl, e, h1, h2, h3, h4, ?_, ?_⟩⟩
    · unfold cellB at h5
      split at h5
      · rename_i e5
        have h5 := of_decide_eq_true h5
        subst h5
        exact ⟨_, _, _, e5⟩
      · cases h5
    · unfold codeB at h6
      split at h6
      · rename_i e6
        split at h6
        · rename_i e7
          exact ⟨_, _, _, _, _, _, e6, e7, h6⟩
        · cases h6
      · cases h6
  · cases h
theorem sysB_ok {K : PySem.W.Frag} (h : sysB K = true) : SysD K := by
  unfold sysB at h
  split at h
  · rename_i e
    exact ⟨_, _, _, e, rfl⟩
  · cases h
end Ip

set_option Elab.async false
set_option linter.all false
set_option maxRecDepth 100000
set_option maxHeartbeats 400000
/-! IpHd: the facts of the written part, as one look. -/
namespace Ip
open PySem PySem.Spec PyProof.Rows L2
open He (ga Fa)

theorem excB_ok {K : PySem.W.Frag} {D : Addr} (h : excB K D = true) : ExcC K D := by
  unfold excB at h
  simp only [Bool.and_eq_true, decide_eq_true_eq] at h
  obtain ⟨h1, h2, h3, h4, h5, h6, h7, h8⟩ := h
  exact ⟨h1, h2, h3, h4, h5, h6, h7, h8⟩
theorem incB_lt : ∀ {l : List Nat} {i j a b : Nat}, incB l = true → i < j → l[i]? = some a → l[j]? = some b → a < b
  | [], i, j, a, b, _, _, h1, _ => by simp at h1
  | [x], i, j, a, b, _, hij, h1, h2 => by
    have : j < 1 := by
      have := (List.getElem?_eq_some_iff.mp h2).1
      simpa using this
    omega
  | x :: y :: r, i, j, a, b, h, hij, h1, h2 => by
    unfold incB at h
    rw [Bool.and_eq_true, decide_eq_true_eq] at h
    cases j with
    | zero => omega
    | succ j =>
      have h2 : (y :: r)[j]? = some b := by simpa using h2
      cases i with
      | succ i => exact incB_lt (i := i) (j := j) h.2 (Nat.lt_of_succ_lt_succ hij) (by simpa using h1) h2
      | zero =>
        have h1 : x = a := by simpa using h1
        subst h1
        cases j with
        | zero =>
          have h2 : y = b := by simpa using h2
          subst h2
          exact h.1
        | succ j => exact Nat.lt_trans h.1 (incB_lt (i := 0) h.2 (Nat.succ_pos _) rfl h2)
theorem inc_inj {gs : List Str} {K : PySem.W.Frag} (h : incB (gs.map (ga K)) = true) {i j : Nat} (hi : i < gs.length) (hj : j < gs.length) (e : ga K (gs.getD i Str.empty) = ga K (gs.getD j Str.empty)) : i = j := by
  have g : ∀ {k}, k < gs.length → (gs.map (ga K))[k]? = some (ga K (gs.getD k Str.empty)) := fun {k} hk => by
    rw [List.getElem?_map, List.getD_eq_getElem?_getD, List.getElem?_eq_getElem hk]
    rfl
  rcases Nat.lt_trichotomy i j with z | z | z
  · have z := incB_lt h z (g hi) (g hj)
    rw [e] at z
    exact absurd z (Nat.lt_irrefl _)
  · exact z
  · have z := incB_lt h z (g hj) (g hi)
    rw [e] at z
    exact absurd z (Nat.lt_irrefl _)
theorem sub_of {gs : List Str} {anc : Nat → List Nat} {K : PySem.W.Frag} {i j : Nat} (hinc : incB (gs.map (ga K)) = true) (hi : i < gs.length) (hj : j < gs.length) (hm : mrB gs anc K i (ga K (gs.getD i Str.empty)) = true) (hc : clB K (ga K (gs.getD j Str.empty)) = true) :
    PySem.W.kitCls K (.ref (ga K (gs.getD i Str.empty))) (.ref (ga K (gs.getD j Str.empty))) = some (subA anc i j) ∧ PySem.W.kitOne K (.ref (ga K (gs.getD i Str.empty))) (.ref (ga K (gs.getD j Str.empty))) = some (subA anc i j) := by
  unfold mrB at hm
  rw [Bool.and_eq_true, Bool.and_eq_true] at hm
  obtain ⟨h1, h2, h3⟩ := hm
  unfold clB at hc
  cases e : PySem.W.clsIn K (ga K (gs.getD i Str.empty)) with
  | none => rw [e] at h3; cases h3
  | some cd =>
    rw [e] at h3
    have h3 : cd.mro = _ := beq_iff_eq.mp h3
    have hcont : cd.mro.contains (.ref (ga K (gs.getD j Str.empty))) = subA anc i j := by
      rw [h3]
      unfold subA
      apply Bool.eq_iff_iff.mpr
      rw [List.contains_iff_mem, List.mem_append, List.mem_map, List.contains_iff_mem]
      constructor
      · rintro (⟨k, hk, ek⟩ | z)
        · have hk2 := of_decide_eq_true (List.all_eq_true.mp h2 k hk)
          have := inc_inj hinc hk2 hj (Value.ref.inj ek)
          rw [← this]; exact hk
        · simp [veB] at z
      · exact fun z => .inl ⟨j, z, rfl⟩
    have hmro : PySem.W.subIn K (.ref (ga K (gs.getD i Str.empty))) (.ref (ga K (gs.getD j Str.empty))) = some (subA anc i j) := by
      show PySem.W.mroIn K _ _ = _
      unfold PySem.W.mroIn
      rw [e, Option.bind_some, hcont]
      have hne : cd.mro.isEmpty = false := by
        rw [h3]
        cases (anc i).map (fun k => Value.ref (ga K (gs.getD k Str.empty))) <;> rfl
      rw [hne]
      rfl
    have hcls : PySem.W.kitCls K (.ref (ga K (gs.getD i Str.empty))) (.ref (ga K (gs.getD j Str.empty))) = some (subA anc i j) := by
      show (if _ = true then _ else _) = _
      rw [if_pos hc, hmro]
    refine ⟨hcls, ?_⟩
    unfold PySem.W.kitOne
    by_cases q : (Value.ref (ga K (gs.getD i Str.empty)) == Value.ref (ga K (gs.getD j Str.empty))) = true
    · rw [if_pos q]
      have := inc_inj hinc hi hj (Value.ref.inj (beq_iff_eq.mp q))
      subst this
      unfold subA
      rw [h1]
    · rw [if_neg q]; exact hcls
section
variable {Γ : Env} {B : Tb} {anc : Nat → List Nat} {xi : Nat → Option String} {h : Heap}
structure FactsB (Γ : Env) (B : Tb) (anc : Nat → List Nat) (xi : Nat → Option String) : Prop where
  gs : Γ.gs = B.gs
  ft : Γ.ft = B.ft
  ks : Γ.ks = B.ks
  pl : Γ.pl = B.pl
  xe : Γ.xi = B.xi
  ct : Γ.ct = B.ct
  kw : Γ.kw = B.kw
  all : factsB Γ.P B anc xi Γ.K = true
theorem FactsB.glo (F : FactsB Γ B anc xi) (X : Γ.K.In h) (G : h.Ns mainGlobals Γ.mg) {j : Nat} {x : Str} (e : B.gs[j]? = some x) : Γ.mg x = some (.ref (ga Γ.K x)) := by
  have a := F.all
  unfold factsB at a
  rw [Bool.and_eq_true, Bool.and_eq_true] at a
  exact He.glo_ok X G (List.all_eq_true.mp a.1.1 x (List.mem_of_getElem? e))
theorem FactsB.fun_ (F : FactsB Γ B anc xi) (X : Γ.K.In h) (G : h.Ns mainGlobals Γ.mg) {p : Str × Nat} (e : p ∈ B.ft) : Γ.mg p.1 = some (.ref (ga Γ.K p.1)) := by
  have a := F.all
  unfold factsB at a
  rw [Bool.and_eq_true, Bool.and_eq_true] at a
  exact He.glo_ok X G (List.all_eq_true.mp a.1.2 p e)
theorem FactsB.blt (F : FactsB Γ B anc xi) (X : Γ.K.In h) (G : h.Ns mainGlobals Γ.mg) : ∀ x ∈ bltL, Γ.mg x = none := fun x hx => by
  have a := F.all
  unfold factsB at a
  rw [Bool.and_eq_true, Bool.and_eq_true _ (_ && _)] at a
  exact He.free_ok X G (List.all_eq_true.mp a.2.1 x hx)
theorem FactsB.cat_ (F : FactsB Γ B anc xi) (X : Γ.K.In h) (G : h.Ns mainGlobals Γ.mg) {p : Str × Nat} (e : p ∈ B.ct) : Γ.mg p.1 = some (.ref (ga Γ.K p.1)) := by
  have a := F.all
  unfold factsB at a
  simp only [Bool.and_eq_true] at a
  obtain ⟨a1, a2, a3, a4, a5, a6, a7, a8, a9, a10, a12, a11⟩ := a
  exact He.glo_ok X G (List.all_eq_true.mp a12 p e)
theorem isX_all (F : FactsB Γ B anc xi) {i : Nat} (h : isX Γ i) : i ∈ allX B := by
  unfold allX
  rcases h with h | ⟨f, h⟩
  · rw [F.pl] at h
    exact List.mem_append_left _ h
  · rw [F.xe] at h
    exact List.mem_append_right _ (List.mem_map.mpr ⟨_, h, rfl⟩)
theorem FactsB.facts (F : FactsB Γ B anc xi) (X : Γ.K.In h) (G : h.Ns mainGlobals Γ.mg)
    (hcat : ∀ (x : Str) (q : Nat), (x, q) ∈ Γ.ct → isX Γ q ∧ ∃ (g : Addr) (fd : FuncData) (st : Stmt) (wn cn : Str), Γ.mg x = some (.ref g) ∧ FunD Γ.K x x (defArgs st) (defBody st) (defScope st) [] [] g fd ∧ Binds Γ.K fd [wn] [] ∧ catB Γ.gs q wn cn st = true) : Facts Γ (subA anc) xi := by
  have a := F.all
  unfold factsB at a
  simp only [Bool.and_eq_true] at a
  obtain ⟨a1, a2, a3, a4, a5, a6, a7, a8, a9, a10, a12, a11⟩ := a
  obtain ⟨a5, a5c, a5i⟩ := a5
  have gD : ∀ {k : Nat} {x : Str}, B.gs[k]? = some x → k < B.gs.length ∧ B.gs.getD k Str.empty = x := fun {k x} e => ⟨(List.getElem?_eq_some_iff.mp e).1, by rw [List.getD_eq_getElem?_getD, e]; rfl⟩
  have xr : ∀ (i : Nat) (x : Str), isX Γ i → Γ.gs[i]? = some x → mrB B.gs anc Γ.K i (ga Γ.K x) = true ∧ PySem.W.subIn Γ.K (.ref (ga Γ.K x)) (.type "BaseException") = some true := fun i x hi hx => by
    rw [F.gs] at hx
    have k := List.all_eq_true.mp a5 _ (isX_all F hi)
    rw [hx] at k
    simp only [Bool.and_eq_true, decide_eq_true_eq] at k
    exact k
  have pair : ∀ (i j : Nat) (x y : Str), isX Γ i → Γ.gs[i]? = some x → Γ.gs[j]? = some y → PySem.W.kitCls Γ.K (.ref (ga Γ.K x)) (.ref (ga Γ.K y)) = some (subA anc i j) ∧ PySem.W.kitOne Γ.K (.ref (ga Γ.K x)) (.ref (ga Γ.K y)) = some (subA anc i j) := fun i j x y hi hx hy => by
    have k := (xr i x hi hx).1
    rw [F.gs] at hx hy
    obtain ⟨l1, e1⟩ := gD hx
    obtain ⟨l2, e2⟩ := gD hy
    have c2 := List.all_eq_true.mp a5c y (List.mem_of_getElem? hy)
    rw [← e1] at k ⊢
    rw [← e2] at c2 ⊢
    exact sub_of a5i l1 l2 k c2
  refine ⟨fun x d hx => ?_, fun j x hj hx => ?_, fun i j x y C D hi hj hx hy mx my => ?_, fun i j x y C D hi hx hy mx my => ?_, fun i x C hi hx mx => ?_, fun j f x hj hx => ?_, fun j hj => ?_, fun j f hj => ?_, sysB_ok a10, fun hne => ?_, hcat⟩
  · rw [F.ks] at hx
    have k := List.all_eq_true.mp a3 _ hx
    cases d <;> first | (cases k; done) | skip
    · obtain ⟨t, q⟩ := He.int_ok X G k
      exact ⟨.int _, _, q, ⟨t, rfl⟩, fun _ => .int _⟩
    · obtain ⟨t, q⟩ := He.str_ok X G k
      exact ⟨.str _, _, q, ⟨t, rfl⟩, fun _ => .str _⟩
  · rw [F.pl] at hj
    rw [F.gs] at hx
    have k := List.all_eq_true.mp a4 _ hj
    rw [hx] at k
    simp only [Bool.and_eq_true] at k
    obtain ⟨k1, k2, k3, k4⟩ := He.exc_ok k.1
    exact ⟨_, _, _, _, _, F.glo X G hx, PySem.F.excBase_ValueError, k1, k2, k3, k4, excB_ok k.2⟩
  · have k := (pair i j x y hi hx hy).1
    have kb := (xr j y hj hy).2
    rw [F.gs] at hx hy
    rw [F.glo X G hx] at mx
    rw [F.glo X G hy] at my
    cases mx; cases my
    unfold PySem.W.exmOne
    rw [kb]
    exact k
  · have k := (pair i j x y hi hx hy).2
    rw [F.gs] at hx hy
    rw [F.glo X G hx] at mx
    rw [F.glo X G hy] at my
    cases mx; cases my
    exact k
  · rw [F.gs] at hx
    rw [F.glo X G hx] at mx
    cases mx
    have k := List.all_eq_true.mp a6 _ (isX_all F hi)
    rw [hx] at k
    exact of_decide_eq_true k
  · rw [F.xe] at hj
    rw [F.gs] at hx
    have k := List.all_eq_true.mp a7 _ hj
    simp only [hx, Bool.and_eq_true, decide_eq_true_eq] at k
    obtain ⟨k1, k2, k3, k4, k5, k6⟩ := k
    obtain ⟨fd, k1⟩ := xifB_ok k1
    exact ⟨_, _, fd, F.glo X G hx, k1, xicB_ok k2, k3, k4, xfB_ok k5, excB_ok k6⟩
  · rw [F.pl] at hj
    have k := List.all_eq_true.mp a8 _ hj
    exact Option.isNone_iff_eq_none.mp k
  · rw [F.xe] at hj
    exact of_decide_eq_true (List.all_eq_true.mp a9 _ hj)
  · rw [Bool.or_eq_true] at a11
    rcases a11 with z | z
    · rw [F.xe] at hne
      exact absurd (List.isEmpty_iff.mp z) hne
    · simpa using z
end
end Ip

set_option Elab.async false
set_option linter.all false
set_option maxRecDepth 100000
set_option maxHeartbeats 400000
/-! IpHk: the look at the heap behind the top: no lists, no code tables in the kept part. -/
namespace Ip
open PySem PySem.Spec PyProof.Rows L2
open He (DefD SaysD obsD valD frG AlD emptyTab lookup_mem frG_mem tabsB cT emptyTab_eq)

/-- a list is not of the kept part -/
theorem sq_own {K : PySem.W.Frag} (nol : ∀ a o, K.lookup a = some o → isLs o = false) {H : Hp} {a : Addr} {xs : List V} (h : SqL K H a xs) : Rd H a (.lst xs) := by
  rcases h with h | ⟨o, its, n, h1, h2, _⟩
  · exact h
  · have q := nol a o h1
    unfold isLs at q
    rw [h2] at q
    simp at q
end Ip

set_option Elab.async false
set_option linter.all false
set_option maxRecDepth 100000
set_option maxHeartbeats 400000
/-! IpEnd: from the look at the heap to all defs' promises, and the law's own. -/
namespace Ip
open PySem PySem.Spec PyProof.Rows L2

/-- the defs that make lambdas, and their names -/
def lms (ds : List FDef) : List (Str × Str) := ds.filterMap fun d => d.lm.map fun q => (d.x, q)
def tfOf (ds : List FDef) : List He.Defn := (lms ds).map fun p => (p.1, none)
/-- a def's small form fits its statement -/
def chkD (B : Tb) (d : FDef) (st : Stmt) : Bool := okScope d.N d.ps (defScope st) && okB B d.sm ⟨d.N, defScope st, none, d.lm⟩ (defBody st) && decide (nmD st = d.x) && (match d.lm with
  | some q => decide (d.x ++ ".<locals>." ++ "<lambda>" = q)
  | none => true)
/-- no defaults, any arguments -/
theorem _root_.L2.FunD.bindsK {K : PySem.W.Frag} {x qual : Str} {params : Arguments} {body : List Stmt} {scope : Scope} {kws : List (Str × V)} {f : Addr} {fd : FuncData} (F : FunD K x qual params body scope [] kws f fd) {args : Args} {binds : List (Str × Value)}
    (h : ∀ (kV doc pm : Value) (an : Option Addr) (cdv ct : Value), bindArgs (PySem.W.fnOf x qual params body scope .none kV doc pm an cdv ct) args = pure binds) (s : Shared) : BindsTo s fd args binds := by
  obtain ⟨oc, od, dV, kV, doc, pm, an, cdv, ct, osl, rfl, lk, hcd, hD, hK⟩ := F.ex
  rcases hD with ⟨_, rfl⟩ | ⟨e, _⟩
  · exact .of_eq (h kV doc pm an cdv ct)
  · exact absurd rfl e
/-- how its arguments are bound -/
def BindD (B : Tb) (i : Nat) (d : FDef) (K : PySem.W.Frag) (fd : FuncData) : Prop := Binds K fd d.ps [] ∧ ∀ (ks : List Str) (pm : List Nat), (i, ks, pm) ∈ B.kw → ∀ (s : Shared) (us ws : List Value), K.In s.heap → us.length = d.ps.length → permL pm us = some ws → BindsTo s fd ⟨[], ks.zip us⟩ (d.ps.zip ws)
/-- all defs fit -/
structure Chk (B : Tb) (ds : List FDef) (sts : List Stmt) (K : PySem.W.Frag) : Prop where
  dt : B.ft = ds.map fun d => (d.x, d.ps.length)
  hc : ∀ (i : Nat) (d : FDef), ds[i]? = some d → ∃ st ∈ sts, chkD B d st = true ∧ ∀ (f : Addr) (fd : FuncData), FunD K d.x d.x (defArgs st) (defBody st) (defScope st) [] [] f fd → BindD B i d K fd
  ct : ∀ (x : Str) (q : Nat), (x, q) ∈ B.ct → (q ∈ B.pl ∨ ∃ f, (q, f) ∈ B.xi) ∧ ∃ st ∈ sts, ∃ wn cn, nmD st = x ∧ catB B.gs q wn cn st = true ∧ ∀ (f : Addr) (fd : FuncData), FunD K x x (defArgs st) (defBody st) (defScope st) [] [] f fd → Binds K fd [wn] []
section
variable {Γ : Env} {B : Tb} {anc : Nat → List Nat} {xi : Nat → Option String} {h : Heap} {ds : List FDef} {sts : List Stmt}
theorem fun_st (c : He.SaysD [] (sts.map ddOf) Γ.K) {st : Stmt} (hs : st ∈ sts) {x : Str} (hx : nmD st = x) : ∃ fd, FunD Γ.K x x (defArgs st) (defBody st) (defScope st) [] [] (He.ga Γ.K x) fd := by
  obtain ⟨i, e⟩ := List.getElem?_of_mem hs
  obtain ⟨fd, FD⟩ := c.def_ i (d := ddOf st) (by rw [List.getElem?_map, e]; rfl)
  refine ⟨fd, ?_⟩
  rw [← hx]
  exact FD
theorem defs_of (F : FactsB Γ B anc xi) (X : Γ.K.In h) (G : h.Ns mainGlobals Γ.mg) (c : He.SaysD [] (sts.map ddOf) Γ.K) (C : Chk B ds sts Γ.K) (hu : tabUL (lms ds) Γ.K = true) (hT : Γ.T = (lms ds).map fun p => (tbl Γ.K p, p.2))
    (hTB : ∀ p ∈ tfOf ds, LamX.TabB Γ.base Γ.mg (He.cT Γ.K p).1 (He.cT Γ.K p).2) : Defs Γ B ds (subA anc) xi := by
  refine ⟨F.gs, F.ft, F.ks, F.pl, F.xe, F.kw, F.ct, F.facts X G fun x q hx => ?_, C.dt, F.blt X G, fun j x hx => ?_, fun i d hd => ?_⟩
  · rw [F.ct] at hx
    obtain ⟨k1, st, k2, wn, cn, k3, k4, k5⟩ := C.ct x q hx
    obtain ⟨fd, FD⟩ := fun_st c k2 k3
    refine ⟨?_, _, fd, st, wn, cn, F.cat_ (p := (x, q)) X G hx, FD, k5 _ _ FD, by rw [F.gs]; exact k4⟩
    unfold isX
    rw [F.pl, F.xe]
    exact k1
  · rw [F.gs] at hx
    exact ⟨_, F.glo X G hx⟩
  · obtain ⟨st, e1, e2, e3⟩ := C.hc i d hd
    unfold chkD at e2
    simp only [Bool.and_eq_true, decide_eq_true_eq] at e2
    obtain ⟨⟨⟨k1, k2⟩, k3⟩, k4⟩ := e2
    obtain ⟨fd, FD⟩ := fun_st c e1 k3
    have hm : Γ.mg d.x = some (.ref (He.ga Γ.K d.x)) := F.fun_ (p := (d.x, d.ps.length)) X G (by rw [C.dt]; exact List.mem_map.mpr ⟨d, List.mem_of_getElem? hd, rfl⟩)
    obtain ⟨b1, b2⟩ := e3 _ _ FD
    refine ⟨_, fd, st, hm, FD, b1, k1, k2, fun ks pm hk => b2 ks pm (by rw [← F.kw]; exact hk), fun q hq => ?_⟩
    rw [hq] at k4
    have hmem : (d.x, q) ∈ lms ds := List.mem_filterMap.mpr ⟨d, List.mem_of_getElem? hd, by rw [hq]; rfl⟩
    obtain ⟨oc, od, dV, kV, doc, pm, an, cdv, ct, osl, rfl, lk, hcd, _, _⟩ := FD.ex
    obtain ⟨ca, rfl⟩ := He.codeIn_ref hcd
    have ec : He.codeOf Γ.K (d.x, none) = ca := He.codeOf_eq (p := (d.x, none)) lk rfl
    have e1 : (He.cT Γ.K (d.x, none)).1 = ca := ec
    refine ⟨ca, tbl Γ.K (d.x, q), rfl, ?_, of_decide_eq_true k4, ?_, fun p hp he => ?_⟩
    · have := hTB (d.x, none) (List.mem_map.mpr ⟨_, hmem, rfl⟩)
      rw [e1] at this
      exact this
    · rw [hT]
      exact List.mem_map.mpr ⟨_, hmem, rfl⟩
    · rw [hT] at hp
      obtain ⟨p0, hp0, rfl⟩ := List.mem_map.mp hp
      exact of_decide_eq_true (List.all_eq_true.mp (List.all_eq_true.mp hu p0 hp0) _ hmem) he
/-- the script, as it stands at the law's entry -/
theorem rep_ints {G : Hp} : ∀ (ns : List Int), RepL Γ G (ns.map D.int) (ns.map V.int)
  | [] => .nil
  | n :: ns => .cons (.int n) (rep_ints ns)
def noT (H : Hp) : Hp := fun b => match H b with
  | some (.tbl _) => none
  | o => o
theorem noT_same {H : Hp} : Same (noT H) H := fun b o e => by
  unfold noT at e
  split at e
  · cases e
  · exact e
theorem noT_no {H : Hp} {a : Addr} {ps : Array Value} : noT H a ≠ some (.tbl ps) := fun e => by
  unfold noT at e
  split at e
  · cases e
  · rename_i h
    exact h ps e
theorem noT_rd {H : Hp} {a : Addr} {xs : List V} (h : Rd H a (.lst xs)) : Rd (noT H) a (.lst xs) := by
  unfold Rd at h ⊢
  have : ∀ o : HO, (∀ ps, o ≠ .tbl ps) → H a = some o → noT H a = some o := fun o ho e => by
    unfold noT
    rw [e]
    split
    · rename_i ps e2
      cases e2
      exact absurd rfl (ho ps)
    · rfl
  rcases h with h | ⟨o, h⟩
  · exact .inl (this _ (fun _ z => by cases z) h)
  · exact .inr ⟨o, this _ (fun _ z => by cases z) h⟩
/-- the law's promise -/
theorem sp_law {c : Cfg} {d : FDef} {H : Hp} {a : Addr} {ns : List Int} (hTb : ∀ p ∈ Γ.T, H p.1 = some (.tbl #[])) (hS : Rd H a (.lst (ns.map V.int)))
    (hr : ∃ η', runF c d [.d (.lst (ns.map D.int))] [] = .ok (.d (.bl true)) η') : spF Γ 1 (runF c d) [.ref a] H (fun v _ => v = .bl true) (fun _ _ _ => False) := by
  obtain ⟨η', hr⟩ := hr
  refine ⟨rfl, [.d (.lst (ns.map D.int))], [], fun _ => none, noT H, ⟨noT_same, fun n o e => by simp at e, fun n m b h1 => by obtain ⟨o, e, _⟩ := h1; simp at e, fun _ _ => rfl, ?_, ?_⟩, .cons (show Rep Γ (noT H) _ _ from .lst (noT_rd hS) (rep_ints ns)) .nil, ?_⟩
  · intro p hp
    exact ⟨#[], hTb p hp, True.intro, fun pos cv e => by cases e⟩
  · exact fun a ps => noT_no
  · rw [hr]
    intro ρ' G' H' S' E' v rv
    cases rv
    rfl
end
end Ip

set_option Elab.async false
set_option linter.all false
set_option maxRecDepth 100000
set_option maxHeartbeats 2000000
/-! IpEnd2: the end of a law by such promises. -/
namespace Ip
open PySem PySem.Spec PyProof.Rows L2 LamX
/-- HandS.EndTab's end, where no object's repr is under way -/
theorem law_callG {P : Program} {w : World} {K : PySem.W.Frag} {mg mb : Str → Option Value} {CX : CXT} {k : Nat} {fa a : Addr} {cs : List (Addr × Addr)} {fd : FuncData} {x : Str} {sp : Sp} {s₁ : Shared} {vs : List Value} {ns : List Int}
    (KX : K.In s₁.heap) (hns : s₁.heap.Ns mainGlobals mg) (hb : s₁.heap.Ns builtinsNs mb) (hbb : ∀ x : Str, x ≠ "__name__" → mb x = bootBuiltins x) (hlim : s₁.heap.NoLimit) (hg : s₁.gens = #[])
    (hT : ∀ p ∈ cs, s₁.heap.get? p.2 = some { cls := .none, data := .fields #[] }) (nT : ∀ p ∈ cs, K.lookup p.2 = none) (C : ∀ p ∈ cs, PySem.W.CodeHd s₁.heap p.1 p.2)
    (hbm : ∃ (bm : Addr) (ob : Obj), mg "__builtins__" = some (.ref bm) ∧ bm ≠ builtinsNs ∧ s₁.heap.get? bm = some ob ∧ ob.cls = .type "module" ∧ ob.dict = some builtinsNs ∧ ob.data = .plain)
    (ha : s₁.heap.get? a = some { cls := .type "list", data := .seq vs.toArray }) (hi : IntsAre vs ns) (hl : ns.length ≤ sizeLine) (hr : Room k callerA)
    (F : ∀ base : Heap, K.In base → base.Ns mainGlobals mg → (∀ p ∈ cs, TabB base mg p.1 p.2) → FnG P w K mg base CX k fa fd [x] sp) (hbind : ∀ (s : Shared) (u : Value), K.In s.heap → BindsTo s fd ⟨[u], []⟩ [(x, u)])
    (hsp : ∀ H : Hp, (∀ p ∈ cs, H p.2 = some (.tbl #[])) → SqL K H a (ns.map V.int) → sp [.ref a] H (fun v _ => v = .bl true) fun _ _ _ => False)
    (hCX : ∀ H e s', CX [] H s₁ (fun _ _ _ => False) e s' → False) :
    codeAny (model P w) callerA (.call (.ref fa) ⟨[.ref a], []⟩) (fun r s' => r = .ok (.ret (.bool true)) ∧ OldK s₁.heap s'.heap ∧ s'.os = s₁.os ∧ AllBare s'.gens) s₁ := by
  have rv := vals_ints hi
  have lenV := hi.length
  have isT : ∀ b : Addr, b ∈ cs.map (·.2) → s₁.heap.get? b = some { cls := .none, data := .fields #[] } := fun b hb => by
    obtain ⟨p, hp, e⟩ := List.mem_map.mp hb
    rw [← e]
    exact hT p hp
  have aT : a ∉ cs.map (·.2) := fun z => by
    have q := isT a z
    rw [ha] at q
    have z' : Data.seq vs.toArray _ = Data.fields #[] := congrArg Obj.data (Option.some.inj q)
    cases z'
  have memT : ∀ p ∈ cs, p.2 ∈ cs.map (·.2) := fun p hp => List.mem_map.mpr ⟨p, hp, rfl⟩
  -- from an abstract heap in which nothing but the script and the tables may be tracked
  have core : ∀ H : Hp, (∀ p ∈ cs, H p.2 = some (.tbl #[])) → (∀ b, H b = none ∨ b ∈ cs.map (·.2) ∨ ∃ o xs, H b = some (.frz o (.lst xs))) → SqL K H a (ns.map V.int) → HOk P w H s₁.heap → (∀ b, H b ≠ none → b = a ∨ b ∈ cs.map (·.2)) → (H a ≠ none → K.lookup a = none) →
      codeAny (model P w) callerA (.call (.ref fa) ⟨[.ref a], []⟩) (fun r s' => r = .ok (.ret (.bool true)) ∧ OldK s₁.heap s'.heap ∧ s'.os = s₁.os ∧ AllBare s'.gens) s₁ := by
    intro H hH hO hS hok hA hK
    have base_of : ∀ {b : Addr} {o : Obj}, s₁.heap.get? b = some o → H b = none → (hidT s₁.heap H).get? b = some o := fun e n => hidT_get e n
    have noD : ∀ {b : Addr} {o : Obj}, s₁.heap.get? b = some o → (∀ vs n, o.data ≠ .seq vs n) → o.data ≠ .fields #[] → H b = none := fun {b o} e h1 h2 => by
      cases q : H b with
      | none => rfl
      | some u =>
        rcases hA b (by rw [q]; simp) with e' | e'
        · rw [e', ha] at e
          cases e
          exact (h1 _ _ rfl).elim
        · rw [isT b e'] at e
          cases e
          exact (h2 rfl).elim
    have noA : ∀ {b : Addr} {o : Obj} {es : Array DictEntry} {ep : Nat}, s₁.heap.get? b = some o → o.data = .dict es ep → H b = none := fun {b o es ep} e d => by
      refine noD e (fun vs n z => ?_) fun z => ?_
      · rw [d] at z
        cases z
      · rw [d] at z
        cases z
    have nsK : ∀ {b : Addr} {m : Str → Option Value}, s₁.heap.Ns b m → (hidT s₁.heap H).Ns b m := fun {b m} ⟨o, es, ep, e, d, r⟩ => ⟨o, es, ep, base_of e (noA e d), d, r⟩
    have hKb : K.In (hidT s₁.heap H) := fun b o e => base_of (KX b o e) (by
      cases q : H b with
      | none => rfl
      | some u =>
        rcases hA b (by rw [q]; simp) with e' | e'
        · rw [e'] at e q
          rw [hK (by rw [q]; simp)] at e
          cases e
        · obtain ⟨p, hp, ep⟩ := List.mem_map.mp e'
          rw [← ep, nT p hp] at e
          cases e)
    have hM : L2.Mod K mg (hidT s₁.heap H) := ⟨hKb, nsK hns, ⟨mb, nsK hb, hbb⟩, let ⟨mc, h1, h2⟩ := hlim; ⟨mc, nsK h1, h2⟩⟩
    have TB : ∀ p ∈ cs, TabB (hidT s₁.heap H) mg p.1 p.2 := fun p hp => by
      have hTp := hT p hp
      refine ⟨?_, ?_, fun z => ?_⟩
      · obtain ⟨o, us, file, tf, flags, tg, inF, text, tt, e1, r1, r2, r3, r4, r5, r6, r7, r8, hne⟩ := C p hp
        refine ⟨o, us, file, tf, flags, tg, inF, text, tt, base_of e1 (noD e1 (fun vs n z => ?_) fun z => ?_), r1, r2, r3, r4, r5, r6, r7, r8, hne⟩
        · rw [r2] at z
          cases z
        · rw [r2] at z
          cases z
          simp at r3
      · obtain ⟨bm, ob, b1, b2, b3, b4, b5, b6⟩ := hbm
        have nG : bm ≠ mainGlobals := fun q => by
          obtain ⟨o, es, ep, e, hd, _⟩ := hns
          rw [q, e] at b3
          cases b3
          rw [hd] at b6
          cases b6
        have nP : bm ≠ p.2 := fun q => by
          rw [q, hTp] at b3
          cases b3
          cases b6
        refine ⟨bm, ob, b1, b2, nG, nP, base_of b3 (noD b3 (fun vs n z => ?_) fun z => ?_), b4, b5, b6⟩
        · rw [b6] at z
          cases z
        · rw [b6] at z
          cases z
      · obtain ⟨o, es, ep, e, hd, _⟩ := hns
        rw [z, hTp] at e
        cases e
        cases hd
    have e0 : Env0 P w K mg (hidT s₁.heap H) callerA [] s₁ H := ⟨rfl, hM, fun b o e => of_hidT e, Nat.le_of_eq (hidT_size _ _), trivial, fun b hb => absurd (show b ∈ ([] : List Addr) from hb) (by simp), hok, .of_eq hg⟩
    refine codeAny_mono ((F _ hKb (nsK hns) TB).go callerA [] s₁ H ⟨[.ref a], []⟩ [.ref a] [.ref a] _ _ hr rfl e0 (hbind s₁ (.ref a) KX) (.cons rfl .nil) (hsp H hH hS)) fun r s' h => ?_
    cases r with
    | error e => exact (hCX H e s' h).elim
    | ok fl =>
      cases fl with
      | next => exact False.elim h
      | brk => exact False.elim h
      | cont => exact False.elim h
      | ret u =>
        obtain ⟨v, H', os, bare, un, hok', r', q⟩ := h
        have q' : v = .bl true := q
        subst q'
        obtain rfl : u = Value.bool true := r'
        have key : ∀ b o, b ∉ cs.map (·.2) → s₁.heap.get? b = some o → s'.heap.get? b = some o := fun b o nb e => by
          cases q : H b with
          | none => exact un.keep b o e q (by intro z; exact absurd (show b ∈ ([] : List Addr) from z) (by simp)) (by simp)
          | some u =>
            rcases hO b with z | z | ⟨ob, xs, z⟩
            · rw [q] at z; cases z
            · exact absurd z nb
            · have z2 := un.frzs b ob _ z
              obtain ⟨e1, _⟩ := hok b _ z
              obtain ⟨e2, _⟩ := hok' b _ z2
              rw [e] at e1; cases e1
              exact e2
        have grown : ∀ p ∈ cs, ∃ more : Array Value, s'.heap.get? p.2 = some { cls := .none, data := .fields more } := fun p hp => by
          obtain ⟨more, z⟩ := un.tbls p.2 #[] (hH p hp)
          exact ⟨_, hok' p.2 _ z⟩
        refine ⟨rfl, ⟨fun b o e => ?_, fun b o e => ?_⟩, os, bare⟩
        · by_cases hb : b ∈ cs.map (·.2)
          · obtain ⟨p, hp, ep⟩ := List.mem_map.mp hb
            obtain ⟨more, hm⟩ := grown p hp
            rw [← ep] at e ⊢
            rw [hT p hp] at e
            cases e
            exact .inr (.inl ⟨((C p hp).tab (hT p hp)).isCodeTable, rfl, #[], more, rfl, by rw [Array.empty_append]; exact hm⟩)
          · exact .inl (key b o hb e)
        · by_cases hb : b ∈ cs.map (·.2)
          · obtain ⟨p, hp, ep⟩ := List.mem_map.mp hb
            obtain ⟨more, hm⟩ := grown p hp
            rw [← ep]
            exact ⟨_, hm⟩
          · exact ⟨o, key b o hb e⟩
  cases hk : K.lookup a with
  | some o =>
    have e := KX a o hk
    rw [ha] at e
    cases e
    refine core (fun b => if b ∈ cs.map (·.2) then some (.tbl #[]) else none) (fun p hp => if_pos (memT p hp)) (fun b => ?_) (.inr ⟨_, vs.toArray, _, hk, rfl, rfl, rfl, by rw [List.size_toArray, lenV]; exact hl, by simpa using rv⟩) (fun b u z => ?_) (fun b z => ?_) fun z => absurd (show (if a ∈ cs.map (·.2) then some (HO.tbl #[]) else none) = none from if_neg aT) z
    · by_cases hb : b ∈ cs.map (·.2)
      · exact .inr (.inl hb)
      · exact .inl (if_neg hb)
    · by_cases hb : b ∈ cs.map (·.2)
      · have z' := (if_pos hb).symm.trans z
        cases z'
        exact isT b hb
      · have z' := (if_neg hb).symm.trans z
        cases z'
    · by_cases hb : b ∈ cs.map (·.2)
      · exact .inr hb
      · exact absurd (if_neg hb) z
  | none =>
    refine core (fun b => if b = a then some (.frz { cls := .type "list", data := .seq vs.toArray } (.lst (ns.map V.int))) else if b ∈ cs.map (·.2) then some (.tbl #[]) else none) (fun p hp => (if_neg (show ¬ p.2 = a from fun z => aT (by rw [← z]; exact memT p hp))).trans (if_pos (memT p hp))) (fun b => ?_)
      (.inl (.inr ⟨{ cls := .type "list", data := .seq vs.toArray }, if_pos rfl⟩)) (fun b u z => ?_) (fun b z => ?_) fun _ => hk
    · by_cases hb : b = a
      · exact .inr (.inr ⟨_, _, if_pos hb⟩)
      · by_cases hb2 : b ∈ cs.map (·.2)
        · exact .inr (.inl hb2)
        · exact .inl ((if_neg hb).trans (if_neg hb2))
    · by_cases hb : b = a
      · have z' := (if_pos hb).symm.trans z
        cases z'
        rw [hb]
        exact ⟨ha, by rw [List.length_map]; exact hl, vs, _, rv, ha⟩
      · have z1 := (if_neg hb).symm.trans z
        by_cases hb2 : b ∈ cs.map (·.2)
        · have z' := (if_pos hb2).symm.trans z1
          cases z'
          exact isT b hb2
        · have z' := (if_neg hb2).symm.trans z1
          cases z'
    · by_cases hb : b = a
      · exact .inl hb
      · by_cases hb2 : b ∈ cs.map (·.2)
        · exact .inr hb2
        · exact absurd ((if_neg hb).trans (if_neg hb2)) z
def LawAtG (l : PySem.W.OpenLaw) (w : World) (K : PySem.W.Frag) (CX : CXT) (k n : Nat) (x : Str) (mg : Str → Option Value) (fa : Addr) (h : Heap) : Prop :=
  ∃ (fd : FuncData) (cs : List (Addr × Addr)) (sp : Sp), (∀ p ∈ cs, h.get? p.2 = some { cls := .none, data := .fields #[] }) ∧ (∀ p ∈ cs, K.lookup p.2 = none) ∧ (∀ p ∈ cs, PySem.W.CodeHd h p.1 p.2) ∧ (∀ (s : Shared) (u : Value), K.In s.heap → BindsTo s fd ⟨[u], []⟩ [(x, u)]) ∧
    (∀ (H : Hp) (a : Addr) (ns : List Int), ns.length ≤ n → (∀ z ∈ ns, Builtin.Int.intBits z ≤ 1048576) → (∀ p ∈ cs, H p.2 = some (.tbl #[])) → SqL K H a (ns.map V.int) → sp [.ref a] H (fun v _ => v = .bl true) fun _ _ _ => False) ∧
    ∀ base : Heap, K.In base → base.Ns mainGlobals mg → (∀ p ∈ cs, TabB base mg p.1 p.2) → FnG l.prog w K mg base CX k fa fd [x] sp
theorem walk_G {l : PySem.W.OpenLaw} {n k : Nat} {q : Program} {loose : List Str} {XP : (Str → Option Value) → Heap → Prop} {YP : World → Heap → Prop} {d : DefRec} {CX : World → CXT} {x : Str}
    (hn : l.most = some n) (hn2 : n ≤ sizeLine) (hdf : d.params.defaults = []) (hr : Room k callerA)
    (F : ∀ (w : World) (mg : Str → Option Value) (fa : Addr) (h : Heap), YP w h → h.Ns mainGlobals mg → mg d.name = some (.ref fa) → ∃ K : PySem.W.Frag, K.In h ∧ LawAtG l w K (CX w) k n x mg fa h)
    (hCX : ∀ (w : World) (H : Hp) (s : Shared) (e : Value) (s' : Shared), CX w [] H s (fun _ _ _ => False) e s' → False) :
    PySem.W.WalkO q loose XP YP l.row.toRowW d [] (fun f vs => PySem.call f vs) := by
  refine Att.attach_callB hn hdf fun w s₀ s₁ mg mb fa o pm cd doc a vs ns G Y ho hd hcd hmg hobj hints hlen hbits hg => ?_
  obtain ⟨K, KX, fd, cs, sp, hT, nT, C, hb, hsp, hF⟩ := F w mg fa _ Y G.T.g hmg
  exact law_callG KX G.T.g G.T.b G.T.builtins G.T.nolimit hg hT nT C G.T.bmain hobj hints (Nat.le_trans hlen hn2) hr hF hb (fun H hH hS => hsp H a ns hlen hbits hH hS) fun H e s' => hCX w H s₁ e s'
/-- what a head asks of the law's def -/
theorem law_F {l : PySem.W.OpenLaw} {B : Tb} {ds : List FDef} {sts : List Stmt} {anc : Nat → List Nat} {xi : Nat → Option String} {fuel n m iL : Nat} {dL : FDef} {x : Str} (hps : dL.ps = [x]) (hL : ds[iL]? = some dL)
    (C : ∀ K : PySem.W.Frag, Chk B ds sts K) {ll : List (Str × Str)} (hll : lms ds = ll) {ex : PySem.W.Frag → Bool} (hex : ∀ K, ex K = true → factsB l.prog B anc xi K = true ∧ tabUL ll K = true)
    (hev : ∀ ns : List Int, ns.length ≤ m → (∀ z ∈ ns, Builtin.Int.intBits z ≤ 1048576) → ∃ η', runF (cfgN ds (subA anc) xi fuel n) dL [.d (.lst (ns.map D.int))] [] = .ok (.d (.bl true)) η')
    (w : World) (mg : Str → Option Value) (fa : Addr) (h : Heap) (Y : ∃ K : PySem.W.Frag, K.In h ∧ Says (sts.map ddOf) (ll.map fun p => (p.1, none)) ex h K) (G : h.Ns mainGlobals mg) (hm : mg dL.x = some (.ref fa)) :
    ∃ K : PySem.W.Frag, K.In h ∧ LawAtG l w K (L2.CX l.prog w) (7 * (n + 1)) m x mg fa h := by
  obtain ⟨K, KX, c⟩ := Y
  subst hll
  have more := hex K c.more
  let Γ : Heap → Env := fun base => ⟨l.prog, w, K, mg, base, B.gs, B.ft, B.ks, B.pl, (lms ds).map fun p => (tbl K p, p.2), B.xi, B.ct, B.kw⟩
  have F : ∀ base, FactsB (Γ base) B anc xi := fun base => ⟨rfl, rfl, rfl, rfl, rfl, rfl, rfl, more.1⟩
  have D : ∀ base, (∀ p ∈ tfOf ds, LamX.TabB base mg (He.cT K p).1 (He.cT K p).2) → Defs (Γ base) B ds (subA anc) xi := fun base hT => defs_of (Γ := Γ base) (F base) KX G c.d (C K) more.2 rfl hT
  obtain ⟨st, e1, e2, e3⟩ := (C K).hc iL dL hL
  unfold chkD at e2
  simp only [Bool.and_eq_true, decide_eq_true_eq] at e2
  obtain ⟨⟨⟨k1, k2⟩, k3⟩, k4⟩ := e2
  obtain ⟨fd, FD⟩ := fun_st (Γ := Γ h) c.d e1 k3
  have hmx := (F h).fun_ (p := (dL.x, dL.ps.length)) KX G (by rw [(C K).dt]; exact List.mem_map.mpr ⟨dL, List.mem_of_getElem? hL, rfl⟩)
  have e := hm.symm.trans hmx
  cases e
  have hb1 : ∀ (s : Shared) (u : Value), K.In s.heap → BindsTo s fd ⟨[u], []⟩ [(x, u)] := fun s u hk => by
    have q := (e3 _ _ FD).1 s [u] hk (by rw [hps]; rfl)
    rw [hps] at q
    exact q
  refine ⟨K, KX, fd, (tfOf ds).map (He.cT K), fun vs H Q E => ∀ base, spF (Γ base) 1 (runF (cfgN ds (subA anc) xi fuel n) dL) vs H Q E, fun p hp => ?_, fun p hp => ?_, fun p hp => ?_, hb1, fun H a ns hl hbits hT hS base => ?_, fun base _ _ hT => ?_⟩
  · obtain ⟨q, hq, rfl⟩ := List.mem_map.mp hp
    exact c.empty q hq
  · obtain ⟨q, hq, rfl⟩ := List.mem_map.mp hp
    exact c.out q hq
  · obtain ⟨q, hq, rfl⟩ := List.mem_map.mp hp
    exact PySem.W.codeHd_of_K KX (c.hd q hq)
  · refine sp_law (fun p hp => ?_) (sq_own c.nol hS) (hev ns hl hbits)
    obtain ⟨q, hq, rfl⟩ := List.mem_map.mp hp
    exact hT (He.cT K (q.1, none)) (List.mem_map.mpr ⟨_, List.mem_map.mpr ⟨q, hq, rfl⟩, rfl⟩)
  · have D1 := D base fun p hp => hT _ (List.mem_map.mpr ⟨p, hp, rfl⟩)
    obtain ⟨f', fd', st', m1, m2, m3, m4, m5, m6, m7⟩ := D1.def_ iL dL hL
    have ef : f' = He.ga K dL.x := by
      have := m1.symm.trans hmx
      cases this
      rfl
    subst ef
    have efd : fd' = fd := by
      obtain ⟨oc, od, dV, kV, doc, pm, an, cdv, ct, osl, _, lk, _⟩ := m2.ex
      obtain ⟨oc2, od2, dV2, kV2, doc2, pm2, an2, cdv2, ct2, osl2, _, lk2, _⟩ := FD.ex
      have q : (Data.func fd') = Data.func fd := congrArg Obj.data (Option.some.inj (lk.symm.trans lk2))
      exact Data.func.inj q
    subst efd
    have q := fn_ok D1 (fnsN (fuel := fuel) D1 n) (d := dL) m2 m4 m5 m7
    rw [hps] at q
    exact q.imp fun vs H Q E z => z base
end Ip

set_option Elab.async false
set_option linter.all false
set_option maxRecDepth 100000
set_option maxHeartbeats 1000000
/-! IpDraw: the source of draws, in plain Lean. -/
namespace Ip
def kL : D := .str [108, 97, 114, 103, 101]
def kC : D := .str [99, 101, 108, 108, 115]
def kR : D := .str [114, 101, 115, 116]
def kT : D := .str [116, 117, 114, 110]
def drawD (l m : Nat) (r t : Int) : List (D × W) := [(kL, .ref l), (kC, .ref m), (kR, .d (.int r)), (kT, .d (.int t))]
def intsW (ls : List Int) : List W := ls.map fun i => .d (.int i)
structure DrawAt (η : Hv) (n l m : Nat) (ls cs : List Int) (r t : Int) : Prop where
  d : η[n]? = some (.dct (drawD l m r t))
  hl : η[l]? = some (.lst (intsW ls))
  hm : η[m]? = some (.lst (intsW cs))
  lm : l ≠ m
theorem dats_ints : ∀ ls : List Int, dats (intsW ls) = some (ls.map D.int)
  | [] => rfl
  | i :: ls => by
    show (dats (intsW ls)).map (D.int i :: ·) = _
    rw [dats_ints ls]
    rfl
theorem get_L {l m : Nat} {r t : Int} : getK (drawD l m r t) kL = some (.ref l) := by kernel_rfl
theorem get_C {l m : Nat} {r t : Int} : getK (drawD l m r t) kC = some (.ref m) := by kernel_rfl
theorem get_R {l m : Nat} {r t : Int} : getK (drawD l m r t) kR = some (.d (.int r)) := by kernel_rfl
theorem get_T {l m : Nat} {r t : Int} : getK (drawD l m r t) kT = some (.d (.int t)) := by kernel_rfl
theorem set_R {l m : Nat} {r t r' : Int} : setK (drawD l m r t) kR (.d (.int r')) = drawD l m r' t := by kernel_rfl
theorem set_T {l m : Nat} {r t t' : Int} : setK (drawD l m r t) kT (.d (.int t')) = drawD l m r t' := by kernel_rfl
theorem kk_L : (keyK kL).isSome = true := rfl
theorem kk_C : (keyK kC).isSome = true := rfl
theorem kk_R : (keyK kR).isSome = true := rfl
theorem kk_T : (keyK kT).isSome = true := rfl
section
variable {c : Cfg} {η : Hv} {n l m : Nat} {ls cs : List Int} {r t : Int}
theorem DrawAt.gL (h : DrawAt η n l m ls cs r t) : dgetW (.ref n) (.d kL) η = .ok (.ref l) η := by simp [dgetW, h.d, kk_L, get_L]
theorem DrawAt.gC (h : DrawAt η n l m ls cs r t) : dgetW (.ref n) (.d kC) η = .ok (.ref m) η := by simp [dgetW, h.d, kk_C, get_C]
theorem DrawAt.gR (h : DrawAt η n l m ls cs r t) : dgetW (.ref n) (.d kR) η = .ok (.d (.int r)) η := by simp [dgetW, h.d, kk_R, get_R]
theorem DrawAt.gT (h : DrawAt η n l m ls cs r t) : dgetW (.ref n) (.d kT) η = .ok (.d (.int t)) η := by simp [dgetW, h.d, kk_T, get_T]
theorem DrawAt.sR (h : DrawAt η n l m ls cs r t) (r' : Int) : dsetW (.ref n) (.d kR) (.d (.int r')) η = .ok () (η.set n (.dct (drawD l m r' t))) := by
  have : (drawD l m r t).length < lim := by show 4 < lim; unfold lim; omega
  simp [dsetW, h.d, kk_R, set_R, this]
theorem DrawAt.sT (h : DrawAt η n l m ls cs r t) (t' : Int) : dsetW (.ref n) (.d kT) (.d (.int t')) η = .ok () (η.set n (.dct (drawD l m r t'))) := by
  have : (drawD l m r t).length < lim := by show 4 < lim; unfold lim; omega
  simp [dsetW, h.d, kk_T, set_T, this]
theorem DrawAt.nl (h : DrawAt η n l m ls cs r t) : n ≠ l := fun e => by
  have := h.hl
  rw [← e, h.d] at this
  cases this
theorem DrawAt.nm (h : DrawAt η n l m ls cs r t) : n ≠ m := fun e => by
  have := h.hm
  rw [← e, h.d] at this
  cases this
theorem DrawAt.lt (h : DrawAt η n l m ls cs r t) : n < η.length := by
  have := h.d
  exact (List.getElem?_eq_some_iff.mp this).1
theorem DrawAt.put (h : DrawAt η n l m ls cs r t) (r' t' : Int) : DrawAt (η.set n (.dct (drawD l m r' t'))) n l m ls cs r' t' :=
  ⟨by rw [List.getElem?_set_self h.lt], by rw [List.getElem?_set_ne h.nl]; exact h.hl, by rw [List.getElem?_set_ne h.nm]; exact h.hm, h.lm⟩
/-- the cells, one behind another -/
def blC : Sm := (.sq (.asg 4 (.pr (.bin .mod) (.cons (.pr (.fn .int) (.cons (.pr (.bin .add) (.cons (.pr (.bin .add) (.cons (.pr (.bin .mul) (.cons (.var 4) (.cons (.cst (.int 48271)) .nil))) (.cons (.pr (.fn .int) (.cons (.var 5) .nil)) .nil))) (.cons (.cst (.int 1)) .nil))) .nil)) (.cons (.var 3) .nil)))) .sk)
def blP : Sm := (.sq (.asg 4 (.pr (.bin .mod) (.cons (.pr (.fn .int) (.cons (.pr (.bin .add) (.cons (.pr (.bin .mul) (.cons (.var 1) (.cons (.cst (.int 69621)) .nil))) (.cons (.pr (.bin .fdiv) (.cons (.var 3) (.cons (.cst (.int 7)) .nil))) .nil))) .nil)) (.cons (.var 3) .nil))))
 (.sq (.forr .plain (.var 5) (.cons (.dget (.var 0) (.cst (.str [99, 101, 108, 108, 115]))) .nil) blC)
 (.sq (.asg 2 (.pr (.bin .add) (.cons (.pr (.bin .mul) (.cons (.var 2) (.cons (.cst (.int 2147483647)) .nil))) (.cons (.pr (.bin .mod) (.cons (.pr (.fn .int) (.cons (.pr (.bin .pow) (.cons (.var 4) (.cons (.cst (.int 5)) .nil))) .nil)) (.cons (.var 3) .nil))) .nil))))
 .sk)))
def blPs : Ex := .pr .lst (.cons (.cst (.int 2147483629)) (.cons (.cst (.int 2147483587)) (.cons (.cst (.int 2147483579)) .nil)))
def smBlend : Sm := (.sq (.par [1, 2] (.cons (.pr (.bin .add) (.cons (.dget (.var 0) (.cst (.str [116, 117, 114, 110]))) (.cons (.cst (.int 1)) .nil))) (.cons (.cst (.int 0)) .nil)))
 (.sq (.dset (.var 0) (.cst (.str [116, 117, 114, 110])) (.var 1))
 (.sq (.forr .plain (.var 3) (.cons blPs .nil) blP)
 (.sq (.ret (.var 2))
 .sk))))
theorem blC_run {w0 w1 w2 : Option W} {p s x : Int} (hp : p ≠ 0) : sx c blC [w0, w1, w2, some (.d (.int p)), some (.d (.int s)), some (.d (.int x))] η = .nx [w0, w1, w2, some (.d (.int p)), some (.d (.int ((s * 48271 + x + 1).fmod p))), some (.d (.int x))] η := by
  simp [blC, sx, ev, evl, O.ofE, rdP, strictP, asR, rdWs, rdW, dprim, dbin, dfn, ofO, hp, M.bind_ap]
theorem fmod_in {a p : Int} (hp : 0 < p) : 0 ≤ a.fmod p ∧ a.fmod p < p := ⟨Int.fmod_nonneg_of_pos a hp, Int.fmod_lt_of_pos a hp⟩
theorem DrawAt.sn (h : DrawAt η n l m ls cs r t) : snap .plain [.ref m] η = some (.ds [.lst (cs.map D.int)]) := by
  simp [snap, rdWs, rdW, h.hm, dats_ints]
abbrev stC : W → List (Option W) → Hv → O := fun x ν h => match bindP (.var 5) x ν with
  | some ν' => sx c blC ν' h
  | none => .bad
theorem loopC (h : DrawAt η n l m ls cs r t) {w0 w1 w2 : Option W} {p : Int} (hp : 0 < p) : ∀ (xs : List Int) (s : Int) (w5 : Option W), 0 ≤ s ∧ s < p →
    ∃ s' w5', (0 ≤ s' ∧ s' < p) ∧ loopS .plain [.ref m] (.ds [.lst (cs.map D.int)]) (stC (c := c)) (intsW xs) [w0, w1, w2, some (.d (.int p)), some (.d (.int s)), w5] η = .nx [w0, w1, w2, some (.d (.int p)), some (.d (.int s')), w5'] η
  | [], s, w5, hs => ⟨s, w5, hs, by simp [intsW, loopS, h.sn]⟩
  | x :: xs, s, w5, hs => by
    obtain ⟨s', w5', h1, h2⟩ := loopC h hp xs ((s * 48271 + x + 1).fmod p) (some (.d (.int x))) (fmod_in hp)
    refine ⟨s', w5', h1, ?_⟩
    have e : stC (c := c) (.d (.int x)) [w0, w1, w2, some (.d (.int p)), some (.d (.int s)), w5] η = .nx [w0, w1, w2, some (.d (.int p)), some (.d (.int ((s * 48271 + x + 1).fmod p))), some (.d (.int x))] η := by
      show sx c blC [w0, w1, w2, some (.d (.int p)), some (.d (.int s)), some (.d (.int x))] η = _
      exact blC_run (by omega)
    show (if snap .plain [.ref m] η = some _ then _ else _) = _
    rw [if_pos h.sn, e]
    exact h2
theorem forC (h : DrawAt η n l m ls cs r t) {w1 w2 w5 : Option W} {p s : Int} (hp : 0 < p) (hs : 0 ≤ s ∧ s < p) : ∃ s' w5', (0 ≤ s' ∧ s' < p) ∧
    sx c (.forr .plain (.var 5) (.cons (.dget (.var 0) (.cst (.str [99, 101, 108, 108, 115]))) .nil) blC) [some (.ref n), w1, w2, some (.d (.int p)), some (.d (.int s)), w5] η = .nx [some (.ref n), w1, w2, some (.d (.int p)), some (.d (.int s')), w5'] η := by
  obtain ⟨s', w5', h1, h2⟩ := loopC (c := c) h (w0 := some (.ref n)) (w1 := w1) (w2 := w2) hp cs s w5 hs
  refine ⟨s', w5', h1, ?_⟩
  rw [← h2]
  have g : dgetW (.ref n) (.d (.str [99, 101, 108, 108, 115])) η = .ok (.ref m) η := h.gC
  have e : itS .plain (.ds [.lst (cs.map D.int)]) = some (intsW cs) := by simp [itS, itD, intsW]
  simp [sx, ev, evl, O.ofE, M.bind_ap, g, snapM, h.sn, ofO, e, stC] <;> rfl
theorem blP_run (h : DrawAt η n l m ls cs r t) {tn f p : Int} {w4 w5 : Option W} (hp : 0 < p) (hp2 : p < 2 ^ 40) : ∃ f' w4' w5',
    sx c blP [some (.ref n), some (.d (.int tn)), some (.d (.int f)), some (.d (.int p)), w4, w5] η = .nx [some (.ref n), some (.d (.int tn)), some (.d (.int f')), some (.d (.int p)), w4', w5'] η := by
  obtain ⟨s', w5', h1, h2⟩ := forC (c := c) h (w1 := some (.d (.int tn))) (w2 := some (.d (.int f))) (w5 := w5) hp (fmod_in (a := tn * 69621 + p.fdiv 7) hp)
  have hp0 : p ≠ 0 := by omega
  have e1 : sx c (.asg 4 (.pr (.bin .mod) (.cons (.pr (.fn .int) (.cons (.pr (.bin .add) (.cons (.pr (.bin .mul) (.cons (.var 1) (.cons (.cst (.int 69621)) .nil))) (.cons (.pr (.bin .fdiv) (.cons (.var 3) (.cons (.cst (.int 7)) .nil))) .nil))) .nil)) (.cons (.var 3) .nil)))) [some (.ref n), some (.d (.int tn)), some (.d (.int f)), some (.d (.int p)), w4, w5] η =
      .nx [some (.ref n), some (.d (.int tn)), some (.d (.int f)), some (.d (.int p)), some (.d (.int ((tn * 69621 + p.fdiv 7).fmod p))), w5] η := by
    simp [sx, ev, evl, O.ofE, rdP, strictP, asR, rdWs, rdW, dprim, dbin, dfn, ofO, hp0, M.bind_ap]
  have hs : s'.natAbs < 2 ^ 64 := by omega
  have e3 : sx c (.asg 2 (.pr (.bin .add) (.cons (.pr (.bin .mul) (.cons (.var 2) (.cons (.cst (.int 2147483647)) .nil))) (.cons (.pr (.bin .mod) (.cons (.pr (.fn .int) (.cons (.pr (.bin .pow) (.cons (.var 4) (.cons (.cst (.int 5)) .nil))) .nil)) (.cons (.var 3) .nil))) .nil)))) [some (.ref n), some (.d (.int tn)), some (.d (.int f)), some (.d (.int p)), some (.d (.int s')), w5'] η =
      .nx [some (.ref n), some (.d (.int tn)), some (.d (.int (f * 2147483647 + (s' ^ 5).fmod p))), some (.d (.int p)), some (.d (.int s')), w5'] η := by
    simp [sx, ev, evl, O.ofE, rdP, strictP, asR, rdWs, rdW, dprim, dbin, dfn, ofO, hp0, hs, M.bind_ap]
  refine ⟨f * 2147483647 + (s' ^ 5).fmod p, some (.d (.int s')), w5', ?_⟩
  show (match sx c _ _ η with
    | .nx ν' h' => _
    | o => o) = _
  rw [e1]
  show (match sx c (.forr .plain (.var 5) _ blC) _ η with
    | .nx ν' h' => _
    | o => o) = _
  rw [h2]
  show (match sx c (.asg 2 _) _ η with
    | .nx ν' h' => _
    | o => o) = _
  rw [e3]
  rfl
theorem sx_sq {a b : Sm} {ν ν' : List (Option W)} {η η' : Hv} (h : sx c a ν η = .nx ν' η') : sx c (.sq a b) ν η = sx c b ν' η' := by
  show (match sx c a ν η with
    | .nx ν' h' => sx c b ν' h'
    | o => o) = _
  rw [h]
abbrev prs : List D := [.int 2147483629, .int 2147483587, .int 2147483579]
abbrev stP : W → List (Option W) → Hv → O := fun x ν h => match bindP (.var 3) x ν with
  | some ν' => sx c blP ν' h
  | none => .bad
theorem stP_run (h : DrawAt η n l m ls cs r t) {tn f p : Int} {w3 w4 w5 : Option W} (hp : 0 < p) (hp2 : p < 2 ^ 40) : ∃ f' w4' w5',
    stP (c := c) (.d (.int p)) [some (.ref n), some (.d (.int tn)), some (.d (.int f)), w3, w4, w5] η = .nx [some (.ref n), some (.d (.int tn)), some (.d (.int f')), some (.d (.int p)), w4', w5'] η := blP_run h hp hp2
theorem sn_lit {ws : List W} {ds : List D} (e : rdWs η ws = some ds) : snap .plain ws η = some (.ds ds) := by simp [snap, e]
theorem loopP (h : DrawAt η n l m ls cs r t) {tn : Int} : ∀ (ps : List Int) (f : Int) (w3 w4 w5 : Option W), (∀ p ∈ ps, 0 < p ∧ p < 2 ^ 40) → ∃ f' w3' w4' w5',
    loopS .plain [.d (.lst prs)] (.ds [.lst prs]) (stP (c := c)) (intsW ps) [some (.ref n), some (.d (.int tn)), some (.d (.int f)), w3, w4, w5] η = .nx [some (.ref n), some (.d (.int tn)), some (.d (.int f')), w3', w4', w5'] η
  | [], f, w3, w4, w5, _ => ⟨f, w3, w4, w5, by simp [intsW, loopS, snap, rdWs, rdW]⟩
  | p :: ps, f, w3, w4, w5, hps => by
    obtain ⟨f1, a4, a5, e⟩ := stP_run (c := c) h (tn := tn) (f := f) (w3 := w3) (w4 := w4) (w5 := w5) (hps p (List.mem_cons_self ..)).1 (hps p (List.mem_cons_self ..)).2
    obtain ⟨f2, b3, b4, b5, e2⟩ := loopP h (tn := tn) ps f1 (some (.d (.int p))) a4 a5 fun q hq => hps q (List.mem_cons_of_mem _ hq)
    refine ⟨f2, b3, b4, b5, ?_⟩
    show (if snap .plain [.d (.lst prs)] η = some _ then _ else _) = _
    rw [if_pos (by simp [snap, rdWs, rdW]), e]
    exact e2
theorem forP (h : DrawAt η n l m ls cs r t) {tn : Int} : ∃ f' w3' w4' w5',
    sx c (.forr .plain (.var 3) (.cons blPs .nil) blP) [some (.ref n), some (.d (.int tn)), some (.d (.int 0)), none, none, none] η = .nx [some (.ref n), some (.d (.int tn)), some (.d (.int f')), w3', w4', w5'] η := by
  obtain ⟨f', a3, a4, a5, e⟩ := loopP (c := c) h (tn := tn) [2147483629, 2147483587, 2147483579] 0 none none none (by simp)
  refine ⟨f', a3, a4, a5, ?_⟩
  rw [← e]
  have hl : (3 : Nat) ≤ lim := by unfold lim; omega
  simp [sx, ev, evl, blPs, O.ofE, M.bind_ap, rdP, strictP, dats, dprim, hl, snapM, snap, rdWs, rdW, ofO, itS, itD, intsW] <;> rfl
theorem runF_ret {d : FDef} {ws : List W} {w : W} {η η' : Hv} (h : sx c d.sm (startV d.N ws) η = .ret w η') : runF c d ws η = .ok w η' := by
  unfold runF
  rw [h]
def dBlend : FDef := ⟨"_law_blend", ["draw"], ["draw", "turn", "found", "prime", "stirred", "cell"], smBlend, none⟩
/-- _law_blend -/
theorem blend_run (h : DrawAt η n l m ls cs r t) : ∃ v, runF c dBlend [.ref n] η = .ok (.d (.int v)) (η.set n (.dct (drawD l m r (t + 1)))) := by
  have h1 := h.put r (t + 1)
  obtain ⟨f', a3, a4, a5, e⟩ := forP (c := c) h1 (tn := t + 1)
  refine ⟨f', ?_⟩
  have g : dgetW (.ref n) (.d (.str [116, 117, 114, 110])) η = .ok (.d (.int t)) η := h.gT
  have st : dsetW (.ref n) (.d (.str [116, 117, 114, 110])) (.d (.int (t + 1))) η = .ok () (η.set n (.dct (drawD l m r (t + 1)))) := h.sT (t + 1)
  have s1 : sx c (.par [1, 2] (.cons (.pr (.bin .add) (.cons (.dget (.var 0) (.cst (.str [116, 117, 114, 110]))) (.cons (.cst (.int 1)) .nil))) (.cons (.cst (.int 0)) .nil))) [some (.ref n), none, none, none, none, none] η = .nx [some (.ref n), some (.d (.int (t + 1))), some (.d (.int 0)), none, none, none] η := by
    simp [sx, ev, evl, O.ofE, M.bind_ap, g, rdP, strictP, asR, rdWs, rdW, dprim, dbin, ofO, setL]
  have s2 : sx c (.dset (.var 0) (.cst (.str [116, 117, 114, 110])) (.var 1)) [some (.ref n), some (.d (.int (t + 1))), some (.d (.int 0)), none, none, none] η = .nx [some (.ref n), some (.d (.int (t + 1))), some (.d (.int 0)), none, none, none] (η.set n (.dct (drawD l m r (t + 1)))) := by
    simp [sx, ev, evl, O.ofE, M.bind_ap, st]
  refine runF_ret ?_
  show sx c smBlend [some (.ref n), none, none, none, none, none] η = _
  unfold smBlend
  rw [sx_sq s1, sx_sq s2, sx_sq e]
  simp [sx, ev, O.ofE]
theorem shp_ints (ls : List Int) : shp (.lst (ls.map D.int)) = true := by
  have h1 : plnL (ls.map D.int) = true := by
    rw [plnL_all]
    simp [pln]
  have h2 : depL (ls.map D.int) = 0 := by
    induction ls with
    | nil => simp [depL]
    | cons i ls ih => simp only [List.map_cons, depL, dep, ih (by rw [plnL_all]; simp [pln])]; rfl
  simp [shp, pln, dep, h1, h2]
theorem shp_int (i : Int) : shp (.int i) = true := by simp [shp, pln, dep]
theorem shp_nil : shp (.lst []) = true := shp_ints []
theorem eqv_nil (ls : List Int) : eqv (.lst (ls.map D.int)) (.lst []) = ls.isEmpty := by
  cases ls <;> simp [eqv, eqvL]
theorem eqv_int (i j : Int) : eqv (.int i) (.int j) = (i == j) := by simp [eqv]
/-- what else stands, stays -/
structure Fr (η η' : Hv) (n l : Nat) : Prop where
  len : η'.length = η.length
  same : ∀ k, k ≠ n → k ≠ l → η'[k]? = η[k]?
theorem Fr.refl : Fr η η n l := ⟨rfl, fun _ _ _ => rfl⟩
theorem Fr.trans {η1 η2 : Hv} (a : Fr η η1 n l) (b : Fr η1 η2 n l) : Fr η η2 n l := ⟨b.len.trans a.len, fun k h1 h2 => (b.same k h1 h2).trans (a.same k h1 h2)⟩
theorem Fr.setN {o : VO} : Fr η (η.set n o) n l := ⟨by simp, fun k h1 _ => by rw [List.getElem?_set_ne (Ne.symm h1)]⟩
theorem Fr.setL {o : VO} : Fr η (η.set l o) n l := ⟨by simp, fun k _ h1 => by rw [List.getElem?_set_ne (Ne.symm h1)]⟩
theorem DrawAt.ltl (h : DrawAt η n l m ls cs r t) : l < η.length := (List.getElem?_eq_some_iff.mp h.hl).1
theorem DrawAt.popd {x : Int} (h : DrawAt η n l m (x :: ls) cs r t) : DrawAt (η.set l (.lst (intsW ls))) n l m ls cs r t :=
  ⟨by rw [List.getElem?_set_ne (Ne.symm h.nl)]; exact h.d, by rw [List.getElem?_set_self h.ltl], by rw [List.getElem?_set_ne h.lm]; exact h.hm, h.lm⟩
abbrev gR0 : Ex := .dget (.var 0) (.cst (.str [114, 101, 115, 116]))
abbrev gL0 : Ex := .dget (.var 0) (.cst (.str [108, 97, 114, 103, 101]))
abbrev tkC : Ex := (.and (.pr (.cmp .eq) (.cons gR0 (.cons (.cst (.int 0)) .nil))) (.pr (.cmp .ne) (.cons gL0 (.cons (.pr .lst .nil) .nil))))
abbrev tkB : Sm := (.sq (.dset (.var 0) (.cst (.str [114, 101, 115, 116])) (.popi gL0 (.cst (.int 0)))) .sk)
def smTake (iB : Nat) : Sm := (.sq (.whl tkC tkB)
 (.sq (.ife (.pr (.cmp .eq) (.cons gR0 (.cons (.cst (.int 0)) .nil)))
 (.sq (.dset (.var 0) (.cst (.str [114, 101, 115, 116])) (.call 1 iB (.cons (.var 0) .nil))) .sk)
 .sk)
 (.sq (.asg 2 (.pr (.bin .mod) (.cons (.pr (.fn .int) (.cons gR0 .nil)) (.cons (.var 1) .nil))))
 (.sq (.dset (.var 0) (.cst (.str [114, 101, 115, 116])) (.pr (.bin .fdiv) (.cons (.pr (.fn .int) (.cons gR0 .nil)) (.cons (.var 1) .nil))))
 (.sq (.ret (.var 2))
 .sk)))))
theorem tkC_run (h : DrawAt η n l m ls cs r t) {w1 w2 : Option W} : ev c tkC [some (.ref n), w1, w2] η = .ok (.d (.bl (decide (r = 0) && !ls.isEmpty))) η := by
  have g1 : dgetW (.ref n) (.d (.str [114, 101, 115, 116])) η = .ok (.d (.int r)) η := h.gR
  have g2 : dgetW (.ref n) (.d (.str [108, 97, 114, 103, 101])) η = .ok (.ref l) η := h.gL
  have e0 : (0 : Nat) ≤ lim := Nat.zero_le _
  by_cases hr : r = 0
  · subst hr
    simp [ev, evl, M.bind_ap, g1, g2, rdP, strictP, asR, rdWs, rdW, h.hl, dats_ints, dats, dprim, dcmp, eqE, eqD, shp_int, shp_ints, shp_nil, eqv_nil, eqv_int, ofO, asB]
  · simp [ev, evl, M.bind_ap, g1, g2, rdP, strictP, asR, rdWs, rdW, h.hl, dats_ints, dats, dprim, dcmp, eqE, eqD, shp_int, shp_ints, shp_nil, eqv_nil, eqv_int, ofO, asB, hr]
theorem tkB_run {x : Int} (h : DrawAt η n l m (x :: ls) cs r t) {w1 w2 : Option W} : ∃ η', sx c tkB [some (.ref n), w1, w2] η = .nx [some (.ref n), w1, w2] η' ∧ DrawAt η' n l m ls cs x t ∧ Fr η η' n l := by
  have g2 : dgetW (.ref n) (.d (.str [108, 97, 114, 103, 101])) η = .ok (.ref l) η := h.gL
  have h2 := h.popd
  have g3 : dsetW (.ref n) (.d (.str [114, 101, 115, 116])) (.d (.int x)) (η.set l (.lst (intsW ls))) = .ok () _ := h2.sR x
  have hl : η[l]? = some (.lst (.d (.int x) :: intsW ls)) := h.hl
  refine ⟨_, ?_, h2.put x t, (Fr.setL).trans Fr.setN⟩
  simp [sx, ev, O.ofE, M.bind_ap, g2, chkL, hl, popiW, L2.ixN, g3]
theorem whl_run {w1 w2 : Option W} : ∀ (ls : List Int) (fuel : Nat) (η : Hv) (r : Int), DrawAt η n l m ls cs r t → ls.length < fuel → ∃ ls' r' η', loopW (ev c tkC) (sx c tkB) fuel [some (.ref n), w1, w2] η = .nx [some (.ref n), w1, w2] η' ∧ DrawAt η' n l m ls' cs r' t ∧ Fr η η' n l ∧ ls'.length ≤ ls.length
  | ls, 0, η, r, h, hf => absurd hf (Nat.not_lt_zero _)
  | [], fuel + 1, η, r, h, hf => ⟨[], r, η, by
      show O.ofE _ (ev c tkC _ η) _ = _
      rw [tkC_run h]
      simp [O.ofE], h, Fr.refl, Nat.le_refl _⟩
  | x :: ls, fuel + 1, η, r, h, hf => by
    by_cases hr : r = 0
    · obtain ⟨η1, e1, h1, f1⟩ := tkB_run (c := c) h (w1 := w1) (w2 := w2)
      obtain ⟨ls', r', η', e2, h2, f2, l2⟩ := whl_run ls fuel η1 x h1 (by simpa using hf)
      refine ⟨ls', r', η', ?_, h2, f1.trans f2, Nat.le_trans l2 (Nat.le_succ _)⟩
      show O.ofE _ (ev c tkC _ η) _ = _
      rw [tkC_run h]
      simp only [O.ofE, hr, List.isEmpty_cons, decide_true, Bool.not_false, Bool.and_self, e1]
      exact e2
    · refine ⟨x :: ls, r, η, ?_, h, Fr.refl, Nat.le_refl _⟩
      show O.ofE _ (ev c tkC _ η) _ = _
      rw [tkC_run h]
      simp [O.ofE, hr]
def dTake (iB : Nat) : FDef := ⟨"_law_take", ["draw", "size"], ["draw", "size", "found"], smTake iB, none⟩
/-- _law_take -/
theorem take_run {iB : Nat} {size : Int} (h : DrawAt η n l m ls cs r t) (hf : ls.length < c.fuel) (hs : 0 < size) (hs2 : size < 1073741824) (hc : ∃ c', ∀ ws η, c.call 1 iB ws η = runF c' dBlend ws η) :
    ∃ v ls' r' t' η', runF c (dTake iB) [.ref n, .d (.int size)] η = .ok (.d (.int v)) η' ∧ (0 ≤ v ∧ v < size) ∧ DrawAt η' n l m ls' cs r' t' ∧ Fr η η' n l ∧ ls'.length ≤ ls.length := by
  obtain ⟨c', hc⟩ := hc
  obtain ⟨ls1, r1, η1, e1, h1, f1, l1⟩ := whl_run (c := c) (w1 := some (.d (.int size))) (w2 := none) ls c.fuel η r h hf
  have s1 : sx c (.whl tkC tkB) [some (.ref n), some (.d (.int size)), none] η = .nx [some (.ref n), some (.d (.int size)), none] η1 := e1
  have s2 : ∃ r2 t2 η2, sx c (.ife (.pr (.cmp .eq) (.cons gR0 (.cons (.cst (.int 0)) .nil))) (.sq (.dset (.var 0) (.cst (.str [114, 101, 115, 116])) (.call 1 iB (.cons (.var 0) .nil))) .sk) .sk) [some (.ref n), some (.d (.int size)), none] η1 = .nx [some (.ref n), some (.d (.int size)), none] η2 ∧ DrawAt η2 n l m ls1 cs r2 t2 ∧ Fr η1 η2 n l := by
    have g1 : dgetW (.ref n) (.d (.str [114, 101, 115, 116])) η1 = .ok (.d (.int r1)) η1 := h1.gR
    have tst : ev c (.pr (.cmp .eq) (.cons gR0 (.cons (.cst (.int 0)) .nil))) [some (.ref n), some (.d (.int size)), none] η1 = .ok (.d (.bl (r1 == 0))) η1 := by
      simp [ev, evl, M.bind_ap, g1, rdP, strictP, asR, rdWs, rdW, dprim, dcmp, eqE, eqD, shp_int, eqv_int, ofO]
    by_cases hr : r1 = 0
    · obtain ⟨v, ev1⟩ := blend_run (c := c') h1
      have h2 := h1.put r1 (t + 1)
      have g3 : dsetW (.ref n) (.d (.str [114, 101, 115, 116])) (.d (.int v)) (η1.set n (.dct (drawD l m r1 (t + 1)))) = .ok () _ := h2.sR v
      have ec : c.call 1 iB [.ref n] η1 = .ok (.d (.int v)) (η1.set n (.dct (drawD l m r1 (t + 1)))) := by rw [hc]; exact ev1
      have cal : sx c (.dset (.var 0) (.cst (.str [114, 101, 115, 116])) (.call 1 iB (.cons (.var 0) .nil))) [some (.ref n), some (.d (.int size)), none] η1 = .nx [some (.ref n), some (.d (.int size)), none] ((η1.set n (.dct (drawD l m r1 (t + 1)))).set n (.dct (drawD l m v (t + 1)))) := by
        simp only [sx, ev, evl, O.ofE, M.bind_ap, M.pure_ap, List.getElem?_cons_zero, ec, g3]
      refine ⟨v, t + 1, _, ?_, h2.put v (t + 1), (Fr.setN).trans Fr.setN⟩
      have hb : (r1 == 0) = true := by simp [hr]
      rw [hb] at tst
      show O.ofE _ (ev c _ _ η1) _ = _
      rw [tst]
      show sx c (.sq (.dset (.var 0) (.cst (.str [114, 101, 115, 116])) (.call 1 iB (.cons (.var 0) .nil))) .sk) _ _ = _
      rw [sx_sq cal]
      rfl
    · refine ⟨r1, t, η1, ?_, h1, Fr.refl⟩
      have hb : (r1 == 0) = false := by simp [hr]
      rw [hb] at tst
      show O.ofE _ (ev c _ _ η1) _ = _
      rw [tst]
      rfl
  obtain ⟨r2, t2, η2, s2, h2, f2⟩ := s2
  have g1 : dgetW (.ref n) (.d (.str [114, 101, 115, 116])) η2 = .ok (.d (.int r2)) η2 := h2.gR
  have g3 : dsetW (.ref n) (.d (.str [114, 101, 115, 116])) (.d (.int (r2.fdiv size))) η2 = .ok () _ := h2.sR (r2.fdiv size)
  have hs0 : size ≠ 0 := by omega
  have hs3 : size.natAbs < 1073741824 := by omega
  have s3 : sx c (.asg 2 (.pr (.bin .mod) (.cons (.pr (.fn .int) (.cons gR0 .nil)) (.cons (.var 1) .nil)))) [some (.ref n), some (.d (.int size)), none] η2 = .nx [some (.ref n), some (.d (.int size)), some (.d (.int (r2.fmod size)))] η2 := by
    simp [sx, ev, evl, O.ofE, M.bind_ap, g1, rdP, strictP, asR, rdWs, rdW, dprim, dbin, dfn, ofO, hs0]
  have s4 : sx c (.dset (.var 0) (.cst (.str [114, 101, 115, 116])) (.pr (.bin .fdiv) (.cons (.pr (.fn .int) (.cons gR0 .nil)) (.cons (.var 1) .nil)))) [some (.ref n), some (.d (.int size)), some (.d (.int (r2.fmod size)))] η2 = .nx [some (.ref n), some (.d (.int size)), some (.d (.int (r2.fmod size)))] (η2.set n (.dct (drawD l m (r2.fdiv size) t2))) := by
    simp [sx, ev, evl, O.ofE, M.bind_ap, g1, rdP, strictP, asR, rdWs, rdW, dprim, dbin, dfn, ofO, hs0, hs3, g3]
  refine ⟨r2.fmod size, ls1, r2.fdiv size, t2, _, runF_ret ?_, fmod_in hs, h2.put _ _, (f1.trans f2).trans Fr.setN, l1⟩
  show sx c (smTake iB) [some (.ref n), some (.d (.int size)), none] η = _
  unfold smTake
  rw [sx_sq s1, sx_sq s2, sx_sq s3, sx_sq s4]
  simp [sx, ev, O.ofE]
def smPick (iT : Nat) : Sm := (.sq (.ret (.pr .item (.cons (.var 1) (.cons (.call 1 iT (.cons (.var 0) (.cons (.pr (.fn .len) (.cons (.var 1) .nil)) .nil))) .nil)))) .sk)
def dPick (iT : Nat) : FDef := ⟨"_law_pick", ["draw", "some"], ["draw", "some"], smPick iT, none⟩
/-- _law_pick: a member -/
theorem pick_run {iT iB : Nat} {xs : List D} (h : DrawAt η n l m ls cs r t) (hx : xs ≠ []) (hx2 : xs.length < 1073741824) (hc : ∃ c', ls.length < c'.fuel ∧ (∃ c'', ∀ ws η, c'.call 1 iB ws η = runF c'' dBlend ws η) ∧ ∀ ws η, c.call 1 iT ws η = runF c' (dTake iB) ws η) :
    ∃ x ls' r' t' η', runF c (dPick iT) [.ref n, .d (.lst xs)] η = .ok (.d x) η' ∧ x ∈ xs ∧ DrawAt η' n l m ls' cs r' t' ∧ Fr η η' n l ∧ ls'.length ≤ ls.length := by
  obtain ⟨c', hf, hc2, hc⟩ := hc
  have hp : 0 < (xs.length : Int) := by
    have : 0 < xs.length := List.length_pos_iff.mpr hx
    omega
  obtain ⟨v, ls', r', t', η', e, ⟨v0, v1⟩, h', f', l'⟩ := take_run (iB := iB) h hf hp (by omega) hc2
  have hv : v.toNat < xs.length := by omega
  refine ⟨xs[v.toNat], ls', r', t', η', runF_ret ?_, List.getElem_mem hv, h', f', l'⟩
  have ec : c.call 1 iT [.ref n, .d (.int (xs.length : Int))] η = .ok (.d (.int v)) η' := by rw [hc]; exact e
  have ea : L2.atI xs v = some xs[v.toNat] := by
    unfold L2.atI L2.ixN
    rw [if_pos v0, if_pos v1, Option.bind_some, List.getElem?_eq_getElem hv]
  show sx c (smPick iT) [some (.ref n), some (.d (.lst xs))] η = _
  simp [smPick, sx, ev, evl, O.ofE, M.bind_ap, rdP, strictP, asR, rdWs, rdW, dprim, dfn, dlen, ofO, ec, ditem, ea]
theorem evl_cons {x r : Ex} {a : W} {ws : List W} {ν : List (Option W)} {η η1 η2 : Hv} (h1 : ev c x ν η = .ok a η1) (h2 : evl c r ν η1 = .ok ws η2) : evl c (.cons x r) ν η = .ok (a :: ws) η2 :=
  (show ((ev c x ν >>= fun w => evl c r ν >>= fun ws => Pure.pure (w :: ws) : M (List W)) η = _) from (M.bind_ok h1).trans (M.bind_ok h2))
theorem loopM_pure {α : Type} {k : Ik} {ws : List W} {sn : Snap} {f : W → M (List α)} {g : W → List α} (hs : snap k ws η = some sn) : ∀ its : List W, (∀ x ∈ its, f x η = .ok (g x) η) → loopM k ws sn f its η = .ok (its.flatMap g) η
  | [], _ => by simp [loopM, hs]
  | x :: xs, h => by
    simp only [loopM, hs, if_true, M.bind_ap, h x (List.mem_cons_self ..), loopM_pure hs xs fun y hy => h y (List.mem_cons_of_mem _ hy), M.pure_ap, List.flatMap_cons]
abbrev bgA : Ex := .pr (.fn .abs) (.cons (.var 2) .nil)
abbrev bgP : Ex := .pr (.bin .pow) (.cons (.cst (.int 10)) (.cons (.cst (.int 18)) .nil))
abbrev bgL : Ex := (.lc true [2] .plain (.var 2) (.cons (.var 0) .nil) (.gif (.pr (.cmp .ge) (.cons bgA (.cons bgP .nil))) (.yld (.pr (.bin .sub) (.cons bgA (.cons bgP .nil))))))
abbrev bgC : Ex := (.lc true [2] .plain (.var 2) (.cons (.var 0) .nil) (.yld bgA))
def smBegun : Sm := (.sq (.asg 1 bgL)
 (.sq (.ret (.ndct (.cons (.cst (.str [108, 97, 114, 103, 101])) (.cons (.var 1) (.cons (.cst (.str [99, 101, 108, 108, 115])) (.cons bgC (.cons (.cst (.str [114, 101, 115, 116])) (.cons (.cst (.int 0)) (.cons (.cst (.str [116, 117, 114, 110])) (.cons (.cst (.int 0)) .nil))))))))))
 .sk))
def dBegun : FDef := ⟨"_law_begun", ["script"], ["script", "large", "cell"], smBegun, none⟩
def absI (i : Int) : Int := if i < 0 then -i else i
def lgs (ns : List Int) : List Int := (ns.filter fun i => decide ((10 : Int) ^ 18 ≤ absI i)).map fun i => absI i - 10 ^ 18
theorem bgA_run {w0 w1 : Option W} {i : Int} : ev c bgA [w0, w1, some (.d (.int i))] η = .ok (.d (.int (absI i))) η := by
  simp [ev, evl, M.bind_ap, rdP, strictP, asR, rdWs, rdW, dprim, dfn, ofO, absI]
theorem bgP_run {ν : List (Option W)} : ev c bgP ν η = .ok (.d (.int (10 ^ 18))) η := by
  simp [ev, evl, M.bind_ap, rdP, strictP, asR, rdWs, rdW, dprim, dbin, ofO]
theorem bgT_run {w0 w1 : Option W} {i : Int} : ev c (.pr (.cmp .ge) (.cons bgA (.cons bgP .nil))) [w0, w1, some (.d (.int i))] η = .ok (.d (.bl (decide ((10 : Int) ^ 18 ≤ absI i)))) η := by
  simp [ev, evl, M.bind_ap, rdP, strictP, asR, rdWs, rdW, dprim, dfn, dbin, dcmp, ofO, absI] <;> rfl
theorem bgS_run {w0 w1 : Option W} {i : Int} : ev c (.pr (.bin .sub) (.cons bgA (.cons bgP .nil))) [w0, w1, some (.d (.int i))] η = .ok (.d (.int (absI i - 10 ^ 18))) η := by
  simp [ev, evl, M.bind_ap, rdP, strictP, asR, rdWs, rdW, dprim, dfn, dbin, dcmp, ofO, absI]
theorem intsW_map (ls : List Int) : (ls.map D.int).map W.d = intsW ls := by simp [intsW]
theorem bgL_run {ns : List Int} {w1 w2 : Option W} (hl : ns.length ≤ 63) : ev c bgL [some (.d (.lst (ns.map D.int))), w1, w2] η = .ok (.ref η.length) (η ++ [.lst (intsW (lgs ns))]) := by
  have hs : snap .plain [.d (.lst (ns.map D.int))] η = some (.ds [.lst (ns.map D.int)]) := by simp [snap, rdWs, rdW]
  have e : loopM .plain [.d (.lst (ns.map D.int))] (.ds [.lst (ns.map D.int)]) (fun x => noX (match bindP (.var 2) x (wipeV [some (.d (.lst (ns.map D.int))), w1, w2] [2]) with
      | some ν' => evg c (.gif (.pr (.cmp .ge) (.cons bgA (.cons bgP .nil))) (.yld (.pr (.bin .sub) (.cons bgA (.cons bgP .nil))))) ν'
      | none => M.bad)) (intsW ns) η = .ok ((intsW ns).flatMap fun x => match x with
        | .d (.int i) => if (10 : Int) ^ 18 ≤ absI i then [D.int (absI i - 10 ^ 18)] else []
        | _ => []) η := by
    refine loopM_pure hs _ fun x hx => ?_
    obtain ⟨i, _, rfl⟩ := List.mem_map.mp hx
    have t1 := bgT_run (c := c) (η := η) (w0 := some (.d (.lst (ns.map D.int)))) (w1 := w1) (i := i)
    have t2 := bgS_run (c := c) (η := η) (w0 := some (.d (.lst (ns.map D.int)))) (w1 := w1) (i := i)
    show noX (evg c _ [some (.d (.lst (ns.map D.int))), w1, some (.d (.int i))]) η = _
    by_cases h : (10 : Int) ^ 18 ≤ absI i
    · simp only [decide_eq_true h] at t1
      simp only [noX, evg, M.bind_ap, t1, t2, asB, M.pure_ap, if_pos h, if_true]
    · simp only [decide_eq_false h] at t1
      simp only [noX, evg, M.bind_ap, t1, t2, asB, M.pure_ap, if_neg h, if_false, Bool.false_eq_true]
  have el : ((intsW ns).flatMap fun x => match x with
        | .d (.int i) => if (10 : Int) ^ 18 ≤ absI i then [D.int (absI i - 10 ^ 18)] else []
        | _ => []) = (lgs ns).map D.int := by
    clear e hs hl
    induction ns with
    | nil => rfl
    | cons i ns ih =>
      unfold lgs intsW at ih ⊢
      by_cases h : (10 : Int) ^ 18 ≤ absI i
      · simp only [List.map_cons, List.flatMap_cons, List.filter_cons, h, decide_true, if_true, List.map_cons, ih, List.cons_append, List.nil_append]
      · simp only [List.map_cons, List.flatMap_cons, List.filter_cons, h, decide_false, if_false, ih, List.nil_append, Bool.false_eq_true]
  rw [el] at e
  have h63 : (lgs ns).length ≤ 63 := by
    unfold lgs
    rw [List.length_map]
    exact Nat.le_trans (List.length_filter_le ..) hl
  have hlim : ((lgs ns).map D.int).length ≤ lim := by
    rw [List.length_map]
    unfold lim; omega
  have ei : itS .plain (.ds [.lst (ns.map D.int)]) = some (intsW ns) := by simp [itS, itD, intsW]
  have e1 : evl c (.cons (.var 0) .nil) [some (.d (.lst (ns.map D.int))), w1, w2] η = .ok [.d (.lst (ns.map D.int))] η := by simp [evl, ev, M.bind_ap]
  show (do
    let ws ← evl c (.cons (.var 0) .nil) [some (.d (.lst (ns.map D.int))), w1, w2]
    let sn ← snapM .plain ws
    let its ← ofO (itS .plain sn)
    let ys ← loopM .plain ws sn _ its
    mkL true ys : M W) η = _
  refine (M.bind_ok e1).trans ?_
  refine (M.bind_ok (a := .ds [.lst (ns.map D.int)]) (h' := η) (by unfold snapM; rw [hs])).trans ?_
  refine (M.bind_ok (a := intsW ns) (h' := η) (by rw [ei]; rfl)).trans ?_
  refine (M.bind_ok e).trans ?_
  unfold mkL
  rw [if_pos hlim, if_pos rfl, intsW_map]
theorem bgC_run {ns : List Int} {w1 w2 : Option W} (hl : ns.length ≤ 63) : ev c bgC [some (.d (.lst (ns.map D.int))), w1, w2] η = .ok (.ref η.length) (η ++ [.lst (intsW (ns.map absI))]) := by
  have hs : snap .plain [.d (.lst (ns.map D.int))] η = some (.ds [.lst (ns.map D.int)]) := by simp [snap, rdWs, rdW]
  have e : loopM .plain [.d (.lst (ns.map D.int))] (.ds [.lst (ns.map D.int)]) (fun x => noX (match bindP (.var 2) x (wipeV [some (.d (.lst (ns.map D.int))), w1, w2] [2]) with
      | some ν' => evg c (.yld bgA) ν'
      | none => M.bad)) (intsW ns) η = .ok ((intsW ns).flatMap fun x => match x with
        | .d (.int i) => [D.int (absI i)]
        | _ => []) η := by
    refine loopM_pure hs _ fun x hx => ?_
    obtain ⟨i, _, rfl⟩ := List.mem_map.mp hx
    have ea := bgA_run (c := c) (η := η) (w0 := some (.d (.lst (ns.map D.int)))) (w1 := w1) (i := i)
    show noX (evg c _ [some (.d (.lst (ns.map D.int))), w1, some (.d (.int i))]) η = _
    simp only [noX, evg, M.bind_ap, ea, M.pure_ap]
  have el : ((intsW ns).flatMap fun x => match x with
        | .d (.int i) => [D.int (absI i)]
        | _ => []) = (ns.map absI).map D.int := by
    clear e hs hl
    induction ns with
    | nil => rfl
    | cons i ns ih =>
      unfold intsW at ih ⊢
      simp only [List.map_cons, List.flatMap_cons, ih, List.cons_append, List.nil_append]
  rw [el] at e
  have hlim : ((ns.map absI).map D.int).length ≤ lim := by
    rw [List.length_map, List.length_map]
    unfold lim; omega
  have ei : itS .plain (.ds [.lst (ns.map D.int)]) = some (intsW ns) := by simp [itS, itD, intsW]
  have e1 : evl c (.cons (.var 0) .nil) [some (.d (.lst (ns.map D.int))), w1, w2] η = .ok [.d (.lst (ns.map D.int))] η := by simp [evl, ev, M.bind_ap]
  show (do
    let ws ← evl c (.cons (.var 0) .nil) [some (.d (.lst (ns.map D.int))), w1, w2]
    let sn ← snapM .plain ws
    let its ← ofO (itS .plain sn)
    let ys ← loopM .plain ws sn _ its
    mkL true ys : M W) η = _
  refine (M.bind_ok e1).trans ?_
  refine (M.bind_ok (a := .ds [.lst (ns.map D.int)]) (h' := η) (by unfold snapM; rw [hs])).trans ?_
  refine (M.bind_ok (a := intsW ns) (h' := η) (by rw [ei]; rfl)).trans ?_
  refine (M.bind_ok e).trans ?_
  unfold mkL
  rw [if_pos hlim, if_pos rfl, intsW_map]
/-- _law_begun -/
theorem begun_run {ns : List Int} (hl : ns.length ≤ 63) : ∃ η', runF c dBegun [.d (.lst (ns.map D.int))] [] = .ok (.ref 2) η' ∧ DrawAt η' 2 0 1 (lgs ns) (ns.map absI) 0 0 ∧ (lgs ns).length ≤ 63 := by
  refine ⟨[.lst (intsW (lgs ns)), .lst (intsW (ns.map absI)), .dct (drawD 0 1 0 0)], runF_ret ?_, ⟨rfl, rfl, rfl, by decide⟩, ?_⟩
  · have s1 : sx c (.asg 1 bgL) [some (.d (.lst (ns.map D.int))), none, none] [] = .nx [some (.d (.lst (ns.map D.int))), some (.ref 0), none] [.lst (intsW (lgs ns))] := by
      show O.ofE _ (ev c bgL _ _) _ = _
      rw [bgL_run hl]
      rfl
    have e2 := bgC_run (c := c) (η := [.lst (intsW (lgs ns))]) (w1 := some (.ref 0)) (w2 := none) hl
    have hp : pairsW [.d kL, .ref 0, .d kC, .ref 1, .d kR, .d (.int 0), .d kT, .d (.int 0)] = some (drawD 0 1 0 0) := by kernel_rfl
    have hn : ndupK (drawD 0 1 0 0) = true := by kernel_rfl
    have hq : ev c (.ndct (.cons (.cst (.str [108, 97, 114, 103, 101])) (.cons (.var 1) (.cons (.cst (.str [99, 101, 108, 108, 115])) (.cons bgC (.cons (.cst (.str [114, 101, 115, 116])) (.cons (.cst (.int 0)) (.cons (.cst (.str [116, 117, 114, 110])) (.cons (.cst (.int 0)) .nil))))))))) [some (.d (.lst (ns.map D.int))), some (.ref 0), none] [.lst (intsW (lgs ns))] = .ok (.ref 2) [.lst (intsW (lgs ns)), .lst (intsW (ns.map absI)), .dct (drawD 0 1 0 0)] := by
      show (do
        let ws ← evl c (.cons (.cst kL) (.cons (.var 1) (.cons (.cst kC) (.cons bgC (.cons (.cst kR) (.cons (.cst (.int 0)) (.cons (.cst kT) (.cons (.cst (.int 0)) .nil)))))))) [some (.d (.lst (ns.map D.int))), some (.ref 0), none]
        mkD ws : M W) _ = _
      have e3 : evl c (.cons (.cst kL) (.cons (.var 1) (.cons (.cst kC) (.cons bgC (.cons (.cst kR) (.cons (.cst (.int 0)) (.cons (.cst kT) (.cons (.cst (.int 0)) .nil)))))))) [some (.d (.lst (ns.map D.int))), some (.ref 0), none] [.lst (intsW (lgs ns))] = .ok [.d kL, .ref 0, .d kC, .ref 1, .d kR, .d (.int 0), .d kT, .d (.int 0)] [.lst (intsW (lgs ns)), .lst (intsW (ns.map absI))] := by
        exact evl_cons (by rfl) (evl_cons (by rfl) (evl_cons (by rfl) (evl_cons e2 (evl_cons (by rfl) (evl_cons (by rfl) (evl_cons (by rfl) (evl_cons (by rfl) (by rfl))))))))
      refine (M.bind_ok e3).trans ?_
      unfold mkD
      rw [hp]
      show (if ndupK (drawD 0 1 0 0) && decide (4 ≤ 15) then _ else _) = _
      rw [hn]
      rfl
    show sx c smBegun [some (.d (.lst (ns.map D.int))), none, none] [] = _
    unfold smBegun
    rw [sx_sq s1]
    show (match O.ofE _ (ev c _ _ _) _ with
      | .nx ν' h' => _
      | o => o) = _
    rw [hq]
    rfl
  · unfold lgs
    rw [List.length_map]
    exact Nat.le_trans (List.length_filter_le ..) hl
/-! ### single steps -/
theorem evPr {p : Pr} {es : Ex} {ν : List (Option W)} {η η' : Hv} {ws : List W} {ds : List D} {z : D} (h : evl c es ν η = .ok ws η') (h2 : rdP p ws η' = .ok ds η') (h3 : dprim c.sub p ds = some z) : ev c (.pr p es) ν η = .ok (.d z) η' := by
  have e : ev c (.pr p es) ν = (evl c es ν >>= fun ws => rdP p ws >>= fun ds => ofO (dprim c.sub p ds) >>= fun z => Pure.pure (.d z)) := by simp only [ev]
  rw [e, M.bind_ok h, M.bind_ok h2, h3]
  rfl
theorem evCall {md f : Nat} {es : Ex} {ν : List (Option W)} {η η' : Hv} {ws : List W} {r : R W} (h : evl c es ν η = .ok ws η') (h2 : c.call md f ws η' = r) : ev c (.call md f es) ν η = r := by
  have e : ev c (.call md f es) ν = (evl c es ν >>= fun ws => c.call md f ws) := by simp only [ev]
  rw [e, M.bind_ok h, h2]
theorem sxAsg {i : Nat} {e : Ex} {ν : List (Option W)} {η η' : Hv} {w : W} (h : ev c e ν η = .ok w η') : sx c (.asg i e) ν η = .nx (ν.set i (some w)) η' := by
  show O.ofE ν (ev c e ν η) _ = _
  rw [h]
  rfl
theorem sxRet {e : Ex} {ν : List (Option W)} {η η' : Hv} {w : W} (h : ev c e ν η = .ok w η') : sx c (.ret e) ν η = .ret w η' := by
  show O.ofE ν (ev c e ν η) _ = _
  rw [h]
  rfl
theorem sxIfF {t : Ex} {a b : Sm} {ν : List (Option W)} {η η' : Hv} (h : ev c t ν η = .ok (.d (.bl false)) η') : sx c (.ife t a b) ν η = sx c b ν η' := by
  show O.ofE ν (ev c t ν η) _ = _
  rw [h]
  rfl
theorem sxIfT {t : Ex} {a b : Sm} {ν : List (Option W)} {η η' : Hv} (h : ev c t ν η = .ok (.d (.bl true)) η') : sx c (.ife t a b) ν η = sx c a ν η' := by
  show O.ofE ν (ev c t ν η) _ = _
  rw [h]
  rfl
end
end Ip

set_option Elab.async false
set_option linter.all false
set_option maxRecDepth 100000
set_option maxHeartbeats 400000
/-! IpPl: steps for plain laws: draws, loops. -/
namespace Ip
section
variable {c : Cfg} {η η' : Hv} {ν : List (Option W)} {n l m : Nat} {cs : List Int} {iT iB iP : Nat}
/-- the draw stands, whatever rests -/
def Dr (cs : List Int) (n l m : Nat) (η : Hv) : Prop := ∃ ls r t, DrawAt η n l m ls cs r t ∧ ls.length ≤ 63
theorem sxPar {is : List Nat} {es : Ex} {ν' : List (Option W)} {ws : List W} (h : evl c es ν η = .ok ws η') (h2 : setL is ws ν = some ν') : sx c (.par is es) ν η = .nx ν' η' := by
  show O.ofE ν (evl c es ν η) _ = _
  rw [h]
  show (match setL is ws ν with
    | some ν' => O.nx ν' η'
    | none => .bad) = _
  rw [h2]
/-- what take and pick are -/
structure DrawC (c : Cfg) (iT iB iP : Nat) : Prop where
  take : ∃ c1, 63 < c1.fuel ∧ (∃ c2, ∀ ws η, c1.call 1 iB ws η = runF c2 dBlend ws η) ∧ ∀ ws η, c.call 1 iT ws η = runF c1 (dTake iB) ws η
  pick : ∃ c0 c1, 63 < c1.fuel ∧ (∃ c2, ∀ ws η, c1.call 1 iB ws η = runF c2 dBlend ws η) ∧ (∀ ws η, c0.call 1 iT ws η = runF c1 (dTake iB) ws η) ∧ ∀ ws η, c.call 1 iP ws η = runF c0 (dPick iT) ws η
theorem take_ev (C : DrawC c iT iB iP) (dr : Dr cs n l m η) {id : Nat} {sz : Ex} {size : Int} (hν : ν[id]? = some (some (.ref n))) (he : ev c sz ν η = .ok (.d (.int size)) η) (hs : 0 < size) (hs2 : size < 1073741824) :
    ∃ v η', ev c (.call 1 iT (.cons (.var id) (.cons sz .nil))) ν η = .ok (.d (.int v)) η' ∧ (0 ≤ v ∧ v < size) ∧ Dr cs n l m η' := by
  obtain ⟨c1, hf, hb, hc⟩ := C.take
  obtain ⟨ls, r, t, d, hl⟩ := dr
  obtain ⟨v, ls', r', t', η', e, hv, d', f', l'⟩ := take_run (c := c1) d (by omega) hs hs2 hb
  refine ⟨v, η', evCall (evl_cons (a := .ref n) (η1 := η) ?_ (evl_cons he rfl)) ((hc _ _).trans e), hv, ls', r', t', d', by omega⟩
  simp [ev, hν]
theorem pick_ev (C : DrawC c iT iB iP) (dr : Dr cs n l m η) {id : Nat} {e : Ex} {xs : List D} (hν : ν[id]? = some (some (.ref n))) (he : ev c e ν η = .ok (.d (.lst xs)) η) (hx : xs ≠ []) (hx2 : xs.length < 1073741824) :
    ∃ x η', ev c (.call 1 iP (.cons (.var id) (.cons e .nil))) ν η = .ok (.d x) η' ∧ x ∈ xs ∧ Dr cs n l m η' := by
  obtain ⟨c0, c1, hf, hb, hc, hp⟩ := C.pick
  obtain ⟨ls, r, t, d, hl⟩ := dr
  obtain ⟨x, ls', r', t', η', e1, hx', d', f', l'⟩ := pick_run (c := c0) (iT := iT) (iB := iB) d hx hx2 ⟨c1, by omega, hb, hc⟩
  refine ⟨x, η', evCall (evl_cons (a := .ref n) (η1 := η) ?_ (evl_cons he rfl)) ((hp _ _).trans e1), hx', ls', r', t', d', by omega⟩
  simp [ev, hν]
theorem loopS_inv {P : List (Option W) → Hv → Prop} {k : Ik} {ws : List W} {sn : Snap} {f : W → List (Option W) → Hv → O} (hs : ∀ η, snap k ws η = some sn) : ∀ (its : List W), (∀ x ∈ its, ∀ ν η, P ν η → ∃ ν' η', f x ν η = .nx ν' η' ∧ P ν' η') → ∀ ν η, P ν η → ∃ ν' η', loopS k ws sn f its ν η = .nx ν' η' ∧ P ν' η'
  | [], _, ν, η, h => ⟨ν, η, by simp [loopS, hs], h⟩
  | x :: xs, hf, ν, η, h => by
    obtain ⟨ν1, η1, e1, h1⟩ := hf x (List.mem_cons_self ..) ν η h
    obtain ⟨ν2, η2, e2, h2⟩ := loopS_inv hs xs (fun y hy => hf y (List.mem_cons_of_mem _ hy)) ν1 η1 h1
    refine ⟨ν2, η2, ?_, h2⟩
    show (if snap k ws η = some sn then _ else _) = _
    rw [if_pos (hs η), e1]
    exact e2
theorem for_rng {P : List (Option W) → Hv → Prop} {iv : Nat} {es : Ex} {b : Sm} {N : Int} (he : evl c es ν η = .ok [.d (.int N)] η') (hN : small62 N = true) (h0 : P ν η')
    (hb : ∀ i : Int, 0 ≤ i → i < N → ∀ ν η, P ν η → ∃ ν' η', sx c b (ν.set iv (some (.d (.int i)))) η = .nx ν' η' ∧ P ν' η') : ∃ ν' η'', sx c (.forr .range (.var iv) es b) ν η = .nx ν' η'' ∧ P ν' η'' := by
  obtain ⟨ν', η2, e, h'⟩ := loopS_inv (P := P) (k := .range) (ws := [.d (.int N)]) (sn := Snap.ds [.int N]) (f := fun x ν h => match bindP (.var iv) x ν with
      | some ν' => sx c b ν' h
      | none => .bad) (fun _ => rfl) ((rngD 0 N).map W.d) (fun w hw ν η hν => by
    obtain ⟨d, hd, rfl⟩ := List.mem_map.mp hw
    obtain ⟨k, hk, rfl⟩ := List.mem_map.mp hd
    have hk := List.mem_range.mp hk
    obtain ⟨ν1, η1, q1, q2⟩ := hb (0 + (k : Int)) (by omega) (by omega) ν η hν
    exact ⟨ν1, η1, q1, q2⟩) ν η' h0
  refine ⟨ν', η2, ?_, h'⟩
  have e3 : (do
      let ws ← evl c es ν
      let sn ← snapM .range ws
      let its ← ofO (itS .range sn)
      Pure.pure (ws, sn, its) : M (List W × Snap × List W)) η = .ok ([.d (.int N)], Snap.ds [.int N], (rngD 0 N).map W.d) η' := by
    refine (M.bind_ok he).trans ?_
    refine (M.bind_ok (a := Snap.ds [.int N]) (h' := η') rfl).trans ?_
    have : itS .range (Snap.ds [.int N]) = some ((rngD 0 N).map W.d) := by simp [itS, itD, hN]
    rw [this]
    rfl
  show O.ofE ν _ _ = _
  refine (congrArg (fun r => O.ofE ν r _) e3).trans ?_
  exact e
/-- 1 + a draw -/
theorem take1_ev (C : DrawC c iT iB iP) (dr : Dr cs n l m η) {id : Nat} {size k : Int} (hν : ν[id]? = some (some (.ref n))) (hs : 0 < size) (hs2 : size < 1073741824) :
    ∃ v η', ev c (.pr (.bin .add) (.cons (.cst (.int k)) (.cons (.call 1 iT (.cons (.var id) (.cons (.cst (.int size)) .nil))) .nil))) ν η = .ok (.d (.int (k + v))) η' ∧ (0 ≤ v ∧ v < size) ∧ Dr cs n l m η' := by
  obtain ⟨v, η', e, hv, d⟩ := take_ev C dr (sz := .cst (.int size)) hν rfl hs hs2
  exact ⟨v, η', evPr (ds := [.int k, .int v]) (evl_cons (a := .d (.int k)) (η1 := η) rfl (evl_cons e rfl)) rfl rfl, hv, d⟩
end
end Ip

set_option Elab.async false
set_option linter.all false
set_option maxRecDepth 100000
set_option maxHeartbeats 0
namespace Law
open PySem PySem.Spec PyProof.Rows L2 Ip
abbrev sub := subA anc
def st_0 : Stmt := stm 7
def sm_0 : Sm := (.sq (.ret (.and (.pr (.fn .isinst) (.cons (.var 0) (.cons (.cst (.ty "int")) .nil))) (.nt (.pr (.fn .isinst) (.cons (.var 0) (.cons (.cst (.ty "bool")) .nil))))))
 .sk)
def d_0 : FDef := ⟨"is_number", ["thing"], ["thing"], sm_0, none⟩
theorem ck_0 : chkD B d_0 st_0 = true := by decide +kernel
theorem bd_0 (K : PySem.W.Frag) (f : Addr) (fd : FuncData) (F : FunD K d_0.x d_0.x (defArgs st_0) (defBody st_0) (defScope st_0) [] [] f fd) : BindD B 0 d_0 K fd := ⟨F.bindsN fun _ _ _ _ _ _ us hl => match us, hl with | [_], _ => by kernel_rfl, fun ks pm h s us ws hk hl hp => by
  have h : (0, ks, pm) ∈ B.kw := h
  simp only [B, List.mem_cons, List.not_mem_nil, or_false, Prod.mk.injEq] at h
  simp at h⟩
def st_1 : Stmt := stm 8
def sm_1 : Sm := (.sq (.ret (.and (.call 0 0 (.cons (.var 0) .nil)) (.chn .le .le (.var 1) (.var 0) (.var 2))))
 .sk)
def d_1 : FDef := ⟨"is_between", ["thing", "low", "high"], ["thing", "low", "high"], sm_1, none⟩
theorem ck_1 : chkD B d_1 st_1 = true := by decide +kernel
theorem bd_1 (K : PySem.W.Frag) (f : Addr) (fd : FuncData) (F : FunD K d_1.x d_1.x (defArgs st_1) (defBody st_1) (defScope st_1) [] [] f fd) : BindD B 1 d_1 K fd := ⟨F.bindsN fun _ _ _ _ _ _ us hl => match us, hl with | [_, _, _], _ => by kernel_rfl, fun ks pm h s us ws hk hl hp => by
  have h : (1, ks, pm) ∈ B.kw := h
  simp only [B, List.mem_cons, List.not_mem_nil, or_false, Prod.mk.injEq] at h
  simp at h⟩
def st_2 : Stmt := stm 10
def sm_2 : Sm := (.sq (.ife (.nt (.call 0 1 (.cons (.var 0) (.cons (.cst (.int 1)) (.cons (.cst (.int 4)) .nil)))))
 (.sq (.rais (.mk 1 (.cons (.cst (.str [110, 111, 32, 110, 117, 109, 98, 101, 114, 32, 111, 102, 32, 104, 97, 110, 100, 115])) .nil)))
 .sk)
 .sk)
 .sk)
def d_2 : FDef := ⟨"need_many", ["thing"], ["thing"], sm_2, none⟩
theorem ck_2 : chkD B d_2 st_2 = true := by decide +kernel
theorem bd_2 (K : PySem.W.Frag) (f : Addr) (fd : FuncData) (F : FunD K d_2.x d_2.x (defArgs st_2) (defBody st_2) (defScope st_2) [] [] f fd) : BindD B 2 d_2 K fd := ⟨F.bindsN fun _ _ _ _ _ _ us hl => match us, hl with | [_], _ => by kernel_rfl, fun ks pm h s us ws hk hl hp => by
  have h : (2, ks, pm) ∈ B.kw := h
  simp only [B, List.mem_cons, List.not_mem_nil, or_false, Prod.mk.injEq] at h
  simp at h⟩
def st_3 : Stmt := stm 12
def sm_3 : Sm := (.sq (.ife (.nt (.call 0 1 (.cons (.var 0) (.cons (.cst (.int 1)) (.cons (.cst (.int 4)) .nil)))))
 (.sq (.rais (.mk 2 (.cons (.cst (.str [110, 111, 32, 110, 117, 109, 98, 101, 114, 32, 111, 102, 32, 118, 97, 108, 117, 101, 115, 32, 97, 110, 115, 119, 101, 114, 101, 100])) .nil)))
 .sk)
 .sk)
 .sk)
def d_3 : FDef := ⟨"need_most", ["thing"], ["thing"], sm_3, none⟩
theorem ck_3 : chkD B d_3 st_3 = true := by decide +kernel
theorem bd_3 (K : PySem.W.Frag) (f : Addr) (fd : FuncData) (F : FunD K d_3.x d_3.x (defArgs st_3) (defBody st_3) (defScope st_3) [] [] f fd) : BindD B 3 d_3 K fd := ⟨F.bindsN fun _ _ _ _ _ _ us hl => match us, hl with | [_], _ => by kernel_rfl, fun ks pm h s us ws hk hl hp => by
  have h : (3, ks, pm) ∈ B.kw := h
  simp only [B, List.mem_cons, List.not_mem_nil, or_false, Prod.mk.injEq] at h
  simp at h⟩
def st_4 : Stmt := stm 14
def sm_4 : Sm := (.sq (.exp (.call 0 2 (.cons (.var 0) .nil)))
 (.sq (.ife (.nt (.call 0 1 (.cons (.var 1) (.cons (.cst (.int 1)) (.cons (.cst (.int 9)) .nil)))))
 (.sq (.rais (.mk 3 (.cons (.cst (.str [110, 111, 32, 110, 117, 109, 98, 101, 114, 32, 111, 102, 32, 118, 97, 108, 117, 101, 115])) .nil)))
 .sk)
 .sk)
 (.sq (.exp (.call 0 3 (.cons (.var 2) .nil)))
 .sk)))
def d_4 : FDef := ⟨"need_few", ["many", "values", "most"], ["many", "values", "most"], sm_4, none⟩
theorem ck_4 : chkD B d_4 st_4 = true := by decide +kernel
theorem bd_4 (K : PySem.W.Frag) (f : Addr) (fd : FuncData) (F : FunD K d_4.x d_4.x (defArgs st_4) (defBody st_4) (defScope st_4) [] [] f fd) : BindD B 4 d_4 K fd := ⟨F.bindsN fun _ _ _ _ _ _ us hl => match us, hl with | [_, _, _], _ => by kernel_rfl, fun ks pm h s us ws hk hl hp => by
  have h : (4, ks, pm) ∈ B.kw := h
  simp only [B, List.mem_cons, List.not_mem_nil, or_false, Prod.mk.injEq] at h
  simp at h⟩
def st_5 : Stmt := stm 15
def sm_5 : Sm := (.sq (.ret (.pr (.cmp .ge) (.cons (.var 2) (.cons (.pr (.fn .min) (.cons (.var 0) (.cons (.var 1) .nil))) .nil))))
 .sk)
def d_5 : FDef := ⟨"is_easy", ["many", "values", "most"], ["many", "values", "most"], sm_5, none⟩
theorem ck_5 : chkD B d_5 st_5 = true := by decide +kernel
theorem bd_5 (K : PySem.W.Frag) (f : Addr) (fd : FuncData) (F : FunD K d_5.x d_5.x (defArgs st_5) (defBody st_5) (defScope st_5) [] [] f fd) : BindD B 5 d_5 K fd := ⟨F.bindsN fun _ _ _ _ _ _ us hl => match us, hl with | [_, _, _], _ => by kernel_rfl, fun ks pm h s us ws hk hl hp => by
  have h : (5, ks, pm) ∈ B.kw := h
  simp only [B, List.mem_cons, List.not_mem_nil, or_false, Prod.mk.injEq] at h
  simp at h⟩
def st_6 : Stmt := stm 16
def sm_6 : Sm := (.sq (.exp (.call 0 4 (.cons (.var 0) (.cons (.var 1) (.cons (.var 2) .nil)))))
 (.sq (.ret (.ite (.call 0 5 (.cons (.var 0) (.cons (.var 1) (.cons (.var 2) .nil)))) (.cst (.int 0)) (.cst .non)))
 .sk))
def d_6 : FDef := ⟨"few_rounds", ["many", "values", "most"], ["many", "values", "most"], sm_6, none⟩
theorem ck_6 : chkD B d_6 st_6 = true := by decide +kernel
theorem bd_6 (K : PySem.W.Frag) (f : Addr) (fd : FuncData) (F : FunD K d_6.x d_6.x (defArgs st_6) (defBody st_6) (defScope st_6) [] [] f fd) : BindD B 6 d_6 K fd := ⟨F.bindsN fun _ _ _ _ _ _ us hl => match us, hl with | [_, _, _], _ => by kernel_rfl, fun ks pm h s us ws hk hl hp => by
  have h : (6, ks, pm) ∈ B.kw := h
  simp only [B, List.mem_cons, List.not_mem_nil, or_false, Prod.mk.injEq] at h
  rcases h with ⟨e, rfl, rfl⟩ | ⟨e, rfl, rfl⟩
  · match us, hl with
      | [u0, u1, u2], _ => cases hp; exact F.bindsK (fun _ _ _ _ _ _ => by kernel_rfl) s
  · cases e⟩
def st_7 : Stmt := stm 17
def sm_7 : Sm := (.sq (.exp (.call 0 4 (.cons (.var 0) (.cons (.var 1) (.cons (.var 2) .nil)))))
 (.sq (.ife (.call 0 5 (.cons (.var 0) (.cons (.var 1) (.cons (.var 2) .nil))))
 (.sq (.ret (.cst .non))
 .sk)
 .sk)
 (.sq (.asg 3 (.pr (.fn .range) (.cons (.pr (.bin .add) (.cons (.var 2) (.cons (.cst (.int 1)) .nil))) .nil)))
 (.sq (.ret (.pr .tup (.cons (.pr (.fn .tuple) (.cons (.lc false [4] .plain (.var 4) (.cons (.var 3) .nil) (.yld (.pr .tup (.cons (.var 4) (.cons (.var 4) .nil))))) .nil)) (.cons (.dcn (.gfor .plain [4, 5] (.var 4) (.cons (.var 3) .nil) (.gfor .plain [5] (.var 5) (.cons (.var 3) .nil) (.yld2 (.pr .tup (.cons (.var 4) (.cons (.var 5) .nil))) (.var 5))))) .nil))))
 .sk))))
def d_7 : FDef := ⟨"few_paper", ["many", "values", "most"], ["many", "values", "most", "hands", "hand", "value"], sm_7, none⟩
theorem ck_7 : chkD B d_7 st_7 = true := by decide +kernel
theorem bd_7 (K : PySem.W.Frag) (f : Addr) (fd : FuncData) (F : FunD K d_7.x d_7.x (defArgs st_7) (defBody st_7) (defScope st_7) [] [] f fd) : BindD B 7 d_7 K fd := ⟨F.bindsN fun _ _ _ _ _ _ us hl => match us, hl with | [_, _, _], _ => by kernel_rfl, fun ks pm h s us ws hk hl hp => by
  have h : (7, ks, pm) ∈ B.kw := h
  simp only [B, List.mem_cons, List.not_mem_nil, or_false, Prod.mk.injEq] at h
  rcases h with ⟨e, rfl, rfl⟩ | ⟨e, rfl, rfl⟩
  · cases e
  · match us, hl with
      | [u0, u1, u2], _ => cases hp; exact F.bindsK (fun _ _ _ _ _ _ => by kernel_rfl) s⟩
def st_8 : Stmt := stm 19
def sm_8 : Sm := (.sq (.asg 1 (.lc true [2] .plain (.var 2) (.cons (.var 0) .nil) (.gif (.pr (.cmp .ge) (.cons (.pr (.fn .abs) (.cons (.var 2) .nil)) (.cons (.pr (.bin .pow) (.cons (.cst (.int 10)) (.cons (.cst (.int 18)) .nil))) .nil))) (.yld (.pr (.bin .sub) (.cons (.pr (.fn .abs) (.cons (.var 2) .nil)) (.cons (.pr (.bin .pow) (.cons (.cst (.int 10)) (.cons (.cst (.int 18)) .nil))) .nil)))))))
 (.sq (.ret (.ndct (.cons (.cst (.str [108, 97, 114, 103, 101])) (.cons (.var 1) (.cons (.cst (.str [99, 101, 108, 108, 115])) (.cons (.lc true [2] .plain (.var 2) (.cons (.var 0) .nil) (.yld (.pr (.fn .abs) (.cons (.var 2) .nil)))) (.cons (.cst (.str [114, 101, 115, 116])) (.cons (.cst (.int 0)) (.cons (.cst (.str [116, 117, 114, 110])) (.cons (.cst (.int 0)) .nil))))))))))
 .sk))
def d_8 : FDef := ⟨"_law_begun", ["script"], ["script", "large", "cell"], sm_8, none⟩
theorem ck_8 : chkD B d_8 st_8 = true := by decide +kernel
theorem bd_8 (K : PySem.W.Frag) (f : Addr) (fd : FuncData) (F : FunD K d_8.x d_8.x (defArgs st_8) (defBody st_8) (defScope st_8) [] [] f fd) : BindD B 8 d_8 K fd := ⟨F.bindsN fun _ _ _ _ _ _ us hl => match us, hl with | [_], _ => by kernel_rfl, fun ks pm h s us ws hk hl hp => by
  have h : (8, ks, pm) ∈ B.kw := h
  simp only [B, List.mem_cons, List.not_mem_nil, or_false, Prod.mk.injEq] at h
  simp at h⟩
def st_9 : Stmt := stm 20
def sm_9 : Sm := (.sq (.par [1, 2] (.cons (.pr (.bin .add) (.cons (.dget (.var 0) (.cst (.str [116, 117, 114, 110]))) (.cons (.cst (.int 1)) .nil))) (.cons (.cst (.int 0)) .nil)))
 (.sq (.dset (.var 0) (.cst (.str [116, 117, 114, 110])) (.var 1))
 (.sq (.forr .plain (.var 3) (.cons (.pr .lst (.cons (.cst (.int 2147483629)) (.cons (.cst (.int 2147483587)) (.cons (.cst (.int 2147483579)) .nil)))) .nil)
 (.sq (.asg 4 (.pr (.bin .mod) (.cons (.pr (.fn .int) (.cons (.pr (.bin .add) (.cons (.pr (.bin .mul) (.cons (.var 1) (.cons (.cst (.int 69621)) .nil))) (.cons (.pr (.bin .fdiv) (.cons (.var 3) (.cons (.cst (.int 7)) .nil))) .nil))) .nil)) (.cons (.var 3) .nil))))
 (.sq (.forr .plain (.var 5) (.cons (.dget (.var 0) (.cst (.str [99, 101, 108, 108, 115]))) .nil)
 (.sq (.asg 4 (.pr (.bin .mod) (.cons (.pr (.fn .int) (.cons (.pr (.bin .add) (.cons (.pr (.bin .add) (.cons (.pr (.bin .mul) (.cons (.var 4) (.cons (.cst (.int 48271)) .nil))) (.cons (.pr (.fn .int) (.cons (.var 5) .nil)) .nil))) (.cons (.cst (.int 1)) .nil))) .nil)) (.cons (.var 3) .nil))))
 .sk))
 (.sq (.asg 2 (.pr (.bin .add) (.cons (.pr (.bin .mul) (.cons (.var 2) (.cons (.cst (.int 2147483647)) .nil))) (.cons (.pr (.bin .mod) (.cons (.pr (.fn .int) (.cons (.pr (.bin .pow) (.cons (.var 4) (.cons (.cst (.int 5)) .nil))) .nil)) (.cons (.var 3) .nil))) .nil))))
 .sk))))
 (.sq (.ret (.var 2))
 .sk))))
def d_9 : FDef := ⟨"_law_blend", ["draw"], ["draw", "turn", "found", "prime", "stirred", "cell"], sm_9, none⟩
theorem ck_9 : chkD B d_9 st_9 = true := by decide +kernel
theorem bd_9 (K : PySem.W.Frag) (f : Addr) (fd : FuncData) (F : FunD K d_9.x d_9.x (defArgs st_9) (defBody st_9) (defScope st_9) [] [] f fd) : BindD B 9 d_9 K fd := ⟨F.bindsN fun _ _ _ _ _ _ us hl => match us, hl with | [_], _ => by kernel_rfl, fun ks pm h s us ws hk hl hp => by
  have h : (9, ks, pm) ∈ B.kw := h
  simp only [B, List.mem_cons, List.not_mem_nil, or_false, Prod.mk.injEq] at h
  simp at h⟩
def st_10 : Stmt := stm 21
def sm_10 : Sm := (.sq (.whl (.and (.pr (.cmp .eq) (.cons (.dget (.var 0) (.cst (.str [114, 101, 115, 116]))) (.cons (.cst (.int 0)) .nil))) (.pr (.cmp .ne) (.cons (.dget (.var 0) (.cst (.str [108, 97, 114, 103, 101]))) (.cons (.pr .lst .nil) .nil))))
 (.sq (.dset (.var 0) (.cst (.str [114, 101, 115, 116])) (.popi (.dget (.var 0) (.cst (.str [108, 97, 114, 103, 101]))) (.cst (.int 0))))
 .sk))
 (.sq (.ife (.pr (.cmp .eq) (.cons (.dget (.var 0) (.cst (.str [114, 101, 115, 116]))) (.cons (.cst (.int 0)) .nil)))
 (.sq (.dset (.var 0) (.cst (.str [114, 101, 115, 116])) (.call 1 9 (.cons (.var 0) .nil)))
 .sk)
 .sk)
 (.sq (.asg 2 (.pr (.bin .mod) (.cons (.pr (.fn .int) (.cons (.dget (.var 0) (.cst (.str [114, 101, 115, 116]))) .nil)) (.cons (.var 1) .nil))))
 (.sq (.dset (.var 0) (.cst (.str [114, 101, 115, 116])) (.pr (.bin .fdiv) (.cons (.pr (.fn .int) (.cons (.dget (.var 0) (.cst (.str [114, 101, 115, 116]))) .nil)) (.cons (.var 1) .nil))))
 (.sq (.ret (.var 2))
 .sk)))))
def d_10 : FDef := ⟨"_law_take", ["draw", "size"], ["draw", "size", "found"], sm_10, none⟩
theorem ck_10 : chkD B d_10 st_10 = true := by decide +kernel
theorem bd_10 (K : PySem.W.Frag) (f : Addr) (fd : FuncData) (F : FunD K d_10.x d_10.x (defArgs st_10) (defBody st_10) (defScope st_10) [] [] f fd) : BindD B 10 d_10 K fd := ⟨F.bindsN fun _ _ _ _ _ _ us hl => match us, hl with | [_, _], _ => by kernel_rfl, fun ks pm h s us ws hk hl hp => by
  have h : (10, ks, pm) ∈ B.kw := h
  simp only [B, List.mem_cons, List.not_mem_nil, or_false, Prod.mk.injEq] at h
  simp at h⟩
def st_11 : Stmt := stm 22
def sm_11 : Sm := (.sq (.ret (.pr .item (.cons (.var 1) (.cons (.call 1 10 (.cons (.var 0) (.cons (.pr (.fn .len) (.cons (.var 1) .nil)) .nil))) .nil))))
 .sk)
def d_11 : FDef := ⟨"_law_pick", ["draw", "some"], ["draw", "some"], sm_11, none⟩
theorem ck_11 : chkD B d_11 st_11 = true := by decide +kernel
theorem bd_11 (K : PySem.W.Frag) (f : Addr) (fd : FuncData) (F : FunD K d_11.x d_11.x (defArgs st_11) (defBody st_11) (defScope st_11) [] [] f fd) : BindD B 11 d_11 K fd := ⟨F.bindsN fun _ _ _ _ _ _ us hl => match us, hl with | [_, _], _ => by kernel_rfl, fun ks pm h s us ws hk hl hp => by
  have h : (11, ks, pm) ∈ B.kw := h
  simp only [B, List.mem_cons, List.not_mem_nil, or_false, Prod.mk.injEq] at h
  simp at h⟩
def st_12 : Stmt := stm 24
def sm_12 : Sm := (.sq (.ret (.and (.pr (.fn .isinst) (.cons (.var 0) (.cons (.cst (.ty "int")) .nil))) (.nt (.pr (.fn .isinst) (.cons (.var 0) (.cons (.cst (.ty "bool")) .nil))))))
 .sk)
def d_12 : FDef := ⟨"_law_is_number", ["thing"], ["thing"], sm_12, none⟩
theorem ck_12 : chkD B d_12 st_12 = true := by decide +kernel
theorem bd_12 (K : PySem.W.Frag) (f : Addr) (fd : FuncData) (F : FunD K d_12.x d_12.x (defArgs st_12) (defBody st_12) (defScope st_12) [] [] f fd) : BindD B 12 d_12 K fd := ⟨F.bindsN fun _ _ _ _ _ _ us hl => match us, hl with | [_], _ => by kernel_rfl, fun ks pm h s us ws hk hl hp => by
  have h : (12, ks, pm) ∈ B.kw := h
  simp only [B, List.mem_cons, List.not_mem_nil, or_false, Prod.mk.injEq] at h
  simp at h⟩
def st_13 : Stmt := stm 25
def sm_13 : Sm := (.sq (.ife (.or (.nt (.pr (.fn .isinst) (.cons (.var 0) (.cons (.cst (.ty "tuple")) .nil)))) (.pr (.cmp .eq) (.cons (.pr (.fn .len) (.cons (.var 0) .nil)) (.cons (.cst (.int 0)) .nil))))
 (.sq (.ret (.cst (.bl false)))
 .sk)
 .sk)
 (.sq (.ife (.pr (.cmp .ne) (.cons (.lc false [1] .plain (.var 1) (.cons (.var 0) .nil) (.gif (.or (.nt (.pr (.fn .isinst) (.cons (.var 1) (.cons (.cst (.ty "tuple")) .nil)))) (.pr (.cmp .ne) (.cons (.pr (.fn .len) (.cons (.var 1) .nil)) (.cons (.cst (.int 2)) .nil)))) (.yld (.cst (.int 1))))) (.cons (.pr .lst .nil) .nil)))
 (.sq (.ret (.cst (.bl false)))
 .sk)
 .sk)
 (.sq (.ife (.pr (.cmp .ne) (.cons (.lc false [1] .plain (.var 1) (.cons (.var 0) .nil) (.gif (.or (.nt (.call 0 12 (.cons (.pr .item (.cons (.var 1) (.cons (.cst (.int 0)) .nil))) .nil))) (.nt (.call 0 12 (.cons (.pr .item (.cons (.var 1) (.cons (.cst (.int 1)) .nil))) .nil)))) (.yld (.cst (.int 1))))) (.cons (.pr .lst .nil) .nil)))
 (.sq (.ret (.cst (.bl false)))
 .sk)
 .sk)
 (.sq (.ife (.pr (.cmp .ne) (.cons (.lc false [2, 3] .plain (.pair (.var 2) (.var 3)) (.cons (.var 0) .nil) (.gif (.or (.pr (.cmp .lt) (.cons (.var 2) (.cons (.cst (.int 0)) .nil))) (.or (.pr (.cmp .gt) (.cons (.var 2) (.cons (.cst (.int 3)) .nil))) (.or (.pr (.cmp .lt) (.cons (.var 3) (.cons (.cst (.int 0)) .nil))) (.pr (.cmp .gt) (.cons (.var 3) (.cons (.cst (.int 999999999)) .nil)))))) (.yld (.cst (.int 1))))) (.cons (.pr .lst .nil) .nil)))
 (.sq (.ret (.cst (.bl false)))
 .sk)
 .sk)
 (.sq (.ret (.pr (.cmp .eq) (.cons (.lc false [4, 5] .zip (.pair (.var 4) (.var 5)) (.cons (.var 0) (.cons (.pr (.slice true false) (.cons (.var 0) (.cons (.cst (.int 1)) .nil))) .nil)) (.gif (.pr (.cmp .ge) (.cons (.pr .item (.cons (.var 4) (.cons (.cst (.int 0)) .nil))) (.cons (.pr .item (.cons (.var 5) (.cons (.cst (.int 0)) .nil))) .nil))) (.yld (.cst (.int 1))))) (.cons (.pr .lst .nil) .nil))))
 .sk)))))
def d_13 : FDef := ⟨"_law_is_row", ["thing"], ["thing", "pair", "hand", "value", "one", "other"], sm_13, none⟩
theorem ck_13 : chkD B d_13 st_13 = true := by decide +kernel
theorem bd_13 (K : PySem.W.Frag) (f : Addr) (fd : FuncData) (F : FunD K d_13.x d_13.x (defArgs st_13) (defBody st_13) (defScope st_13) [] [] f fd) : BindD B 13 d_13 K fd := ⟨F.bindsN fun _ _ _ _ _ _ us hl => match us, hl with | [_], _ => by kernel_rfl, fun ks pm h s us ws hk hl hp => by
  have h : (13, ks, pm) ∈ B.kw := h
  simp only [B, List.mem_cons, List.not_mem_nil, or_false, Prod.mk.injEq] at h
  simp at h⟩
def st_14 : Stmt := stm 26
def sm_14 : Sm := (.sq (.ret (.pr (.fn .tuple) (.cons (.lc false [1] .plain (.var 1) (.cons (.var 0) .nil) (.yld (.pr .item (.cons (.var 1) (.cons (.cst (.int 0)) .nil))))) .nil)))
 .sk)
def d_14 : FDef := ⟨"_law_hands", ["row"], ["row", "pair"], sm_14, none⟩
theorem ck_14 : chkD B d_14 st_14 = true := by decide +kernel
theorem bd_14 (K : PySem.W.Frag) (f : Addr) (fd : FuncData) (F : FunD K d_14.x d_14.x (defArgs st_14) (defBody st_14) (defScope st_14) [] [] f fd) : BindD B 14 d_14 K fd := ⟨F.bindsN fun _ _ _ _ _ _ us hl => match us, hl with | [_], _ => by kernel_rfl, fun ks pm h s us ws hk hl hp => by
  have h : (14, ks, pm) ∈ B.kw := h
  simp only [B, List.mem_cons, List.not_mem_nil, or_false, Prod.mk.injEq] at h
  simp at h⟩
def st_15 : Stmt := stm 27
def sm_15 : Sm := (.sq (.asg 1 (.pr .lst (.cons (.pr .tup .nil) .nil)))
 (.sq (.forr .plain (.var 2) (.cons (.var 0) .nil)
 (.sq (.asg 1 (.pr (.bin .add) (.cons (.var 1) (.cons (.lc false [3] .plain (.var 3) (.cons (.var 1) .nil) (.yld (.pr (.bin .add) (.cons (.var 3) (.cons (.pr .tup (.cons (.var 2) .nil)) .nil))))) .nil))))
 .sk))
 (.sq (.ret (.srt 16 (.pr (.slice true false) (.cons (.var 1) (.cons (.cst (.int 1)) .nil)))))
 .sk)))
def d_15 : FDef := ⟨"_law_parts", ["row"], ["row", "found", "pair", "some"], sm_15, none⟩
theorem ck_15 : chkD B d_15 st_15 = true := by decide +kernel
theorem bd_15 (K : PySem.W.Frag) (f : Addr) (fd : FuncData) (F : FunD K d_15.x d_15.x (defArgs st_15) (defBody st_15) (defScope st_15) [] [] f fd) : BindD B 15 d_15 K fd := ⟨F.bindsN fun _ _ _ _ _ _ us hl => match us, hl with | [_], _ => by kernel_rfl, fun ks pm h s us ws hk hl hp => by
  have h : (15, ks, pm) ∈ B.kw := h
  simp only [B, List.mem_cons, List.not_mem_nil, or_false, Prod.mk.injEq] at h
  simp at h⟩
def st_16 : Stmt := stm 28
def sm_16 : Sm := (.sq (.ret (.pr .tup (.cons (.pr (.fn .len) (.cons (.var 0) .nil)) (.cons (.var 0) .nil))))
 .sk)
def d_16 : FDef := ⟨"_law_long", ["row"], ["row"], sm_16, none⟩
theorem ck_16 : chkD B d_16 st_16 = true := by decide +kernel
theorem bd_16 (K : PySem.W.Frag) (f : Addr) (fd : FuncData) (F : FunD K d_16.x d_16.x (defArgs st_16) (defBody st_16) (defScope st_16) [] [] f fd) : BindD B 16 d_16 K fd := ⟨F.bindsN fun _ _ _ _ _ _ us hl => match us, hl with | [_], _ => by kernel_rfl, fun ks pm h s us ws hk hl hp => by
  have h : (16, ks, pm) ∈ B.kw := h
  simp only [B, List.mem_cons, List.not_mem_nil, or_false, Prod.mk.injEq] at h
  simp at h⟩
def st_17 : Stmt := stm 29
def sm_17 : Sm := (.sq (.asg 2 (.pr .lst (.cons (.pr .tup .nil) .nil)))
 (.sq (.forr .plain (.var 3) (.cons (.var 0) .nil)
 (.sq (.asg 4 (.pr .lst .nil))
 (.sq (.forr .plain (.var 5) (.cons (.var 2) .nil)
 (.sq (.asg 4 (.pr (.bin .add) (.cons (.var 4) (.cons (.lc false [6] .plain (.var 6) (.cons (.var 1) .nil) (.yld (.pr (.bin .add) (.cons (.var 5) (.cons (.pr .tup (.cons (.pr .tup (.cons (.var 3) (.cons (.var 6) .nil))) .nil)) .nil))))) .nil))))
 .sk))
 (.sq (.asg 2 (.var 4))
 .sk))))
 (.sq (.ret (.var 2))
 .sk)))
def d_17 : FDef := ⟨"_law_rows_over", ["hands", "values"], ["hands", "values", "found", "hand", "longer", "row", "value"], sm_17, none⟩
theorem ck_17 : chkD B d_17 st_17 = true := by decide +kernel
theorem bd_17 (K : PySem.W.Frag) (f : Addr) (fd : FuncData) (F : FunD K d_17.x d_17.x (defArgs st_17) (defBody st_17) (defScope st_17) [] [] f fd) : BindD B 17 d_17 K fd := ⟨F.bindsN fun _ _ _ _ _ _ us hl => match us, hl with | [_, _], _ => by kernel_rfl, fun ks pm h s us ws hk hl hp => by
  have h : (17, ks, pm) ∈ B.kw := h
  simp only [B, List.mem_cons, List.not_mem_nil, or_false, Prod.mk.injEq] at h
  simp at h⟩
def st_18 : Stmt := stm 30
def sm_18 : Sm := (.sq (.ife (.or (.nt (.pr (.fn .isinst) (.cons (.var 3) (.cons (.cst (.ty "tuple")) .nil)))) (.or (.pr (.cmp .ne) (.cons (.pr (.fn .len) (.cons (.var 3) .nil)) (.cons (.cst (.int 2)) .nil))) (.or (.nt (.pr (.fn .isinst) (.cons (.pr .item (.cons (.var 3) (.cons (.cst (.int 1)) .nil))) (.cons (.cst (.ty "dict")) .nil)))) (.nt (.call 0 13 (.cons (.pr .item (.cons (.var 3) (.cons (.cst (.int 0)) .nil))) .nil))))))
 (.sq (.ret (.cst (.bl false)))
 .sk)
 .sk)
 (.sq (.asgp (.pair (.var 4) (.var 5)) (.var 3))
 (.sq (.par [6, 7] (.cons (.call 0 14 (.cons (.var 4) .nil)) (.cons (.lc false [9, 14] .plain (.pair (.var 9) (.var 14)) (.cons (.var 4) .nil) (.yld (.var 14))) .nil)))
 (.sq (.ife (.or (.pr (.cmp .lt) (.cons (.pr (.fn .len) (.cons (.var 6) .nil)) (.cons (.cst (.int 2)) .nil))) (.or (.pr (.cmp .ge) (.cons (.pr .item (.cons (.var 6) (.cons (.pr .neg (.cons (.cst (.int 1)) .nil)) .nil))) (.cons (.var 0) .nil))) (.or (.pr (.cmp .ge) (.cons (.pr (.fn .max) (.cons (.var 7) .nil)) (.cons (.var 1) .nil))) (.pr (.cmp .ne) (.cons (.var 4) (.cons (.pr (.fn .tuple) (.cons (.lc false [15] .range (.var 15) (.cons (.pr (.bin .add) (.cons (.var 2) (.cons (.cst (.int 1)) .nil))) .nil) (.yld (.pr .tup (.cons (.var 15) (.cons (.var 15) .nil))))) .nil)) .nil))))))
 (.sq (.ret (.cst (.bl false)))
 .sk)
 .sk)
 (.sq (.asg 8 (.pr .lst .nil))
 (.sq (.forr .plain (.var 9) (.cons (.var 6) .nil)
 (.sq (.asg 8 (.pr (.bin .add) (.cons (.var 8) (.cons (.lc false [14] .plain (.var 14) (.cons (.pr (.fn .sorted) (.cons (.var 7) .nil)) .nil) (.yld (.pr .tup (.cons (.var 9) (.cons (.var 14) .nil))))) .nil))))
 .sk))
 (.sq (.ife (.or (.pr (.cmp .ne) (.cons (.pr (.fn .dlist) (.cons (.var 5) .nil)) (.cons (.var 8) .nil))) (.pr (.cmp .ne) (.cons (.lc false [16] .plain (.var 16) (.cons (.var 8) .nil) (.gif (.or (.nt (.call 0 12 (.cons (.pr .item (.cons (.var 5) (.cons (.var 16) .nil))) .nil))) (.pr (.cmp .notin) (.cons (.pr .item (.cons (.var 5) (.cons (.var 16) .nil))) (.cons (.var 6) .nil)))) (.yld (.cst (.int 1))))) (.cons (.pr .lst .nil) .nil))))
 (.sq (.ret (.cst (.bl false)))
 .sk)
 .sk)
 (.sq (.forr .plain (.var 10) (.cons (.call 0 15 (.cons (.var 4) .nil)) .nil)
 (.sq (.asg 11 (.pr (.fn .sorted) (.cons (.lc false [9, 14] .plain (.pair (.var 9) (.var 14)) (.cons (.var 10) .nil) (.yld (.var 14))) .nil)))
 (.sq (.forr .plain (.var 12) (.cons (.call 0 17 (.cons (.call 0 14 (.cons (.var 10) .nil)) (.cons (.var 11) .nil))) .nil)
 (.sq (.ife (.pr (.cmp .le) (.cons (.pr (.fn .len) (.cons (.pr (.fn .dict) (.cons (.lc false [9, 14] .plain (.pair (.var 9) (.var 14)) (.cons (.var 12) .nil) (.yld (.pr .tup (.cons (.var 14) (.cons (.cst (.int 1)) .nil))))) .nil)) .nil)) (.cons (.var 2) .nil)))
 (.sq (.asg 13 (.pr (.fn .dsort) (.cons (.pr (.fn .dict) (.cons (.lc false [17] .plain (.var 17) (.cons (.var 12) .nil) (.yld (.pr .tup (.cons (.pr .item (.cons (.var 5) (.cons (.var 17) .nil))) (.cons (.cst (.int 1)) .nil))))) .nil)) .nil)))
 (.sq (.ife (.and (.pr (.cmp .eq) (.cons (.var 10) (.cons (.var 4) .nil))) (.pr (.cmp .eq) (.cons (.var 13) (.cons (.pr (.fn .list) (.cons (.var 6) .nil)) .nil))))
 (.sq (.ret (.cst (.bl false)))
 .sk)
 .sk)
 (.sq (.ife (.and (.pr (.cmp .ne) (.cons (.var 10) (.cons (.var 4) .nil))) (.pr (.cmp .ne) (.cons (.lc false [9] .plain (.var 9) (.cons (.var 13) .nil) (.gif (.pr (.cmp .notin) (.cons (.var 9) (.cons (.call 0 14 (.cons (.var 10) .nil)) .nil))) (.yld (.cst (.int 1))))) (.cons (.pr .lst .nil) .nil))))
 (.sq (.ret (.cst (.bl false)))
 .sk)
 .sk)
 .sk)))
 .sk)
 .sk))
 .sk)))
 (.sq (.ret (.cst (.bl true)))
 .sk)))))))))
def d_18 : FDef := ⟨"_law_paper_right", ["many", "values", "most", "paper"], ["many", "values", "most", "paper", "row", "numbers", "hands", "told", "due", "hand", "part", "some", "answer", "got", "value", "k", "key", "pair"], sm_18, none⟩
theorem ck_18 : chkD B d_18 st_18 = true := by decide +kernel
theorem bd_18 (K : PySem.W.Frag) (f : Addr) (fd : FuncData) (F : FunD K d_18.x d_18.x (defArgs st_18) (defBody st_18) (defScope st_18) [] [] f fd) : BindD B 18 d_18 K fd := ⟨F.bindsN fun _ _ _ _ _ _ us hl => match us, hl with | [_, _, _, _], _ => by kernel_rfl, fun ks pm h s us ws hk hl hp => by
  have h : (18, ks, pm) ∈ B.kw := h
  simp only [B, List.mem_cons, List.not_mem_nil, or_false, Prod.mk.injEq] at h
  simp at h⟩
def st_19 : Stmt := stm 31
def sm_19 : Sm := (.sq (.asg 1 (.call 1 8 (.cons (.var 0) .nil)))
 (.sq (.forr .range (.var 2) (.cons (.pr (.bin .add) (.cons (.cst (.int 6)) (.cons (.pr (.fn .min) (.cons (.pr (.fn .len) (.cons (.var 0) .nil)) (.cons (.cst (.int 6)) .nil))) .nil))) .nil)
 (.sq (.par [3, 4, 5] (.cons (.pr (.bin .add) (.cons (.cst (.int 1)) (.cons (.call 1 10 (.cons (.var 1) (.cons (.cst (.int 4)) .nil))) .nil))) (.cons (.pr (.bin .add) (.cons (.cst (.int 1)) (.cons (.call 1 10 (.cons (.var 1) (.cons (.cst (.int 9)) .nil))) .nil))) (.cons (.pr (.bin .add) (.cons (.cst (.int 1)) (.cons (.call 1 10 (.cons (.var 1) (.cons (.cst (.int 4)) .nil))) .nil))) .nil))))
 (.sq (.asg 6 (.pr (.cmp .le) (.cons (.pr (.fn .min) (.cons (.var 3) (.cons (.var 4) .nil))) (.cons (.var 5) .nil))))
 (.sq (.par [7, 8] (.cons (.call 0 6 (.cons (.var 3) (.cons (.var 4) (.cons (.var 5) .nil)))) (.cons (.call 0 7 (.cons (.var 3) (.cons (.var 4) (.cons (.var 5) .nil)))) .nil)))
 (.sq (.ife (.or (.pr (.cmp .ne) (.cons (.pr (.fn .repr) (.cons (.var 7) .nil)) (.cons (.ite (.var 6) (.cst (.str [48])) (.cst (.str [78, 111, 110, 101]))) .nil))) (.pr (.cmp .ne) (.cons (.callk 0 6 3 [2, 1, 0] (.cons (.var 5) (.cons (.var 4) (.cons (.var 3) .nil)))) (.cons (.var 7) .nil))))
 (.sq (.ret (.cst (.bl false)))
 .sk)
 .sk)
 (.sq (.ife (.pr (.cmp .ne) (.cons (.callk 0 7 3 [2, 1, 0] (.cons (.var 5) (.cons (.var 4) (.cons (.var 3) .nil)))) (.cons (.var 8) .nil)))
 (.sq (.ret (.cst (.bl false)))
 .sk)
 .sk)
 (.sq (.ife (.or (.and (.var 6) (.pr (.cmp .isnot) (.cons (.var 8) (.cons (.cst .non) .nil)))) (.and (.nt (.var 6)) (.nt (.call 0 18 (.cons (.var 3) (.cons (.var 4) (.cons (.var 5) (.cons (.var 8) .nil))))))))
 (.sq (.ret (.cst (.bl false)))
 .sk)
 .sk)
 (.sq (.par [9, 10, 11] (.cons (.call 1 11 (.cons (.var 1) (.cons (.pr .lst (.cons (.cst .non) (.cons (.cst (.int 0)) (.cons (.cst (.int 5)) (.cons (.cst (.bl true)) .nil))))) .nil))) (.cons (.call 1 11 (.cons (.var 1) (.cons (.pr .lst (.cons (.cst .non) (.cons (.cst (.int 0)) (.cons (.cst (.int 10)) (.cons (.pr .tup (.cons (.cst (.int 1)) (.cons (.cst (.int 2)) .nil))) .nil))))) .nil))) (.cons (.call 1 11 (.cons (.var 1) (.cons (.pr .lst (.cons (.cst .non) (.cons (.cst (.int 0)) (.cons (.cst (.int 5)) (.cons (.cst (.str [49])) .nil))))) .nil))) .nil))))
 (.wk 12 13 0 (.glo 1) (.cons (.call 0 6 (.cons (.var 9) (.cons (.var 10) (.cons (.var 11) .nil)))) (.cons (.call 0 7 (.cons (.var 9) (.cons (.var 10) (.cons (.var 11) .nil)))) .nil))
 (.sq (.ret (.cst (.bl false)))
 .sk)
 (.wk 12 13 0 (.glo 3) (.cons (.call 0 6 (.cons (.var 3) (.cons (.var 10) (.cons (.var 11) .nil)))) (.cons (.call 0 7 (.cons (.var 3) (.cons (.var 10) (.cons (.var 11) .nil)))) .nil))
 (.sq (.ret (.cst (.bl false)))
 .sk)
 (.wk 12 13 0 (.glo 2) (.cons (.call 0 6 (.cons (.var 3) (.cons (.var 4) (.cons (.var 11) .nil)))) (.cons (.call 0 7 (.cons (.var 3) (.cons (.var 4) (.cons (.var 11) .nil)))) .nil))
 (.sq (.ret (.cst (.bl false)))
 .sk)
 .sk)))))))))))
 (.sq (.ret (.cst (.bl true)))
 .sk)))
def d_19 : FDef := ⟨"law", ["script"], ["script", "draw", "lap", "many", "values", "most", "is_easy_v", "found", "paper", "odd", "far", "wrong", "works", "work"], sm_19, some "law.<locals>.<lambda>"⟩
theorem ck_19 : chkD B d_19 st_19 = true := by decide +kernel
theorem bd_19 (K : PySem.W.Frag) (f : Addr) (fd : FuncData) (F : FunD K d_19.x d_19.x (defArgs st_19) (defBody st_19) (defScope st_19) [] [] f fd) : BindD B 19 d_19 K fd := ⟨F.bindsN fun _ _ _ _ _ _ us hl => match us, hl with | [_], _ => by kernel_rfl, fun ks pm h s us ws hk hl hp => by
  have h : (19, ks, pm) ∈ B.kw := h
  simp only [B, List.mem_cons, List.not_mem_nil, or_false, Prod.mk.injEq] at h
  simp at h⟩
def ds : List FDef := [d_0, d_1, d_2, d_3, d_4, d_5, d_6, d_7, d_8, d_9, d_10, d_11, d_12, d_13, d_14, d_15, d_16, d_17, d_18, d_19]
def stc_0 : Stmt := stm 23
theorem cc_0 : catB B.gs 0 "work" "caught" stc_0 = true := by decide +kernel
theorem cb_0 (K : PySem.W.Frag) (f : Addr) (fd : FuncData) (F : FunD K "_law_caught" "_law_caught" (defArgs stc_0) (defBody stc_0) (defScope stc_0) [] [] f fd) : Binds K fd ["work"] [] := F.bindsN fun _ _ _ _ _ _ us hl => match us, hl with | [_], _ => by kernel_rfl
theorem ctk (K : PySem.W.Frag) (x : Str) (q : Nat) (h : (x, q) ∈ B.ct) : (q ∈ B.pl ∨ ∃ f, (q, f) ∈ B.xi) ∧ ∃ st ∈ sts, ∃ wn cn, nmD st = x ∧ catB B.gs q wn cn st = true ∧ ∀ (f : Addr) (fd : FuncData), FunD K x x (defArgs st) (defBody st) (defScope st) [] [] f fd → Binds K fd [wn] [] := by
  have h : (x, q) ∈ [(("_law_caught" : Str), 0)] := h
  simp only [List.mem_cons, List.not_mem_nil, or_false, Prod.mk.injEq] at h
  obtain ⟨rfl, rfl⟩ := h
  exact ⟨.inl (by decide), stc_0, List.mem_of_getElem? (i := 20) rfl, "work", "caught", by kernel_rfl, cc_0, cb_0 K⟩
theorem chk (K : PySem.W.Frag) : Chk B ds sts K := by
  refine ⟨by kernel_rfl, fun i d h => ?_, fun x q h => ctk K x q h⟩
  match i, h with
  | 0, h => cases h; exact ⟨st_0, List.mem_of_getElem? (i := 0) rfl, ck_0, bd_0 K⟩
  | 1, h => cases h; exact ⟨st_1, List.mem_of_getElem? (i := 1) rfl, ck_1, bd_1 K⟩
  | 2, h => cases h; exact ⟨st_2, List.mem_of_getElem? (i := 2) rfl, ck_2, bd_2 K⟩
  | 3, h => cases h; exact ⟨st_3, List.mem_of_getElem? (i := 3) rfl, ck_3, bd_3 K⟩
  | 4, h => cases h; exact ⟨st_4, List.mem_of_getElem? (i := 4) rfl, ck_4, bd_4 K⟩
  | 5, h => cases h; exact ⟨st_5, List.mem_of_getElem? (i := 5) rfl, ck_5, bd_5 K⟩
  | 6, h => cases h; exact ⟨st_6, List.mem_of_getElem? (i := 6) rfl, ck_6, bd_6 K⟩
  | 7, h => cases h; exact ⟨st_7, List.mem_of_getElem? (i := 7) rfl, ck_7, bd_7 K⟩
  | 8, h => cases h; exact ⟨st_8, List.mem_of_getElem? (i := 8) rfl, ck_8, bd_8 K⟩
  | 9, h => cases h; exact ⟨st_9, List.mem_of_getElem? (i := 9) rfl, ck_9, bd_9 K⟩
  | 10, h => cases h; exact ⟨st_10, List.mem_of_getElem? (i := 10) rfl, ck_10, bd_10 K⟩
  | 11, h => cases h; exact ⟨st_11, List.mem_of_getElem? (i := 11) rfl, ck_11, bd_11 K⟩
  | 12, h => cases h; exact ⟨st_12, List.mem_of_getElem? (i := 12) rfl, ck_12, bd_12 K⟩
  | 13, h => cases h; exact ⟨st_13, List.mem_of_getElem? (i := 13) rfl, ck_13, bd_13 K⟩
  | 14, h => cases h; exact ⟨st_14, List.mem_of_getElem? (i := 14) rfl, ck_14, bd_14 K⟩
  | 15, h => cases h; exact ⟨st_15, List.mem_of_getElem? (i := 15) rfl, ck_15, bd_15 K⟩
  | 16, h => cases h; exact ⟨st_16, List.mem_of_getElem? (i := 16) rfl, ck_16, bd_16 K⟩
  | 17, h => cases h; exact ⟨st_17, List.mem_of_getElem? (i := 17) rfl, ck_17, bd_17 K⟩
  | 18, h => cases h; exact ⟨st_18, List.mem_of_getElem? (i := 18) rfl, ck_18, bd_18 K⟩
  | 19, h => cases h; exact ⟨st_19, List.mem_of_getElem? (i := 19) rfl, ck_19, bd_19 K⟩
  | n + 20, h => cases h
abbrev cN (n : Nat) : Cfg := cfgN ds sub xi 100 n
end Law

set_option Elab.async false
set_option linter.all false
set_option maxRecDepth 100000
set_option maxHeartbeats 0
namespace Law
open PySem PySem.Spec PyProof.Rows L2 Ip

def hdS : Sm → Sm
  | .sq a _ => a
  | x => x
def tlS : Sm → Sm
  | .sq _ b => b
  | x => x
def sLoop : Sm := hdS (tlS sm_19)
def bL : Sm := match sLoop with
  | .forr _ _ _ b => b
  | x => x
def m1 : Sm := hdS bL
def m2 : Sm := hdS (tlS bL)
def m3 : Sm := hdS (tlS (tlS bL))
def m4 : Sm := hdS (tlS (tlS (tlS bL)))
def m5 : Sm := hdS (tlS (tlS (tlS (tlS bL))))
def m6 : Sm := hdS (tlS (tlS (tlS (tlS (tlS bL)))))
def m7 : Sm := hdS (tlS (tlS (tlS (tlS (tlS (tlS bL))))))
def m8 : Sm := tlS (tlS (tlS (tlS (tlS (tlS (tlS bL))))))
def r8 : Sm := match m8 with
  | .wk _ _ _ _ _ _ r => r
  | x => x
def r9 : Sm := match r8 with
  | .wk _ _ _ _ _ _ r => r
  | x => x
def i (k : Int) : Option W := some (.d (.int k))
abbrev st (S dr l m v o e f p od fa wr wk w : Option W) : List (Option W) := [S, dr, l, m, v, o, e, f, p, od, fa, wr, wk, w]
/-- the odd paper -/
def pap (o : Nat) : D := .tup [.tup ((List.range (o + 1)).map fun (h : Nat) => .tup [.int (h : Int), .int (h : Int)]), .tdc ((List.range (o + 1)).flatMap fun (h : Nat) => (List.range (o + 1)).map fun (v : Nat) => (.tup [.int (h : Int), .int (v : Int)], .int (v : Int)))]
theorem evOrF {c : Cfg} {a b : Ex} {ν : List (Option W)} {η η1 : Hv} {r : Ip.R W} (h : ev c a ν η = .ok (.d (.bl false)) η1) (h2 : ev c b ν η1 = r) : ev c (.or a b) ν η = r := by
  have e : ev c (.or a b) ν = (ev c a ν >>= fun x => asB x >>= fun k => if k then Pure.pure (.d (.bl true)) else ev c b ν) := by simp only [ev]
  rw [e, M.bind_ok h]
  exact h2
theorem evAndT {c : Cfg} {a b : Ex} {ν : List (Option W)} {η η1 : Hv} {r : Ip.R W} (h : ev c a ν η = .ok (.d (.bl true)) η1) (h2 : ev c b ν η1 = r) : ev c (.and a b) ν η = r := by
  have e : ev c (.and a b) ν = (ev c a ν >>= fun x => asB x >>= fun k => if k then ev c b ν else Pure.pure (.d (.bl false))) := by simp only [ev]
  rw [e, M.bind_ok h]
  exact h2
theorem evNt {c : Cfg} {a : Ex} {ν : List (Option W)} {η η1 : Hv} {k : Bool} (h : ev c a ν η = .ok (.d (.bl k)) η1) : ev c (.nt a) ν η = .ok (.d (.bl (!k))) η1 := by
  have e : ev c (.nt a) ν = (ev c a ν >>= fun x => asB x >>= fun k => Pure.pure (.d (.bl (!k)))) := by simp only [ev]
  rw [e, M.bind_ok h]
  rfl
section
variable (S dr l e f p od fa wr wk w : Option W) (η : Hv) (r : Sm)
abbrev mid (r : Sm) : Sm := .sq m2 (.sq m3 (.sq m4 (.sq m5 r)))
def t5 : Sm := tlS (tlS (tlS (tlS sm_18)))
abbrev pre (r : Sm) : Sm := .sq (hdS sm_18) (.sq (hdS (tlS sm_18)) (.sq (hdS (tlS (tlS sm_18))) (.sq (hdS (tlS (tlS (tlS sm_18)))) r)))
def rowD (o : Nat) : D := .tup ((List.range (o + 1)).map fun (h : Nat) => .tup [.int (h : Int), .int (h : Int)])
def numD (o : Nat) : D := .tdc ((List.range (o + 1)).flatMap fun (h : Nat) => (List.range (o + 1)).map fun (v : Nat) => (.tup [.int (h : Int), .int (v : Int)], .int (v : Int)))
def intsD (o : Nat) : List D := (List.range (o + 1)).map fun (h : Nat) => .int (h : Int)
abbrev sj (m v : Option W) (o : Nat) : List (Option W) := [m, v, i (o : Int), some (.d (pap o)), some (.d (rowD o)), some (.d (numD o)), some (.d (.tup (intsD o))), some (.d (.lst (intsD o))), none, none, none, none, none, none, none, none, none, none]
theorem tl_1 (m v : Option W) : sx (cN 5) t5 (sj m v 1) η = .ret (.d (.bl true)) η := by kernel_rfl
theorem tl_2 (m v : Option W) : sx (cN 5) t5 (sj m v 2) η = .ret (.d (.bl true)) η := by kernel_rfl
theorem tl_3 (m v : Option W) : sx (cN 5) t5 (sj m v 3) η = .ret (.d (.bl true)) η := by kernel_rfl
abbrev call18 : Ex := .call 0 18 (.cons (.var 3) (.cons (.var 4) (.cons (.var 5) (.cons (.var 8) .nil))))
theorem cl18 {ws : List W} {ds : List D} {x : D} {η1 : Hv} (η : Hv) (hd : dats ws = some ds) (h : runF (cN 5) d_18 ws [] = .ok (.d x) η1) : (cN 6).call 0 18 ws η = .ok (.d x) η := by
  show pureF (cN 5) d_18 ws η = _
  unfold pureF
  rw [hd, h]
/-- the test of the paper, where the judge says yes -/
theorem m6_run {ν : List (Option W)} (ha : ev (cN 6) (.and (.var 6) (.pr (.cmp .isnot) (.cons (.var 8) (.cons (.cst .non) .nil)))) ν η = .ok (.d (.bl false)) η) (hb : ev (cN 6) (.and (.nt (.var 6)) (.nt call18)) ν η = .ok (.d (.bl false)) η) : sx (cN 6) m6 ν η = .nx ν η := by
  have h : ev (cN 6) (.or (.and (.var 6) (.pr (.cmp .isnot) (.cons (.var 8) (.cons (.cst .non) .nil)))) (.and (.nt (.var 6)) (.nt call18))) ν η = .ok (.d (.bl false)) η := evOrF ha hb
  show sx (cN 6) (.ife (.or (.and (.var 6) (.pr (.cmp .isnot) (.cons (.var 8) (.cons (.cst .non) .nil)))) (.and (.nt (.var 6)) (.nt call18))) (.sq (.ret (.cst (.bl false))) .sk) .sk) ν η = _
  rw [sxIfF h]
  rfl
theorem mid_1_1_1 : sx (cN 6) (mid r) (st S dr l (i 1) (i 1) (i 1) e f p od fa wr wk w) η = sx (cN 6) r (st S dr l (i 1) (i 1) (i 1) (some (.d (.bl true))) (i 0) (some (.d .non)) od fa wr wk w) η := by kernel_rfl
theorem six_1_1_1 : sx (cN 6) m6 (st S dr l (i 1) (i 1) (i 1) (some (.d (.bl true))) (i 0) (some (.d .non)) od fa wr wk w) η = .nx (st S dr l (i 1) (i 1) (i 1) (some (.d (.bl true))) (i 0) (some (.d .non)) od fa wr wk w) η := by kernel_rfl
theorem mid_1_1_2 : sx (cN 6) (mid r) (st S dr l (i 1) (i 1) (i 2) e f p od fa wr wk w) η = sx (cN 6) r (st S dr l (i 1) (i 1) (i 2) (some (.d (.bl true))) (i 0) (some (.d .non)) od fa wr wk w) η := by kernel_rfl
theorem six_1_1_2 : sx (cN 6) m6 (st S dr l (i 1) (i 1) (i 2) (some (.d (.bl true))) (i 0) (some (.d .non)) od fa wr wk w) η = .nx (st S dr l (i 1) (i 1) (i 2) (some (.d (.bl true))) (i 0) (some (.d .non)) od fa wr wk w) η := by kernel_rfl
theorem mid_1_1_3 : sx (cN 6) (mid r) (st S dr l (i 1) (i 1) (i 3) e f p od fa wr wk w) η = sx (cN 6) r (st S dr l (i 1) (i 1) (i 3) (some (.d (.bl true))) (i 0) (some (.d .non)) od fa wr wk w) η := by kernel_rfl
theorem six_1_1_3 : sx (cN 6) m6 (st S dr l (i 1) (i 1) (i 3) (some (.d (.bl true))) (i 0) (some (.d .non)) od fa wr wk w) η = .nx (st S dr l (i 1) (i 1) (i 3) (some (.d (.bl true))) (i 0) (some (.d .non)) od fa wr wk w) η := by kernel_rfl
theorem mid_1_1_4 : sx (cN 6) (mid r) (st S dr l (i 1) (i 1) (i 4) e f p od fa wr wk w) η = sx (cN 6) r (st S dr l (i 1) (i 1) (i 4) (some (.d (.bl true))) (i 0) (some (.d .non)) od fa wr wk w) η := by kernel_rfl
theorem six_1_1_4 : sx (cN 6) m6 (st S dr l (i 1) (i 1) (i 4) (some (.d (.bl true))) (i 0) (some (.d .non)) od fa wr wk w) η = .nx (st S dr l (i 1) (i 1) (i 4) (some (.d (.bl true))) (i 0) (some (.d .non)) od fa wr wk w) η := by kernel_rfl
theorem mid_1_2_1 : sx (cN 6) (mid r) (st S dr l (i 1) (i 2) (i 1) e f p od fa wr wk w) η = sx (cN 6) r (st S dr l (i 1) (i 2) (i 1) (some (.d (.bl true))) (i 0) (some (.d .non)) od fa wr wk w) η := by kernel_rfl
theorem six_1_2_1 : sx (cN 6) m6 (st S dr l (i 1) (i 2) (i 1) (some (.d (.bl true))) (i 0) (some (.d .non)) od fa wr wk w) η = .nx (st S dr l (i 1) (i 2) (i 1) (some (.d (.bl true))) (i 0) (some (.d .non)) od fa wr wk w) η := by kernel_rfl
theorem mid_1_2_2 : sx (cN 6) (mid r) (st S dr l (i 1) (i 2) (i 2) e f p od fa wr wk w) η = sx (cN 6) r (st S dr l (i 1) (i 2) (i 2) (some (.d (.bl true))) (i 0) (some (.d .non)) od fa wr wk w) η := by kernel_rfl
theorem six_1_2_2 : sx (cN 6) m6 (st S dr l (i 1) (i 2) (i 2) (some (.d (.bl true))) (i 0) (some (.d .non)) od fa wr wk w) η = .nx (st S dr l (i 1) (i 2) (i 2) (some (.d (.bl true))) (i 0) (some (.d .non)) od fa wr wk w) η := by kernel_rfl
theorem mid_1_2_3 : sx (cN 6) (mid r) (st S dr l (i 1) (i 2) (i 3) e f p od fa wr wk w) η = sx (cN 6) r (st S dr l (i 1) (i 2) (i 3) (some (.d (.bl true))) (i 0) (some (.d .non)) od fa wr wk w) η := by kernel_rfl
theorem six_1_2_3 : sx (cN 6) m6 (st S dr l (i 1) (i 2) (i 3) (some (.d (.bl true))) (i 0) (some (.d .non)) od fa wr wk w) η = .nx (st S dr l (i 1) (i 2) (i 3) (some (.d (.bl true))) (i 0) (some (.d .non)) od fa wr wk w) η := by kernel_rfl
theorem mid_1_2_4 : sx (cN 6) (mid r) (st S dr l (i 1) (i 2) (i 4) e f p od fa wr wk w) η = sx (cN 6) r (st S dr l (i 1) (i 2) (i 4) (some (.d (.bl true))) (i 0) (some (.d .non)) od fa wr wk w) η := by kernel_rfl
theorem six_1_2_4 : sx (cN 6) m6 (st S dr l (i 1) (i 2) (i 4) (some (.d (.bl true))) (i 0) (some (.d .non)) od fa wr wk w) η = .nx (st S dr l (i 1) (i 2) (i 4) (some (.d (.bl true))) (i 0) (some (.d .non)) od fa wr wk w) η := by kernel_rfl
theorem mid_1_3_1 : sx (cN 6) (mid r) (st S dr l (i 1) (i 3) (i 1) e f p od fa wr wk w) η = sx (cN 6) r (st S dr l (i 1) (i 3) (i 1) (some (.d (.bl true))) (i 0) (some (.d .non)) od fa wr wk w) η := by kernel_rfl
theorem six_1_3_1 : sx (cN 6) m6 (st S dr l (i 1) (i 3) (i 1) (some (.d (.bl true))) (i 0) (some (.d .non)) od fa wr wk w) η = .nx (st S dr l (i 1) (i 3) (i 1) (some (.d (.bl true))) (i 0) (some (.d .non)) od fa wr wk w) η := by kernel_rfl
theorem mid_1_3_2 : sx (cN 6) (mid r) (st S dr l (i 1) (i 3) (i 2) e f p od fa wr wk w) η = sx (cN 6) r (st S dr l (i 1) (i 3) (i 2) (some (.d (.bl true))) (i 0) (some (.d .non)) od fa wr wk w) η := by kernel_rfl
theorem six_1_3_2 : sx (cN 6) m6 (st S dr l (i 1) (i 3) (i 2) (some (.d (.bl true))) (i 0) (some (.d .non)) od fa wr wk w) η = .nx (st S dr l (i 1) (i 3) (i 2) (some (.d (.bl true))) (i 0) (some (.d .non)) od fa wr wk w) η := by kernel_rfl
theorem mid_1_3_3 : sx (cN 6) (mid r) (st S dr l (i 1) (i 3) (i 3) e f p od fa wr wk w) η = sx (cN 6) r (st S dr l (i 1) (i 3) (i 3) (some (.d (.bl true))) (i 0) (some (.d .non)) od fa wr wk w) η := by kernel_rfl
theorem six_1_3_3 : sx (cN 6) m6 (st S dr l (i 1) (i 3) (i 3) (some (.d (.bl true))) (i 0) (some (.d .non)) od fa wr wk w) η = .nx (st S dr l (i 1) (i 3) (i 3) (some (.d (.bl true))) (i 0) (some (.d .non)) od fa wr wk w) η := by kernel_rfl
theorem mid_1_3_4 : sx (cN 6) (mid r) (st S dr l (i 1) (i 3) (i 4) e f p od fa wr wk w) η = sx (cN 6) r (st S dr l (i 1) (i 3) (i 4) (some (.d (.bl true))) (i 0) (some (.d .non)) od fa wr wk w) η := by kernel_rfl
theorem six_1_3_4 : sx (cN 6) m6 (st S dr l (i 1) (i 3) (i 4) (some (.d (.bl true))) (i 0) (some (.d .non)) od fa wr wk w) η = .nx (st S dr l (i 1) (i 3) (i 4) (some (.d (.bl true))) (i 0) (some (.d .non)) od fa wr wk w) η := by kernel_rfl
theorem mid_1_4_1 : sx (cN 6) (mid r) (st S dr l (i 1) (i 4) (i 1) e f p od fa wr wk w) η = sx (cN 6) r (st S dr l (i 1) (i 4) (i 1) (some (.d (.bl true))) (i 0) (some (.d .non)) od fa wr wk w) η := by kernel_rfl
theorem six_1_4_1 : sx (cN 6) m6 (st S dr l (i 1) (i 4) (i 1) (some (.d (.bl true))) (i 0) (some (.d .non)) od fa wr wk w) η = .nx (st S dr l (i 1) (i 4) (i 1) (some (.d (.bl true))) (i 0) (some (.d .non)) od fa wr wk w) η := by kernel_rfl
theorem mid_1_4_2 : sx (cN 6) (mid r) (st S dr l (i 1) (i 4) (i 2) e f p od fa wr wk w) η = sx (cN 6) r (st S dr l (i 1) (i 4) (i 2) (some (.d (.bl true))) (i 0) (some (.d .non)) od fa wr wk w) η := by kernel_rfl
theorem six_1_4_2 : sx (cN 6) m6 (st S dr l (i 1) (i 4) (i 2) (some (.d (.bl true))) (i 0) (some (.d .non)) od fa wr wk w) η = .nx (st S dr l (i 1) (i 4) (i 2) (some (.d (.bl true))) (i 0) (some (.d .non)) od fa wr wk w) η := by kernel_rfl
theorem mid_1_4_3 : sx (cN 6) (mid r) (st S dr l (i 1) (i 4) (i 3) e f p od fa wr wk w) η = sx (cN 6) r (st S dr l (i 1) (i 4) (i 3) (some (.d (.bl true))) (i 0) (some (.d .non)) od fa wr wk w) η := by kernel_rfl
theorem six_1_4_3 : sx (cN 6) m6 (st S dr l (i 1) (i 4) (i 3) (some (.d (.bl true))) (i 0) (some (.d .non)) od fa wr wk w) η = .nx (st S dr l (i 1) (i 4) (i 3) (some (.d (.bl true))) (i 0) (some (.d .non)) od fa wr wk w) η := by kernel_rfl
theorem mid_1_4_4 : sx (cN 6) (mid r) (st S dr l (i 1) (i 4) (i 4) e f p od fa wr wk w) η = sx (cN 6) r (st S dr l (i 1) (i 4) (i 4) (some (.d (.bl true))) (i 0) (some (.d .non)) od fa wr wk w) η := by kernel_rfl
theorem six_1_4_4 : sx (cN 6) m6 (st S dr l (i 1) (i 4) (i 4) (some (.d (.bl true))) (i 0) (some (.d .non)) od fa wr wk w) η = .nx (st S dr l (i 1) (i 4) (i 4) (some (.d (.bl true))) (i 0) (some (.d .non)) od fa wr wk w) η := by kernel_rfl
theorem mid_1_5_1 : sx (cN 6) (mid r) (st S dr l (i 1) (i 5) (i 1) e f p od fa wr wk w) η = sx (cN 6) r (st S dr l (i 1) (i 5) (i 1) (some (.d (.bl true))) (i 0) (some (.d .non)) od fa wr wk w) η := by kernel_rfl
theorem six_1_5_1 : sx (cN 6) m6 (st S dr l (i 1) (i 5) (i 1) (some (.d (.bl true))) (i 0) (some (.d .non)) od fa wr wk w) η = .nx (st S dr l (i 1) (i 5) (i 1) (some (.d (.bl true))) (i 0) (some (.d .non)) od fa wr wk w) η := by kernel_rfl
theorem mid_1_5_2 : sx (cN 6) (mid r) (st S dr l (i 1) (i 5) (i 2) e f p od fa wr wk w) η = sx (cN 6) r (st S dr l (i 1) (i 5) (i 2) (some (.d (.bl true))) (i 0) (some (.d .non)) od fa wr wk w) η := by kernel_rfl
theorem six_1_5_2 : sx (cN 6) m6 (st S dr l (i 1) (i 5) (i 2) (some (.d (.bl true))) (i 0) (some (.d .non)) od fa wr wk w) η = .nx (st S dr l (i 1) (i 5) (i 2) (some (.d (.bl true))) (i 0) (some (.d .non)) od fa wr wk w) η := by kernel_rfl
theorem mid_1_5_3 : sx (cN 6) (mid r) (st S dr l (i 1) (i 5) (i 3) e f p od fa wr wk w) η = sx (cN 6) r (st S dr l (i 1) (i 5) (i 3) (some (.d (.bl true))) (i 0) (some (.d .non)) od fa wr wk w) η := by kernel_rfl
theorem six_1_5_3 : sx (cN 6) m6 (st S dr l (i 1) (i 5) (i 3) (some (.d (.bl true))) (i 0) (some (.d .non)) od fa wr wk w) η = .nx (st S dr l (i 1) (i 5) (i 3) (some (.d (.bl true))) (i 0) (some (.d .non)) od fa wr wk w) η := by kernel_rfl
theorem mid_1_5_4 : sx (cN 6) (mid r) (st S dr l (i 1) (i 5) (i 4) e f p od fa wr wk w) η = sx (cN 6) r (st S dr l (i 1) (i 5) (i 4) (some (.d (.bl true))) (i 0) (some (.d .non)) od fa wr wk w) η := by kernel_rfl
theorem six_1_5_4 : sx (cN 6) m6 (st S dr l (i 1) (i 5) (i 4) (some (.d (.bl true))) (i 0) (some (.d .non)) od fa wr wk w) η = .nx (st S dr l (i 1) (i 5) (i 4) (some (.d (.bl true))) (i 0) (some (.d .non)) od fa wr wk w) η := by kernel_rfl
theorem mid_1_6_1 : sx (cN 6) (mid r) (st S dr l (i 1) (i 6) (i 1) e f p od fa wr wk w) η = sx (cN 6) r (st S dr l (i 1) (i 6) (i 1) (some (.d (.bl true))) (i 0) (some (.d .non)) od fa wr wk w) η := by kernel_rfl
theorem six_1_6_1 : sx (cN 6) m6 (st S dr l (i 1) (i 6) (i 1) (some (.d (.bl true))) (i 0) (some (.d .non)) od fa wr wk w) η = .nx (st S dr l (i 1) (i 6) (i 1) (some (.d (.bl true))) (i 0) (some (.d .non)) od fa wr wk w) η := by kernel_rfl
theorem mid_1_6_2 : sx (cN 6) (mid r) (st S dr l (i 1) (i 6) (i 2) e f p od fa wr wk w) η = sx (cN 6) r (st S dr l (i 1) (i 6) (i 2) (some (.d (.bl true))) (i 0) (some (.d .non)) od fa wr wk w) η := by kernel_rfl
theorem six_1_6_2 : sx (cN 6) m6 (st S dr l (i 1) (i 6) (i 2) (some (.d (.bl true))) (i 0) (some (.d .non)) od fa wr wk w) η = .nx (st S dr l (i 1) (i 6) (i 2) (some (.d (.bl true))) (i 0) (some (.d .non)) od fa wr wk w) η := by kernel_rfl
theorem mid_1_6_3 : sx (cN 6) (mid r) (st S dr l (i 1) (i 6) (i 3) e f p od fa wr wk w) η = sx (cN 6) r (st S dr l (i 1) (i 6) (i 3) (some (.d (.bl true))) (i 0) (some (.d .non)) od fa wr wk w) η := by kernel_rfl
theorem six_1_6_3 : sx (cN 6) m6 (st S dr l (i 1) (i 6) (i 3) (some (.d (.bl true))) (i 0) (some (.d .non)) od fa wr wk w) η = .nx (st S dr l (i 1) (i 6) (i 3) (some (.d (.bl true))) (i 0) (some (.d .non)) od fa wr wk w) η := by kernel_rfl
theorem mid_1_6_4 : sx (cN 6) (mid r) (st S dr l (i 1) (i 6) (i 4) e f p od fa wr wk w) η = sx (cN 6) r (st S dr l (i 1) (i 6) (i 4) (some (.d (.bl true))) (i 0) (some (.d .non)) od fa wr wk w) η := by kernel_rfl
theorem six_1_6_4 : sx (cN 6) m6 (st S dr l (i 1) (i 6) (i 4) (some (.d (.bl true))) (i 0) (some (.d .non)) od fa wr wk w) η = .nx (st S dr l (i 1) (i 6) (i 4) (some (.d (.bl true))) (i 0) (some (.d .non)) od fa wr wk w) η := by kernel_rfl
theorem mid_1_7_1 : sx (cN 6) (mid r) (st S dr l (i 1) (i 7) (i 1) e f p od fa wr wk w) η = sx (cN 6) r (st S dr l (i 1) (i 7) (i 1) (some (.d (.bl true))) (i 0) (some (.d .non)) od fa wr wk w) η := by kernel_rfl
theorem six_1_7_1 : sx (cN 6) m6 (st S dr l (i 1) (i 7) (i 1) (some (.d (.bl true))) (i 0) (some (.d .non)) od fa wr wk w) η = .nx (st S dr l (i 1) (i 7) (i 1) (some (.d (.bl true))) (i 0) (some (.d .non)) od fa wr wk w) η := by kernel_rfl
theorem mid_1_7_2 : sx (cN 6) (mid r) (st S dr l (i 1) (i 7) (i 2) e f p od fa wr wk w) η = sx (cN 6) r (st S dr l (i 1) (i 7) (i 2) (some (.d (.bl true))) (i 0) (some (.d .non)) od fa wr wk w) η := by kernel_rfl
theorem six_1_7_2 : sx (cN 6) m6 (st S dr l (i 1) (i 7) (i 2) (some (.d (.bl true))) (i 0) (some (.d .non)) od fa wr wk w) η = .nx (st S dr l (i 1) (i 7) (i 2) (some (.d (.bl true))) (i 0) (some (.d .non)) od fa wr wk w) η := by kernel_rfl
theorem mid_1_7_3 : sx (cN 6) (mid r) (st S dr l (i 1) (i 7) (i 3) e f p od fa wr wk w) η = sx (cN 6) r (st S dr l (i 1) (i 7) (i 3) (some (.d (.bl true))) (i 0) (some (.d .non)) od fa wr wk w) η := by kernel_rfl
theorem six_1_7_3 : sx (cN 6) m6 (st S dr l (i 1) (i 7) (i 3) (some (.d (.bl true))) (i 0) (some (.d .non)) od fa wr wk w) η = .nx (st S dr l (i 1) (i 7) (i 3) (some (.d (.bl true))) (i 0) (some (.d .non)) od fa wr wk w) η := by kernel_rfl
theorem mid_1_7_4 : sx (cN 6) (mid r) (st S dr l (i 1) (i 7) (i 4) e f p od fa wr wk w) η = sx (cN 6) r (st S dr l (i 1) (i 7) (i 4) (some (.d (.bl true))) (i 0) (some (.d .non)) od fa wr wk w) η := by kernel_rfl
theorem six_1_7_4 : sx (cN 6) m6 (st S dr l (i 1) (i 7) (i 4) (some (.d (.bl true))) (i 0) (some (.d .non)) od fa wr wk w) η = .nx (st S dr l (i 1) (i 7) (i 4) (some (.d (.bl true))) (i 0) (some (.d .non)) od fa wr wk w) η := by kernel_rfl
theorem mid_1_8_1 : sx (cN 6) (mid r) (st S dr l (i 1) (i 8) (i 1) e f p od fa wr wk w) η = sx (cN 6) r (st S dr l (i 1) (i 8) (i 1) (some (.d (.bl true))) (i 0) (some (.d .non)) od fa wr wk w) η := by kernel_rfl
theorem six_1_8_1 : sx (cN 6) m6 (st S dr l (i 1) (i 8) (i 1) (some (.d (.bl true))) (i 0) (some (.d .non)) od fa wr wk w) η = .nx (st S dr l (i 1) (i 8) (i 1) (some (.d (.bl true))) (i 0) (some (.d .non)) od fa wr wk w) η := by kernel_rfl
theorem mid_1_8_2 : sx (cN 6) (mid r) (st S dr l (i 1) (i 8) (i 2) e f p od fa wr wk w) η = sx (cN 6) r (st S dr l (i 1) (i 8) (i 2) (some (.d (.bl true))) (i 0) (some (.d .non)) od fa wr wk w) η := by kernel_rfl
theorem six_1_8_2 : sx (cN 6) m6 (st S dr l (i 1) (i 8) (i 2) (some (.d (.bl true))) (i 0) (some (.d .non)) od fa wr wk w) η = .nx (st S dr l (i 1) (i 8) (i 2) (some (.d (.bl true))) (i 0) (some (.d .non)) od fa wr wk w) η := by kernel_rfl
theorem mid_1_8_3 : sx (cN 6) (mid r) (st S dr l (i 1) (i 8) (i 3) e f p od fa wr wk w) η = sx (cN 6) r (st S dr l (i 1) (i 8) (i 3) (some (.d (.bl true))) (i 0) (some (.d .non)) od fa wr wk w) η := by kernel_rfl
theorem six_1_8_3 : sx (cN 6) m6 (st S dr l (i 1) (i 8) (i 3) (some (.d (.bl true))) (i 0) (some (.d .non)) od fa wr wk w) η = .nx (st S dr l (i 1) (i 8) (i 3) (some (.d (.bl true))) (i 0) (some (.d .non)) od fa wr wk w) η := by kernel_rfl
theorem mid_1_8_4 : sx (cN 6) (mid r) (st S dr l (i 1) (i 8) (i 4) e f p od fa wr wk w) η = sx (cN 6) r (st S dr l (i 1) (i 8) (i 4) (some (.d (.bl true))) (i 0) (some (.d .non)) od fa wr wk w) η := by kernel_rfl
theorem six_1_8_4 : sx (cN 6) m6 (st S dr l (i 1) (i 8) (i 4) (some (.d (.bl true))) (i 0) (some (.d .non)) od fa wr wk w) η = .nx (st S dr l (i 1) (i 8) (i 4) (some (.d (.bl true))) (i 0) (some (.d .non)) od fa wr wk w) η := by kernel_rfl
theorem mid_1_9_1 : sx (cN 6) (mid r) (st S dr l (i 1) (i 9) (i 1) e f p od fa wr wk w) η = sx (cN 6) r (st S dr l (i 1) (i 9) (i 1) (some (.d (.bl true))) (i 0) (some (.d .non)) od fa wr wk w) η := by kernel_rfl
theorem six_1_9_1 : sx (cN 6) m6 (st S dr l (i 1) (i 9) (i 1) (some (.d (.bl true))) (i 0) (some (.d .non)) od fa wr wk w) η = .nx (st S dr l (i 1) (i 9) (i 1) (some (.d (.bl true))) (i 0) (some (.d .non)) od fa wr wk w) η := by kernel_rfl
theorem mid_1_9_2 : sx (cN 6) (mid r) (st S dr l (i 1) (i 9) (i 2) e f p od fa wr wk w) η = sx (cN 6) r (st S dr l (i 1) (i 9) (i 2) (some (.d (.bl true))) (i 0) (some (.d .non)) od fa wr wk w) η := by kernel_rfl
theorem six_1_9_2 : sx (cN 6) m6 (st S dr l (i 1) (i 9) (i 2) (some (.d (.bl true))) (i 0) (some (.d .non)) od fa wr wk w) η = .nx (st S dr l (i 1) (i 9) (i 2) (some (.d (.bl true))) (i 0) (some (.d .non)) od fa wr wk w) η := by kernel_rfl
theorem mid_1_9_3 : sx (cN 6) (mid r) (st S dr l (i 1) (i 9) (i 3) e f p od fa wr wk w) η = sx (cN 6) r (st S dr l (i 1) (i 9) (i 3) (some (.d (.bl true))) (i 0) (some (.d .non)) od fa wr wk w) η := by kernel_rfl
theorem six_1_9_3 : sx (cN 6) m6 (st S dr l (i 1) (i 9) (i 3) (some (.d (.bl true))) (i 0) (some (.d .non)) od fa wr wk w) η = .nx (st S dr l (i 1) (i 9) (i 3) (some (.d (.bl true))) (i 0) (some (.d .non)) od fa wr wk w) η := by kernel_rfl
theorem mid_1_9_4 : sx (cN 6) (mid r) (st S dr l (i 1) (i 9) (i 4) e f p od fa wr wk w) η = sx (cN 6) r (st S dr l (i 1) (i 9) (i 4) (some (.d (.bl true))) (i 0) (some (.d .non)) od fa wr wk w) η := by kernel_rfl
theorem six_1_9_4 : sx (cN 6) m6 (st S dr l (i 1) (i 9) (i 4) (some (.d (.bl true))) (i 0) (some (.d .non)) od fa wr wk w) η = .nx (st S dr l (i 1) (i 9) (i 4) (some (.d (.bl true))) (i 0) (some (.d .non)) od fa wr wk w) η := by kernel_rfl
theorem mid_2_1_1 : sx (cN 6) (mid r) (st S dr l (i 2) (i 1) (i 1) e f p od fa wr wk w) η = sx (cN 6) r (st S dr l (i 2) (i 1) (i 1) (some (.d (.bl true))) (i 0) (some (.d .non)) od fa wr wk w) η := by kernel_rfl
theorem six_2_1_1 : sx (cN 6) m6 (st S dr l (i 2) (i 1) (i 1) (some (.d (.bl true))) (i 0) (some (.d .non)) od fa wr wk w) η = .nx (st S dr l (i 2) (i 1) (i 1) (some (.d (.bl true))) (i 0) (some (.d .non)) od fa wr wk w) η := by kernel_rfl
theorem mid_2_1_2 : sx (cN 6) (mid r) (st S dr l (i 2) (i 1) (i 2) e f p od fa wr wk w) η = sx (cN 6) r (st S dr l (i 2) (i 1) (i 2) (some (.d (.bl true))) (i 0) (some (.d .non)) od fa wr wk w) η := by kernel_rfl
theorem six_2_1_2 : sx (cN 6) m6 (st S dr l (i 2) (i 1) (i 2) (some (.d (.bl true))) (i 0) (some (.d .non)) od fa wr wk w) η = .nx (st S dr l (i 2) (i 1) (i 2) (some (.d (.bl true))) (i 0) (some (.d .non)) od fa wr wk w) η := by kernel_rfl
theorem mid_2_1_3 : sx (cN 6) (mid r) (st S dr l (i 2) (i 1) (i 3) e f p od fa wr wk w) η = sx (cN 6) r (st S dr l (i 2) (i 1) (i 3) (some (.d (.bl true))) (i 0) (some (.d .non)) od fa wr wk w) η := by kernel_rfl
theorem six_2_1_3 : sx (cN 6) m6 (st S dr l (i 2) (i 1) (i 3) (some (.d (.bl true))) (i 0) (some (.d .non)) od fa wr wk w) η = .nx (st S dr l (i 2) (i 1) (i 3) (some (.d (.bl true))) (i 0) (some (.d .non)) od fa wr wk w) η := by kernel_rfl
theorem mid_2_1_4 : sx (cN 6) (mid r) (st S dr l (i 2) (i 1) (i 4) e f p od fa wr wk w) η = sx (cN 6) r (st S dr l (i 2) (i 1) (i 4) (some (.d (.bl true))) (i 0) (some (.d .non)) od fa wr wk w) η := by kernel_rfl
theorem six_2_1_4 : sx (cN 6) m6 (st S dr l (i 2) (i 1) (i 4) (some (.d (.bl true))) (i 0) (some (.d .non)) od fa wr wk w) η = .nx (st S dr l (i 2) (i 1) (i 4) (some (.d (.bl true))) (i 0) (some (.d .non)) od fa wr wk w) η := by kernel_rfl
theorem pre_2_2_1 : sx (cN 5) (pre r) (startV d_18.N [.d (.int 2), .d (.int 2), .d (.int 1), .d (pap 1)]) η = sx (cN 5) r (sj (i 2) (i 2) 1) η := by kernel_rfl
theorem jd_2_2_1 : runF (cN 5) d_18 [.d (.int 2), .d (.int 2), .d (.int 1), .d (pap 1)] η = .ok (.d (.bl true)) η := by
  have h : sx (cN 5) (pre t5) (startV d_18.N [.d (.int 2), .d (.int 2), .d (.int 1), .d (pap 1)]) η = sx (cN 5) t5 (sj (i 2) (i 2) 1) η := pre_2_2_1 η t5
  exact runF_ret (h.trans (tl_1 η _ _))
theorem mid_2_2_1 : sx (cN 6) (mid r) (st S dr l (i 2) (i 2) (i 1) e f p od fa wr wk w) η = sx (cN 6) r (st S dr l (i 2) (i 2) (i 1) (some (.d (.bl false))) (some (.d .non)) (some (.d (pap 1))) od fa wr wk w) η := by kernel_rfl
theorem six_2_2_1 : sx (cN 6) m6 (st S dr l (i 2) (i 2) (i 1) (some (.d (.bl false))) (some (.d .non)) (some (.d (pap 1))) od fa wr wk w) η = .nx (st S dr l (i 2) (i 2) (i 1) (some (.d (.bl false))) (some (.d .non)) (some (.d (pap 1))) od fa wr wk w) η :=
  m6_run η (by kernel_rfl) (evAndT (η1 := η) (by kernel_rfl) (evNt (k := true) (evCall (ws := [.d (.int 2), .d (.int 2), .d (.int 1), .d (pap 1)]) (η' := η) (by kernel_rfl) (cl18 η rfl (jd_2_2_1 [])))))
theorem mid_2_2_2 : sx (cN 6) (mid r) (st S dr l (i 2) (i 2) (i 2) e f p od fa wr wk w) η = sx (cN 6) r (st S dr l (i 2) (i 2) (i 2) (some (.d (.bl true))) (i 0) (some (.d .non)) od fa wr wk w) η := by kernel_rfl
theorem six_2_2_2 : sx (cN 6) m6 (st S dr l (i 2) (i 2) (i 2) (some (.d (.bl true))) (i 0) (some (.d .non)) od fa wr wk w) η = .nx (st S dr l (i 2) (i 2) (i 2) (some (.d (.bl true))) (i 0) (some (.d .non)) od fa wr wk w) η := by kernel_rfl
theorem mid_2_2_3 : sx (cN 6) (mid r) (st S dr l (i 2) (i 2) (i 3) e f p od fa wr wk w) η = sx (cN 6) r (st S dr l (i 2) (i 2) (i 3) (some (.d (.bl true))) (i 0) (some (.d .non)) od fa wr wk w) η := by kernel_rfl
theorem six_2_2_3 : sx (cN 6) m6 (st S dr l (i 2) (i 2) (i 3) (some (.d (.bl true))) (i 0) (some (.d .non)) od fa wr wk w) η = .nx (st S dr l (i 2) (i 2) (i 3) (some (.d (.bl true))) (i 0) (some (.d .non)) od fa wr wk w) η := by kernel_rfl
theorem mid_2_2_4 : sx (cN 6) (mid r) (st S dr l (i 2) (i 2) (i 4) e f p od fa wr wk w) η = sx (cN 6) r (st S dr l (i 2) (i 2) (i 4) (some (.d (.bl true))) (i 0) (some (.d .non)) od fa wr wk w) η := by kernel_rfl
theorem six_2_2_4 : sx (cN 6) m6 (st S dr l (i 2) (i 2) (i 4) (some (.d (.bl true))) (i 0) (some (.d .non)) od fa wr wk w) η = .nx (st S dr l (i 2) (i 2) (i 4) (some (.d (.bl true))) (i 0) (some (.d .non)) od fa wr wk w) η := by kernel_rfl
theorem pre_2_3_1 : sx (cN 5) (pre r) (startV d_18.N [.d (.int 2), .d (.int 3), .d (.int 1), .d (pap 1)]) η = sx (cN 5) r (sj (i 2) (i 3) 1) η := by kernel_rfl
theorem jd_2_3_1 : runF (cN 5) d_18 [.d (.int 2), .d (.int 3), .d (.int 1), .d (pap 1)] η = .ok (.d (.bl true)) η := by
  have h : sx (cN 5) (pre t5) (startV d_18.N [.d (.int 2), .d (.int 3), .d (.int 1), .d (pap 1)]) η = sx (cN 5) t5 (sj (i 2) (i 3) 1) η := pre_2_3_1 η t5
  exact runF_ret (h.trans (tl_1 η _ _))
theorem mid_2_3_1 : sx (cN 6) (mid r) (st S dr l (i 2) (i 3) (i 1) e f p od fa wr wk w) η = sx (cN 6) r (st S dr l (i 2) (i 3) (i 1) (some (.d (.bl false))) (some (.d .non)) (some (.d (pap 1))) od fa wr wk w) η := by kernel_rfl
theorem six_2_3_1 : sx (cN 6) m6 (st S dr l (i 2) (i 3) (i 1) (some (.d (.bl false))) (some (.d .non)) (some (.d (pap 1))) od fa wr wk w) η = .nx (st S dr l (i 2) (i 3) (i 1) (some (.d (.bl false))) (some (.d .non)) (some (.d (pap 1))) od fa wr wk w) η :=
  m6_run η (by kernel_rfl) (evAndT (η1 := η) (by kernel_rfl) (evNt (k := true) (evCall (ws := [.d (.int 2), .d (.int 3), .d (.int 1), .d (pap 1)]) (η' := η) (by kernel_rfl) (cl18 η rfl (jd_2_3_1 [])))))
theorem mid_2_3_2 : sx (cN 6) (mid r) (st S dr l (i 2) (i 3) (i 2) e f p od fa wr wk w) η = sx (cN 6) r (st S dr l (i 2) (i 3) (i 2) (some (.d (.bl true))) (i 0) (some (.d .non)) od fa wr wk w) η := by kernel_rfl
theorem six_2_3_2 : sx (cN 6) m6 (st S dr l (i 2) (i 3) (i 2) (some (.d (.bl true))) (i 0) (some (.d .non)) od fa wr wk w) η = .nx (st S dr l (i 2) (i 3) (i 2) (some (.d (.bl true))) (i 0) (some (.d .non)) od fa wr wk w) η := by kernel_rfl
theorem mid_2_3_3 : sx (cN 6) (mid r) (st S dr l (i 2) (i 3) (i 3) e f p od fa wr wk w) η = sx (cN 6) r (st S dr l (i 2) (i 3) (i 3) (some (.d (.bl true))) (i 0) (some (.d .non)) od fa wr wk w) η := by kernel_rfl
theorem six_2_3_3 : sx (cN 6) m6 (st S dr l (i 2) (i 3) (i 3) (some (.d (.bl true))) (i 0) (some (.d .non)) od fa wr wk w) η = .nx (st S dr l (i 2) (i 3) (i 3) (some (.d (.bl true))) (i 0) (some (.d .non)) od fa wr wk w) η := by kernel_rfl
theorem mid_2_3_4 : sx (cN 6) (mid r) (st S dr l (i 2) (i 3) (i 4) e f p od fa wr wk w) η = sx (cN 6) r (st S dr l (i 2) (i 3) (i 4) (some (.d (.bl true))) (i 0) (some (.d .non)) od fa wr wk w) η := by kernel_rfl
theorem six_2_3_4 : sx (cN 6) m6 (st S dr l (i 2) (i 3) (i 4) (some (.d (.bl true))) (i 0) (some (.d .non)) od fa wr wk w) η = .nx (st S dr l (i 2) (i 3) (i 4) (some (.d (.bl true))) (i 0) (some (.d .non)) od fa wr wk w) η := by kernel_rfl
theorem pre_2_4_1 : sx (cN 5) (pre r) (startV d_18.N [.d (.int 2), .d (.int 4), .d (.int 1), .d (pap 1)]) η = sx (cN 5) r (sj (i 2) (i 4) 1) η := by kernel_rfl
theorem jd_2_4_1 : runF (cN 5) d_18 [.d (.int 2), .d (.int 4), .d (.int 1), .d (pap 1)] η = .ok (.d (.bl true)) η := by
  have h : sx (cN 5) (pre t5) (startV d_18.N [.d (.int 2), .d (.int 4), .d (.int 1), .d (pap 1)]) η = sx (cN 5) t5 (sj (i 2) (i 4) 1) η := pre_2_4_1 η t5
  exact runF_ret (h.trans (tl_1 η _ _))
theorem mid_2_4_1 : sx (cN 6) (mid r) (st S dr l (i 2) (i 4) (i 1) e f p od fa wr wk w) η = sx (cN 6) r (st S dr l (i 2) (i 4) (i 1) (some (.d (.bl false))) (some (.d .non)) (some (.d (pap 1))) od fa wr wk w) η := by kernel_rfl
theorem six_2_4_1 : sx (cN 6) m6 (st S dr l (i 2) (i 4) (i 1) (some (.d (.bl false))) (some (.d .non)) (some (.d (pap 1))) od fa wr wk w) η = .nx (st S dr l (i 2) (i 4) (i 1) (some (.d (.bl false))) (some (.d .non)) (some (.d (pap 1))) od fa wr wk w) η :=
  m6_run η (by kernel_rfl) (evAndT (η1 := η) (by kernel_rfl) (evNt (k := true) (evCall (ws := [.d (.int 2), .d (.int 4), .d (.int 1), .d (pap 1)]) (η' := η) (by kernel_rfl) (cl18 η rfl (jd_2_4_1 [])))))
theorem mid_2_4_2 : sx (cN 6) (mid r) (st S dr l (i 2) (i 4) (i 2) e f p od fa wr wk w) η = sx (cN 6) r (st S dr l (i 2) (i 4) (i 2) (some (.d (.bl true))) (i 0) (some (.d .non)) od fa wr wk w) η := by kernel_rfl
theorem six_2_4_2 : sx (cN 6) m6 (st S dr l (i 2) (i 4) (i 2) (some (.d (.bl true))) (i 0) (some (.d .non)) od fa wr wk w) η = .nx (st S dr l (i 2) (i 4) (i 2) (some (.d (.bl true))) (i 0) (some (.d .non)) od fa wr wk w) η := by kernel_rfl
theorem mid_2_4_3 : sx (cN 6) (mid r) (st S dr l (i 2) (i 4) (i 3) e f p od fa wr wk w) η = sx (cN 6) r (st S dr l (i 2) (i 4) (i 3) (some (.d (.bl true))) (i 0) (some (.d .non)) od fa wr wk w) η := by kernel_rfl
theorem six_2_4_3 : sx (cN 6) m6 (st S dr l (i 2) (i 4) (i 3) (some (.d (.bl true))) (i 0) (some (.d .non)) od fa wr wk w) η = .nx (st S dr l (i 2) (i 4) (i 3) (some (.d (.bl true))) (i 0) (some (.d .non)) od fa wr wk w) η := by kernel_rfl
theorem mid_2_4_4 : sx (cN 6) (mid r) (st S dr l (i 2) (i 4) (i 4) e f p od fa wr wk w) η = sx (cN 6) r (st S dr l (i 2) (i 4) (i 4) (some (.d (.bl true))) (i 0) (some (.d .non)) od fa wr wk w) η := by kernel_rfl
theorem six_2_4_4 : sx (cN 6) m6 (st S dr l (i 2) (i 4) (i 4) (some (.d (.bl true))) (i 0) (some (.d .non)) od fa wr wk w) η = .nx (st S dr l (i 2) (i 4) (i 4) (some (.d (.bl true))) (i 0) (some (.d .non)) od fa wr wk w) η := by kernel_rfl
theorem pre_2_5_1 : sx (cN 5) (pre r) (startV d_18.N [.d (.int 2), .d (.int 5), .d (.int 1), .d (pap 1)]) η = sx (cN 5) r (sj (i 2) (i 5) 1) η := by kernel_rfl
theorem jd_2_5_1 : runF (cN 5) d_18 [.d (.int 2), .d (.int 5), .d (.int 1), .d (pap 1)] η = .ok (.d (.bl true)) η := by
  have h : sx (cN 5) (pre t5) (startV d_18.N [.d (.int 2), .d (.int 5), .d (.int 1), .d (pap 1)]) η = sx (cN 5) t5 (sj (i 2) (i 5) 1) η := pre_2_5_1 η t5
  exact runF_ret (h.trans (tl_1 η _ _))
theorem mid_2_5_1 : sx (cN 6) (mid r) (st S dr l (i 2) (i 5) (i 1) e f p od fa wr wk w) η = sx (cN 6) r (st S dr l (i 2) (i 5) (i 1) (some (.d (.bl false))) (some (.d .non)) (some (.d (pap 1))) od fa wr wk w) η := by kernel_rfl
theorem six_2_5_1 : sx (cN 6) m6 (st S dr l (i 2) (i 5) (i 1) (some (.d (.bl false))) (some (.d .non)) (some (.d (pap 1))) od fa wr wk w) η = .nx (st S dr l (i 2) (i 5) (i 1) (some (.d (.bl false))) (some (.d .non)) (some (.d (pap 1))) od fa wr wk w) η :=
  m6_run η (by kernel_rfl) (evAndT (η1 := η) (by kernel_rfl) (evNt (k := true) (evCall (ws := [.d (.int 2), .d (.int 5), .d (.int 1), .d (pap 1)]) (η' := η) (by kernel_rfl) (cl18 η rfl (jd_2_5_1 [])))))
theorem mid_2_5_2 : sx (cN 6) (mid r) (st S dr l (i 2) (i 5) (i 2) e f p od fa wr wk w) η = sx (cN 6) r (st S dr l (i 2) (i 5) (i 2) (some (.d (.bl true))) (i 0) (some (.d .non)) od fa wr wk w) η := by kernel_rfl
theorem six_2_5_2 : sx (cN 6) m6 (st S dr l (i 2) (i 5) (i 2) (some (.d (.bl true))) (i 0) (some (.d .non)) od fa wr wk w) η = .nx (st S dr l (i 2) (i 5) (i 2) (some (.d (.bl true))) (i 0) (some (.d .non)) od fa wr wk w) η := by kernel_rfl
theorem mid_2_5_3 : sx (cN 6) (mid r) (st S dr l (i 2) (i 5) (i 3) e f p od fa wr wk w) η = sx (cN 6) r (st S dr l (i 2) (i 5) (i 3) (some (.d (.bl true))) (i 0) (some (.d .non)) od fa wr wk w) η := by kernel_rfl
theorem six_2_5_3 : sx (cN 6) m6 (st S dr l (i 2) (i 5) (i 3) (some (.d (.bl true))) (i 0) (some (.d .non)) od fa wr wk w) η = .nx (st S dr l (i 2) (i 5) (i 3) (some (.d (.bl true))) (i 0) (some (.d .non)) od fa wr wk w) η := by kernel_rfl
theorem mid_2_5_4 : sx (cN 6) (mid r) (st S dr l (i 2) (i 5) (i 4) e f p od fa wr wk w) η = sx (cN 6) r (st S dr l (i 2) (i 5) (i 4) (some (.d (.bl true))) (i 0) (some (.d .non)) od fa wr wk w) η := by kernel_rfl
theorem six_2_5_4 : sx (cN 6) m6 (st S dr l (i 2) (i 5) (i 4) (some (.d (.bl true))) (i 0) (some (.d .non)) od fa wr wk w) η = .nx (st S dr l (i 2) (i 5) (i 4) (some (.d (.bl true))) (i 0) (some (.d .non)) od fa wr wk w) η := by kernel_rfl
theorem pre_2_6_1 : sx (cN 5) (pre r) (startV d_18.N [.d (.int 2), .d (.int 6), .d (.int 1), .d (pap 1)]) η = sx (cN 5) r (sj (i 2) (i 6) 1) η := by kernel_rfl
theorem jd_2_6_1 : runF (cN 5) d_18 [.d (.int 2), .d (.int 6), .d (.int 1), .d (pap 1)] η = .ok (.d (.bl true)) η := by
  have h : sx (cN 5) (pre t5) (startV d_18.N [.d (.int 2), .d (.int 6), .d (.int 1), .d (pap 1)]) η = sx (cN 5) t5 (sj (i 2) (i 6) 1) η := pre_2_6_1 η t5
  exact runF_ret (h.trans (tl_1 η _ _))
theorem mid_2_6_1 : sx (cN 6) (mid r) (st S dr l (i 2) (i 6) (i 1) e f p od fa wr wk w) η = sx (cN 6) r (st S dr l (i 2) (i 6) (i 1) (some (.d (.bl false))) (some (.d .non)) (some (.d (pap 1))) od fa wr wk w) η := by kernel_rfl
theorem six_2_6_1 : sx (cN 6) m6 (st S dr l (i 2) (i 6) (i 1) (some (.d (.bl false))) (some (.d .non)) (some (.d (pap 1))) od fa wr wk w) η = .nx (st S dr l (i 2) (i 6) (i 1) (some (.d (.bl false))) (some (.d .non)) (some (.d (pap 1))) od fa wr wk w) η :=
  m6_run η (by kernel_rfl) (evAndT (η1 := η) (by kernel_rfl) (evNt (k := true) (evCall (ws := [.d (.int 2), .d (.int 6), .d (.int 1), .d (pap 1)]) (η' := η) (by kernel_rfl) (cl18 η rfl (jd_2_6_1 [])))))
theorem mid_2_6_2 : sx (cN 6) (mid r) (st S dr l (i 2) (i 6) (i 2) e f p od fa wr wk w) η = sx (cN 6) r (st S dr l (i 2) (i 6) (i 2) (some (.d (.bl true))) (i 0) (some (.d .non)) od fa wr wk w) η := by kernel_rfl
theorem six_2_6_2 : sx (cN 6) m6 (st S dr l (i 2) (i 6) (i 2) (some (.d (.bl true))) (i 0) (some (.d .non)) od fa wr wk w) η = .nx (st S dr l (i 2) (i 6) (i 2) (some (.d (.bl true))) (i 0) (some (.d .non)) od fa wr wk w) η := by kernel_rfl
theorem mid_2_6_3 : sx (cN 6) (mid r) (st S dr l (i 2) (i 6) (i 3) e f p od fa wr wk w) η = sx (cN 6) r (st S dr l (i 2) (i 6) (i 3) (some (.d (.bl true))) (i 0) (some (.d .non)) od fa wr wk w) η := by kernel_rfl
theorem six_2_6_3 : sx (cN 6) m6 (st S dr l (i 2) (i 6) (i 3) (some (.d (.bl true))) (i 0) (some (.d .non)) od fa wr wk w) η = .nx (st S dr l (i 2) (i 6) (i 3) (some (.d (.bl true))) (i 0) (some (.d .non)) od fa wr wk w) η := by kernel_rfl
theorem mid_2_6_4 : sx (cN 6) (mid r) (st S dr l (i 2) (i 6) (i 4) e f p od fa wr wk w) η = sx (cN 6) r (st S dr l (i 2) (i 6) (i 4) (some (.d (.bl true))) (i 0) (some (.d .non)) od fa wr wk w) η := by kernel_rfl
theorem six_2_6_4 : sx (cN 6) m6 (st S dr l (i 2) (i 6) (i 4) (some (.d (.bl true))) (i 0) (some (.d .non)) od fa wr wk w) η = .nx (st S dr l (i 2) (i 6) (i 4) (some (.d (.bl true))) (i 0) (some (.d .non)) od fa wr wk w) η := by kernel_rfl
theorem pre_2_7_1 : sx (cN 5) (pre r) (startV d_18.N [.d (.int 2), .d (.int 7), .d (.int 1), .d (pap 1)]) η = sx (cN 5) r (sj (i 2) (i 7) 1) η := by kernel_rfl
theorem jd_2_7_1 : runF (cN 5) d_18 [.d (.int 2), .d (.int 7), .d (.int 1), .d (pap 1)] η = .ok (.d (.bl true)) η := by
  have h : sx (cN 5) (pre t5) (startV d_18.N [.d (.int 2), .d (.int 7), .d (.int 1), .d (pap 1)]) η = sx (cN 5) t5 (sj (i 2) (i 7) 1) η := pre_2_7_1 η t5
  exact runF_ret (h.trans (tl_1 η _ _))
theorem mid_2_7_1 : sx (cN 6) (mid r) (st S dr l (i 2) (i 7) (i 1) e f p od fa wr wk w) η = sx (cN 6) r (st S dr l (i 2) (i 7) (i 1) (some (.d (.bl false))) (some (.d .non)) (some (.d (pap 1))) od fa wr wk w) η := by kernel_rfl
theorem six_2_7_1 : sx (cN 6) m6 (st S dr l (i 2) (i 7) (i 1) (some (.d (.bl false))) (some (.d .non)) (some (.d (pap 1))) od fa wr wk w) η = .nx (st S dr l (i 2) (i 7) (i 1) (some (.d (.bl false))) (some (.d .non)) (some (.d (pap 1))) od fa wr wk w) η :=
  m6_run η (by kernel_rfl) (evAndT (η1 := η) (by kernel_rfl) (evNt (k := true) (evCall (ws := [.d (.int 2), .d (.int 7), .d (.int 1), .d (pap 1)]) (η' := η) (by kernel_rfl) (cl18 η rfl (jd_2_7_1 [])))))
theorem mid_2_7_2 : sx (cN 6) (mid r) (st S dr l (i 2) (i 7) (i 2) e f p od fa wr wk w) η = sx (cN 6) r (st S dr l (i 2) (i 7) (i 2) (some (.d (.bl true))) (i 0) (some (.d .non)) od fa wr wk w) η := by kernel_rfl
theorem six_2_7_2 : sx (cN 6) m6 (st S dr l (i 2) (i 7) (i 2) (some (.d (.bl true))) (i 0) (some (.d .non)) od fa wr wk w) η = .nx (st S dr l (i 2) (i 7) (i 2) (some (.d (.bl true))) (i 0) (some (.d .non)) od fa wr wk w) η := by kernel_rfl
theorem mid_2_7_3 : sx (cN 6) (mid r) (st S dr l (i 2) (i 7) (i 3) e f p od fa wr wk w) η = sx (cN 6) r (st S dr l (i 2) (i 7) (i 3) (some (.d (.bl true))) (i 0) (some (.d .non)) od fa wr wk w) η := by kernel_rfl
theorem six_2_7_3 : sx (cN 6) m6 (st S dr l (i 2) (i 7) (i 3) (some (.d (.bl true))) (i 0) (some (.d .non)) od fa wr wk w) η = .nx (st S dr l (i 2) (i 7) (i 3) (some (.d (.bl true))) (i 0) (some (.d .non)) od fa wr wk w) η := by kernel_rfl
theorem mid_2_7_4 : sx (cN 6) (mid r) (st S dr l (i 2) (i 7) (i 4) e f p od fa wr wk w) η = sx (cN 6) r (st S dr l (i 2) (i 7) (i 4) (some (.d (.bl true))) (i 0) (some (.d .non)) od fa wr wk w) η := by kernel_rfl
theorem six_2_7_4 : sx (cN 6) m6 (st S dr l (i 2) (i 7) (i 4) (some (.d (.bl true))) (i 0) (some (.d .non)) od fa wr wk w) η = .nx (st S dr l (i 2) (i 7) (i 4) (some (.d (.bl true))) (i 0) (some (.d .non)) od fa wr wk w) η := by kernel_rfl
theorem pre_2_8_1 : sx (cN 5) (pre r) (startV d_18.N [.d (.int 2), .d (.int 8), .d (.int 1), .d (pap 1)]) η = sx (cN 5) r (sj (i 2) (i 8) 1) η := by kernel_rfl
theorem jd_2_8_1 : runF (cN 5) d_18 [.d (.int 2), .d (.int 8), .d (.int 1), .d (pap 1)] η = .ok (.d (.bl true)) η := by
  have h : sx (cN 5) (pre t5) (startV d_18.N [.d (.int 2), .d (.int 8), .d (.int 1), .d (pap 1)]) η = sx (cN 5) t5 (sj (i 2) (i 8) 1) η := pre_2_8_1 η t5
  exact runF_ret (h.trans (tl_1 η _ _))
theorem mid_2_8_1 : sx (cN 6) (mid r) (st S dr l (i 2) (i 8) (i 1) e f p od fa wr wk w) η = sx (cN 6) r (st S dr l (i 2) (i 8) (i 1) (some (.d (.bl false))) (some (.d .non)) (some (.d (pap 1))) od fa wr wk w) η := by kernel_rfl
theorem six_2_8_1 : sx (cN 6) m6 (st S dr l (i 2) (i 8) (i 1) (some (.d (.bl false))) (some (.d .non)) (some (.d (pap 1))) od fa wr wk w) η = .nx (st S dr l (i 2) (i 8) (i 1) (some (.d (.bl false))) (some (.d .non)) (some (.d (pap 1))) od fa wr wk w) η :=
  m6_run η (by kernel_rfl) (evAndT (η1 := η) (by kernel_rfl) (evNt (k := true) (evCall (ws := [.d (.int 2), .d (.int 8), .d (.int 1), .d (pap 1)]) (η' := η) (by kernel_rfl) (cl18 η rfl (jd_2_8_1 [])))))
theorem mid_2_8_2 : sx (cN 6) (mid r) (st S dr l (i 2) (i 8) (i 2) e f p od fa wr wk w) η = sx (cN 6) r (st S dr l (i 2) (i 8) (i 2) (some (.d (.bl true))) (i 0) (some (.d .non)) od fa wr wk w) η := by kernel_rfl
theorem six_2_8_2 : sx (cN 6) m6 (st S dr l (i 2) (i 8) (i 2) (some (.d (.bl true))) (i 0) (some (.d .non)) od fa wr wk w) η = .nx (st S dr l (i 2) (i 8) (i 2) (some (.d (.bl true))) (i 0) (some (.d .non)) od fa wr wk w) η := by kernel_rfl
theorem mid_2_8_3 : sx (cN 6) (mid r) (st S dr l (i 2) (i 8) (i 3) e f p od fa wr wk w) η = sx (cN 6) r (st S dr l (i 2) (i 8) (i 3) (some (.d (.bl true))) (i 0) (some (.d .non)) od fa wr wk w) η := by kernel_rfl
theorem six_2_8_3 : sx (cN 6) m6 (st S dr l (i 2) (i 8) (i 3) (some (.d (.bl true))) (i 0) (some (.d .non)) od fa wr wk w) η = .nx (st S dr l (i 2) (i 8) (i 3) (some (.d (.bl true))) (i 0) (some (.d .non)) od fa wr wk w) η := by kernel_rfl
theorem mid_2_8_4 : sx (cN 6) (mid r) (st S dr l (i 2) (i 8) (i 4) e f p od fa wr wk w) η = sx (cN 6) r (st S dr l (i 2) (i 8) (i 4) (some (.d (.bl true))) (i 0) (some (.d .non)) od fa wr wk w) η := by kernel_rfl
theorem six_2_8_4 : sx (cN 6) m6 (st S dr l (i 2) (i 8) (i 4) (some (.d (.bl true))) (i 0) (some (.d .non)) od fa wr wk w) η = .nx (st S dr l (i 2) (i 8) (i 4) (some (.d (.bl true))) (i 0) (some (.d .non)) od fa wr wk w) η := by kernel_rfl
theorem pre_2_9_1 : sx (cN 5) (pre r) (startV d_18.N [.d (.int 2), .d (.int 9), .d (.int 1), .d (pap 1)]) η = sx (cN 5) r (sj (i 2) (i 9) 1) η := by kernel_rfl
theorem jd_2_9_1 : runF (cN 5) d_18 [.d (.int 2), .d (.int 9), .d (.int 1), .d (pap 1)] η = .ok (.d (.bl true)) η := by
  have h : sx (cN 5) (pre t5) (startV d_18.N [.d (.int 2), .d (.int 9), .d (.int 1), .d (pap 1)]) η = sx (cN 5) t5 (sj (i 2) (i 9) 1) η := pre_2_9_1 η t5
  exact runF_ret (h.trans (tl_1 η _ _))
theorem mid_2_9_1 : sx (cN 6) (mid r) (st S dr l (i 2) (i 9) (i 1) e f p od fa wr wk w) η = sx (cN 6) r (st S dr l (i 2) (i 9) (i 1) (some (.d (.bl false))) (some (.d .non)) (some (.d (pap 1))) od fa wr wk w) η := by kernel_rfl
theorem six_2_9_1 : sx (cN 6) m6 (st S dr l (i 2) (i 9) (i 1) (some (.d (.bl false))) (some (.d .non)) (some (.d (pap 1))) od fa wr wk w) η = .nx (st S dr l (i 2) (i 9) (i 1) (some (.d (.bl false))) (some (.d .non)) (some (.d (pap 1))) od fa wr wk w) η :=
  m6_run η (by kernel_rfl) (evAndT (η1 := η) (by kernel_rfl) (evNt (k := true) (evCall (ws := [.d (.int 2), .d (.int 9), .d (.int 1), .d (pap 1)]) (η' := η) (by kernel_rfl) (cl18 η rfl (jd_2_9_1 [])))))
theorem mid_2_9_2 : sx (cN 6) (mid r) (st S dr l (i 2) (i 9) (i 2) e f p od fa wr wk w) η = sx (cN 6) r (st S dr l (i 2) (i 9) (i 2) (some (.d (.bl true))) (i 0) (some (.d .non)) od fa wr wk w) η := by kernel_rfl
theorem six_2_9_2 : sx (cN 6) m6 (st S dr l (i 2) (i 9) (i 2) (some (.d (.bl true))) (i 0) (some (.d .non)) od fa wr wk w) η = .nx (st S dr l (i 2) (i 9) (i 2) (some (.d (.bl true))) (i 0) (some (.d .non)) od fa wr wk w) η := by kernel_rfl
theorem mid_2_9_3 : sx (cN 6) (mid r) (st S dr l (i 2) (i 9) (i 3) e f p od fa wr wk w) η = sx (cN 6) r (st S dr l (i 2) (i 9) (i 3) (some (.d (.bl true))) (i 0) (some (.d .non)) od fa wr wk w) η := by kernel_rfl
theorem six_2_9_3 : sx (cN 6) m6 (st S dr l (i 2) (i 9) (i 3) (some (.d (.bl true))) (i 0) (some (.d .non)) od fa wr wk w) η = .nx (st S dr l (i 2) (i 9) (i 3) (some (.d (.bl true))) (i 0) (some (.d .non)) od fa wr wk w) η := by kernel_rfl
theorem mid_2_9_4 : sx (cN 6) (mid r) (st S dr l (i 2) (i 9) (i 4) e f p od fa wr wk w) η = sx (cN 6) r (st S dr l (i 2) (i 9) (i 4) (some (.d (.bl true))) (i 0) (some (.d .non)) od fa wr wk w) η := by kernel_rfl
theorem six_2_9_4 : sx (cN 6) m6 (st S dr l (i 2) (i 9) (i 4) (some (.d (.bl true))) (i 0) (some (.d .non)) od fa wr wk w) η = .nx (st S dr l (i 2) (i 9) (i 4) (some (.d (.bl true))) (i 0) (some (.d .non)) od fa wr wk w) η := by kernel_rfl
theorem mid_3_1_1 : sx (cN 6) (mid r) (st S dr l (i 3) (i 1) (i 1) e f p od fa wr wk w) η = sx (cN 6) r (st S dr l (i 3) (i 1) (i 1) (some (.d (.bl true))) (i 0) (some (.d .non)) od fa wr wk w) η := by kernel_rfl
theorem six_3_1_1 : sx (cN 6) m6 (st S dr l (i 3) (i 1) (i 1) (some (.d (.bl true))) (i 0) (some (.d .non)) od fa wr wk w) η = .nx (st S dr l (i 3) (i 1) (i 1) (some (.d (.bl true))) (i 0) (some (.d .non)) od fa wr wk w) η := by kernel_rfl
theorem mid_3_1_2 : sx (cN 6) (mid r) (st S dr l (i 3) (i 1) (i 2) e f p od fa wr wk w) η = sx (cN 6) r (st S dr l (i 3) (i 1) (i 2) (some (.d (.bl true))) (i 0) (some (.d .non)) od fa wr wk w) η := by kernel_rfl
theorem six_3_1_2 : sx (cN 6) m6 (st S dr l (i 3) (i 1) (i 2) (some (.d (.bl true))) (i 0) (some (.d .non)) od fa wr wk w) η = .nx (st S dr l (i 3) (i 1) (i 2) (some (.d (.bl true))) (i 0) (some (.d .non)) od fa wr wk w) η := by kernel_rfl
theorem mid_3_1_3 : sx (cN 6) (mid r) (st S dr l (i 3) (i 1) (i 3) e f p od fa wr wk w) η = sx (cN 6) r (st S dr l (i 3) (i 1) (i 3) (some (.d (.bl true))) (i 0) (some (.d .non)) od fa wr wk w) η := by kernel_rfl
theorem six_3_1_3 : sx (cN 6) m6 (st S dr l (i 3) (i 1) (i 3) (some (.d (.bl true))) (i 0) (some (.d .non)) od fa wr wk w) η = .nx (st S dr l (i 3) (i 1) (i 3) (some (.d (.bl true))) (i 0) (some (.d .non)) od fa wr wk w) η := by kernel_rfl
theorem mid_3_1_4 : sx (cN 6) (mid r) (st S dr l (i 3) (i 1) (i 4) e f p od fa wr wk w) η = sx (cN 6) r (st S dr l (i 3) (i 1) (i 4) (some (.d (.bl true))) (i 0) (some (.d .non)) od fa wr wk w) η := by kernel_rfl
theorem six_3_1_4 : sx (cN 6) m6 (st S dr l (i 3) (i 1) (i 4) (some (.d (.bl true))) (i 0) (some (.d .non)) od fa wr wk w) η = .nx (st S dr l (i 3) (i 1) (i 4) (some (.d (.bl true))) (i 0) (some (.d .non)) od fa wr wk w) η := by kernel_rfl
theorem pre_3_2_1 : sx (cN 5) (pre r) (startV d_18.N [.d (.int 3), .d (.int 2), .d (.int 1), .d (pap 1)]) η = sx (cN 5) r (sj (i 3) (i 2) 1) η := by kernel_rfl
theorem jd_3_2_1 : runF (cN 5) d_18 [.d (.int 3), .d (.int 2), .d (.int 1), .d (pap 1)] η = .ok (.d (.bl true)) η := by
  have h : sx (cN 5) (pre t5) (startV d_18.N [.d (.int 3), .d (.int 2), .d (.int 1), .d (pap 1)]) η = sx (cN 5) t5 (sj (i 3) (i 2) 1) η := pre_3_2_1 η t5
  exact runF_ret (h.trans (tl_1 η _ _))
theorem mid_3_2_1 : sx (cN 6) (mid r) (st S dr l (i 3) (i 2) (i 1) e f p od fa wr wk w) η = sx (cN 6) r (st S dr l (i 3) (i 2) (i 1) (some (.d (.bl false))) (some (.d .non)) (some (.d (pap 1))) od fa wr wk w) η := by kernel_rfl
theorem six_3_2_1 : sx (cN 6) m6 (st S dr l (i 3) (i 2) (i 1) (some (.d (.bl false))) (some (.d .non)) (some (.d (pap 1))) od fa wr wk w) η = .nx (st S dr l (i 3) (i 2) (i 1) (some (.d (.bl false))) (some (.d .non)) (some (.d (pap 1))) od fa wr wk w) η :=
  m6_run η (by kernel_rfl) (evAndT (η1 := η) (by kernel_rfl) (evNt (k := true) (evCall (ws := [.d (.int 3), .d (.int 2), .d (.int 1), .d (pap 1)]) (η' := η) (by kernel_rfl) (cl18 η rfl (jd_3_2_1 [])))))
theorem mid_3_2_2 : sx (cN 6) (mid r) (st S dr l (i 3) (i 2) (i 2) e f p od fa wr wk w) η = sx (cN 6) r (st S dr l (i 3) (i 2) (i 2) (some (.d (.bl true))) (i 0) (some (.d .non)) od fa wr wk w) η := by kernel_rfl
theorem six_3_2_2 : sx (cN 6) m6 (st S dr l (i 3) (i 2) (i 2) (some (.d (.bl true))) (i 0) (some (.d .non)) od fa wr wk w) η = .nx (st S dr l (i 3) (i 2) (i 2) (some (.d (.bl true))) (i 0) (some (.d .non)) od fa wr wk w) η := by kernel_rfl
theorem mid_3_2_3 : sx (cN 6) (mid r) (st S dr l (i 3) (i 2) (i 3) e f p od fa wr wk w) η = sx (cN 6) r (st S dr l (i 3) (i 2) (i 3) (some (.d (.bl true))) (i 0) (some (.d .non)) od fa wr wk w) η := by kernel_rfl
theorem six_3_2_3 : sx (cN 6) m6 (st S dr l (i 3) (i 2) (i 3) (some (.d (.bl true))) (i 0) (some (.d .non)) od fa wr wk w) η = .nx (st S dr l (i 3) (i 2) (i 3) (some (.d (.bl true))) (i 0) (some (.d .non)) od fa wr wk w) η := by kernel_rfl
theorem mid_3_2_4 : sx (cN 6) (mid r) (st S dr l (i 3) (i 2) (i 4) e f p od fa wr wk w) η = sx (cN 6) r (st S dr l (i 3) (i 2) (i 4) (some (.d (.bl true))) (i 0) (some (.d .non)) od fa wr wk w) η := by kernel_rfl
theorem six_3_2_4 : sx (cN 6) m6 (st S dr l (i 3) (i 2) (i 4) (some (.d (.bl true))) (i 0) (some (.d .non)) od fa wr wk w) η = .nx (st S dr l (i 3) (i 2) (i 4) (some (.d (.bl true))) (i 0) (some (.d .non)) od fa wr wk w) η := by kernel_rfl
theorem pre_3_3_1 : sx (cN 5) (pre r) (startV d_18.N [.d (.int 3), .d (.int 3), .d (.int 1), .d (pap 1)]) η = sx (cN 5) r (sj (i 3) (i 3) 1) η := by kernel_rfl
theorem jd_3_3_1 : runF (cN 5) d_18 [.d (.int 3), .d (.int 3), .d (.int 1), .d (pap 1)] η = .ok (.d (.bl true)) η := by
  have h : sx (cN 5) (pre t5) (startV d_18.N [.d (.int 3), .d (.int 3), .d (.int 1), .d (pap 1)]) η = sx (cN 5) t5 (sj (i 3) (i 3) 1) η := pre_3_3_1 η t5
  exact runF_ret (h.trans (tl_1 η _ _))
theorem mid_3_3_1 : sx (cN 6) (mid r) (st S dr l (i 3) (i 3) (i 1) e f p od fa wr wk w) η = sx (cN 6) r (st S dr l (i 3) (i 3) (i 1) (some (.d (.bl false))) (some (.d .non)) (some (.d (pap 1))) od fa wr wk w) η := by kernel_rfl
theorem six_3_3_1 : sx (cN 6) m6 (st S dr l (i 3) (i 3) (i 1) (some (.d (.bl false))) (some (.d .non)) (some (.d (pap 1))) od fa wr wk w) η = .nx (st S dr l (i 3) (i 3) (i 1) (some (.d (.bl false))) (some (.d .non)) (some (.d (pap 1))) od fa wr wk w) η :=
  m6_run η (by kernel_rfl) (evAndT (η1 := η) (by kernel_rfl) (evNt (k := true) (evCall (ws := [.d (.int 3), .d (.int 3), .d (.int 1), .d (pap 1)]) (η' := η) (by kernel_rfl) (cl18 η rfl (jd_3_3_1 [])))))
theorem pre_3_3_2 : sx (cN 5) (pre r) (startV d_18.N [.d (.int 3), .d (.int 3), .d (.int 2), .d (pap 2)]) η = sx (cN 5) r (sj (i 3) (i 3) 2) η := by kernel_rfl
theorem jd_3_3_2 : runF (cN 5) d_18 [.d (.int 3), .d (.int 3), .d (.int 2), .d (pap 2)] η = .ok (.d (.bl true)) η := by
  have h : sx (cN 5) (pre t5) (startV d_18.N [.d (.int 3), .d (.int 3), .d (.int 2), .d (pap 2)]) η = sx (cN 5) t5 (sj (i 3) (i 3) 2) η := pre_3_3_2 η t5
  exact runF_ret (h.trans (tl_2 η _ _))
theorem mid_3_3_2 : sx (cN 6) (mid r) (st S dr l (i 3) (i 3) (i 2) e f p od fa wr wk w) η = sx (cN 6) r (st S dr l (i 3) (i 3) (i 2) (some (.d (.bl false))) (some (.d .non)) (some (.d (pap 2))) od fa wr wk w) η := by kernel_rfl
theorem six_3_3_2 : sx (cN 6) m6 (st S dr l (i 3) (i 3) (i 2) (some (.d (.bl false))) (some (.d .non)) (some (.d (pap 2))) od fa wr wk w) η = .nx (st S dr l (i 3) (i 3) (i 2) (some (.d (.bl false))) (some (.d .non)) (some (.d (pap 2))) od fa wr wk w) η :=
  m6_run η (by kernel_rfl) (evAndT (η1 := η) (by kernel_rfl) (evNt (k := true) (evCall (ws := [.d (.int 3), .d (.int 3), .d (.int 2), .d (pap 2)]) (η' := η) (by kernel_rfl) (cl18 η rfl (jd_3_3_2 [])))))
theorem mid_3_3_3 : sx (cN 6) (mid r) (st S dr l (i 3) (i 3) (i 3) e f p od fa wr wk w) η = sx (cN 6) r (st S dr l (i 3) (i 3) (i 3) (some (.d (.bl true))) (i 0) (some (.d .non)) od fa wr wk w) η := by kernel_rfl
theorem six_3_3_3 : sx (cN 6) m6 (st S dr l (i 3) (i 3) (i 3) (some (.d (.bl true))) (i 0) (some (.d .non)) od fa wr wk w) η = .nx (st S dr l (i 3) (i 3) (i 3) (some (.d (.bl true))) (i 0) (some (.d .non)) od fa wr wk w) η := by kernel_rfl
theorem mid_3_3_4 : sx (cN 6) (mid r) (st S dr l (i 3) (i 3) (i 4) e f p od fa wr wk w) η = sx (cN 6) r (st S dr l (i 3) (i 3) (i 4) (some (.d (.bl true))) (i 0) (some (.d .non)) od fa wr wk w) η := by kernel_rfl
theorem six_3_3_4 : sx (cN 6) m6 (st S dr l (i 3) (i 3) (i 4) (some (.d (.bl true))) (i 0) (some (.d .non)) od fa wr wk w) η = .nx (st S dr l (i 3) (i 3) (i 4) (some (.d (.bl true))) (i 0) (some (.d .non)) od fa wr wk w) η := by kernel_rfl
theorem pre_3_4_1 : sx (cN 5) (pre r) (startV d_18.N [.d (.int 3), .d (.int 4), .d (.int 1), .d (pap 1)]) η = sx (cN 5) r (sj (i 3) (i 4) 1) η := by kernel_rfl
theorem jd_3_4_1 : runF (cN 5) d_18 [.d (.int 3), .d (.int 4), .d (.int 1), .d (pap 1)] η = .ok (.d (.bl true)) η := by
  have h : sx (cN 5) (pre t5) (startV d_18.N [.d (.int 3), .d (.int 4), .d (.int 1), .d (pap 1)]) η = sx (cN 5) t5 (sj (i 3) (i 4) 1) η := pre_3_4_1 η t5
  exact runF_ret (h.trans (tl_1 η _ _))
theorem mid_3_4_1 : sx (cN 6) (mid r) (st S dr l (i 3) (i 4) (i 1) e f p od fa wr wk w) η = sx (cN 6) r (st S dr l (i 3) (i 4) (i 1) (some (.d (.bl false))) (some (.d .non)) (some (.d (pap 1))) od fa wr wk w) η := by kernel_rfl
theorem six_3_4_1 : sx (cN 6) m6 (st S dr l (i 3) (i 4) (i 1) (some (.d (.bl false))) (some (.d .non)) (some (.d (pap 1))) od fa wr wk w) η = .nx (st S dr l (i 3) (i 4) (i 1) (some (.d (.bl false))) (some (.d .non)) (some (.d (pap 1))) od fa wr wk w) η :=
  m6_run η (by kernel_rfl) (evAndT (η1 := η) (by kernel_rfl) (evNt (k := true) (evCall (ws := [.d (.int 3), .d (.int 4), .d (.int 1), .d (pap 1)]) (η' := η) (by kernel_rfl) (cl18 η rfl (jd_3_4_1 [])))))
theorem pre_3_4_2 : sx (cN 5) (pre r) (startV d_18.N [.d (.int 3), .d (.int 4), .d (.int 2), .d (pap 2)]) η = sx (cN 5) r (sj (i 3) (i 4) 2) η := by kernel_rfl
theorem jd_3_4_2 : runF (cN 5) d_18 [.d (.int 3), .d (.int 4), .d (.int 2), .d (pap 2)] η = .ok (.d (.bl true)) η := by
  have h : sx (cN 5) (pre t5) (startV d_18.N [.d (.int 3), .d (.int 4), .d (.int 2), .d (pap 2)]) η = sx (cN 5) t5 (sj (i 3) (i 4) 2) η := pre_3_4_2 η t5
  exact runF_ret (h.trans (tl_2 η _ _))
theorem mid_3_4_2 : sx (cN 6) (mid r) (st S dr l (i 3) (i 4) (i 2) e f p od fa wr wk w) η = sx (cN 6) r (st S dr l (i 3) (i 4) (i 2) (some (.d (.bl false))) (some (.d .non)) (some (.d (pap 2))) od fa wr wk w) η := by kernel_rfl
theorem six_3_4_2 : sx (cN 6) m6 (st S dr l (i 3) (i 4) (i 2) (some (.d (.bl false))) (some (.d .non)) (some (.d (pap 2))) od fa wr wk w) η = .nx (st S dr l (i 3) (i 4) (i 2) (some (.d (.bl false))) (some (.d .non)) (some (.d (pap 2))) od fa wr wk w) η :=
  m6_run η (by kernel_rfl) (evAndT (η1 := η) (by kernel_rfl) (evNt (k := true) (evCall (ws := [.d (.int 3), .d (.int 4), .d (.int 2), .d (pap 2)]) (η' := η) (by kernel_rfl) (cl18 η rfl (jd_3_4_2 [])))))
theorem mid_3_4_3 : sx (cN 6) (mid r) (st S dr l (i 3) (i 4) (i 3) e f p od fa wr wk w) η = sx (cN 6) r (st S dr l (i 3) (i 4) (i 3) (some (.d (.bl true))) (i 0) (some (.d .non)) od fa wr wk w) η := by kernel_rfl
theorem six_3_4_3 : sx (cN 6) m6 (st S dr l (i 3) (i 4) (i 3) (some (.d (.bl true))) (i 0) (some (.d .non)) od fa wr wk w) η = .nx (st S dr l (i 3) (i 4) (i 3) (some (.d (.bl true))) (i 0) (some (.d .non)) od fa wr wk w) η := by kernel_rfl
theorem mid_3_4_4 : sx (cN 6) (mid r) (st S dr l (i 3) (i 4) (i 4) e f p od fa wr wk w) η = sx (cN 6) r (st S dr l (i 3) (i 4) (i 4) (some (.d (.bl true))) (i 0) (some (.d .non)) od fa wr wk w) η := by kernel_rfl
theorem six_3_4_4 : sx (cN 6) m6 (st S dr l (i 3) (i 4) (i 4) (some (.d (.bl true))) (i 0) (some (.d .non)) od fa wr wk w) η = .nx (st S dr l (i 3) (i 4) (i 4) (some (.d (.bl true))) (i 0) (some (.d .non)) od fa wr wk w) η := by kernel_rfl
theorem pre_3_5_1 : sx (cN 5) (pre r) (startV d_18.N [.d (.int 3), .d (.int 5), .d (.int 1), .d (pap 1)]) η = sx (cN 5) r (sj (i 3) (i 5) 1) η := by kernel_rfl
theorem jd_3_5_1 : runF (cN 5) d_18 [.d (.int 3), .d (.int 5), .d (.int 1), .d (pap 1)] η = .ok (.d (.bl true)) η := by
  have h : sx (cN 5) (pre t5) (startV d_18.N [.d (.int 3), .d (.int 5), .d (.int 1), .d (pap 1)]) η = sx (cN 5) t5 (sj (i 3) (i 5) 1) η := pre_3_5_1 η t5
  exact runF_ret (h.trans (tl_1 η _ _))
theorem mid_3_5_1 : sx (cN 6) (mid r) (st S dr l (i 3) (i 5) (i 1) e f p od fa wr wk w) η = sx (cN 6) r (st S dr l (i 3) (i 5) (i 1) (some (.d (.bl false))) (some (.d .non)) (some (.d (pap 1))) od fa wr wk w) η := by kernel_rfl
theorem six_3_5_1 : sx (cN 6) m6 (st S dr l (i 3) (i 5) (i 1) (some (.d (.bl false))) (some (.d .non)) (some (.d (pap 1))) od fa wr wk w) η = .nx (st S dr l (i 3) (i 5) (i 1) (some (.d (.bl false))) (some (.d .non)) (some (.d (pap 1))) od fa wr wk w) η :=
  m6_run η (by kernel_rfl) (evAndT (η1 := η) (by kernel_rfl) (evNt (k := true) (evCall (ws := [.d (.int 3), .d (.int 5), .d (.int 1), .d (pap 1)]) (η' := η) (by kernel_rfl) (cl18 η rfl (jd_3_5_1 [])))))
theorem pre_3_5_2 : sx (cN 5) (pre r) (startV d_18.N [.d (.int 3), .d (.int 5), .d (.int 2), .d (pap 2)]) η = sx (cN 5) r (sj (i 3) (i 5) 2) η := by kernel_rfl
theorem jd_3_5_2 : runF (cN 5) d_18 [.d (.int 3), .d (.int 5), .d (.int 2), .d (pap 2)] η = .ok (.d (.bl true)) η := by
  have h : sx (cN 5) (pre t5) (startV d_18.N [.d (.int 3), .d (.int 5), .d (.int 2), .d (pap 2)]) η = sx (cN 5) t5 (sj (i 3) (i 5) 2) η := pre_3_5_2 η t5
  exact runF_ret (h.trans (tl_2 η _ _))
theorem mid_3_5_2 : sx (cN 6) (mid r) (st S dr l (i 3) (i 5) (i 2) e f p od fa wr wk w) η = sx (cN 6) r (st S dr l (i 3) (i 5) (i 2) (some (.d (.bl false))) (some (.d .non)) (some (.d (pap 2))) od fa wr wk w) η := by kernel_rfl
theorem six_3_5_2 : sx (cN 6) m6 (st S dr l (i 3) (i 5) (i 2) (some (.d (.bl false))) (some (.d .non)) (some (.d (pap 2))) od fa wr wk w) η = .nx (st S dr l (i 3) (i 5) (i 2) (some (.d (.bl false))) (some (.d .non)) (some (.d (pap 2))) od fa wr wk w) η :=
  m6_run η (by kernel_rfl) (evAndT (η1 := η) (by kernel_rfl) (evNt (k := true) (evCall (ws := [.d (.int 3), .d (.int 5), .d (.int 2), .d (pap 2)]) (η' := η) (by kernel_rfl) (cl18 η rfl (jd_3_5_2 [])))))
theorem mid_3_5_3 : sx (cN 6) (mid r) (st S dr l (i 3) (i 5) (i 3) e f p od fa wr wk w) η = sx (cN 6) r (st S dr l (i 3) (i 5) (i 3) (some (.d (.bl true))) (i 0) (some (.d .non)) od fa wr wk w) η := by kernel_rfl
theorem six_3_5_3 : sx (cN 6) m6 (st S dr l (i 3) (i 5) (i 3) (some (.d (.bl true))) (i 0) (some (.d .non)) od fa wr wk w) η = .nx (st S dr l (i 3) (i 5) (i 3) (some (.d (.bl true))) (i 0) (some (.d .non)) od fa wr wk w) η := by kernel_rfl
theorem mid_3_5_4 : sx (cN 6) (mid r) (st S dr l (i 3) (i 5) (i 4) e f p od fa wr wk w) η = sx (cN 6) r (st S dr l (i 3) (i 5) (i 4) (some (.d (.bl true))) (i 0) (some (.d .non)) od fa wr wk w) η := by kernel_rfl
theorem six_3_5_4 : sx (cN 6) m6 (st S dr l (i 3) (i 5) (i 4) (some (.d (.bl true))) (i 0) (some (.d .non)) od fa wr wk w) η = .nx (st S dr l (i 3) (i 5) (i 4) (some (.d (.bl true))) (i 0) (some (.d .non)) od fa wr wk w) η := by kernel_rfl
theorem pre_3_6_1 : sx (cN 5) (pre r) (startV d_18.N [.d (.int 3), .d (.int 6), .d (.int 1), .d (pap 1)]) η = sx (cN 5) r (sj (i 3) (i 6) 1) η := by kernel_rfl
theorem jd_3_6_1 : runF (cN 5) d_18 [.d (.int 3), .d (.int 6), .d (.int 1), .d (pap 1)] η = .ok (.d (.bl true)) η := by
  have h : sx (cN 5) (pre t5) (startV d_18.N [.d (.int 3), .d (.int 6), .d (.int 1), .d (pap 1)]) η = sx (cN 5) t5 (sj (i 3) (i 6) 1) η := pre_3_6_1 η t5
  exact runF_ret (h.trans (tl_1 η _ _))
theorem mid_3_6_1 : sx (cN 6) (mid r) (st S dr l (i 3) (i 6) (i 1) e f p od fa wr wk w) η = sx (cN 6) r (st S dr l (i 3) (i 6) (i 1) (some (.d (.bl false))) (some (.d .non)) (some (.d (pap 1))) od fa wr wk w) η := by kernel_rfl
theorem six_3_6_1 : sx (cN 6) m6 (st S dr l (i 3) (i 6) (i 1) (some (.d (.bl false))) (some (.d .non)) (some (.d (pap 1))) od fa wr wk w) η = .nx (st S dr l (i 3) (i 6) (i 1) (some (.d (.bl false))) (some (.d .non)) (some (.d (pap 1))) od fa wr wk w) η :=
  m6_run η (by kernel_rfl) (evAndT (η1 := η) (by kernel_rfl) (evNt (k := true) (evCall (ws := [.d (.int 3), .d (.int 6), .d (.int 1), .d (pap 1)]) (η' := η) (by kernel_rfl) (cl18 η rfl (jd_3_6_1 [])))))
theorem pre_3_6_2 : sx (cN 5) (pre r) (startV d_18.N [.d (.int 3), .d (.int 6), .d (.int 2), .d (pap 2)]) η = sx (cN 5) r (sj (i 3) (i 6) 2) η := by kernel_rfl
theorem jd_3_6_2 : runF (cN 5) d_18 [.d (.int 3), .d (.int 6), .d (.int 2), .d (pap 2)] η = .ok (.d (.bl true)) η := by
  have h : sx (cN 5) (pre t5) (startV d_18.N [.d (.int 3), .d (.int 6), .d (.int 2), .d (pap 2)]) η = sx (cN 5) t5 (sj (i 3) (i 6) 2) η := pre_3_6_2 η t5
  exact runF_ret (h.trans (tl_2 η _ _))
theorem mid_3_6_2 : sx (cN 6) (mid r) (st S dr l (i 3) (i 6) (i 2) e f p od fa wr wk w) η = sx (cN 6) r (st S dr l (i 3) (i 6) (i 2) (some (.d (.bl false))) (some (.d .non)) (some (.d (pap 2))) od fa wr wk w) η := by kernel_rfl
theorem six_3_6_2 : sx (cN 6) m6 (st S dr l (i 3) (i 6) (i 2) (some (.d (.bl false))) (some (.d .non)) (some (.d (pap 2))) od fa wr wk w) η = .nx (st S dr l (i 3) (i 6) (i 2) (some (.d (.bl false))) (some (.d .non)) (some (.d (pap 2))) od fa wr wk w) η :=
  m6_run η (by kernel_rfl) (evAndT (η1 := η) (by kernel_rfl) (evNt (k := true) (evCall (ws := [.d (.int 3), .d (.int 6), .d (.int 2), .d (pap 2)]) (η' := η) (by kernel_rfl) (cl18 η rfl (jd_3_6_2 [])))))
theorem mid_3_6_3 : sx (cN 6) (mid r) (st S dr l (i 3) (i 6) (i 3) e f p od fa wr wk w) η = sx (cN 6) r (st S dr l (i 3) (i 6) (i 3) (some (.d (.bl true))) (i 0) (some (.d .non)) od fa wr wk w) η := by kernel_rfl
theorem six_3_6_3 : sx (cN 6) m6 (st S dr l (i 3) (i 6) (i 3) (some (.d (.bl true))) (i 0) (some (.d .non)) od fa wr wk w) η = .nx (st S dr l (i 3) (i 6) (i 3) (some (.d (.bl true))) (i 0) (some (.d .non)) od fa wr wk w) η := by kernel_rfl
theorem mid_3_6_4 : sx (cN 6) (mid r) (st S dr l (i 3) (i 6) (i 4) e f p od fa wr wk w) η = sx (cN 6) r (st S dr l (i 3) (i 6) (i 4) (some (.d (.bl true))) (i 0) (some (.d .non)) od fa wr wk w) η := by kernel_rfl
theorem six_3_6_4 : sx (cN 6) m6 (st S dr l (i 3) (i 6) (i 4) (some (.d (.bl true))) (i 0) (some (.d .non)) od fa wr wk w) η = .nx (st S dr l (i 3) (i 6) (i 4) (some (.d (.bl true))) (i 0) (some (.d .non)) od fa wr wk w) η := by kernel_rfl
theorem pre_3_7_1 : sx (cN 5) (pre r) (startV d_18.N [.d (.int 3), .d (.int 7), .d (.int 1), .d (pap 1)]) η = sx (cN 5) r (sj (i 3) (i 7) 1) η := by kernel_rfl
theorem jd_3_7_1 : runF (cN 5) d_18 [.d (.int 3), .d (.int 7), .d (.int 1), .d (pap 1)] η = .ok (.d (.bl true)) η := by
  have h : sx (cN 5) (pre t5) (startV d_18.N [.d (.int 3), .d (.int 7), .d (.int 1), .d (pap 1)]) η = sx (cN 5) t5 (sj (i 3) (i 7) 1) η := pre_3_7_1 η t5
  exact runF_ret (h.trans (tl_1 η _ _))
theorem mid_3_7_1 : sx (cN 6) (mid r) (st S dr l (i 3) (i 7) (i 1) e f p od fa wr wk w) η = sx (cN 6) r (st S dr l (i 3) (i 7) (i 1) (some (.d (.bl false))) (some (.d .non)) (some (.d (pap 1))) od fa wr wk w) η := by kernel_rfl
theorem six_3_7_1 : sx (cN 6) m6 (st S dr l (i 3) (i 7) (i 1) (some (.d (.bl false))) (some (.d .non)) (some (.d (pap 1))) od fa wr wk w) η = .nx (st S dr l (i 3) (i 7) (i 1) (some (.d (.bl false))) (some (.d .non)) (some (.d (pap 1))) od fa wr wk w) η :=
  m6_run η (by kernel_rfl) (evAndT (η1 := η) (by kernel_rfl) (evNt (k := true) (evCall (ws := [.d (.int 3), .d (.int 7), .d (.int 1), .d (pap 1)]) (η' := η) (by kernel_rfl) (cl18 η rfl (jd_3_7_1 [])))))
theorem pre_3_7_2 : sx (cN 5) (pre r) (startV d_18.N [.d (.int 3), .d (.int 7), .d (.int 2), .d (pap 2)]) η = sx (cN 5) r (sj (i 3) (i 7) 2) η := by kernel_rfl
theorem jd_3_7_2 : runF (cN 5) d_18 [.d (.int 3), .d (.int 7), .d (.int 2), .d (pap 2)] η = .ok (.d (.bl true)) η := by
  have h : sx (cN 5) (pre t5) (startV d_18.N [.d (.int 3), .d (.int 7), .d (.int 2), .d (pap 2)]) η = sx (cN 5) t5 (sj (i 3) (i 7) 2) η := pre_3_7_2 η t5
  exact runF_ret (h.trans (tl_2 η _ _))
theorem mid_3_7_2 : sx (cN 6) (mid r) (st S dr l (i 3) (i 7) (i 2) e f p od fa wr wk w) η = sx (cN 6) r (st S dr l (i 3) (i 7) (i 2) (some (.d (.bl false))) (some (.d .non)) (some (.d (pap 2))) od fa wr wk w) η := by kernel_rfl
theorem six_3_7_2 : sx (cN 6) m6 (st S dr l (i 3) (i 7) (i 2) (some (.d (.bl false))) (some (.d .non)) (some (.d (pap 2))) od fa wr wk w) η = .nx (st S dr l (i 3) (i 7) (i 2) (some (.d (.bl false))) (some (.d .non)) (some (.d (pap 2))) od fa wr wk w) η :=
  m6_run η (by kernel_rfl) (evAndT (η1 := η) (by kernel_rfl) (evNt (k := true) (evCall (ws := [.d (.int 3), .d (.int 7), .d (.int 2), .d (pap 2)]) (η' := η) (by kernel_rfl) (cl18 η rfl (jd_3_7_2 [])))))
theorem mid_3_7_3 : sx (cN 6) (mid r) (st S dr l (i 3) (i 7) (i 3) e f p od fa wr wk w) η = sx (cN 6) r (st S dr l (i 3) (i 7) (i 3) (some (.d (.bl true))) (i 0) (some (.d .non)) od fa wr wk w) η := by kernel_rfl
theorem six_3_7_3 : sx (cN 6) m6 (st S dr l (i 3) (i 7) (i 3) (some (.d (.bl true))) (i 0) (some (.d .non)) od fa wr wk w) η = .nx (st S dr l (i 3) (i 7) (i 3) (some (.d (.bl true))) (i 0) (some (.d .non)) od fa wr wk w) η := by kernel_rfl
theorem mid_3_7_4 : sx (cN 6) (mid r) (st S dr l (i 3) (i 7) (i 4) e f p od fa wr wk w) η = sx (cN 6) r (st S dr l (i 3) (i 7) (i 4) (some (.d (.bl true))) (i 0) (some (.d .non)) od fa wr wk w) η := by kernel_rfl
theorem six_3_7_4 : sx (cN 6) m6 (st S dr l (i 3) (i 7) (i 4) (some (.d (.bl true))) (i 0) (some (.d .non)) od fa wr wk w) η = .nx (st S dr l (i 3) (i 7) (i 4) (some (.d (.bl true))) (i 0) (some (.d .non)) od fa wr wk w) η := by kernel_rfl
theorem pre_3_8_1 : sx (cN 5) (pre r) (startV d_18.N [.d (.int 3), .d (.int 8), .d (.int 1), .d (pap 1)]) η = sx (cN 5) r (sj (i 3) (i 8) 1) η := by kernel_rfl
theorem jd_3_8_1 : runF (cN 5) d_18 [.d (.int 3), .d (.int 8), .d (.int 1), .d (pap 1)] η = .ok (.d (.bl true)) η := by
  have h : sx (cN 5) (pre t5) (startV d_18.N [.d (.int 3), .d (.int 8), .d (.int 1), .d (pap 1)]) η = sx (cN 5) t5 (sj (i 3) (i 8) 1) η := pre_3_8_1 η t5
  exact runF_ret (h.trans (tl_1 η _ _))
theorem mid_3_8_1 : sx (cN 6) (mid r) (st S dr l (i 3) (i 8) (i 1) e f p od fa wr wk w) η = sx (cN 6) r (st S dr l (i 3) (i 8) (i 1) (some (.d (.bl false))) (some (.d .non)) (some (.d (pap 1))) od fa wr wk w) η := by kernel_rfl
theorem six_3_8_1 : sx (cN 6) m6 (st S dr l (i 3) (i 8) (i 1) (some (.d (.bl false))) (some (.d .non)) (some (.d (pap 1))) od fa wr wk w) η = .nx (st S dr l (i 3) (i 8) (i 1) (some (.d (.bl false))) (some (.d .non)) (some (.d (pap 1))) od fa wr wk w) η :=
  m6_run η (by kernel_rfl) (evAndT (η1 := η) (by kernel_rfl) (evNt (k := true) (evCall (ws := [.d (.int 3), .d (.int 8), .d (.int 1), .d (pap 1)]) (η' := η) (by kernel_rfl) (cl18 η rfl (jd_3_8_1 [])))))
theorem pre_3_8_2 : sx (cN 5) (pre r) (startV d_18.N [.d (.int 3), .d (.int 8), .d (.int 2), .d (pap 2)]) η = sx (cN 5) r (sj (i 3) (i 8) 2) η := by kernel_rfl
theorem jd_3_8_2 : runF (cN 5) d_18 [.d (.int 3), .d (.int 8), .d (.int 2), .d (pap 2)] η = .ok (.d (.bl true)) η := by
  have h : sx (cN 5) (pre t5) (startV d_18.N [.d (.int 3), .d (.int 8), .d (.int 2), .d (pap 2)]) η = sx (cN 5) t5 (sj (i 3) (i 8) 2) η := pre_3_8_2 η t5
  exact runF_ret (h.trans (tl_2 η _ _))
theorem mid_3_8_2 : sx (cN 6) (mid r) (st S dr l (i 3) (i 8) (i 2) e f p od fa wr wk w) η = sx (cN 6) r (st S dr l (i 3) (i 8) (i 2) (some (.d (.bl false))) (some (.d .non)) (some (.d (pap 2))) od fa wr wk w) η := by kernel_rfl
theorem six_3_8_2 : sx (cN 6) m6 (st S dr l (i 3) (i 8) (i 2) (some (.d (.bl false))) (some (.d .non)) (some (.d (pap 2))) od fa wr wk w) η = .nx (st S dr l (i 3) (i 8) (i 2) (some (.d (.bl false))) (some (.d .non)) (some (.d (pap 2))) od fa wr wk w) η :=
  m6_run η (by kernel_rfl) (evAndT (η1 := η) (by kernel_rfl) (evNt (k := true) (evCall (ws := [.d (.int 3), .d (.int 8), .d (.int 2), .d (pap 2)]) (η' := η) (by kernel_rfl) (cl18 η rfl (jd_3_8_2 [])))))
theorem mid_3_8_3 : sx (cN 6) (mid r) (st S dr l (i 3) (i 8) (i 3) e f p od fa wr wk w) η = sx (cN 6) r (st S dr l (i 3) (i 8) (i 3) (some (.d (.bl true))) (i 0) (some (.d .non)) od fa wr wk w) η := by kernel_rfl
theorem six_3_8_3 : sx (cN 6) m6 (st S dr l (i 3) (i 8) (i 3) (some (.d (.bl true))) (i 0) (some (.d .non)) od fa wr wk w) η = .nx (st S dr l (i 3) (i 8) (i 3) (some (.d (.bl true))) (i 0) (some (.d .non)) od fa wr wk w) η := by kernel_rfl
theorem mid_3_8_4 : sx (cN 6) (mid r) (st S dr l (i 3) (i 8) (i 4) e f p od fa wr wk w) η = sx (cN 6) r (st S dr l (i 3) (i 8) (i 4) (some (.d (.bl true))) (i 0) (some (.d .non)) od fa wr wk w) η := by kernel_rfl
theorem six_3_8_4 : sx (cN 6) m6 (st S dr l (i 3) (i 8) (i 4) (some (.d (.bl true))) (i 0) (some (.d .non)) od fa wr wk w) η = .nx (st S dr l (i 3) (i 8) (i 4) (some (.d (.bl true))) (i 0) (some (.d .non)) od fa wr wk w) η := by kernel_rfl
theorem pre_3_9_1 : sx (cN 5) (pre r) (startV d_18.N [.d (.int 3), .d (.int 9), .d (.int 1), .d (pap 1)]) η = sx (cN 5) r (sj (i 3) (i 9) 1) η := by kernel_rfl
theorem jd_3_9_1 : runF (cN 5) d_18 [.d (.int 3), .d (.int 9), .d (.int 1), .d (pap 1)] η = .ok (.d (.bl true)) η := by
  have h : sx (cN 5) (pre t5) (startV d_18.N [.d (.int 3), .d (.int 9), .d (.int 1), .d (pap 1)]) η = sx (cN 5) t5 (sj (i 3) (i 9) 1) η := pre_3_9_1 η t5
  exact runF_ret (h.trans (tl_1 η _ _))
theorem mid_3_9_1 : sx (cN 6) (mid r) (st S dr l (i 3) (i 9) (i 1) e f p od fa wr wk w) η = sx (cN 6) r (st S dr l (i 3) (i 9) (i 1) (some (.d (.bl false))) (some (.d .non)) (some (.d (pap 1))) od fa wr wk w) η := by kernel_rfl
theorem six_3_9_1 : sx (cN 6) m6 (st S dr l (i 3) (i 9) (i 1) (some (.d (.bl false))) (some (.d .non)) (some (.d (pap 1))) od fa wr wk w) η = .nx (st S dr l (i 3) (i 9) (i 1) (some (.d (.bl false))) (some (.d .non)) (some (.d (pap 1))) od fa wr wk w) η :=
  m6_run η (by kernel_rfl) (evAndT (η1 := η) (by kernel_rfl) (evNt (k := true) (evCall (ws := [.d (.int 3), .d (.int 9), .d (.int 1), .d (pap 1)]) (η' := η) (by kernel_rfl) (cl18 η rfl (jd_3_9_1 [])))))
theorem pre_3_9_2 : sx (cN 5) (pre r) (startV d_18.N [.d (.int 3), .d (.int 9), .d (.int 2), .d (pap 2)]) η = sx (cN 5) r (sj (i 3) (i 9) 2) η := by kernel_rfl
theorem jd_3_9_2 : runF (cN 5) d_18 [.d (.int 3), .d (.int 9), .d (.int 2), .d (pap 2)] η = .ok (.d (.bl true)) η := by
  have h : sx (cN 5) (pre t5) (startV d_18.N [.d (.int 3), .d (.int 9), .d (.int 2), .d (pap 2)]) η = sx (cN 5) t5 (sj (i 3) (i 9) 2) η := pre_3_9_2 η t5
  exact runF_ret (h.trans (tl_2 η _ _))
theorem mid_3_9_2 : sx (cN 6) (mid r) (st S dr l (i 3) (i 9) (i 2) e f p od fa wr wk w) η = sx (cN 6) r (st S dr l (i 3) (i 9) (i 2) (some (.d (.bl false))) (some (.d .non)) (some (.d (pap 2))) od fa wr wk w) η := by kernel_rfl
theorem six_3_9_2 : sx (cN 6) m6 (st S dr l (i 3) (i 9) (i 2) (some (.d (.bl false))) (some (.d .non)) (some (.d (pap 2))) od fa wr wk w) η = .nx (st S dr l (i 3) (i 9) (i 2) (some (.d (.bl false))) (some (.d .non)) (some (.d (pap 2))) od fa wr wk w) η :=
  m6_run η (by kernel_rfl) (evAndT (η1 := η) (by kernel_rfl) (evNt (k := true) (evCall (ws := [.d (.int 3), .d (.int 9), .d (.int 2), .d (pap 2)]) (η' := η) (by kernel_rfl) (cl18 η rfl (jd_3_9_2 [])))))
theorem mid_3_9_3 : sx (cN 6) (mid r) (st S dr l (i 3) (i 9) (i 3) e f p od fa wr wk w) η = sx (cN 6) r (st S dr l (i 3) (i 9) (i 3) (some (.d (.bl true))) (i 0) (some (.d .non)) od fa wr wk w) η := by kernel_rfl
theorem six_3_9_3 : sx (cN 6) m6 (st S dr l (i 3) (i 9) (i 3) (some (.d (.bl true))) (i 0) (some (.d .non)) od fa wr wk w) η = .nx (st S dr l (i 3) (i 9) (i 3) (some (.d (.bl true))) (i 0) (some (.d .non)) od fa wr wk w) η := by kernel_rfl
theorem mid_3_9_4 : sx (cN 6) (mid r) (st S dr l (i 3) (i 9) (i 4) e f p od fa wr wk w) η = sx (cN 6) r (st S dr l (i 3) (i 9) (i 4) (some (.d (.bl true))) (i 0) (some (.d .non)) od fa wr wk w) η := by kernel_rfl
theorem six_3_9_4 : sx (cN 6) m6 (st S dr l (i 3) (i 9) (i 4) (some (.d (.bl true))) (i 0) (some (.d .non)) od fa wr wk w) η = .nx (st S dr l (i 3) (i 9) (i 4) (some (.d (.bl true))) (i 0) (some (.d .non)) od fa wr wk w) η := by kernel_rfl
theorem mid_4_1_1 : sx (cN 6) (mid r) (st S dr l (i 4) (i 1) (i 1) e f p od fa wr wk w) η = sx (cN 6) r (st S dr l (i 4) (i 1) (i 1) (some (.d (.bl true))) (i 0) (some (.d .non)) od fa wr wk w) η := by kernel_rfl
theorem six_4_1_1 : sx (cN 6) m6 (st S dr l (i 4) (i 1) (i 1) (some (.d (.bl true))) (i 0) (some (.d .non)) od fa wr wk w) η = .nx (st S dr l (i 4) (i 1) (i 1) (some (.d (.bl true))) (i 0) (some (.d .non)) od fa wr wk w) η := by kernel_rfl
theorem mid_4_1_2 : sx (cN 6) (mid r) (st S dr l (i 4) (i 1) (i 2) e f p od fa wr wk w) η = sx (cN 6) r (st S dr l (i 4) (i 1) (i 2) (some (.d (.bl true))) (i 0) (some (.d .non)) od fa wr wk w) η := by kernel_rfl
theorem six_4_1_2 : sx (cN 6) m6 (st S dr l (i 4) (i 1) (i 2) (some (.d (.bl true))) (i 0) (some (.d .non)) od fa wr wk w) η = .nx (st S dr l (i 4) (i 1) (i 2) (some (.d (.bl true))) (i 0) (some (.d .non)) od fa wr wk w) η := by kernel_rfl
theorem mid_4_1_3 : sx (cN 6) (mid r) (st S dr l (i 4) (i 1) (i 3) e f p od fa wr wk w) η = sx (cN 6) r (st S dr l (i 4) (i 1) (i 3) (some (.d (.bl true))) (i 0) (some (.d .non)) od fa wr wk w) η := by kernel_rfl
theorem six_4_1_3 : sx (cN 6) m6 (st S dr l (i 4) (i 1) (i 3) (some (.d (.bl true))) (i 0) (some (.d .non)) od fa wr wk w) η = .nx (st S dr l (i 4) (i 1) (i 3) (some (.d (.bl true))) (i 0) (some (.d .non)) od fa wr wk w) η := by kernel_rfl
theorem mid_4_1_4 : sx (cN 6) (mid r) (st S dr l (i 4) (i 1) (i 4) e f p od fa wr wk w) η = sx (cN 6) r (st S dr l (i 4) (i 1) (i 4) (some (.d (.bl true))) (i 0) (some (.d .non)) od fa wr wk w) η := by kernel_rfl
theorem six_4_1_4 : sx (cN 6) m6 (st S dr l (i 4) (i 1) (i 4) (some (.d (.bl true))) (i 0) (some (.d .non)) od fa wr wk w) η = .nx (st S dr l (i 4) (i 1) (i 4) (some (.d (.bl true))) (i 0) (some (.d .non)) od fa wr wk w) η := by kernel_rfl
theorem pre_4_2_1 : sx (cN 5) (pre r) (startV d_18.N [.d (.int 4), .d (.int 2), .d (.int 1), .d (pap 1)]) η = sx (cN 5) r (sj (i 4) (i 2) 1) η := by kernel_rfl
theorem jd_4_2_1 : runF (cN 5) d_18 [.d (.int 4), .d (.int 2), .d (.int 1), .d (pap 1)] η = .ok (.d (.bl true)) η := by
  have h : sx (cN 5) (pre t5) (startV d_18.N [.d (.int 4), .d (.int 2), .d (.int 1), .d (pap 1)]) η = sx (cN 5) t5 (sj (i 4) (i 2) 1) η := pre_4_2_1 η t5
  exact runF_ret (h.trans (tl_1 η _ _))
theorem mid_4_2_1 : sx (cN 6) (mid r) (st S dr l (i 4) (i 2) (i 1) e f p od fa wr wk w) η = sx (cN 6) r (st S dr l (i 4) (i 2) (i 1) (some (.d (.bl false))) (some (.d .non)) (some (.d (pap 1))) od fa wr wk w) η := by kernel_rfl
theorem six_4_2_1 : sx (cN 6) m6 (st S dr l (i 4) (i 2) (i 1) (some (.d (.bl false))) (some (.d .non)) (some (.d (pap 1))) od fa wr wk w) η = .nx (st S dr l (i 4) (i 2) (i 1) (some (.d (.bl false))) (some (.d .non)) (some (.d (pap 1))) od fa wr wk w) η :=
  m6_run η (by kernel_rfl) (evAndT (η1 := η) (by kernel_rfl) (evNt (k := true) (evCall (ws := [.d (.int 4), .d (.int 2), .d (.int 1), .d (pap 1)]) (η' := η) (by kernel_rfl) (cl18 η rfl (jd_4_2_1 [])))))
theorem mid_4_2_2 : sx (cN 6) (mid r) (st S dr l (i 4) (i 2) (i 2) e f p od fa wr wk w) η = sx (cN 6) r (st S dr l (i 4) (i 2) (i 2) (some (.d (.bl true))) (i 0) (some (.d .non)) od fa wr wk w) η := by kernel_rfl
theorem six_4_2_2 : sx (cN 6) m6 (st S dr l (i 4) (i 2) (i 2) (some (.d (.bl true))) (i 0) (some (.d .non)) od fa wr wk w) η = .nx (st S dr l (i 4) (i 2) (i 2) (some (.d (.bl true))) (i 0) (some (.d .non)) od fa wr wk w) η := by kernel_rfl
theorem mid_4_2_3 : sx (cN 6) (mid r) (st S dr l (i 4) (i 2) (i 3) e f p od fa wr wk w) η = sx (cN 6) r (st S dr l (i 4) (i 2) (i 3) (some (.d (.bl true))) (i 0) (some (.d .non)) od fa wr wk w) η := by kernel_rfl
theorem six_4_2_3 : sx (cN 6) m6 (st S dr l (i 4) (i 2) (i 3) (some (.d (.bl true))) (i 0) (some (.d .non)) od fa wr wk w) η = .nx (st S dr l (i 4) (i 2) (i 3) (some (.d (.bl true))) (i 0) (some (.d .non)) od fa wr wk w) η := by kernel_rfl
theorem mid_4_2_4 : sx (cN 6) (mid r) (st S dr l (i 4) (i 2) (i 4) e f p od fa wr wk w) η = sx (cN 6) r (st S dr l (i 4) (i 2) (i 4) (some (.d (.bl true))) (i 0) (some (.d .non)) od fa wr wk w) η := by kernel_rfl
theorem six_4_2_4 : sx (cN 6) m6 (st S dr l (i 4) (i 2) (i 4) (some (.d (.bl true))) (i 0) (some (.d .non)) od fa wr wk w) η = .nx (st S dr l (i 4) (i 2) (i 4) (some (.d (.bl true))) (i 0) (some (.d .non)) od fa wr wk w) η := by kernel_rfl
theorem pre_4_3_1 : sx (cN 5) (pre r) (startV d_18.N [.d (.int 4), .d (.int 3), .d (.int 1), .d (pap 1)]) η = sx (cN 5) r (sj (i 4) (i 3) 1) η := by kernel_rfl
theorem jd_4_3_1 : runF (cN 5) d_18 [.d (.int 4), .d (.int 3), .d (.int 1), .d (pap 1)] η = .ok (.d (.bl true)) η := by
  have h : sx (cN 5) (pre t5) (startV d_18.N [.d (.int 4), .d (.int 3), .d (.int 1), .d (pap 1)]) η = sx (cN 5) t5 (sj (i 4) (i 3) 1) η := pre_4_3_1 η t5
  exact runF_ret (h.trans (tl_1 η _ _))
theorem mid_4_3_1 : sx (cN 6) (mid r) (st S dr l (i 4) (i 3) (i 1) e f p od fa wr wk w) η = sx (cN 6) r (st S dr l (i 4) (i 3) (i 1) (some (.d (.bl false))) (some (.d .non)) (some (.d (pap 1))) od fa wr wk w) η := by kernel_rfl
theorem six_4_3_1 : sx (cN 6) m6 (st S dr l (i 4) (i 3) (i 1) (some (.d (.bl false))) (some (.d .non)) (some (.d (pap 1))) od fa wr wk w) η = .nx (st S dr l (i 4) (i 3) (i 1) (some (.d (.bl false))) (some (.d .non)) (some (.d (pap 1))) od fa wr wk w) η :=
  m6_run η (by kernel_rfl) (evAndT (η1 := η) (by kernel_rfl) (evNt (k := true) (evCall (ws := [.d (.int 4), .d (.int 3), .d (.int 1), .d (pap 1)]) (η' := η) (by kernel_rfl) (cl18 η rfl (jd_4_3_1 [])))))
theorem pre_4_3_2 : sx (cN 5) (pre r) (startV d_18.N [.d (.int 4), .d (.int 3), .d (.int 2), .d (pap 2)]) η = sx (cN 5) r (sj (i 4) (i 3) 2) η := by kernel_rfl
theorem jd_4_3_2 : runF (cN 5) d_18 [.d (.int 4), .d (.int 3), .d (.int 2), .d (pap 2)] η = .ok (.d (.bl true)) η := by
  have h : sx (cN 5) (pre t5) (startV d_18.N [.d (.int 4), .d (.int 3), .d (.int 2), .d (pap 2)]) η = sx (cN 5) t5 (sj (i 4) (i 3) 2) η := pre_4_3_2 η t5
  exact runF_ret (h.trans (tl_2 η _ _))
theorem mid_4_3_2 : sx (cN 6) (mid r) (st S dr l (i 4) (i 3) (i 2) e f p od fa wr wk w) η = sx (cN 6) r (st S dr l (i 4) (i 3) (i 2) (some (.d (.bl false))) (some (.d .non)) (some (.d (pap 2))) od fa wr wk w) η := by kernel_rfl
theorem six_4_3_2 : sx (cN 6) m6 (st S dr l (i 4) (i 3) (i 2) (some (.d (.bl false))) (some (.d .non)) (some (.d (pap 2))) od fa wr wk w) η = .nx (st S dr l (i 4) (i 3) (i 2) (some (.d (.bl false))) (some (.d .non)) (some (.d (pap 2))) od fa wr wk w) η :=
  m6_run η (by kernel_rfl) (evAndT (η1 := η) (by kernel_rfl) (evNt (k := true) (evCall (ws := [.d (.int 4), .d (.int 3), .d (.int 2), .d (pap 2)]) (η' := η) (by kernel_rfl) (cl18 η rfl (jd_4_3_2 [])))))
theorem mid_4_3_3 : sx (cN 6) (mid r) (st S dr l (i 4) (i 3) (i 3) e f p od fa wr wk w) η = sx (cN 6) r (st S dr l (i 4) (i 3) (i 3) (some (.d (.bl true))) (i 0) (some (.d .non)) od fa wr wk w) η := by kernel_rfl
theorem six_4_3_3 : sx (cN 6) m6 (st S dr l (i 4) (i 3) (i 3) (some (.d (.bl true))) (i 0) (some (.d .non)) od fa wr wk w) η = .nx (st S dr l (i 4) (i 3) (i 3) (some (.d (.bl true))) (i 0) (some (.d .non)) od fa wr wk w) η := by kernel_rfl
theorem mid_4_3_4 : sx (cN 6) (mid r) (st S dr l (i 4) (i 3) (i 4) e f p od fa wr wk w) η = sx (cN 6) r (st S dr l (i 4) (i 3) (i 4) (some (.d (.bl true))) (i 0) (some (.d .non)) od fa wr wk w) η := by kernel_rfl
theorem six_4_3_4 : sx (cN 6) m6 (st S dr l (i 4) (i 3) (i 4) (some (.d (.bl true))) (i 0) (some (.d .non)) od fa wr wk w) η = .nx (st S dr l (i 4) (i 3) (i 4) (some (.d (.bl true))) (i 0) (some (.d .non)) od fa wr wk w) η := by kernel_rfl
theorem pre_4_4_1 : sx (cN 5) (pre r) (startV d_18.N [.d (.int 4), .d (.int 4), .d (.int 1), .d (pap 1)]) η = sx (cN 5) r (sj (i 4) (i 4) 1) η := by kernel_rfl
theorem jd_4_4_1 : runF (cN 5) d_18 [.d (.int 4), .d (.int 4), .d (.int 1), .d (pap 1)] η = .ok (.d (.bl true)) η := by
  have h : sx (cN 5) (pre t5) (startV d_18.N [.d (.int 4), .d (.int 4), .d (.int 1), .d (pap 1)]) η = sx (cN 5) t5 (sj (i 4) (i 4) 1) η := pre_4_4_1 η t5
  exact runF_ret (h.trans (tl_1 η _ _))
theorem mid_4_4_1 : sx (cN 6) (mid r) (st S dr l (i 4) (i 4) (i 1) e f p od fa wr wk w) η = sx (cN 6) r (st S dr l (i 4) (i 4) (i 1) (some (.d (.bl false))) (some (.d .non)) (some (.d (pap 1))) od fa wr wk w) η := by kernel_rfl
theorem six_4_4_1 : sx (cN 6) m6 (st S dr l (i 4) (i 4) (i 1) (some (.d (.bl false))) (some (.d .non)) (some (.d (pap 1))) od fa wr wk w) η = .nx (st S dr l (i 4) (i 4) (i 1) (some (.d (.bl false))) (some (.d .non)) (some (.d (pap 1))) od fa wr wk w) η :=
  m6_run η (by kernel_rfl) (evAndT (η1 := η) (by kernel_rfl) (evNt (k := true) (evCall (ws := [.d (.int 4), .d (.int 4), .d (.int 1), .d (pap 1)]) (η' := η) (by kernel_rfl) (cl18 η rfl (jd_4_4_1 [])))))
theorem pre_4_4_2 : sx (cN 5) (pre r) (startV d_18.N [.d (.int 4), .d (.int 4), .d (.int 2), .d (pap 2)]) η = sx (cN 5) r (sj (i 4) (i 4) 2) η := by kernel_rfl
theorem jd_4_4_2 : runF (cN 5) d_18 [.d (.int 4), .d (.int 4), .d (.int 2), .d (pap 2)] η = .ok (.d (.bl true)) η := by
  have h : sx (cN 5) (pre t5) (startV d_18.N [.d (.int 4), .d (.int 4), .d (.int 2), .d (pap 2)]) η = sx (cN 5) t5 (sj (i 4) (i 4) 2) η := pre_4_4_2 η t5
  exact runF_ret (h.trans (tl_2 η _ _))
theorem mid_4_4_2 : sx (cN 6) (mid r) (st S dr l (i 4) (i 4) (i 2) e f p od fa wr wk w) η = sx (cN 6) r (st S dr l (i 4) (i 4) (i 2) (some (.d (.bl false))) (some (.d .non)) (some (.d (pap 2))) od fa wr wk w) η := by kernel_rfl
theorem six_4_4_2 : sx (cN 6) m6 (st S dr l (i 4) (i 4) (i 2) (some (.d (.bl false))) (some (.d .non)) (some (.d (pap 2))) od fa wr wk w) η = .nx (st S dr l (i 4) (i 4) (i 2) (some (.d (.bl false))) (some (.d .non)) (some (.d (pap 2))) od fa wr wk w) η :=
  m6_run η (by kernel_rfl) (evAndT (η1 := η) (by kernel_rfl) (evNt (k := true) (evCall (ws := [.d (.int 4), .d (.int 4), .d (.int 2), .d (pap 2)]) (η' := η) (by kernel_rfl) (cl18 η rfl (jd_4_4_2 [])))))
theorem pre_4_4_3 : sx (cN 5) (pre r) (startV d_18.N [.d (.int 4), .d (.int 4), .d (.int 3), .d (pap 3)]) η = sx (cN 5) r (sj (i 4) (i 4) 3) η := by kernel_rfl
theorem jd_4_4_3 : runF (cN 5) d_18 [.d (.int 4), .d (.int 4), .d (.int 3), .d (pap 3)] η = .ok (.d (.bl true)) η := by
  have h : sx (cN 5) (pre t5) (startV d_18.N [.d (.int 4), .d (.int 4), .d (.int 3), .d (pap 3)]) η = sx (cN 5) t5 (sj (i 4) (i 4) 3) η := pre_4_4_3 η t5
  exact runF_ret (h.trans (tl_3 η _ _))
theorem mid_4_4_3 : sx (cN 6) (mid r) (st S dr l (i 4) (i 4) (i 3) e f p od fa wr wk w) η = sx (cN 6) r (st S dr l (i 4) (i 4) (i 3) (some (.d (.bl false))) (some (.d .non)) (some (.d (pap 3))) od fa wr wk w) η := by kernel_rfl
theorem six_4_4_3 : sx (cN 6) m6 (st S dr l (i 4) (i 4) (i 3) (some (.d (.bl false))) (some (.d .non)) (some (.d (pap 3))) od fa wr wk w) η = .nx (st S dr l (i 4) (i 4) (i 3) (some (.d (.bl false))) (some (.d .non)) (some (.d (pap 3))) od fa wr wk w) η :=
  m6_run η (by kernel_rfl) (evAndT (η1 := η) (by kernel_rfl) (evNt (k := true) (evCall (ws := [.d (.int 4), .d (.int 4), .d (.int 3), .d (pap 3)]) (η' := η) (by kernel_rfl) (cl18 η rfl (jd_4_4_3 [])))))
theorem mid_4_4_4 : sx (cN 6) (mid r) (st S dr l (i 4) (i 4) (i 4) e f p od fa wr wk w) η = sx (cN 6) r (st S dr l (i 4) (i 4) (i 4) (some (.d (.bl true))) (i 0) (some (.d .non)) od fa wr wk w) η := by kernel_rfl
theorem six_4_4_4 : sx (cN 6) m6 (st S dr l (i 4) (i 4) (i 4) (some (.d (.bl true))) (i 0) (some (.d .non)) od fa wr wk w) η = .nx (st S dr l (i 4) (i 4) (i 4) (some (.d (.bl true))) (i 0) (some (.d .non)) od fa wr wk w) η := by kernel_rfl
theorem pre_4_5_1 : sx (cN 5) (pre r) (startV d_18.N [.d (.int 4), .d (.int 5), .d (.int 1), .d (pap 1)]) η = sx (cN 5) r (sj (i 4) (i 5) 1) η := by kernel_rfl
theorem jd_4_5_1 : runF (cN 5) d_18 [.d (.int 4), .d (.int 5), .d (.int 1), .d (pap 1)] η = .ok (.d (.bl true)) η := by
  have h : sx (cN 5) (pre t5) (startV d_18.N [.d (.int 4), .d (.int 5), .d (.int 1), .d (pap 1)]) η = sx (cN 5) t5 (sj (i 4) (i 5) 1) η := pre_4_5_1 η t5
  exact runF_ret (h.trans (tl_1 η _ _))
theorem mid_4_5_1 : sx (cN 6) (mid r) (st S dr l (i 4) (i 5) (i 1) e f p od fa wr wk w) η = sx (cN 6) r (st S dr l (i 4) (i 5) (i 1) (some (.d (.bl false))) (some (.d .non)) (some (.d (pap 1))) od fa wr wk w) η := by kernel_rfl
theorem six_4_5_1 : sx (cN 6) m6 (st S dr l (i 4) (i 5) (i 1) (some (.d (.bl false))) (some (.d .non)) (some (.d (pap 1))) od fa wr wk w) η = .nx (st S dr l (i 4) (i 5) (i 1) (some (.d (.bl false))) (some (.d .non)) (some (.d (pap 1))) od fa wr wk w) η :=
  m6_run η (by kernel_rfl) (evAndT (η1 := η) (by kernel_rfl) (evNt (k := true) (evCall (ws := [.d (.int 4), .d (.int 5), .d (.int 1), .d (pap 1)]) (η' := η) (by kernel_rfl) (cl18 η rfl (jd_4_5_1 [])))))
theorem pre_4_5_2 : sx (cN 5) (pre r) (startV d_18.N [.d (.int 4), .d (.int 5), .d (.int 2), .d (pap 2)]) η = sx (cN 5) r (sj (i 4) (i 5) 2) η := by kernel_rfl
theorem jd_4_5_2 : runF (cN 5) d_18 [.d (.int 4), .d (.int 5), .d (.int 2), .d (pap 2)] η = .ok (.d (.bl true)) η := by
  have h : sx (cN 5) (pre t5) (startV d_18.N [.d (.int 4), .d (.int 5), .d (.int 2), .d (pap 2)]) η = sx (cN 5) t5 (sj (i 4) (i 5) 2) η := pre_4_5_2 η t5
  exact runF_ret (h.trans (tl_2 η _ _))
theorem mid_4_5_2 : sx (cN 6) (mid r) (st S dr l (i 4) (i 5) (i 2) e f p od fa wr wk w) η = sx (cN 6) r (st S dr l (i 4) (i 5) (i 2) (some (.d (.bl false))) (some (.d .non)) (some (.d (pap 2))) od fa wr wk w) η := by kernel_rfl
theorem six_4_5_2 : sx (cN 6) m6 (st S dr l (i 4) (i 5) (i 2) (some (.d (.bl false))) (some (.d .non)) (some (.d (pap 2))) od fa wr wk w) η = .nx (st S dr l (i 4) (i 5) (i 2) (some (.d (.bl false))) (some (.d .non)) (some (.d (pap 2))) od fa wr wk w) η :=
  m6_run η (by kernel_rfl) (evAndT (η1 := η) (by kernel_rfl) (evNt (k := true) (evCall (ws := [.d (.int 4), .d (.int 5), .d (.int 2), .d (pap 2)]) (η' := η) (by kernel_rfl) (cl18 η rfl (jd_4_5_2 [])))))
theorem pre_4_5_3 : sx (cN 5) (pre r) (startV d_18.N [.d (.int 4), .d (.int 5), .d (.int 3), .d (pap 3)]) η = sx (cN 5) r (sj (i 4) (i 5) 3) η := by kernel_rfl
theorem jd_4_5_3 : runF (cN 5) d_18 [.d (.int 4), .d (.int 5), .d (.int 3), .d (pap 3)] η = .ok (.d (.bl true)) η := by
  have h : sx (cN 5) (pre t5) (startV d_18.N [.d (.int 4), .d (.int 5), .d (.int 3), .d (pap 3)]) η = sx (cN 5) t5 (sj (i 4) (i 5) 3) η := pre_4_5_3 η t5
  exact runF_ret (h.trans (tl_3 η _ _))
theorem mid_4_5_3 : sx (cN 6) (mid r) (st S dr l (i 4) (i 5) (i 3) e f p od fa wr wk w) η = sx (cN 6) r (st S dr l (i 4) (i 5) (i 3) (some (.d (.bl false))) (some (.d .non)) (some (.d (pap 3))) od fa wr wk w) η := by kernel_rfl
theorem six_4_5_3 : sx (cN 6) m6 (st S dr l (i 4) (i 5) (i 3) (some (.d (.bl false))) (some (.d .non)) (some (.d (pap 3))) od fa wr wk w) η = .nx (st S dr l (i 4) (i 5) (i 3) (some (.d (.bl false))) (some (.d .non)) (some (.d (pap 3))) od fa wr wk w) η :=
  m6_run η (by kernel_rfl) (evAndT (η1 := η) (by kernel_rfl) (evNt (k := true) (evCall (ws := [.d (.int 4), .d (.int 5), .d (.int 3), .d (pap 3)]) (η' := η) (by kernel_rfl) (cl18 η rfl (jd_4_5_3 [])))))
theorem mid_4_5_4 : sx (cN 6) (mid r) (st S dr l (i 4) (i 5) (i 4) e f p od fa wr wk w) η = sx (cN 6) r (st S dr l (i 4) (i 5) (i 4) (some (.d (.bl true))) (i 0) (some (.d .non)) od fa wr wk w) η := by kernel_rfl
theorem six_4_5_4 : sx (cN 6) m6 (st S dr l (i 4) (i 5) (i 4) (some (.d (.bl true))) (i 0) (some (.d .non)) od fa wr wk w) η = .nx (st S dr l (i 4) (i 5) (i 4) (some (.d (.bl true))) (i 0) (some (.d .non)) od fa wr wk w) η := by kernel_rfl
theorem pre_4_6_1 : sx (cN 5) (pre r) (startV d_18.N [.d (.int 4), .d (.int 6), .d (.int 1), .d (pap 1)]) η = sx (cN 5) r (sj (i 4) (i 6) 1) η := by kernel_rfl
theorem jd_4_6_1 : runF (cN 5) d_18 [.d (.int 4), .d (.int 6), .d (.int 1), .d (pap 1)] η = .ok (.d (.bl true)) η := by
  have h : sx (cN 5) (pre t5) (startV d_18.N [.d (.int 4), .d (.int 6), .d (.int 1), .d (pap 1)]) η = sx (cN 5) t5 (sj (i 4) (i 6) 1) η := pre_4_6_1 η t5
  exact runF_ret (h.trans (tl_1 η _ _))
theorem mid_4_6_1 : sx (cN 6) (mid r) (st S dr l (i 4) (i 6) (i 1) e f p od fa wr wk w) η = sx (cN 6) r (st S dr l (i 4) (i 6) (i 1) (some (.d (.bl false))) (some (.d .non)) (some (.d (pap 1))) od fa wr wk w) η := by kernel_rfl
theorem six_4_6_1 : sx (cN 6) m6 (st S dr l (i 4) (i 6) (i 1) (some (.d (.bl false))) (some (.d .non)) (some (.d (pap 1))) od fa wr wk w) η = .nx (st S dr l (i 4) (i 6) (i 1) (some (.d (.bl false))) (some (.d .non)) (some (.d (pap 1))) od fa wr wk w) η :=
  m6_run η (by kernel_rfl) (evAndT (η1 := η) (by kernel_rfl) (evNt (k := true) (evCall (ws := [.d (.int 4), .d (.int 6), .d (.int 1), .d (pap 1)]) (η' := η) (by kernel_rfl) (cl18 η rfl (jd_4_6_1 [])))))
theorem pre_4_6_2 : sx (cN 5) (pre r) (startV d_18.N [.d (.int 4), .d (.int 6), .d (.int 2), .d (pap 2)]) η = sx (cN 5) r (sj (i 4) (i 6) 2) η := by kernel_rfl
theorem jd_4_6_2 : runF (cN 5) d_18 [.d (.int 4), .d (.int 6), .d (.int 2), .d (pap 2)] η = .ok (.d (.bl true)) η := by
  have h : sx (cN 5) (pre t5) (startV d_18.N [.d (.int 4), .d (.int 6), .d (.int 2), .d (pap 2)]) η = sx (cN 5) t5 (sj (i 4) (i 6) 2) η := pre_4_6_2 η t5
  exact runF_ret (h.trans (tl_2 η _ _))
theorem mid_4_6_2 : sx (cN 6) (mid r) (st S dr l (i 4) (i 6) (i 2) e f p od fa wr wk w) η = sx (cN 6) r (st S dr l (i 4) (i 6) (i 2) (some (.d (.bl false))) (some (.d .non)) (some (.d (pap 2))) od fa wr wk w) η := by kernel_rfl
theorem six_4_6_2 : sx (cN 6) m6 (st S dr l (i 4) (i 6) (i 2) (some (.d (.bl false))) (some (.d .non)) (some (.d (pap 2))) od fa wr wk w) η = .nx (st S dr l (i 4) (i 6) (i 2) (some (.d (.bl false))) (some (.d .non)) (some (.d (pap 2))) od fa wr wk w) η :=
  m6_run η (by kernel_rfl) (evAndT (η1 := η) (by kernel_rfl) (evNt (k := true) (evCall (ws := [.d (.int 4), .d (.int 6), .d (.int 2), .d (pap 2)]) (η' := η) (by kernel_rfl) (cl18 η rfl (jd_4_6_2 [])))))
theorem pre_4_6_3 : sx (cN 5) (pre r) (startV d_18.N [.d (.int 4), .d (.int 6), .d (.int 3), .d (pap 3)]) η = sx (cN 5) r (sj (i 4) (i 6) 3) η := by kernel_rfl
theorem jd_4_6_3 : runF (cN 5) d_18 [.d (.int 4), .d (.int 6), .d (.int 3), .d (pap 3)] η = .ok (.d (.bl true)) η := by
  have h : sx (cN 5) (pre t5) (startV d_18.N [.d (.int 4), .d (.int 6), .d (.int 3), .d (pap 3)]) η = sx (cN 5) t5 (sj (i 4) (i 6) 3) η := pre_4_6_3 η t5
  exact runF_ret (h.trans (tl_3 η _ _))
theorem mid_4_6_3 : sx (cN 6) (mid r) (st S dr l (i 4) (i 6) (i 3) e f p od fa wr wk w) η = sx (cN 6) r (st S dr l (i 4) (i 6) (i 3) (some (.d (.bl false))) (some (.d .non)) (some (.d (pap 3))) od fa wr wk w) η := by kernel_rfl
theorem six_4_6_3 : sx (cN 6) m6 (st S dr l (i 4) (i 6) (i 3) (some (.d (.bl false))) (some (.d .non)) (some (.d (pap 3))) od fa wr wk w) η = .nx (st S dr l (i 4) (i 6) (i 3) (some (.d (.bl false))) (some (.d .non)) (some (.d (pap 3))) od fa wr wk w) η :=
  m6_run η (by kernel_rfl) (evAndT (η1 := η) (by kernel_rfl) (evNt (k := true) (evCall (ws := [.d (.int 4), .d (.int 6), .d (.int 3), .d (pap 3)]) (η' := η) (by kernel_rfl) (cl18 η rfl (jd_4_6_3 [])))))
theorem mid_4_6_4 : sx (cN 6) (mid r) (st S dr l (i 4) (i 6) (i 4) e f p od fa wr wk w) η = sx (cN 6) r (st S dr l (i 4) (i 6) (i 4) (some (.d (.bl true))) (i 0) (some (.d .non)) od fa wr wk w) η := by kernel_rfl
theorem six_4_6_4 : sx (cN 6) m6 (st S dr l (i 4) (i 6) (i 4) (some (.d (.bl true))) (i 0) (some (.d .non)) od fa wr wk w) η = .nx (st S dr l (i 4) (i 6) (i 4) (some (.d (.bl true))) (i 0) (some (.d .non)) od fa wr wk w) η := by kernel_rfl
theorem pre_4_7_1 : sx (cN 5) (pre r) (startV d_18.N [.d (.int 4), .d (.int 7), .d (.int 1), .d (pap 1)]) η = sx (cN 5) r (sj (i 4) (i 7) 1) η := by kernel_rfl
theorem jd_4_7_1 : runF (cN 5) d_18 [.d (.int 4), .d (.int 7), .d (.int 1), .d (pap 1)] η = .ok (.d (.bl true)) η := by
  have h : sx (cN 5) (pre t5) (startV d_18.N [.d (.int 4), .d (.int 7), .d (.int 1), .d (pap 1)]) η = sx (cN 5) t5 (sj (i 4) (i 7) 1) η := pre_4_7_1 η t5
  exact runF_ret (h.trans (tl_1 η _ _))
theorem mid_4_7_1 : sx (cN 6) (mid r) (st S dr l (i 4) (i 7) (i 1) e f p od fa wr wk w) η = sx (cN 6) r (st S dr l (i 4) (i 7) (i 1) (some (.d (.bl false))) (some (.d .non)) (some (.d (pap 1))) od fa wr wk w) η := by kernel_rfl
theorem six_4_7_1 : sx (cN 6) m6 (st S dr l (i 4) (i 7) (i 1) (some (.d (.bl false))) (some (.d .non)) (some (.d (pap 1))) od fa wr wk w) η = .nx (st S dr l (i 4) (i 7) (i 1) (some (.d (.bl false))) (some (.d .non)) (some (.d (pap 1))) od fa wr wk w) η :=
  m6_run η (by kernel_rfl) (evAndT (η1 := η) (by kernel_rfl) (evNt (k := true) (evCall (ws := [.d (.int 4), .d (.int 7), .d (.int 1), .d (pap 1)]) (η' := η) (by kernel_rfl) (cl18 η rfl (jd_4_7_1 [])))))
theorem pre_4_7_2 : sx (cN 5) (pre r) (startV d_18.N [.d (.int 4), .d (.int 7), .d (.int 2), .d (pap 2)]) η = sx (cN 5) r (sj (i 4) (i 7) 2) η := by kernel_rfl
theorem jd_4_7_2 : runF (cN 5) d_18 [.d (.int 4), .d (.int 7), .d (.int 2), .d (pap 2)] η = .ok (.d (.bl true)) η := by
  have h : sx (cN 5) (pre t5) (startV d_18.N [.d (.int 4), .d (.int 7), .d (.int 2), .d (pap 2)]) η = sx (cN 5) t5 (sj (i 4) (i 7) 2) η := pre_4_7_2 η t5
  exact runF_ret (h.trans (tl_2 η _ _))
theorem mid_4_7_2 : sx (cN 6) (mid r) (st S dr l (i 4) (i 7) (i 2) e f p od fa wr wk w) η = sx (cN 6) r (st S dr l (i 4) (i 7) (i 2) (some (.d (.bl false))) (some (.d .non)) (some (.d (pap 2))) od fa wr wk w) η := by kernel_rfl
theorem six_4_7_2 : sx (cN 6) m6 (st S dr l (i 4) (i 7) (i 2) (some (.d (.bl false))) (some (.d .non)) (some (.d (pap 2))) od fa wr wk w) η = .nx (st S dr l (i 4) (i 7) (i 2) (some (.d (.bl false))) (some (.d .non)) (some (.d (pap 2))) od fa wr wk w) η :=
  m6_run η (by kernel_rfl) (evAndT (η1 := η) (by kernel_rfl) (evNt (k := true) (evCall (ws := [.d (.int 4), .d (.int 7), .d (.int 2), .d (pap 2)]) (η' := η) (by kernel_rfl) (cl18 η rfl (jd_4_7_2 [])))))
theorem pre_4_7_3 : sx (cN 5) (pre r) (startV d_18.N [.d (.int 4), .d (.int 7), .d (.int 3), .d (pap 3)]) η = sx (cN 5) r (sj (i 4) (i 7) 3) η := by kernel_rfl
theorem jd_4_7_3 : runF (cN 5) d_18 [.d (.int 4), .d (.int 7), .d (.int 3), .d (pap 3)] η = .ok (.d (.bl true)) η := by
  have h : sx (cN 5) (pre t5) (startV d_18.N [.d (.int 4), .d (.int 7), .d (.int 3), .d (pap 3)]) η = sx (cN 5) t5 (sj (i 4) (i 7) 3) η := pre_4_7_3 η t5
  exact runF_ret (h.trans (tl_3 η _ _))
theorem mid_4_7_3 : sx (cN 6) (mid r) (st S dr l (i 4) (i 7) (i 3) e f p od fa wr wk w) η = sx (cN 6) r (st S dr l (i 4) (i 7) (i 3) (some (.d (.bl false))) (some (.d .non)) (some (.d (pap 3))) od fa wr wk w) η := by kernel_rfl
theorem six_4_7_3 : sx (cN 6) m6 (st S dr l (i 4) (i 7) (i 3) (some (.d (.bl false))) (some (.d .non)) (some (.d (pap 3))) od fa wr wk w) η = .nx (st S dr l (i 4) (i 7) (i 3) (some (.d (.bl false))) (some (.d .non)) (some (.d (pap 3))) od fa wr wk w) η :=
  m6_run η (by kernel_rfl) (evAndT (η1 := η) (by kernel_rfl) (evNt (k := true) (evCall (ws := [.d (.int 4), .d (.int 7), .d (.int 3), .d (pap 3)]) (η' := η) (by kernel_rfl) (cl18 η rfl (jd_4_7_3 [])))))
theorem mid_4_7_4 : sx (cN 6) (mid r) (st S dr l (i 4) (i 7) (i 4) e f p od fa wr wk w) η = sx (cN 6) r (st S dr l (i 4) (i 7) (i 4) (some (.d (.bl true))) (i 0) (some (.d .non)) od fa wr wk w) η := by kernel_rfl
theorem six_4_7_4 : sx (cN 6) m6 (st S dr l (i 4) (i 7) (i 4) (some (.d (.bl true))) (i 0) (some (.d .non)) od fa wr wk w) η = .nx (st S dr l (i 4) (i 7) (i 4) (some (.d (.bl true))) (i 0) (some (.d .non)) od fa wr wk w) η := by kernel_rfl
theorem pre_4_8_1 : sx (cN 5) (pre r) (startV d_18.N [.d (.int 4), .d (.int 8), .d (.int 1), .d (pap 1)]) η = sx (cN 5) r (sj (i 4) (i 8) 1) η := by kernel_rfl
theorem jd_4_8_1 : runF (cN 5) d_18 [.d (.int 4), .d (.int 8), .d (.int 1), .d (pap 1)] η = .ok (.d (.bl true)) η := by
  have h : sx (cN 5) (pre t5) (startV d_18.N [.d (.int 4), .d (.int 8), .d (.int 1), .d (pap 1)]) η = sx (cN 5) t5 (sj (i 4) (i 8) 1) η := pre_4_8_1 η t5
  exact runF_ret (h.trans (tl_1 η _ _))
theorem mid_4_8_1 : sx (cN 6) (mid r) (st S dr l (i 4) (i 8) (i 1) e f p od fa wr wk w) η = sx (cN 6) r (st S dr l (i 4) (i 8) (i 1) (some (.d (.bl false))) (some (.d .non)) (some (.d (pap 1))) od fa wr wk w) η := by kernel_rfl
theorem six_4_8_1 : sx (cN 6) m6 (st S dr l (i 4) (i 8) (i 1) (some (.d (.bl false))) (some (.d .non)) (some (.d (pap 1))) od fa wr wk w) η = .nx (st S dr l (i 4) (i 8) (i 1) (some (.d (.bl false))) (some (.d .non)) (some (.d (pap 1))) od fa wr wk w) η :=
  m6_run η (by kernel_rfl) (evAndT (η1 := η) (by kernel_rfl) (evNt (k := true) (evCall (ws := [.d (.int 4), .d (.int 8), .d (.int 1), .d (pap 1)]) (η' := η) (by kernel_rfl) (cl18 η rfl (jd_4_8_1 [])))))
theorem pre_4_8_2 : sx (cN 5) (pre r) (startV d_18.N [.d (.int 4), .d (.int 8), .d (.int 2), .d (pap 2)]) η = sx (cN 5) r (sj (i 4) (i 8) 2) η := by kernel_rfl
theorem jd_4_8_2 : runF (cN 5) d_18 [.d (.int 4), .d (.int 8), .d (.int 2), .d (pap 2)] η = .ok (.d (.bl true)) η := by
  have h : sx (cN 5) (pre t5) (startV d_18.N [.d (.int 4), .d (.int 8), .d (.int 2), .d (pap 2)]) η = sx (cN 5) t5 (sj (i 4) (i 8) 2) η := pre_4_8_2 η t5
  exact runF_ret (h.trans (tl_2 η _ _))
theorem mid_4_8_2 : sx (cN 6) (mid r) (st S dr l (i 4) (i 8) (i 2) e f p od fa wr wk w) η = sx (cN 6) r (st S dr l (i 4) (i 8) (i 2) (some (.d (.bl false))) (some (.d .non)) (some (.d (pap 2))) od fa wr wk w) η := by kernel_rfl
theorem six_4_8_2 : sx (cN 6) m6 (st S dr l (i 4) (i 8) (i 2) (some (.d (.bl false))) (some (.d .non)) (some (.d (pap 2))) od fa wr wk w) η = .nx (st S dr l (i 4) (i 8) (i 2) (some (.d (.bl false))) (some (.d .non)) (some (.d (pap 2))) od fa wr wk w) η :=
  m6_run η (by kernel_rfl) (evAndT (η1 := η) (by kernel_rfl) (evNt (k := true) (evCall (ws := [.d (.int 4), .d (.int 8), .d (.int 2), .d (pap 2)]) (η' := η) (by kernel_rfl) (cl18 η rfl (jd_4_8_2 [])))))
theorem pre_4_8_3 : sx (cN 5) (pre r) (startV d_18.N [.d (.int 4), .d (.int 8), .d (.int 3), .d (pap 3)]) η = sx (cN 5) r (sj (i 4) (i 8) 3) η := by kernel_rfl
theorem jd_4_8_3 : runF (cN 5) d_18 [.d (.int 4), .d (.int 8), .d (.int 3), .d (pap 3)] η = .ok (.d (.bl true)) η := by
  have h : sx (cN 5) (pre t5) (startV d_18.N [.d (.int 4), .d (.int 8), .d (.int 3), .d (pap 3)]) η = sx (cN 5) t5 (sj (i 4) (i 8) 3) η := pre_4_8_3 η t5
  exact runF_ret (h.trans (tl_3 η _ _))
theorem mid_4_8_3 : sx (cN 6) (mid r) (st S dr l (i 4) (i 8) (i 3) e f p od fa wr wk w) η = sx (cN 6) r (st S dr l (i 4) (i 8) (i 3) (some (.d (.bl false))) (some (.d .non)) (some (.d (pap 3))) od fa wr wk w) η := by kernel_rfl
theorem six_4_8_3 : sx (cN 6) m6 (st S dr l (i 4) (i 8) (i 3) (some (.d (.bl false))) (some (.d .non)) (some (.d (pap 3))) od fa wr wk w) η = .nx (st S dr l (i 4) (i 8) (i 3) (some (.d (.bl false))) (some (.d .non)) (some (.d (pap 3))) od fa wr wk w) η :=
  m6_run η (by kernel_rfl) (evAndT (η1 := η) (by kernel_rfl) (evNt (k := true) (evCall (ws := [.d (.int 4), .d (.int 8), .d (.int 3), .d (pap 3)]) (η' := η) (by kernel_rfl) (cl18 η rfl (jd_4_8_3 [])))))
theorem mid_4_8_4 : sx (cN 6) (mid r) (st S dr l (i 4) (i 8) (i 4) e f p od fa wr wk w) η = sx (cN 6) r (st S dr l (i 4) (i 8) (i 4) (some (.d (.bl true))) (i 0) (some (.d .non)) od fa wr wk w) η := by kernel_rfl
theorem six_4_8_4 : sx (cN 6) m6 (st S dr l (i 4) (i 8) (i 4) (some (.d (.bl true))) (i 0) (some (.d .non)) od fa wr wk w) η = .nx (st S dr l (i 4) (i 8) (i 4) (some (.d (.bl true))) (i 0) (some (.d .non)) od fa wr wk w) η := by kernel_rfl
theorem pre_4_9_1 : sx (cN 5) (pre r) (startV d_18.N [.d (.int 4), .d (.int 9), .d (.int 1), .d (pap 1)]) η = sx (cN 5) r (sj (i 4) (i 9) 1) η := by kernel_rfl
theorem jd_4_9_1 : runF (cN 5) d_18 [.d (.int 4), .d (.int 9), .d (.int 1), .d (pap 1)] η = .ok (.d (.bl true)) η := by
  have h : sx (cN 5) (pre t5) (startV d_18.N [.d (.int 4), .d (.int 9), .d (.int 1), .d (pap 1)]) η = sx (cN 5) t5 (sj (i 4) (i 9) 1) η := pre_4_9_1 η t5
  exact runF_ret (h.trans (tl_1 η _ _))
theorem mid_4_9_1 : sx (cN 6) (mid r) (st S dr l (i 4) (i 9) (i 1) e f p od fa wr wk w) η = sx (cN 6) r (st S dr l (i 4) (i 9) (i 1) (some (.d (.bl false))) (some (.d .non)) (some (.d (pap 1))) od fa wr wk w) η := by kernel_rfl
theorem six_4_9_1 : sx (cN 6) m6 (st S dr l (i 4) (i 9) (i 1) (some (.d (.bl false))) (some (.d .non)) (some (.d (pap 1))) od fa wr wk w) η = .nx (st S dr l (i 4) (i 9) (i 1) (some (.d (.bl false))) (some (.d .non)) (some (.d (pap 1))) od fa wr wk w) η :=
  m6_run η (by kernel_rfl) (evAndT (η1 := η) (by kernel_rfl) (evNt (k := true) (evCall (ws := [.d (.int 4), .d (.int 9), .d (.int 1), .d (pap 1)]) (η' := η) (by kernel_rfl) (cl18 η rfl (jd_4_9_1 [])))))
theorem pre_4_9_2 : sx (cN 5) (pre r) (startV d_18.N [.d (.int 4), .d (.int 9), .d (.int 2), .d (pap 2)]) η = sx (cN 5) r (sj (i 4) (i 9) 2) η := by kernel_rfl
theorem jd_4_9_2 : runF (cN 5) d_18 [.d (.int 4), .d (.int 9), .d (.int 2), .d (pap 2)] η = .ok (.d (.bl true)) η := by
  have h : sx (cN 5) (pre t5) (startV d_18.N [.d (.int 4), .d (.int 9), .d (.int 2), .d (pap 2)]) η = sx (cN 5) t5 (sj (i 4) (i 9) 2) η := pre_4_9_2 η t5
  exact runF_ret (h.trans (tl_2 η _ _))
theorem mid_4_9_2 : sx (cN 6) (mid r) (st S dr l (i 4) (i 9) (i 2) e f p od fa wr wk w) η = sx (cN 6) r (st S dr l (i 4) (i 9) (i 2) (some (.d (.bl false))) (some (.d .non)) (some (.d (pap 2))) od fa wr wk w) η := by kernel_rfl
theorem six_4_9_2 : sx (cN 6) m6 (st S dr l (i 4) (i 9) (i 2) (some (.d (.bl false))) (some (.d .non)) (some (.d (pap 2))) od fa wr wk w) η = .nx (st S dr l (i 4) (i 9) (i 2) (some (.d (.bl false))) (some (.d .non)) (some (.d (pap 2))) od fa wr wk w) η :=
  m6_run η (by kernel_rfl) (evAndT (η1 := η) (by kernel_rfl) (evNt (k := true) (evCall (ws := [.d (.int 4), .d (.int 9), .d (.int 2), .d (pap 2)]) (η' := η) (by kernel_rfl) (cl18 η rfl (jd_4_9_2 [])))))
theorem pre_4_9_3 : sx (cN 5) (pre r) (startV d_18.N [.d (.int 4), .d (.int 9), .d (.int 3), .d (pap 3)]) η = sx (cN 5) r (sj (i 4) (i 9) 3) η := by kernel_rfl
theorem jd_4_9_3 : runF (cN 5) d_18 [.d (.int 4), .d (.int 9), .d (.int 3), .d (pap 3)] η = .ok (.d (.bl true)) η := by
  have h : sx (cN 5) (pre t5) (startV d_18.N [.d (.int 4), .d (.int 9), .d (.int 3), .d (pap 3)]) η = sx (cN 5) t5 (sj (i 4) (i 9) 3) η := pre_4_9_3 η t5
  exact runF_ret (h.trans (tl_3 η _ _))
theorem mid_4_9_3 : sx (cN 6) (mid r) (st S dr l (i 4) (i 9) (i 3) e f p od fa wr wk w) η = sx (cN 6) r (st S dr l (i 4) (i 9) (i 3) (some (.d (.bl false))) (some (.d .non)) (some (.d (pap 3))) od fa wr wk w) η := by kernel_rfl
theorem six_4_9_3 : sx (cN 6) m6 (st S dr l (i 4) (i 9) (i 3) (some (.d (.bl false))) (some (.d .non)) (some (.d (pap 3))) od fa wr wk w) η = .nx (st S dr l (i 4) (i 9) (i 3) (some (.d (.bl false))) (some (.d .non)) (some (.d (pap 3))) od fa wr wk w) η :=
  m6_run η (by kernel_rfl) (evAndT (η1 := η) (by kernel_rfl) (evNt (k := true) (evCall (ws := [.d (.int 4), .d (.int 9), .d (.int 3), .d (pap 3)]) (η' := η) (by kernel_rfl) (cl18 η rfl (jd_4_9_3 [])))))
theorem mid_4_9_4 : sx (cN 6) (mid r) (st S dr l (i 4) (i 9) (i 4) e f p od fa wr wk w) η = sx (cN 6) r (st S dr l (i 4) (i 9) (i 4) (some (.d (.bl true))) (i 0) (some (.d .non)) od fa wr wk w) η := by kernel_rfl
theorem six_4_9_4 : sx (cN 6) m6 (st S dr l (i 4) (i 9) (i 4) (some (.d (.bl true))) (i 0) (some (.d .non)) od fa wr wk w) η = .nx (st S dr l (i 4) (i 9) (i 4) (some (.d (.bl true))) (i 0) (some (.d .non)) od fa wr wk w) η := by kernel_rfl
end
end Law

set_option Elab.async false
set_option linter.all false
set_option maxRecDepth 100000
set_option maxHeartbeats 0
namespace Law
open PySem PySem.Spec PyProof.Rows L2 Ip

section
variable (S dr l e f p od fa wr wk w : Option W) (η : Hv) (r : Sm)
theorem mid_run {m v q : Int} (hm : 1 ≤ m ∧ m ≤ 4) (hv : 1 ≤ v ∧ v ≤ 9) (hq : 1 ≤ q ∧ q ≤ 4) : ∃ e2 f2 p2, sx (cN 6) (mid (.sq m6 r)) (st S dr l (i m) (i v) (i q) e f p od fa wr wk w) η = sx (cN 6) r (st S dr l (i m) (i v) (i q) e2 f2 p2 od fa wr wk w) η := by
  have hm : m = 1 ∨ m = 2 ∨ m = 3 ∨ m = 4 := by omega
  have hv : v = 1 ∨ v = 2 ∨ v = 3 ∨ v = 4 ∨ v = 5 ∨ v = 6 ∨ v = 7 ∨ v = 8 ∨ v = 9 := by omega
  have hq : q = 1 ∨ q = 2 ∨ q = 3 ∨ q = 4 := by omega
  rcases hm with rfl | rfl | rfl | rfl
  · rcases hv with rfl | rfl | rfl | rfl | rfl | rfl | rfl | rfl | rfl
    · rcases hq with rfl | rfl | rfl | rfl
      · exact ⟨_, _, _, (mid_1_1_1 S dr l e f p od fa wr wk w η (.sq m6 r)).trans (sx_sq (six_1_1_1 S dr l od fa wr wk w η))⟩
      · exact ⟨_, _, _, (mid_1_1_2 S dr l e f p od fa wr wk w η (.sq m6 r)).trans (sx_sq (six_1_1_2 S dr l od fa wr wk w η))⟩
      · exact ⟨_, _, _, (mid_1_1_3 S dr l e f p od fa wr wk w η (.sq m6 r)).trans (sx_sq (six_1_1_3 S dr l od fa wr wk w η))⟩
      · exact ⟨_, _, _, (mid_1_1_4 S dr l e f p od fa wr wk w η (.sq m6 r)).trans (sx_sq (six_1_1_4 S dr l od fa wr wk w η))⟩
    · rcases hq with rfl | rfl | rfl | rfl
      · exact ⟨_, _, _, (mid_1_2_1 S dr l e f p od fa wr wk w η (.sq m6 r)).trans (sx_sq (six_1_2_1 S dr l od fa wr wk w η))⟩
      · exact ⟨_, _, _, (mid_1_2_2 S dr l e f p od fa wr wk w η (.sq m6 r)).trans (sx_sq (six_1_2_2 S dr l od fa wr wk w η))⟩
      · exact ⟨_, _, _, (mid_1_2_3 S dr l e f p od fa wr wk w η (.sq m6 r)).trans (sx_sq (six_1_2_3 S dr l od fa wr wk w η))⟩
      · exact ⟨_, _, _, (mid_1_2_4 S dr l e f p od fa wr wk w η (.sq m6 r)).trans (sx_sq (six_1_2_4 S dr l od fa wr wk w η))⟩
    · rcases hq with rfl | rfl | rfl | rfl
      · exact ⟨_, _, _, (mid_1_3_1 S dr l e f p od fa wr wk w η (.sq m6 r)).trans (sx_sq (six_1_3_1 S dr l od fa wr wk w η))⟩
      · exact ⟨_, _, _, (mid_1_3_2 S dr l e f p od fa wr wk w η (.sq m6 r)).trans (sx_sq (six_1_3_2 S dr l od fa wr wk w η))⟩
      · exact ⟨_, _, _, (mid_1_3_3 S dr l e f p od fa wr wk w η (.sq m6 r)).trans (sx_sq (six_1_3_3 S dr l od fa wr wk w η))⟩
      · exact ⟨_, _, _, (mid_1_3_4 S dr l e f p od fa wr wk w η (.sq m6 r)).trans (sx_sq (six_1_3_4 S dr l od fa wr wk w η))⟩
    · rcases hq with rfl | rfl | rfl | rfl
      · exact ⟨_, _, _, (mid_1_4_1 S dr l e f p od fa wr wk w η (.sq m6 r)).trans (sx_sq (six_1_4_1 S dr l od fa wr wk w η))⟩
      · exact ⟨_, _, _, (mid_1_4_2 S dr l e f p od fa wr wk w η (.sq m6 r)).trans (sx_sq (six_1_4_2 S dr l od fa wr wk w η))⟩
      · exact ⟨_, _, _, (mid_1_4_3 S dr l e f p od fa wr wk w η (.sq m6 r)).trans (sx_sq (six_1_4_3 S dr l od fa wr wk w η))⟩
      · exact ⟨_, _, _, (mid_1_4_4 S dr l e f p od fa wr wk w η (.sq m6 r)).trans (sx_sq (six_1_4_4 S dr l od fa wr wk w η))⟩
    · rcases hq with rfl | rfl | rfl | rfl
      · exact ⟨_, _, _, (mid_1_5_1 S dr l e f p od fa wr wk w η (.sq m6 r)).trans (sx_sq (six_1_5_1 S dr l od fa wr wk w η))⟩
      · exact ⟨_, _, _, (mid_1_5_2 S dr l e f p od fa wr wk w η (.sq m6 r)).trans (sx_sq (six_1_5_2 S dr l od fa wr wk w η))⟩
      · exact ⟨_, _, _, (mid_1_5_3 S dr l e f p od fa wr wk w η (.sq m6 r)).trans (sx_sq (six_1_5_3 S dr l od fa wr wk w η))⟩
      · exact ⟨_, _, _, (mid_1_5_4 S dr l e f p od fa wr wk w η (.sq m6 r)).trans (sx_sq (six_1_5_4 S dr l od fa wr wk w η))⟩
    · rcases hq with rfl | rfl | rfl | rfl
      · exact ⟨_, _, _, (mid_1_6_1 S dr l e f p od fa wr wk w η (.sq m6 r)).trans (sx_sq (six_1_6_1 S dr l od fa wr wk w η))⟩
      · exact ⟨_, _, _, (mid_1_6_2 S dr l e f p od fa wr wk w η (.sq m6 r)).trans (sx_sq (six_1_6_2 S dr l od fa wr wk w η))⟩
      · exact ⟨_, _, _, (mid_1_6_3 S dr l e f p od fa wr wk w η (.sq m6 r)).trans (sx_sq (six_1_6_3 S dr l od fa wr wk w η))⟩
      · exact ⟨_, _, _, (mid_1_6_4 S dr l e f p od fa wr wk w η (.sq m6 r)).trans (sx_sq (six_1_6_4 S dr l od fa wr wk w η))⟩
    · rcases hq with rfl | rfl | rfl | rfl
      · exact ⟨_, _, _, (mid_1_7_1 S dr l e f p od fa wr wk w η (.sq m6 r)).trans (sx_sq (six_1_7_1 S dr l od fa wr wk w η))⟩
      · exact ⟨_, _, _, (mid_1_7_2 S dr l e f p od fa wr wk w η (.sq m6 r)).trans (sx_sq (six_1_7_2 S dr l od fa wr wk w η))⟩
      · exact ⟨_, _, _, (mid_1_7_3 S dr l e f p od fa wr wk w η (.sq m6 r)).trans (sx_sq (six_1_7_3 S dr l od fa wr wk w η))⟩
      · exact ⟨_, _, _, (mid_1_7_4 S dr l e f p od fa wr wk w η (.sq m6 r)).trans (sx_sq (six_1_7_4 S dr l od fa wr wk w η))⟩
    · rcases hq with rfl | rfl | rfl | rfl
      · exact ⟨_, _, _, (mid_1_8_1 S dr l e f p od fa wr wk w η (.sq m6 r)).trans (sx_sq (six_1_8_1 S dr l od fa wr wk w η))⟩
      · exact ⟨_, _, _, (mid_1_8_2 S dr l e f p od fa wr wk w η (.sq m6 r)).trans (sx_sq (six_1_8_2 S dr l od fa wr wk w η))⟩
      · exact ⟨_, _, _, (mid_1_8_3 S dr l e f p od fa wr wk w η (.sq m6 r)).trans (sx_sq (six_1_8_3 S dr l od fa wr wk w η))⟩
      · exact ⟨_, _, _, (mid_1_8_4 S dr l e f p od fa wr wk w η (.sq m6 r)).trans (sx_sq (six_1_8_4 S dr l od fa wr wk w η))⟩
    · rcases hq with rfl | rfl | rfl | rfl
      · exact ⟨_, _, _, (mid_1_9_1 S dr l e f p od fa wr wk w η (.sq m6 r)).trans (sx_sq (six_1_9_1 S dr l od fa wr wk w η))⟩
      · exact ⟨_, _, _, (mid_1_9_2 S dr l e f p od fa wr wk w η (.sq m6 r)).trans (sx_sq (six_1_9_2 S dr l od fa wr wk w η))⟩
      · exact ⟨_, _, _, (mid_1_9_3 S dr l e f p od fa wr wk w η (.sq m6 r)).trans (sx_sq (six_1_9_3 S dr l od fa wr wk w η))⟩
      · exact ⟨_, _, _, (mid_1_9_4 S dr l e f p od fa wr wk w η (.sq m6 r)).trans (sx_sq (six_1_9_4 S dr l od fa wr wk w η))⟩
  · rcases hv with rfl | rfl | rfl | rfl | rfl | rfl | rfl | rfl | rfl
    · rcases hq with rfl | rfl | rfl | rfl
      · exact ⟨_, _, _, (mid_2_1_1 S dr l e f p od fa wr wk w η (.sq m6 r)).trans (sx_sq (six_2_1_1 S dr l od fa wr wk w η))⟩
      · exact ⟨_, _, _, (mid_2_1_2 S dr l e f p od fa wr wk w η (.sq m6 r)).trans (sx_sq (six_2_1_2 S dr l od fa wr wk w η))⟩
      · exact ⟨_, _, _, (mid_2_1_3 S dr l e f p od fa wr wk w η (.sq m6 r)).trans (sx_sq (six_2_1_3 S dr l od fa wr wk w η))⟩
      · exact ⟨_, _, _, (mid_2_1_4 S dr l e f p od fa wr wk w η (.sq m6 r)).trans (sx_sq (six_2_1_4 S dr l od fa wr wk w η))⟩
    · rcases hq with rfl | rfl | rfl | rfl
      · exact ⟨_, _, _, (mid_2_2_1 S dr l e f p od fa wr wk w η (.sq m6 r)).trans (sx_sq (six_2_2_1 S dr l od fa wr wk w η))⟩
      · exact ⟨_, _, _, (mid_2_2_2 S dr l e f p od fa wr wk w η (.sq m6 r)).trans (sx_sq (six_2_2_2 S dr l od fa wr wk w η))⟩
      · exact ⟨_, _, _, (mid_2_2_3 S dr l e f p od fa wr wk w η (.sq m6 r)).trans (sx_sq (six_2_2_3 S dr l od fa wr wk w η))⟩
      · exact ⟨_, _, _, (mid_2_2_4 S dr l e f p od fa wr wk w η (.sq m6 r)).trans (sx_sq (six_2_2_4 S dr l od fa wr wk w η))⟩
    · rcases hq with rfl | rfl | rfl | rfl
      · exact ⟨_, _, _, (mid_2_3_1 S dr l e f p od fa wr wk w η (.sq m6 r)).trans (sx_sq (six_2_3_1 S dr l od fa wr wk w η))⟩
      · exact ⟨_, _, _, (mid_2_3_2 S dr l e f p od fa wr wk w η (.sq m6 r)).trans (sx_sq (six_2_3_2 S dr l od fa wr wk w η))⟩
      · exact ⟨_, _, _, (mid_2_3_3 S dr l e f p od fa wr wk w η (.sq m6 r)).trans (sx_sq (six_2_3_3 S dr l od fa wr wk w η))⟩
      · exact ⟨_, _, _, (mid_2_3_4 S dr l e f p od fa wr wk w η (.sq m6 r)).trans (sx_sq (six_2_3_4 S dr l od fa wr wk w η))⟩
    · rcases hq with rfl | rfl | rfl | rfl
      · exact ⟨_, _, _, (mid_2_4_1 S dr l e f p od fa wr wk w η (.sq m6 r)).trans (sx_sq (six_2_4_1 S dr l od fa wr wk w η))⟩
      · exact ⟨_, _, _, (mid_2_4_2 S dr l e f p od fa wr wk w η (.sq m6 r)).trans (sx_sq (six_2_4_2 S dr l od fa wr wk w η))⟩
      · exact ⟨_, _, _, (mid_2_4_3 S dr l e f p od fa wr wk w η (.sq m6 r)).trans (sx_sq (six_2_4_3 S dr l od fa wr wk w η))⟩
      · exact ⟨_, _, _, (mid_2_4_4 S dr l e f p od fa wr wk w η (.sq m6 r)).trans (sx_sq (six_2_4_4 S dr l od fa wr wk w η))⟩
    · rcases hq with rfl | rfl | rfl | rfl
      · exact ⟨_, _, _, (mid_2_5_1 S dr l e f p od fa wr wk w η (.sq m6 r)).trans (sx_sq (six_2_5_1 S dr l od fa wr wk w η))⟩
      · exact ⟨_, _, _, (mid_2_5_2 S dr l e f p od fa wr wk w η (.sq m6 r)).trans (sx_sq (six_2_5_2 S dr l od fa wr wk w η))⟩
      · exact ⟨_, _, _, (mid_2_5_3 S dr l e f p od fa wr wk w η (.sq m6 r)).trans (sx_sq (six_2_5_3 S dr l od fa wr wk w η))⟩
      · exact ⟨_, _, _, (mid_2_5_4 S dr l e f p od fa wr wk w η (.sq m6 r)).trans (sx_sq (six_2_5_4 S dr l od fa wr wk w η))⟩
    · rcases hq with rfl | rfl | rfl | rfl
      · exact ⟨_, _, _, (mid_2_6_1 S dr l e f p od fa wr wk w η (.sq m6 r)).trans (sx_sq (six_2_6_1 S dr l od fa wr wk w η))⟩
      · exact ⟨_, _, _, (mid_2_6_2 S dr l e f p od fa wr wk w η (.sq m6 r)).trans (sx_sq (six_2_6_2 S dr l od fa wr wk w η))⟩
      · exact ⟨_, _, _, (mid_2_6_3 S dr l e f p od fa wr wk w η (.sq m6 r)).trans (sx_sq (six_2_6_3 S dr l od fa wr wk w η))⟩
      · exact ⟨_, _, _, (mid_2_6_4 S dr l e f p od fa wr wk w η (.sq m6 r)).trans (sx_sq (six_2_6_4 S dr l od fa wr wk w η))⟩
    · rcases hq with rfl | rfl | rfl | rfl
      · exact ⟨_, _, _, (mid_2_7_1 S dr l e f p od fa wr wk w η (.sq m6 r)).trans (sx_sq (six_2_7_1 S dr l od fa wr wk w η))⟩
      · exact ⟨_, _, _, (mid_2_7_2 S dr l e f p od fa wr wk w η (.sq m6 r)).trans (sx_sq (six_2_7_2 S dr l od fa wr wk w η))⟩
      · exact ⟨_, _, _, (mid_2_7_3 S dr l e f p od fa wr wk w η (.sq m6 r)).trans (sx_sq (six_2_7_3 S dr l od fa wr wk w η))⟩
      · exact ⟨_, _, _, (mid_2_7_4 S dr l e f p od fa wr wk w η (.sq m6 r)).trans (sx_sq (six_2_7_4 S dr l od fa wr wk w η))⟩
    · rcases hq with rfl | rfl | rfl | rfl
      · exact ⟨_, _, _, (mid_2_8_1 S dr l e f p od fa wr wk w η (.sq m6 r)).trans (sx_sq (six_2_8_1 S dr l od fa wr wk w η))⟩
      · exact ⟨_, _, _, (mid_2_8_2 S dr l e f p od fa wr wk w η (.sq m6 r)).trans (sx_sq (six_2_8_2 S dr l od fa wr wk w η))⟩
      · exact ⟨_, _, _, (mid_2_8_3 S dr l e f p od fa wr wk w η (.sq m6 r)).trans (sx_sq (six_2_8_3 S dr l od fa wr wk w η))⟩
      · exact ⟨_, _, _, (mid_2_8_4 S dr l e f p od fa wr wk w η (.sq m6 r)).trans (sx_sq (six_2_8_4 S dr l od fa wr wk w η))⟩
    · rcases hq with rfl | rfl | rfl | rfl
      · exact ⟨_, _, _, (mid_2_9_1 S dr l e f p od fa wr wk w η (.sq m6 r)).trans (sx_sq (six_2_9_1 S dr l od fa wr wk w η))⟩
      · exact ⟨_, _, _, (mid_2_9_2 S dr l e f p od fa wr wk w η (.sq m6 r)).trans (sx_sq (six_2_9_2 S dr l od fa wr wk w η))⟩
      · exact ⟨_, _, _, (mid_2_9_3 S dr l e f p od fa wr wk w η (.sq m6 r)).trans (sx_sq (six_2_9_3 S dr l od fa wr wk w η))⟩
      · exact ⟨_, _, _, (mid_2_9_4 S dr l e f p od fa wr wk w η (.sq m6 r)).trans (sx_sq (six_2_9_4 S dr l od fa wr wk w η))⟩
  · rcases hv with rfl | rfl | rfl | rfl | rfl | rfl | rfl | rfl | rfl
    · rcases hq with rfl | rfl | rfl | rfl
      · exact ⟨_, _, _, (mid_3_1_1 S dr l e f p od fa wr wk w η (.sq m6 r)).trans (sx_sq (six_3_1_1 S dr l od fa wr wk w η))⟩
      · exact ⟨_, _, _, (mid_3_1_2 S dr l e f p od fa wr wk w η (.sq m6 r)).trans (sx_sq (six_3_1_2 S dr l od fa wr wk w η))⟩
      · exact ⟨_, _, _, (mid_3_1_3 S dr l e f p od fa wr wk w η (.sq m6 r)).trans (sx_sq (six_3_1_3 S dr l od fa wr wk w η))⟩
      · exact ⟨_, _, _, (mid_3_1_4 S dr l e f p od fa wr wk w η (.sq m6 r)).trans (sx_sq (six_3_1_4 S dr l od fa wr wk w η))⟩
    · rcases hq with rfl | rfl | rfl | rfl
      · exact ⟨_, _, _, (mid_3_2_1 S dr l e f p od fa wr wk w η (.sq m6 r)).trans (sx_sq (six_3_2_1 S dr l od fa wr wk w η))⟩
      · exact ⟨_, _, _, (mid_3_2_2 S dr l e f p od fa wr wk w η (.sq m6 r)).trans (sx_sq (six_3_2_2 S dr l od fa wr wk w η))⟩
      · exact ⟨_, _, _, (mid_3_2_3 S dr l e f p od fa wr wk w η (.sq m6 r)).trans (sx_sq (six_3_2_3 S dr l od fa wr wk w η))⟩
      · exact ⟨_, _, _, (mid_3_2_4 S dr l e f p od fa wr wk w η (.sq m6 r)).trans (sx_sq (six_3_2_4 S dr l od fa wr wk w η))⟩
    · rcases hq with rfl | rfl | rfl | rfl
      · exact ⟨_, _, _, (mid_3_3_1 S dr l e f p od fa wr wk w η (.sq m6 r)).trans (sx_sq (six_3_3_1 S dr l od fa wr wk w η))⟩
      · exact ⟨_, _, _, (mid_3_3_2 S dr l e f p od fa wr wk w η (.sq m6 r)).trans (sx_sq (six_3_3_2 S dr l od fa wr wk w η))⟩
      · exact ⟨_, _, _, (mid_3_3_3 S dr l e f p od fa wr wk w η (.sq m6 r)).trans (sx_sq (six_3_3_3 S dr l od fa wr wk w η))⟩
      · exact ⟨_, _, _, (mid_3_3_4 S dr l e f p od fa wr wk w η (.sq m6 r)).trans (sx_sq (six_3_3_4 S dr l od fa wr wk w η))⟩
    · rcases hq with rfl | rfl | rfl | rfl
      · exact ⟨_, _, _, (mid_3_4_1 S dr l e f p od fa wr wk w η (.sq m6 r)).trans (sx_sq (six_3_4_1 S dr l od fa wr wk w η))⟩
      · exact ⟨_, _, _, (mid_3_4_2 S dr l e f p od fa wr wk w η (.sq m6 r)).trans (sx_sq (six_3_4_2 S dr l od fa wr wk w η))⟩
      · exact ⟨_, _, _, (mid_3_4_3 S dr l e f p od fa wr wk w η (.sq m6 r)).trans (sx_sq (six_3_4_3 S dr l od fa wr wk w η))⟩
      · exact ⟨_, _, _, (mid_3_4_4 S dr l e f p od fa wr wk w η (.sq m6 r)).trans (sx_sq (six_3_4_4 S dr l od fa wr wk w η))⟩
    · rcases hq with rfl | rfl | rfl | rfl
      · exact ⟨_, _, _, (mid_3_5_1 S dr l e f p od fa wr wk w η (.sq m6 r)).trans (sx_sq (six_3_5_1 S dr l od fa wr wk w η))⟩
      · exact ⟨_, _, _, (mid_3_5_2 S dr l e f p od fa wr wk w η (.sq m6 r)).trans (sx_sq (six_3_5_2 S dr l od fa wr wk w η))⟩
      · exact ⟨_, _, _, (mid_3_5_3 S dr l e f p od fa wr wk w η (.sq m6 r)).trans (sx_sq (six_3_5_3 S dr l od fa wr wk w η))⟩
      · exact ⟨_, _, _, (mid_3_5_4 S dr l e f p od fa wr wk w η (.sq m6 r)).trans (sx_sq (six_3_5_4 S dr l od fa wr wk w η))⟩
    · rcases hq with rfl | rfl | rfl | rfl
      · exact ⟨_, _, _, (mid_3_6_1 S dr l e f p od fa wr wk w η (.sq m6 r)).trans (sx_sq (six_3_6_1 S dr l od fa wr wk w η))⟩
      · exact ⟨_, _, _, (mid_3_6_2 S dr l e f p od fa wr wk w η (.sq m6 r)).trans (sx_sq (six_3_6_2 S dr l od fa wr wk w η))⟩
      · exact ⟨_, _, _, (mid_3_6_3 S dr l e f p od fa wr wk w η (.sq m6 r)).trans (sx_sq (six_3_6_3 S dr l od fa wr wk w η))⟩
      · exact ⟨_, _, _, (mid_3_6_4 S dr l e f p od fa wr wk w η (.sq m6 r)).trans (sx_sq (six_3_6_4 S dr l od fa wr wk w η))⟩
    · rcases hq with rfl | rfl | rfl | rfl
      · exact ⟨_, _, _, (mid_3_7_1 S dr l e f p od fa wr wk w η (.sq m6 r)).trans (sx_sq (six_3_7_1 S dr l od fa wr wk w η))⟩
      · exact ⟨_, _, _, (mid_3_7_2 S dr l e f p od fa wr wk w η (.sq m6 r)).trans (sx_sq (six_3_7_2 S dr l od fa wr wk w η))⟩
      · exact ⟨_, _, _, (mid_3_7_3 S dr l e f p od fa wr wk w η (.sq m6 r)).trans (sx_sq (six_3_7_3 S dr l od fa wr wk w η))⟩
      · exact ⟨_, _, _, (mid_3_7_4 S dr l e f p od fa wr wk w η (.sq m6 r)).trans (sx_sq (six_3_7_4 S dr l od fa wr wk w η))⟩
    · rcases hq with rfl | rfl | rfl | rfl
      · exact ⟨_, _, _, (mid_3_8_1 S dr l e f p od fa wr wk w η (.sq m6 r)).trans (sx_sq (six_3_8_1 S dr l od fa wr wk w η))⟩
      · exact ⟨_, _, _, (mid_3_8_2 S dr l e f p od fa wr wk w η (.sq m6 r)).trans (sx_sq (six_3_8_2 S dr l od fa wr wk w η))⟩
      · exact ⟨_, _, _, (mid_3_8_3 S dr l e f p od fa wr wk w η (.sq m6 r)).trans (sx_sq (six_3_8_3 S dr l od fa wr wk w η))⟩
      · exact ⟨_, _, _, (mid_3_8_4 S dr l e f p od fa wr wk w η (.sq m6 r)).trans (sx_sq (six_3_8_4 S dr l od fa wr wk w η))⟩
    · rcases hq with rfl | rfl | rfl | rfl
      · exact ⟨_, _, _, (mid_3_9_1 S dr l e f p od fa wr wk w η (.sq m6 r)).trans (sx_sq (six_3_9_1 S dr l od fa wr wk w η))⟩
      · exact ⟨_, _, _, (mid_3_9_2 S dr l e f p od fa wr wk w η (.sq m6 r)).trans (sx_sq (six_3_9_2 S dr l od fa wr wk w η))⟩
      · exact ⟨_, _, _, (mid_3_9_3 S dr l e f p od fa wr wk w η (.sq m6 r)).trans (sx_sq (six_3_9_3 S dr l od fa wr wk w η))⟩
      · exact ⟨_, _, _, (mid_3_9_4 S dr l e f p od fa wr wk w η (.sq m6 r)).trans (sx_sq (six_3_9_4 S dr l od fa wr wk w η))⟩
  · rcases hv with rfl | rfl | rfl | rfl | rfl | rfl | rfl | rfl | rfl
    · rcases hq with rfl | rfl | rfl | rfl
      · exact ⟨_, _, _, (mid_4_1_1 S dr l e f p od fa wr wk w η (.sq m6 r)).trans (sx_sq (six_4_1_1 S dr l od fa wr wk w η))⟩
      · exact ⟨_, _, _, (mid_4_1_2 S dr l e f p od fa wr wk w η (.sq m6 r)).trans (sx_sq (six_4_1_2 S dr l od fa wr wk w η))⟩
      · exact ⟨_, _, _, (mid_4_1_3 S dr l e f p od fa wr wk w η (.sq m6 r)).trans (sx_sq (six_4_1_3 S dr l od fa wr wk w η))⟩
      · exact ⟨_, _, _, (mid_4_1_4 S dr l e f p od fa wr wk w η (.sq m6 r)).trans (sx_sq (six_4_1_4 S dr l od fa wr wk w η))⟩
    · rcases hq with rfl | rfl | rfl | rfl
      · exact ⟨_, _, _, (mid_4_2_1 S dr l e f p od fa wr wk w η (.sq m6 r)).trans (sx_sq (six_4_2_1 S dr l od fa wr wk w η))⟩
      · exact ⟨_, _, _, (mid_4_2_2 S dr l e f p od fa wr wk w η (.sq m6 r)).trans (sx_sq (six_4_2_2 S dr l od fa wr wk w η))⟩
      · exact ⟨_, _, _, (mid_4_2_3 S dr l e f p od fa wr wk w η (.sq m6 r)).trans (sx_sq (six_4_2_3 S dr l od fa wr wk w η))⟩
      · exact ⟨_, _, _, (mid_4_2_4 S dr l e f p od fa wr wk w η (.sq m6 r)).trans (sx_sq (six_4_2_4 S dr l od fa wr wk w η))⟩
    · rcases hq with rfl | rfl | rfl | rfl
      · exact ⟨_, _, _, (mid_4_3_1 S dr l e f p od fa wr wk w η (.sq m6 r)).trans (sx_sq (six_4_3_1 S dr l od fa wr wk w η))⟩
      · exact ⟨_, _, _, (mid_4_3_2 S dr l e f p od fa wr wk w η (.sq m6 r)).trans (sx_sq (six_4_3_2 S dr l od fa wr wk w η))⟩
      · exact ⟨_, _, _, (mid_4_3_3 S dr l e f p od fa wr wk w η (.sq m6 r)).trans (sx_sq (six_4_3_3 S dr l od fa wr wk w η))⟩
      · exact ⟨_, _, _, (mid_4_3_4 S dr l e f p od fa wr wk w η (.sq m6 r)).trans (sx_sq (six_4_3_4 S dr l od fa wr wk w η))⟩
    · rcases hq with rfl | rfl | rfl | rfl
      · exact ⟨_, _, _, (mid_4_4_1 S dr l e f p od fa wr wk w η (.sq m6 r)).trans (sx_sq (six_4_4_1 S dr l od fa wr wk w η))⟩
      · exact ⟨_, _, _, (mid_4_4_2 S dr l e f p od fa wr wk w η (.sq m6 r)).trans (sx_sq (six_4_4_2 S dr l od fa wr wk w η))⟩
      · exact ⟨_, _, _, (mid_4_4_3 S dr l e f p od fa wr wk w η (.sq m6 r)).trans (sx_sq (six_4_4_3 S dr l od fa wr wk w η))⟩
      · exact ⟨_, _, _, (mid_4_4_4 S dr l e f p od fa wr wk w η (.sq m6 r)).trans (sx_sq (six_4_4_4 S dr l od fa wr wk w η))⟩
    · rcases hq with rfl | rfl | rfl | rfl
      · exact ⟨_, _, _, (mid_4_5_1 S dr l e f p od fa wr wk w η (.sq m6 r)).trans (sx_sq (six_4_5_1 S dr l od fa wr wk w η))⟩
      · exact ⟨_, _, _, (mid_4_5_2 S dr l e f p od fa wr wk w η (.sq m6 r)).trans (sx_sq (six_4_5_2 S dr l od fa wr wk w η))⟩
      · exact ⟨_, _, _, (mid_4_5_3 S dr l e f p od fa wr wk w η (.sq m6 r)).trans (sx_sq (six_4_5_3 S dr l od fa wr wk w η))⟩
      · exact ⟨_, _, _, (mid_4_5_4 S dr l e f p od fa wr wk w η (.sq m6 r)).trans (sx_sq (six_4_5_4 S dr l od fa wr wk w η))⟩
    · rcases hq with rfl | rfl | rfl | rfl
      · exact ⟨_, _, _, (mid_4_6_1 S dr l e f p od fa wr wk w η (.sq m6 r)).trans (sx_sq (six_4_6_1 S dr l od fa wr wk w η))⟩
      · exact ⟨_, _, _, (mid_4_6_2 S dr l e f p od fa wr wk w η (.sq m6 r)).trans (sx_sq (six_4_6_2 S dr l od fa wr wk w η))⟩
      · exact ⟨_, _, _, (mid_4_6_3 S dr l e f p od fa wr wk w η (.sq m6 r)).trans (sx_sq (six_4_6_3 S dr l od fa wr wk w η))⟩
      · exact ⟨_, _, _, (mid_4_6_4 S dr l e f p od fa wr wk w η (.sq m6 r)).trans (sx_sq (six_4_6_4 S dr l od fa wr wk w η))⟩
    · rcases hq with rfl | rfl | rfl | rfl
      · exact ⟨_, _, _, (mid_4_7_1 S dr l e f p od fa wr wk w η (.sq m6 r)).trans (sx_sq (six_4_7_1 S dr l od fa wr wk w η))⟩
      · exact ⟨_, _, _, (mid_4_7_2 S dr l e f p od fa wr wk w η (.sq m6 r)).trans (sx_sq (six_4_7_2 S dr l od fa wr wk w η))⟩
      · exact ⟨_, _, _, (mid_4_7_3 S dr l e f p od fa wr wk w η (.sq m6 r)).trans (sx_sq (six_4_7_3 S dr l od fa wr wk w η))⟩
      · exact ⟨_, _, _, (mid_4_7_4 S dr l e f p od fa wr wk w η (.sq m6 r)).trans (sx_sq (six_4_7_4 S dr l od fa wr wk w η))⟩
    · rcases hq with rfl | rfl | rfl | rfl
      · exact ⟨_, _, _, (mid_4_8_1 S dr l e f p od fa wr wk w η (.sq m6 r)).trans (sx_sq (six_4_8_1 S dr l od fa wr wk w η))⟩
      · exact ⟨_, _, _, (mid_4_8_2 S dr l e f p od fa wr wk w η (.sq m6 r)).trans (sx_sq (six_4_8_2 S dr l od fa wr wk w η))⟩
      · exact ⟨_, _, _, (mid_4_8_3 S dr l e f p od fa wr wk w η (.sq m6 r)).trans (sx_sq (six_4_8_3 S dr l od fa wr wk w η))⟩
      · exact ⟨_, _, _, (mid_4_8_4 S dr l e f p od fa wr wk w η (.sq m6 r)).trans (sx_sq (six_4_8_4 S dr l od fa wr wk w η))⟩
    · rcases hq with rfl | rfl | rfl | rfl
      · exact ⟨_, _, _, (mid_4_9_1 S dr l e f p od fa wr wk w η (.sq m6 r)).trans (sx_sq (six_4_9_1 S dr l od fa wr wk w η))⟩
      · exact ⟨_, _, _, (mid_4_9_2 S dr l e f p od fa wr wk w η (.sq m6 r)).trans (sx_sq (six_4_9_2 S dr l od fa wr wk w η))⟩
      · exact ⟨_, _, _, (mid_4_9_3 S dr l e f p od fa wr wk w η (.sq m6 r)).trans (sx_sq (six_4_9_3 S dr l od fa wr wk w η))⟩
      · exact ⟨_, _, _, (mid_4_9_4 S dr l e f p od fa wr wk w η (.sq m6 r)).trans (sx_sq (six_4_9_4 S dr l od fa wr wk w η))⟩
def od4 : List D := [.non, .int 0, .int 5, .bl true]
def fa4 : List D := [.non, .int 0, .int 10, .tup [.int 1, .int 2]]
def wr4 : List D := [.non, .int 0, .int 5, .str [49]]
theorem wk1 (m v q : Option W) {a b d : D} (ha : a ∈ od4) (hb : b ∈ fa4) (hd : d ∈ wr4) : sx (cN 6) m8 (st S dr l m v q e f p (some (.d a)) (some (.d b)) (some (.d d)) wk w) η = sx (cN 6) r8 (st S dr l m v q e f p (some (.d a)) (some (.d b)) (some (.d d)) none w) η := by
  simp only [od4, fa4, wr4, List.mem_cons, List.not_mem_nil, or_false] at ha hb hd
  rcases ha with rfl | rfl | rfl | rfl <;> rcases hb with rfl | rfl | rfl | rfl <;> rcases hd with rfl | rfl | rfl | rfl <;> kernel_rfl
theorem wk2 (v q : Option W) {m : Int} {b d : D} (hm : 1 ≤ m ∧ m ≤ 4) (hb : b ∈ fa4) (hd : d ∈ wr4) : sx (cN 6) r8 (st S dr l (i m) v q e f p od (some (.d b)) (some (.d d)) wk w) η = sx (cN 6) r9 (st S dr l (i m) v q e f p od (some (.d b)) (some (.d d)) none w) η := by
  have hm : m = 1 ∨ m = 2 ∨ m = 3 ∨ m = 4 := by omega
  simp only [fa4, wr4, List.mem_cons, List.not_mem_nil, or_false] at hb hd
  rcases hm with rfl | rfl | rfl | rfl <;> rcases hb with rfl | rfl | rfl | rfl <;> rcases hd with rfl | rfl | rfl | rfl <;> kernel_rfl
theorem wk3 (q : Option W) {m v : Int} {d : D} (hm : 1 ≤ m ∧ m ≤ 4) (hv : 1 ≤ v ∧ v ≤ 9) (hd : d ∈ wr4) : sx (cN 6) r9 (st S dr l (i m) (i v) q e f p od fa (some (.d d)) wk w) η = .nx (st S dr l (i m) (i v) q e f p od fa (some (.d d)) none w) η := by
  have hm : m = 1 ∨ m = 2 ∨ m = 3 ∨ m = 4 := by omega
  have hv : v = 1 ∨ v = 2 ∨ v = 3 ∨ v = 4 ∨ v = 5 ∨ v = 6 ∨ v = 7 ∨ v = 8 ∨ v = 9 := by omega
  simp only [wr4, List.mem_cons, List.not_mem_nil, or_false] at hd
  rcases hm with rfl | rfl | rfl | rfl <;> rcases hv with rfl | rfl | rfl | rfl | rfl | rfl | rfl | rfl | rfl <;> rcases hd with rfl | rfl | rfl | rfl <;> kernel_rfl
end
/-! ### the draws -/
theorem dc : DrawC (cN 6) 10 9 11 := ⟨⟨cN 5, by decide, ⟨cN 4, fun _ _ => rfl⟩, fun _ _ => rfl⟩, ⟨cN 5, cN 4, by decide, ⟨cN 3, fun _ _ => rfl⟩, fun _ _ => rfl, fun _ _ => rfl⟩⟩
section
variable {cs : List Int} {S l m v q e f p od fa wr wk w : Option W} {η : Hv}
theorem m1_run (D : Dr cs 2 0 1 η) : ∃ m' v' q' η', sx (cN 6) m1 (st S (some (.ref 2)) l m v q e f p od fa wr wk w) η = .nx (st S (some (.ref 2)) l (i m') (i v') (i q') e f p od fa wr wk w) η' ∧ (1 ≤ m' ∧ m' ≤ 4) ∧ (1 ≤ v' ∧ v' ≤ 9) ∧ (1 ≤ q' ∧ q' ≤ 4) ∧ Dr cs 2 0 1 η' := by
  obtain ⟨a, η1, e1, ha, D1⟩ := take1_ev dc D (ν := st S (some (.ref 2)) l m v q e f p od fa wr wk w) (id := 1) (size := 4) (k := 1) rfl (by decide) (by decide)
  obtain ⟨b, η2, e2, hb, D2⟩ := take1_ev dc D1 (ν := st S (some (.ref 2)) l m v q e f p od fa wr wk w) (id := 1) (size := 9) (k := 1) rfl (by decide) (by decide)
  obtain ⟨d, η3, e3, hd, D3⟩ := take1_ev dc D2 (ν := st S (some (.ref 2)) l m v q e f p od fa wr wk w) (id := 1) (size := 4) (k := 1) rfl (by decide) (by decide)
  exact ⟨1 + a, 1 + b, 1 + d, η3, sxPar (evl_cons e1 (evl_cons e2 (evl_cons e3 rfl))) rfl, by omega, by omega, by omega, D3⟩
theorem m7_run (D : Dr cs 2 0 1 η) : ∃ a b d η', sx (cN 6) m7 (st S (some (.ref 2)) l m v q e f p od fa wr wk w) η = .nx (st S (some (.ref 2)) l m v q e f p (some (.d a)) (some (.d b)) (some (.d d)) wk w) η' ∧ a ∈ od4 ∧ b ∈ fa4 ∧ d ∈ wr4 ∧ Dr cs 2 0 1 η' := by
  obtain ⟨a, η1, e1, ha, D1⟩ := pick_ev dc D (ν := st S (some (.ref 2)) l m v q e f p od fa wr wk w) (id := 1) (xs := od4) (e := .pr .lst (.cons (.cst .non) (.cons (.cst (.int 0)) (.cons (.cst (.int 5)) (.cons (.cst (.bl true)) .nil))))) rfl rfl (by intro z; cases z) (by decide)
  obtain ⟨b, η2, e2, hb, D2⟩ := pick_ev dc D1 (ν := st S (some (.ref 2)) l m v q e f p od fa wr wk w) (id := 1) (xs := fa4) (e := (.pr .lst (.cons (.cst .non) (.cons (.cst (.int 0)) (.cons (.cst (.int 10)) (.cons (.pr .tup (.cons (.cst (.int 1)) (.cons (.cst (.int 2)) .nil))) .nil)))))) rfl rfl (by intro z; cases z) (by decide)
  obtain ⟨d, η3, e3, hd, D3⟩ := pick_ev dc D2 (ν := st S (some (.ref 2)) l m v q e f p od fa wr wk w) (id := 1) (xs := wr4) (e := (.pr .lst (.cons (.cst .non) (.cons (.cst (.int 0)) (.cons (.cst (.int 5)) (.cons (.cst (.str [49])) .nil)))))) rfl rfl (by intro z; cases z) (by decide)
  exact ⟨a, b, d, η3, sxPar (evl_cons e1 (evl_cons e2 (evl_cons e3 rfl))) rfl, ha, hb, hd, D3⟩
/-- a lap -/
theorem lap_run (D : Dr cs 2 0 1 η) : ∃ m' v' q' e' f' p' od' fa' wr' wk' η', sx (cN 6) bL (st S (some (.ref 2)) l m v q e f p od fa wr wk w) η = .nx (st S (some (.ref 2)) l m' v' q' e' f' p' od' fa' wr' wk' w) η' ∧ Dr cs 2 0 1 η' := by
  obtain ⟨m', v', q', η1, e1, hm, hv, hq, D1⟩ := m1_run (S := S) (l := l) (m := m) (v := v) (q := q) (e := e) (f := f) (p := p) (od := od) (fa := fa) (wr := wr) (wk := wk) (w := w) D
  obtain ⟨e2, f2, p2, h2⟩ := mid_run S (some (.ref 2)) l e f p od fa wr wk w η1 (.sq m7 m8) hm hv hq
  obtain ⟨a, b, d, η3, e3, ha, hb, hd, D3⟩ := m7_run (S := S) (l := l) (m := i m') (v := i v') (q := i q') (e := e2) (f := f2) (p := p2) (od := od) (fa := fa) (wr := wr) (wk := wk) (w := w) D1
  refine ⟨i m', i v', i q', e2, f2, p2, some (.d a), some (.d b), some (.d d), none, η3, ?_, D3⟩
  show sx (cN 6) (.sq m1 (mid (.sq m6 (.sq m7 m8)))) _ _ = _
  rw [sx_sq e1, h2, sx_sq e3, wk1 _ _ _ _ _ _ _ _ _ _ _ _ ha hb hd, wk2 _ _ _ _ _ _ _ _ _ _ _ _ hm hb hd, wk3 _ _ _ _ _ _ _ _ _ _ _ _ hm hv hd]
theorem law_run (ns : List Int) (hl : ns.length ≤ 63) (_ : ∀ z ∈ ns, Builtin.Int.intBits z ≤ 1048576) : ∃ η', runF (cN 6) d_19 [.d (.lst (ns.map D.int))] [] = .ok (.d (.bl true)) η' := by
  obtain ⟨η1, e1, D1, l1⟩ := begun_run (c := cN 5) hl
  have D1 : Dr (ns.map absI) 2 0 1 η1 := ⟨_, _, _, D1, l1⟩
  generalize hS : (some (W.d (.lst (ns.map D.int))) : Option W) = S
  have s1 : sx (cN 6) (hdS sm_19) (st S none none none none none none none none none none none none none) [] = .nx (st S (some (.ref 2)) none none none none none none none none none none none none) η1 := by
    subst hS
    exact sxAsg (evCall (evl_cons (a := .d (.lst (ns.map D.int))) (η1 := []) rfl rfl) e1)
  have hN : evl (cN 6) (.cons (.pr (.bin .add) (.cons (.cst (.int 6)) (.cons (.pr (.fn .min) (.cons (.pr (.fn .len) (.cons (.var 0) .nil)) (.cons (.cst (.int 6)) .nil))) .nil))) .nil) (st S (some (.ref 2)) none none none none none none none none none none none none) η1 = .ok [.d (.int (6 + min (ns.length : Int) 6))] η1 := by
    subst hS
    have q1 : ev (cN 6) (.pr (.fn .len) (.cons (.var 0) .nil)) (st (some (W.d (.lst (ns.map D.int)))) (some (.ref 2)) none none none none none none none none none none none none) η1 = .ok (.d (.int (ns.length : Int))) η1 := evPr (ds := [.lst (ns.map D.int)]) (evl_cons (a := .d (.lst (ns.map D.int))) (η1 := η1) rfl rfl) rfl (by simp [dprim, dfn, dlen])
    have q2 : ev (cN 6) (.pr (.fn .min) (.cons (.pr (.fn .len) (.cons (.var 0) .nil)) (.cons (.cst (.int 6)) .nil))) (st (some (W.d (.lst (ns.map D.int)))) (some (.ref 2)) none none none none none none none none none none none none) η1 = .ok (.d (.int (min (ns.length : Int) 6))) η1 := evPr (ds := [.int (ns.length : Int), .int 6]) (evl_cons q1 (evl_cons (a := .d (.int 6)) (η1 := η1) rfl rfl)) rfl (by
      simp only [dprim, dfn, Option.some.injEq, D.int.injEq]
      split <;> omega)
    exact evl_cons (evPr (ds := [.int 6, .int (min (ns.length : Int) 6)]) (evl_cons (a := .d (.int 6)) (η1 := η1) rfl (evl_cons q2 rfl)) rfl rfl) rfl
  obtain ⟨ν2, η2, s2, P2⟩ := for_rng (c := cN 6) (b := bL) (iv := 2) (P := fun ν η => Dr (ns.map absI) 2 0 1 η ∧ ∃ l m v q e f p od fa wr wk w, ν = st S (some (.ref 2)) l m v q e f p od fa wr wk w) hN (by simp only [small62, Bool.and_eq_true, decide_eq_true_eq]; omega) ⟨D1, _, _, _, _, _, _, _, _, _, _, _, _, rfl⟩ (fun k _ _ ν η ⟨Dk, l, m, v, q, e, f, p, od, fa, wr, wk, w, hν⟩ => by
    subst hν
    obtain ⟨m', v', q', e', f', p', od', fa', wr', wk', η', h, D'⟩ := lap_run (S := S) (l := i k) (m := m) (v := v) (q := q) (e := e) (f := f) (p := p) (od := od) (fa := fa) (wr := wr) (wk := wk) (w := w) Dk
    exact ⟨_, η', h, D', _, _, _, _, _, _, _, _, _, _, _, _, rfl⟩)
  refine ⟨η2, runF_ret ?_⟩
  show sx (cN 6) sm_19 (st (some (W.d (.lst (ns.map D.int)))) none none none none none none none none none none none none none) [] = _
  rw [hS]
  show sx (cN 6) (.sq (hdS sm_19) (.sq (.forr .range (.var 2) _ bL) (tlS (tlS sm_19)))) _ _ = _
  rw [sx_sq s1, sx_sq s2]
  rfl
end
end Law

set_option Elab.async false
set_option linter.all false
set_option maxRecDepth 100000
set_option maxHeartbeats 0
namespace Law
open PySem PySem.W PySem.Calls PyProof.Rows
theorem noX0 (w : World) (H : L2.Hp) (s : Shared) (e : Value) (s' : Shared) (h : L2.CX prog w [] H s (fun _ _ _ => False) e s') : False := by
  obtain ⟨a, B, H', cls, d, _, _, _, _, _, _, _, z⟩ := h
  exact z
end Law
open PySem PySem.W PySem.Calls PyProof.Rows
theorem PySem.Challenge.cw_waitless_k75_few_values_at_once_or_never_holds : PySem.Challenge.rw_waitless_k75_few_values_at_once_or_never.Holds := by
  w_on; o_law
  refine HandSHeadRun.head_any (r := OpenLaw.row PySem.Challenge.rw_waitless_k75_few_values_at_once_or_never) (q := view (OpenLaw.row PySem.Challenge.rw_waitless_k75_few_values_at_once_or_never).prog [31]) (H := Law.hk) (ob := Law.ob) (M := 8000) (loose := Law.loose) (d := HandSHeadRun.topDef (OpenLaw.row PySem.Challenge.rw_waitless_k75_few_values_at_once_or_never).prog 31) (kwd := []) Law.ob_eq
    (by kernel_rfl) (fun s => by kernel_rfl) Law.run (by kernel_rfl) (by kernel_rfl) (by kernel_rfl) (by rfl) (by first | assumption | decide +kernel) (by decide +kernel) ⟨rfl, rfl, rfl, rfl, rfl, by decide +kernel⟩ ?hw ?hc
  case hw => w_witness2
  case hc =>
    refine Ip.walk_G (l := PySem.Challenge.rw_waitless_k75_few_values_at_once_or_never) (n := 63) (k := 7 * (6 + 1)) (x := "script") (CX := fun w => L2.CX Law.prog w) rfl (by decide) (by kernel_rfl) ⟨rfl, by decide, by decide⟩ ?F Law.noX0
    intro w mg fa h Y G hmg0
    have hmg : mg Law.d_19.x = some (.ref fa) := by
      have e : (HandSHeadRun.topDef (OpenLaw.row PySem.Challenge.rw_waitless_k75_few_values_at_once_or_never).prog 31).name = Law.d_19.x := by kernel_rfl
      rw [← e]
      exact hmg0
    exact Ip.law_F (l := PySem.Challenge.rw_waitless_k75_few_values_at_once_or_never) (iL := 19) (x := "script") rfl rfl Law.chk (ll := Law.ll) (by rfl) (ex := Law.exB) (fun K h => Bool.and_eq_true_iff.mp h) Law.law_run w mg fa h Y G hmg


